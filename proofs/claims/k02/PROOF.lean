import PyProof.Rows.All
import Wide.All
import OpenK.AllK
import Wide.FinOn
import KE.KStateDown
import Lean
import HandS.ForMost
import HandS.ForExc
import HandS.TupAny
import HandS.Zip
import HandS.SetKeys
import HandS.Strs
import HandS.Conv
import HandS.Flow
import HandS.Style
import HandS.Deep
import HandS.More
import HandS.IsInst
import HandS.Defaults
import HandS.SortOrd
import HandS.CallSlots
import HandS.DictComp
import HandS.TupMul
import HandS.HeadHook1
import HandS.TupLe
import HandS.Text
import HandS.SortInts
import KE.GoesEnum
import HandS.NoneIn
import HandS.Small
import PyProof.Rows.SetFrom
import PyProof.ListNew
import HandS.HeadEnd
import HandS.Ends
import HandS.Words
import HandS.WordsExc
import HandS.Head0
import HandS.Head1
import HandS.Head2
import HandS.HeadHook2
import HandS.MakeKwOnly
import PySem.Challenge.RW_letinrow_k02_who_are_friends
set_option Elab.async false
set_option linter.all false
set_option maxRecDepth 100000
set_option maxHeartbeats 4000000
namespace Pv
open PySem PySem.Spec PyProof.Rows L2
/-! ### plain data -/
inductive D where
  | non
  | bl (b : Bool)
  | int (i : Int)
  | str (x : Str)
  | tup (l : List D)
  | lst (l : List D)
  | dct (l : List (Key × D))
  /-- a dict that is locked: it can be walked -/
  | dctL (l : List (Key × D))
  /-- an object of a class of the program, its fields -/
  | obj (c : Str) (l : List (Option D))
  /-- the script: read alone -/
  | scr (ns : List Int)
/-- a tuple, known to the object (without a dict of its own), or written -/
def TupAt (K : PySem.W.Frag) (H : Hp) (a : Addr) (vs : List V) : Prop :=
  (∃ o, H a = some (.frz o (.tup vs)) ∧ o.dict = none) ∨
    ∃ (o : Obj) (its : Array Value) (n : Nat), K.lookup a = some o ∧ o.cls = .type "tuple" ∧ o.dict = none ∧ o.data = .seq its n ∧ its.size ≤ sizeLine ∧ Vals vs its.toList
theorem TupAt.sq {K : PySem.W.Frag} {H : Hp} {a : Addr} {vs : List V} (h : TupAt K H a vs) : SqT K H a vs := by
  rcases h with ⟨o, h, _⟩ | ⟨o, its, n, h1, h2, _, h3⟩
  · exact .inl (.inr ⟨o, h⟩)
  · exact .inr ⟨o, its, n, h1, h2, h3⟩
/-- a field: plain, a list of plain things, a dict of plain things -/
inductive FS where
  | pure
  | lst
  | dct
  deriving DecidableEq
/-- the classes' fields -/
def clsF (c : Str) : List (Str × FS) :=
  if c = ("Ahead" : Str) then [("own_row", .pure), ("own_barred", .dct)]
  else if c = ("Counter" : Str) then [("own_known", .pure), ("own_row", .pure), ("own_served", .lst), ("own_met", .dct)]
  else if c = ("Unwinding" : Str) then [("own_known", .pure), ("own_line", .pure), ("own_elders", .pure), ("still_in", .dct), ("own_many", .pure), ("own_deeds", .lst)]
  else if c = ("DayRow" : Str) then [("own_row", .lst), ("own_met", .dct)]
  else if c = ("Ways" : Str) then [("names", .pure), ("musts", .lst), ("known", .dct)]
  else []
theorem clsF_len (c : Str) : (clsF c).length ≤ 6 := by
  unfold clsF
  split
  · decide
  · split
    · decide
    · split
      · decide
      · split
        · decide
        · split <;> decide
/-- an object's fields are the class's -/
structure FldOk (c : Str) (fs : List (Str × V)) : Prop where
  nd : (fs.map (·.1)).Nodup
  cl : ∀ f ∈ fs.map (·.1), f ∈ (clsF c).map (·.1)
/-- a key that a text can be -/
def KeyOk : Key → Prop
  | .inl _ => True
  | .inr x => x.length ≤ sizeLine ∧ PyData.strOk x = true
/-- unlike keys, each fine -/
def KN (ks : List Key) : Prop := ks.Nodup ∧ ∀ k ∈ ks, KeyOk k
theorem KN.nil : KN [] := ⟨List.nodup_nil, by simp⟩
/-- what a value stands for, in a heap -/
inductive Rep (K : PySem.W.Frag) (H : Hp) : V → D → Prop
  | non : Rep K H .non .non
  | bl (b : Bool) : Rep K H (.bl b) (.bl b)
  | int (i : Int) : Rep K H (.int i) (.int i)
  | str (x : Str) : x.length ≤ sizeLine → PyData.strOk x = true → Rep K H (.str x) (.str x)
  | tup {a : Addr} {vs : List V} {ds : List D} : TupAt K H a vs → vs.length ≤ sizeLine → vs.length = ds.length →
      (∀ (i : Nat) (v : V) (d : D), vs[i]? = some v → ds[i]? = some d → Rep K H v d) → Rep K H (.ref a) (.tup ds)
  | scr {a : Addr} {ns : List Int} : SqL K H a (ns.map V.int) → ns.length ≤ sizeLine → Rep K H (.ref a) (.scr ns)
  | lst {a : Addr} {vs : List V} {ds : List D} : H a = some (.lst vs) → vs.length ≤ sizeLine → vs.length = ds.length →
      (∀ (i : Nat) (v : V) (d : D), vs[i]? = some v → ds[i]? = some d → Rep K H v d) → Rep K H (.ref a) (.lst ds)
  | dct {a : Addr} {kvs : List (Key × V)} {l : List (Key × D)} : Rd H a (.dK kvs) → kvs.length ≤ sizeLine → kvs.map (·.1) = l.map (·.1) → KN (l.map (·.1)) →
      (∀ (i : Nat) (p : Key × V) (q : Key × D), kvs[i]? = some p → l[i]? = some q → Rep K H p.2 q.2) → Rep K H (.ref a) (.dct l)
  | dctL {a : Addr} {o : Obj} {kvs : List (Key × V)} {l : List (Key × D)} : H a = some (.frz o (.dK kvs)) → kvs.length ≤ sizeLine → kvs.map (·.1) = l.map (·.1) → KN (l.map (·.1)) →
      (∀ (i : Nat) (p : Key × V) (q : Key × D), kvs[i]? = some p → l[i]? = some q → Rep K H p.2 q.2) → Rep K H (.ref a) (.dctL l)
  | obj {a dx : Addr} {c : Str} {fs : List (Str × V)} {l : List (Option D)} {g : Nat → V} : H a = some (.ins (He.ga K c) dx fs) → FldOk c fs →
      (∀ (k : Nat) (d : D), l[k]? = some (some d) → ∃ f s, (clsF c)[k]? = some (f, s) ∧ fs.lookup f = some (g k)) →
      (∀ (k : Nat) (d : D), l[k]? = some (some d) → Rep K H (g k) d) → Rep K H (.ref a) (.obj c l)
theorem paired_of {α β : Type} {R : α → β → Prop} : ∀ {xs : List α} {ys : List β}, xs.length = ys.length → (∀ (i : Nat) (x : α) (y : β), xs[i]? = some x → ys[i]? = some y → R x y) → Paired R xs ys
  | [], [], _, _ => .nil
  | [], _ :: _, h, _ => by simp at h
  | _ :: _, [], h, _ => by simp at h
  | x :: xs, y :: ys, h, f => .cons (f 0 x y rfl rfl) (paired_of (by simpa using h) fun i a b ha hb => f (i + 1) a b (by simpa using ha) (by simpa using hb))
theorem paired_len {α β : Type} {R : α → β → Prop} {xs : List α} {ys : List β} (h : Paired R xs ys) : xs.length = ys.length := by
  induction h with
  | nil => rfl
  | cons _ _ ih => simp [ih]
theorem paired_at {α β : Type} {R : α → β → Prop} {xs : List α} {ys : List β} (h : Paired R xs ys) : ∀ (i : Nat) (x : α) (y : β), xs[i]? = some x → ys[i]? = some y → R x y := by
  induction h with
  | nil => intro i x y h; simp at h
  | cons r _ ih =>
    intro i x y h1 h2
    cases i with
    | zero => simp at h1 h2; subst h1; subst h2; exact r
    | succ i => exact ih i x y (by simpa using h1) (by simpa using h2)
theorem paired_mono {α β : Type} {R S : α → β → Prop} {xs : List α} {ys : List β} (h : Paired R xs ys) (f : ∀ x y, R x y → S x y) : Paired S xs ys := by
  induction h with
  | nil => exact .nil
  | cons r _ ih => exact .cons (f _ _ r) ih
theorem paired_get {α β : Type} {R : α → β → Prop} {xs : List α} {ys : List β} (h : Paired R xs ys) {i : Nat} {x : α} (e : xs[i]? = some x) : ∃ y, ys[i]? = some y ∧ R x y := by
  have hl := paired_len h
  obtain ⟨hi, _⟩ := List.getElem?_eq_some_iff.mp e
  exact ⟨ys[i]'(by omega), List.getElem?_eq_getElem (by omega), paired_at h i _ _ e (List.getElem?_eq_getElem (by omega))⟩
theorem paired_get' {α β : Type} {R : α → β → Prop} {xs : List α} {ys : List β} (h : Paired R xs ys) {i : Nat} {y : β} (e : ys[i]? = some y) : ∃ x, xs[i]? = some x ∧ R x y := by
  have hl := paired_len h
  obtain ⟨hi, _⟩ := List.getElem?_eq_some_iff.mp e
  exact ⟨xs[i]'(by omega), List.getElem?_eq_getElem (by omega), paired_at h i _ _ (List.getElem?_eq_getElem (by omega)) e⟩
theorem paired_append {α β : Type} {R : α → β → Prop} {xs xs' : List α} {ys ys' : List β} (h : Paired R xs ys) (h' : Paired R xs' ys') : Paired R (xs ++ xs') (ys ++ ys') := by
  induction h with
  | nil => exact h'
  | cons r _ ih => exact .cons r ih
theorem paired_take {α β : Type} {R : α → β → Prop} {xs : List α} {ys : List β} (h : Paired R xs ys) : ∀ n, Paired R (xs.take n) (ys.take n) := by
  induction h with
  | nil => intro n; cases n <;> exact .nil
  | cons r _ ih =>
    intro n
    cases n with
    | zero => exact .nil
    | succ n => exact .cons r (ih n)
theorem paired_drop {α β : Type} {R : α → β → Prop} {xs : List α} {ys : List β} (h : Paired R xs ys) : ∀ n, Paired R (xs.drop n) (ys.drop n) := by
  induction h with
  | nil => intro n; cases n <;> exact .nil
  | cons r t ih =>
    intro n
    cases n with
    | zero => exact .cons r t
    | succ n => exact ih n
theorem paired_set {α β : Type} {R : α → β → Prop} {xs : List α} {ys : List β} {x : α} {y : β} (h : Paired R xs ys) (r : R x y) : ∀ n, Paired R (xs.set n x) (ys.set n y) := by
  induction h with
  | nil => intro n; exact .nil
  | cons r' t ih =>
    intro n
    cases n with
    | zero => exact .cons r t
    | succ n => exact .cons r' (ih n)
theorem paired_reverse {α β : Type} {R : α → β → Prop} {xs : List α} {ys : List β} (h : Paired R xs ys) : Paired R xs.reverse ys.reverse := by
  induction h with
  | nil => exact .nil
  | cons r _ ih => simp only [List.reverse_cons]; exact paired_append ih (.cons r .nil)
theorem paired_map {α β γ δ : Type} {R : α → β → Prop} {S : γ → δ → Prop} {f : α → γ} {g : β → δ} {xs : List α} {ys : List β} (h : Paired R xs ys) (k : ∀ x y, R x y → S (f x) (g y)) : Paired S (xs.map f) (ys.map g) := by
  induction h with
  | nil => exact .nil
  | cons r _ ih => exact .cons (k _ _ r) ih
section
variable {K : PySem.W.Frag} {H H' : Hp} {a : Addr} {v : V} {d : D} {ds : List D} {vs : List V}
theorem Rep.tupI (h : TupAt K H a vs) (hz : vs.length ≤ sizeLine) (p : Paired (Rep K H) vs ds) : Rep K H (.ref a) (.tup ds) := .tup h hz (paired_len p) (paired_at p)
theorem Rep.lstI (h : H a = some (.lst vs)) (hz : vs.length ≤ sizeLine) (p : Paired (Rep K H) vs ds) : Rep K H (.ref a) (.lst ds) := .lst h hz (paired_len p) (paired_at p)
theorem Rep.tupE (h : Rep K H v (.tup ds)) : ∃ a vs, v = .ref a ∧ TupAt K H a vs ∧ vs.length ≤ sizeLine ∧ Paired (Rep K H) vs ds := by
  cases h with
  | tup s z l f => exact ⟨_, _, rfl, s, z, paired_of l f⟩
theorem Rep.lstE (h : Rep K H v (.lst ds)) : ∃ a vs, v = .ref a ∧ H a = some (.lst vs) ∧ vs.length ≤ sizeLine ∧ Paired (Rep K H) vs ds := by
  cases h with
  | lst s z l f => exact ⟨_, _, rfl, s, z, paired_of l f⟩
theorem Rep.noneE (h : Rep K H v .non) : v = .non := by cases h; rfl
theorem Rep.blE {b : Bool} (h : Rep K H v (.bl b)) : v = .bl b := by cases h; rfl
theorem Rep.intE {i : Int} (h : Rep K H v (.int i)) : v = .int i := by cases h; rfl
theorem Rep.strE {x : Str} (h : Rep K H v (.str x)) : v = .str x ∧ x.length ≤ sizeLine ∧ PyData.strOk x = true := by cases h; exact ⟨rfl, by assumption, by assumption⟩
/-- a dict's entries -/
def RepKV (K : PySem.W.Frag) (H : Hp) (p : Key × V) (q : Key × D) : Prop := p.1 = q.1 ∧ Rep K H p.2 q.2
theorem kv_keys {kvs : List (Key × V)} {l : List (Key × D)} (p : Paired (RepKV K H) kvs l) : kvs.map (·.1) = l.map (·.1) := by
  induction p with
  | nil => rfl
  | cons r _ ih => simp only [List.map_cons, ih, r.1]
theorem Rep.dctI {kvs : List (Key × V)} {l : List (Key × D)} (h : Rd H a (.dK kvs)) (hz : kvs.length ≤ sizeLine) (nd : KN (l.map (·.1))) (p : Paired (RepKV K H) kvs l) : Rep K H (.ref a) (.dct l) :=
  .dct h hz (kv_keys p) nd fun i x y hx hy => (paired_at p i x y hx hy).2
theorem Rep.dctE {l : List (Key × D)} (h : Rep K H v (.dct l)) : ∃ a kvs, v = .ref a ∧ Rd H a (.dK kvs) ∧ kvs.length ≤ sizeLine ∧ KN (l.map (·.1)) ∧ Paired (RepKV K H) kvs l := by
  cases h with
  | dct s z e nd f =>
    refine ⟨_, _, rfl, s, z, nd, paired_of (by simpa using congrArg List.length e) fun i x y hx hy => ⟨?_, f i x y hx hy⟩⟩
    have e1 := congrArg (fun z => z[i]?) e
    simp only [List.getElem?_map, hx, hy, Option.map_some, Option.some.injEq] at e1
    exact e1
theorem Rep.dctLE {l : List (Key × D)} (h : Rep K H v (.dctL l)) : ∃ a o kvs, v = .ref a ∧ H a = some (.frz o (.dK kvs)) ∧ kvs.length ≤ sizeLine ∧ KN (l.map (·.1)) ∧ Paired (RepKV K H) kvs l := by
  cases h with
  | dctL s z e nd f =>
    refine ⟨_, _, _, rfl, s, z, nd, paired_of (by simpa using congrArg List.length e) fun i x y hx hy => ⟨?_, f i x y hx hy⟩⟩
    have e1 := congrArg (fun z => z[i]?) e
    simp only [List.getElem?_map, hx, hy, Option.map_some, Option.some.injEq] at e1
    exact e1
/-- a dict, locked or not -/
theorem Rep.unlk {l : List (Key × D)} (h : Rep K H v (.dctL l)) : Rep K H v (.dct l) := by
  cases h with
  | dctL s z e nd f => exact .dct (.inr ⟨_, s⟩) z e nd f
/-- what is read stays -/
def SubR (H H' : Hp) : Prop := (∀ a u, Rd H a u → Rd H' a u) ∧ (∀ a vs, H a = some (.lst vs) → H' a = some (.lst vs)) ∧ (∀ a o vs, H a = some (.frz o (.tup vs)) → H' a = some (.frz o (.tup vs))) ∧ (∀ a C dx fs, H a = some (.ins C dx fs) → H' a = some (.ins C dx fs)) ∧ ∀ a o kvs, H a = some (.frz o (.dK kvs)) → H' a = some (.frz o (.dK kvs))
theorem SubR.of (h : ∀ a o, H a = some o → H' a = some o) : SubR H H' := ⟨fun a u r => by
  rcases r with r | ⟨o, r⟩
  · exact .inl (h _ _ r)
  · exact .inr ⟨o, h _ _ r⟩, fun a vs r => h _ _ r, fun a o vs r => h _ _ r, fun a C dx fs r => h _ _ r, fun a o kvs r => h _ _ r⟩
theorem SubR.st (s : SubR H H') (h : TupAt K H a vs) : TupAt K H' a vs := h.elim (fun ⟨o, r, d⟩ => .inl ⟨o, s.2.2.1 _ _ _ r, d⟩) .inr
theorem Rep.mono (h : Rep K H v d) (s : SubR H H') : Rep K H' v d := by
  induction h with
  | non => exact .non
  | bl b => exact .bl b
  | int i => exact .int i
  | str x z o => exact .str x z o
  | tup q z l _ ih => exact .tup (s.st q) z l ih
  | lst q z l _ ih => exact .lst (s.2.1 _ _ q) z l ih
  | scr q z => exact .scr (q.elim (fun r => .inl (s.1 _ _ r)) .inr) z
  | dct q z l nd _ ih => exact .dct (s.1 _ _ q) z l nd ih
  | dctL q z l nd _ ih => exact .dctL (s.2.2.2.2 _ _ _ q) z l nd ih
  | obj q z l _ ih => exact .obj (s.2.2.2.1 _ _ _ _ q) z l ih
end
/-- the heap is kept, the new may be more -/
def Sub (H H' : Hp) : Prop := ∀ a o, H a = some o → H' a = some o
theorem Sub.refl (H : Hp) : Sub H H := fun _ _ h => h
theorem Sub.trans {H1 H2 H3 : Hp} (a : Sub H1 H2) (b : Sub H2 H3) : Sub H1 H3 := fun x o h => b x o (a x o h)
theorem Sub.new {H : Hp} {p : Addr} {o : HO} (h : H p = none) : Sub H (upd H p o) := fun a u e => by rw [upd_ne (ne_of_none e h)]; exact e
theorem Sub.rep {K : PySem.W.Frag} {H H' : Hp} {v : V} {d : D} (s : Sub H H') (h : Rep K H v d) : Rep K H' v d := h.mono (SubR.of s)
theorem Sub.reps {K : PySem.W.Frag} {H H' : Hp} {vs : List V} {ds : List D} (s : Sub H H') (h : Paired (Rep K H) vs ds) : Paired (Rep K H') vs ds := paired_mono h fun _ _ r => s.rep r
theorem Sub.back {H H' : Hp} (s : Sub H H') {p : Addr} (h : H' p = none) : H p = none := by
  cases e : H p with
  | none => rfl
  | some o => rw [s p o e] at h; cases h
/-! ### what is owned -/
inductive Sh where
  | pure
  | lst (s : Sh)
  | dct (s : Sh)
  /-- a pair whose parts are owned -/
  | pair (s t : Sh)
  /-- an object of a class, its fields by the table -/
  | obj (c : Str)
  deriving DecidableEq
/-- the owned addresses of the live slots -/
def owned (As : Nat → List Addr) (env : List (Option D)) : List Addr := (List.range env.length).flatMap fun i => if (env[i]?.getD none).isSome then As i else []
theorem mem_owned {As : Nat → List Addr} {env : List (Option D)} {a : Addr} : a ∈ owned As env ↔ ∃ i d, env[i]? = some (some d) ∧ a ∈ As i := by
  unfold owned
  simp only [List.mem_flatMap, List.mem_range]
  constructor
  · rintro ⟨i, hi, h⟩
    split at h
    · rename_i q
      rw [List.getElem?_eq_getElem hi] at q
      simp only [Option.getD_some] at q
      obtain ⟨d, hd⟩ := Option.isSome_iff_exists.mp q
      exact ⟨i, d, by rw [List.getElem?_eq_getElem hi, hd], h⟩
    · simp at h
  · rintro ⟨i, d, e, h⟩
    obtain ⟨hi, e'⟩ := List.getElem?_eq_some_iff.mp e
    exact ⟨i, hi, by rw [e]; simpa using h⟩
/-- a field's value -/
def OwnF (K : PySem.W.Frag) (Hf H : Hp) : FS → V → D → List Addr → Prop
  | .pure, v, d, A => A = [] ∧ Rep K Hf v d
  | .lst, v, d, A => ∃ a vs ds, v = .ref a ∧ d = .lst ds ∧ H a = some (.lst vs) ∧ vs.length ≤ sizeLine ∧ Paired (Rep K Hf) vs ds ∧ A = [a]
  | .dct, v, d, A => ∃ (a : Addr) (kvs : List (Key × V)) (l : List (Key × D)), v = .ref a ∧ d = .dct l ∧ H a = some (.dK kvs) ∧ kvs.length ≤ sizeLine ∧ KN (l.map (·.1)) ∧ Paired (RepKV K Hf) kvs l ∧ A = [a]
theorem OwnF.mono {K : PySem.W.Frag} {Hf H Hf' H' : Hp} {s : FS} {v : V} {d : D} {A : List Addr} (h : OwnF K Hf H s v d A) (sf : Sub Hf Hf') (sh : ∀ a ∈ A, ∀ o, H a = some o → H' a = some o) : OwnF K Hf' H' s v d A := by
  cases s with
  | pure => exact ⟨h.1, sf.rep h.2⟩
  | lst =>
    obtain ⟨a, vs, ds, rfl, rfl, ha, hz, p, rfl⟩ := h
    exact ⟨a, vs, ds, rfl, rfl, sh a (by simp) _ ha, hz, sf.reps p, rfl⟩
  | dct =>
    obtain ⟨a, kvs, l, rfl, rfl, ha, hz, nd, p, rfl⟩ := h
    exact ⟨a, kvs, l, rfl, rfl, sh a (by simp) _ ha, hz, nd, paired_mono p fun _ _ r => ⟨r.1, sf.rep r.2⟩, rfl⟩
theorem OwnF.there {K : PySem.W.Frag} {Hf H : Hp} {s : FS} {v : V} {d : D} {A : List Addr} (h : OwnF K Hf H s v d A) : ∀ a ∈ A, ∃ o, H a = some o ∧ (∀ vs, o ≠ .tup vs) ∧ ∀ ob u, o ≠ .frz ob u := by
  intro b hb
  cases s with
  | pure => rw [h.1] at hb; simp at hb
  | lst =>
    obtain ⟨a, vs, ds, rfl, rfl, ha, hz, p, rfl⟩ := h
    have e : b = a := by simpa using hb
    subst e
    exact ⟨_, ha, (fun _ e => nomatch e), (fun _ _ e => nomatch e)⟩
  | dct =>
    obtain ⟨a, kvs, l, rfl, rfl, ha, hz, nd, p, rfl⟩ := h
    have e : b = a := by simpa using hb
    subst e
    exact ⟨_, ha, (fun _ e => nomatch e), (fun _ _ e => nomatch e)⟩
theorem OwnF.rep {K : PySem.W.Frag} {Hf H Hf' : Hp} {s : FS} {v : V} {d : D} {A : List Addr} (h : OwnF K Hf H s v d A) (sf : Sub Hf Hf') (sh : ∀ a ∈ A, ∀ o, H a = some o → Hf' a = some o) : Rep K Hf' v d := by
  cases s with
  | pure => exact sf.rep h.2
  | lst =>
    obtain ⟨a, vs, ds, rfl, rfl, ha, hz, p, rfl⟩ := h
    exact Rep.lstI (sh a (by simp) _ ha) hz (sf.reps p)
  | dct =>
    obtain ⟨a, kvs, l, rfl, rfl, ha, hz, nd, p, rfl⟩ := h
    exact Rep.dctI (.inl (sh a (by simp) _ ha)) hz nd (paired_mono p fun _ _ r => ⟨r.1, sf.rep r.2⟩)
inductive Trip {α β γ : Type} (F : α → β → γ → Prop) : List α → List β → List γ → Prop
  | nil : Trip F [] [] []
  | cons {a b c l m n} : F a b c → Trip F l m n → Trip F (a :: l) (b :: m) (c :: n)
/-- the value stands for the datum; its changeable objects are A (each once), what hangs on them is frozen in Hf -/
def Own (K : PySem.W.Frag) (Hf H : Hp) : Sh → V → D → List Addr → Prop
  | .pure, v, d, A => A = [] ∧ Rep K Hf v d
  | .lst s, v, d, A => ∃ a vs ds As, v = .ref a ∧ d = .lst ds ∧ H a = some (.lst vs) ∧ vs.length ≤ sizeLine ∧ Trip (Own K Hf H s) vs ds As ∧ A = a :: As.flatten ∧ A.Nodup
  | .dct s, v, d, A => ∃ (a : Addr) (kvs : List (Key × V)) (l : List (Key × D)) (As : List (List Addr)), v = .ref a ∧ d = .dct l ∧ H a = some (.dK kvs) ∧ kvs.length ≤ sizeLine ∧ KN (l.map (·.1)) ∧
      Trip (fun (p : Key × V) (q : Key × D) B => p.1 = q.1 ∧ Own K Hf H s p.2 q.2 B) kvs l As ∧ A = a :: As.flatten ∧ A.Nodup
  | .pair s t, v, d, A => ∃ (a : Addr) (u w : V) (x y : D) (B C : List Addr), v = .ref a ∧ d = .tup [x, y] ∧ TupAt K Hf a [u, w] ∧ Own K Hf H s u x B ∧ Own K Hf H t w y C ∧ A = B ++ C ∧ A.Nodup
  | .obj c, v, d, A => ∃ (a dx : Addr) (fs : List (Str × V)) (l : List (Option D)) (As : Nat → List Addr) (g : Nat → V), v = .ref a ∧ d = .obj c l ∧ H a = some (.ins (He.ga K c) dx fs) ∧ FldOk c fs ∧
      (∀ (k : Nat) (d : D), l[k]? = some (some d) → ∃ f s, (clsF c)[k]? = some (f, s) ∧ fs.lookup f = some (g k) ∧ OwnF K Hf H s (g k) d (As k)) ∧
      (∀ (k : Nat) (d : D), l[k]? = some (some d) → a ∉ As k) ∧ (∀ (j k : Nat) (d e : D), j ≠ k → l[j]? = some (some d) → l[k]? = some (some e) → ∀ b ∈ As j, b ∉ As k) ∧ A = a :: owned As l
theorem trip_mono {α β γ : Type} {F G : α → β → γ → Prop} {l : List α} {m : List β} {n : List γ} (h : Trip F l m n) (f : ∀ a b c, c ∈ n → F a b c → G a b c) : Trip G l m n := by
  induction h with
  | nil => exact .nil
  | cons r _ ih => exact .cons (f _ _ _ List.mem_cons_self r) (ih fun a b c hc => f a b c (List.mem_cons_of_mem _ hc))
section
variable {K : PySem.W.Frag} {Hf H Hf' H' : Hp}
theorem Own.mono : ∀ {s : Sh} {v : V} {d : D} {A : List Addr}, Own K Hf H s v d A → Sub Hf Hf' → (∀ a ∈ A, ∀ o, H a = some o → H' a = some o) → Own K Hf' H' s v d A
  | .pure, v, d, A, h, sf, _ => ⟨h.1, sf.rep h.2⟩
  | .lst s, v, d, A, h, sf, sh => by
    obtain ⟨a, vs, ds, As, rfl, rfl, ha, hz, t, rfl, nd⟩ := h
    refine ⟨a, vs, ds, As, rfl, rfl, sh a List.mem_cons_self _ ha, hz, trip_mono t fun x y z hz' r => Own.mono r sf fun b hb => sh b (List.mem_cons_of_mem _ (List.mem_flatten.mpr ⟨z, hz', hb⟩)), rfl, nd⟩
  | .dct s, v, d, A, h, sf, sh => by
    obtain ⟨a, kvs, l, As, rfl, rfl, ha, hz, kn, t, rfl, nd⟩ := h
    refine ⟨a, kvs, l, As, rfl, rfl, sh a List.mem_cons_self _ ha, hz, kn, trip_mono t fun x y z hz' r => ⟨r.1, Own.mono r.2 sf fun b hb => sh b (List.mem_cons_of_mem _ (List.mem_flatten.mpr ⟨z, hz', hb⟩))⟩, rfl, nd⟩
  | .pair s t, v, d, A, h, sf, sh => by
    obtain ⟨a, u, w, x, y, B, C, rfl, rfl, ha, h1, h2, rfl, nd⟩ := h
    exact ⟨a, u, w, x, y, B, C, rfl, rfl, (SubR.of sf).st ha, Own.mono h1 sf fun b hb => sh b (List.mem_append_left _ hb), Own.mono h2 sf fun b hb => sh b (List.mem_append_right _ hb), rfl, nd⟩
  | .obj c, v, d, A, h, sf, sh => by
    obtain ⟨a, dx, fs, l, As, g, rfl, rfl, ha, fo, t, n1, n2, rfl⟩ := h
    refine ⟨a, dx, fs, l, As, g, rfl, rfl, sh a List.mem_cons_self _ ha, fo, fun k d e => ?_, n1, n2, rfl⟩
    obtain ⟨f, s, h1, h2, h3⟩ := t k d e
    exact ⟨f, s, h1, h2, h3.mono sf fun b hb => sh b (List.mem_cons_of_mem _ (mem_owned.mpr ⟨k, d, e, hb⟩))⟩
theorem trip_each {α β γ : Type} {F : α → β → γ → Prop} {l : List α} {m : List β} {n : List γ} (h : Trip F l m n) {c : γ} (hc : c ∈ n) : ∃ a b, F a b c := by
  induction h with
  | nil => simp at hc
  | cons r _ ih =>
    rcases List.mem_cons.mp hc with rfl | hc
    · exact ⟨_, _, r⟩
    · exact ih hc
/-- what is owned is there -/
theorem Own.there : ∀ {s : Sh} {v : V} {d : D} {A : List Addr}, Own K Hf H s v d A → ∀ a ∈ A, ∃ o, H a = some o ∧ (∀ vs, o ≠ .tup vs) ∧ ∀ ob u, o ≠ .frz ob u
  | .pure, v, d, A, h, a, ha => by
    have e : A = [] := h.1
    subst e
    simp at ha
  | .lst s, v, d, A, h, b, hb => by
    obtain ⟨a, vs, ds, As, rfl, rfl, ha, hz, t, rfl, nd⟩ := h
    rcases List.mem_cons.mp hb with rfl | hb
    · exact ⟨_, ha, (fun _ e => nomatch e), (fun _ _ e => nomatch e)⟩
    · obtain ⟨z, hz', hb⟩ := List.mem_flatten.mp hb
      obtain ⟨x, y, r⟩ := trip_each t hz'
      exact Own.there r b hb
  | .dct s, v, d, A, h, b, hb => by
    obtain ⟨a, kvs, l, As, rfl, rfl, ha, hz, kn, t, rfl, nd⟩ := h
    rcases List.mem_cons.mp hb with rfl | hb
    · exact ⟨_, ha, (fun _ e => nomatch e), (fun _ _ e => nomatch e)⟩
    · obtain ⟨z, hz', hb⟩ := List.mem_flatten.mp hb
      obtain ⟨x, y, r⟩ := trip_each t hz'
      exact Own.there r.2 b hb
  | .pair s t, v, d, A, h, b, hb => by
    obtain ⟨a, u, w, x, y, B, C, rfl, rfl, ha, h1, h2, rfl, nd⟩ := h
    rcases List.mem_append.mp hb with hb | hb
    · exact Own.there h1 b hb
    · exact Own.there h2 b hb
  | .obj c, v, d, A, h, b, hb => by
    obtain ⟨a, dx, fs, l, As, g, rfl, rfl, ha, fo, t, n1, n2, rfl⟩ := h
    rcases List.mem_cons.mp hb with rfl | hb
    · exact ⟨_, ha, (fun _ e => nomatch e), (fun _ _ e => nomatch e)⟩
    · obtain ⟨k, d, e, hb⟩ := mem_owned.mp hb
      obtain ⟨f, s, h1, h2, h3⟩ := t k d e
      exact h3.there b hb
theorem trip_pair {α β γ : Type} {F : α → β → γ → Prop} {G : α → β → Prop} {l : List α} {m : List β} {n : List γ} (h : Trip F l m n) (f : ∀ a b c, c ∈ n → F a b c → G a b) : Paired G l m := by
  induction h with
  | nil => exact .nil
  | cons r _ ih => exact .cons (f _ _ _ List.mem_cons_self r) (ih fun a b c hc => f a b c (List.mem_cons_of_mem _ hc))
/-- frozen, it stands for the datum -/
theorem Own.rep : ∀ {s : Sh} {v : V} {d : D} {A : List Addr}, Own K Hf H s v d A → Sub Hf Hf' → (∀ a ∈ A, ∀ o, H a = some o → Hf' a = some o) → Rep K Hf' v d
  | .pure, v, d, A, h, sf, _ => sf.rep h.2
  | .lst s, v, d, A, h, sf, sh => by
    obtain ⟨a, vs, ds, As, rfl, rfl, ha, hz, t, rfl, nd⟩ := h
    exact Rep.lstI (sh a List.mem_cons_self _ ha) hz (trip_pair t fun x y z hz' r => Own.rep r sf fun b hb => sh b (List.mem_cons_of_mem _ (List.mem_flatten.mpr ⟨z, hz', hb⟩)))
  | .dct s, v, d, A, h, sf, sh => by
    obtain ⟨a, kvs, l, As, rfl, rfl, ha, hz, kn, t, rfl, nd⟩ := h
    have p := trip_pair (G := fun (x : Key × V) (y : Key × D) => x.1 = y.1 ∧ Rep K Hf' x.2 y.2) t fun x y z hz' r => ⟨r.1, Own.rep r.2 sf fun b hb => sh b (List.mem_cons_of_mem _ (List.mem_flatten.mpr ⟨z, hz', hb⟩))⟩
    exact Rep.dctI (.inl (sh a List.mem_cons_self _ ha)) hz kn p
  | .pair s t, v, d, A, h, sf, sh => by
    obtain ⟨a, u, w, x, y, B, C, rfl, rfl, ha, h1, h2, rfl, nd⟩ := h
    refine Rep.tupI ((SubR.of sf).st ha) (by show 2 ≤ sizeLine; decide) (.cons (Own.rep h1 sf fun b hb => sh b (List.mem_append_left _ hb)) (.cons (Own.rep h2 sf fun b hb => sh b (List.mem_append_right _ hb)) .nil))
  | .obj c, v, d, A, h, sf, sh => by
    obtain ⟨a, dx, fs, l, As, g, rfl, rfl, ha, fo, t, n1, n2, rfl⟩ := h
    refine .obj (g := g) (sh a List.mem_cons_self _ ha) fo (fun k d e => ?_) fun k d e => ?_
    · obtain ⟨f, s, h1, h2, h3⟩ := t k d e
      exact ⟨f, s, h1, h2⟩
    · obtain ⟨f, s, h1, h2, h3⟩ := t k d e
      exact h3.rep sf fun b hb => sh b (List.mem_cons_of_mem _ (mem_owned.mpr ⟨k, d, e, hb⟩))
end
end Pv
set_option Elab.async false
set_option linter.all false
set_option maxRecDepth 100000
set_option maxHeartbeats 4000000
namespace Pv
open PySem PySem.Spec PyProof.Rows L2
abbrev Dv := List (Option D)
structure Exn where
  cls : Str
  fs : List (Str × D)
inductive R (α : Type) where
  | ok (a : α) (e : Dv)
  | exc (x : Exn) (e : Dv)
  | stuck
/-! ### data -/
mutual
def D.toPy : D → PyData
  | .non => .none
  | .bl b => .bool b
  | .int i => .int i
  | .str x => .str x
  | .tup l => .tuple (toPyL l)
  | .lst l => .list (toPyL l)
  | .dct _ => .dict []
  | .dctL _ => .dict []
  | .scr _ => .dict []
  | .obj _ _ => .dict []
def toPyL : List D → List PyData
  | [] => []
  | d :: l => d.toPy :: toPyL l
end
/-- no dict within, n deep at most -/
def lay : Nat → D → Bool
  | 0, .tup _ => false
  | 0, .lst _ => false
  | _, .dct _ => false
  | _, .dctL _ => false
  | _, .scr _ => false
  | _, .obj _ _ => false
  | n + 1, .tup l => l.all (lay n)
  | n + 1, .lst l => l.all (lay n)
  | _, _ => true
/-- nothing changeable within -/
def flat : Nat → D → Bool
  | 0, .tup _ => false
  | _, .lst _ => false
  | _, .dct _ => false
  | _, .dctL _ => false
  | _, .scr _ => false
  | _, .obj _ _ => false
  | n + 1, .tup l => l.all (flat n)
  | _, _ => true
def eqD (d e : D) : Bool := PyData.eqv d.toPy e.toPy
def D.truth : D → Option Bool
  | .non => some false
  | .bl b => some b
  | .int i => some (i != 0)
  | .str x => some (x.length != 0)
  | .tup l => some (!l.isEmpty)
  | .lst l => some (!l.isEmpty)
  | .dct _ => none
  | .dctL _ => none
  | .scr _ => none
  | .obj _ _ => none
def strLt (a b : Str) : Bool := decide (a.cps.toList < b.cps.toList)
/-- one below the other: ints, texts, pairs of texts -/
def ltD : D → D → Option Bool
  | .int i, .int j => some (decide (i < j))
  | .str a, .str b => some (strLt a b)
  | .tup [.str a, .str b], .tup [.str c, .str d] => some (if a = c then strLt b d else strLt a c)
  | _, _ => none
inductive Op1 where
  | len | abs | int | neg | list | tuple | sorted | sum | all | any | isinst (ts : List String) | repr | lenset | str
  deriving DecidableEq
inductive Op2 where
  | add | sub | mul | fdiv | mod | pow | eq | ne | lt | le | gt | ge | isin | notin | is | isnot | ix | index | min | max | join | shl | shr | band | bor
  deriving DecidableEq
def BIG : Nat := 1000000
def insD (d : D) : List D → List D
  | [] => [d]
  | e :: l => if (ltD e d).getD false then e :: insD d l else d :: e :: l
/-- stable: an equal one comes behind -/
def insS (d : D) : List D → List D
  | [] => [d]
  | e :: l => if (ltD d e).getD false then d :: e :: l else e :: insS d l
def sortL : List D → List D := List.foldl (fun acc d => insS d acc) []
def kinds : D → Nat
  | .int _ => 1
  | .str _ => 2
  | .tup [.str _, .str _] => 3
  | _ => 0
def sortD (l : List D) : Option (List D) := if l.all (fun d => kinds d == 1) || l.all (fun d => kinds d == 2) || l.all (fun d => kinds d == 3) then some (sortL l) else none
def isI : D → Option Int
  | .int i => some i
  | _ => none
def isB : D → Option Bool
  | .bl b => some b
  | _ => none
def isS : D → Option Str
  | .str x => some x
  | _ => none
def allO {α : Type} (f : D → Option α) : List D → Option (List α)
  | [] => some []
  | d :: l => match f d, allO f l with
    | some a, some r => some (a :: r)
    | _, _ => none
def tyOf : D → String
  | .non => "NoneType"
  | .bl _ => "bool"
  | .int _ => "int"
  | .str _ => "str"
  | .tup _ => "tuple"
  | .lst _ => "list"
  | .dct _ => "dict"
  | .dctL _ => "dict"
  | .scr _ => "list"
  | .obj _ _ => "object"
def isObj : D → Bool
  | .obj _ _ => true
  | _ => false
def isa1 (t : String) (d : D) : Bool := t == tyOf d || (t == "int" && tyOf d == "bool")
def isa (ts : List String) (d : D) : Bool := ts.any fun t => isa1 t d
def nubS : List Str → List Str
  | [] => []
  | x :: l => if x ∈ l then nubS l else x :: nubS l
def lenD : D → Option D
  | .str x => some (.int x.length)
  | .tup l => some (.int l.length)
  | .lst l => some (.int l.length)
  | .dct l => some (.int l.length)
  | .dctL l => some (.int l.length)
  | _ => none
def absD : D → Option D
  | .int i => some (.int (if i < 0 then -i else i))
  | _ => none
def intD : D → Option D
  | .int i => some (.int i)
  | .bl b => some (.int (if b then 1 else 0))
  | _ => none
def negD : D → Option D
  | .int i => some (.int (-i))
  | _ => none
def listD : D → Option D
  | .lst l => some (.lst l)
  | .tup l => some (.lst l)
  | _ => none
def tupleD : D → Option D
  | .lst l => some (.tup l)
  | .tup l => some (.tup l)
  | _ => none
def keyS : Key → Option Str
  | .inr x => some x
  | .inl _ => none
def keysS : List Key → Option (List Str)
  | [] => some []
  | k :: l => match keyS k, keysS l with
    | some x, some r => some (x :: r)
    | _, _ => none
def sortedD : D → Option D
  | .lst l => (sortD l).map .lst
  | .dct l => match keysS (l.map (·.1)) with
    | some ks => if ks.length < 64 then some (.lst (sortL (ks.map .str))) else none
    | none => none
  | _ => none
def lensetD : D → Option D
  | .lst l => if l.length ≤ 1000 then (allO isS l).map fun xs => .int (nubS xs).length else none
  | .tup l => if l.length ≤ 1000 then (allO isS l).map fun xs => .int (nubS xs).length else none
  | _ => none
def sumD : D → Option D
  | .lst l => (allO isI l).map fun ns => .int ns.sum
  | _ => none
def allD : D → Option D
  | .lst l => (allO isB l).map fun bs => .bl (bs.all id)
  | _ => none
def anyD : D → Option D
  | .lst l => (allO isB l).map fun bs => .bl (bs.any id)
  | _ => none
/-- repr of a list, a tuple of flat things -/
def reprOk (d : D) : Bool := lay 40 d && d.toPy.showable && decide (d.toPy.shown.length ≤ sizeLine) && PyData.strOk d.toPy.shown
def reprD : D → Option D
  | .lst l => if reprOk (.lst l) then some (.str (D.toPy (.lst l)).shown) else none
  | .tup l => if reprOk (.tup l) then some (.str (D.toPy (.tup l)).shown) else none
  | _ => none
def op1 (o : Op1) (d : D) : Option D := match o with
  | .len => lenD d
  | .abs => absD d
  | .int => intD d
  | .neg => negD d
  | .list => listD d
  | .tuple => tupleD d
  | .sorted => sortedD d
  | .sum => sumD d
  | .all => allD d
  | .any => anyD d
  | .isinst ts => if isObj d then none else some (.bl (isa ts d))
  | .repr => reprD d
  | .lenset => lensetD d
  | .str => none
def findIx (p : D → Bool) : List D → Option Nat
  | [] => none
  | d :: l => if p d then some 0 else (findIx p l).map (· + 1)
def dget {α : Type} (l : List (Key × α)) (k : Key) : Option α := (l.find? fun kv => decide (kv.1 = k)).map (·.2)
def keyOf : D → Option Key
  | .int i => some (.inl i)
  | .str x => some (.inr x)
  | _ => none
/-- is: None, True, False alone -/
def isD : D → D → Option Bool
  | .non, .non => some true
  | .bl _, .non => some false
  | .int _, .non => some false
  | .str _, .non => some false
  | .tup _, .non => some false
  | .lst _, .non => some false
  | .dct _, .non => some false
  | .dctL _, .non => some false
  | .bl a, .bl b => some (decide (a = b))
  | _, _ => none
def addD : D → D → Option D
  | .int i, .int j => some (.int (i + j))
  | .str a, .str b => if a.length + b.length ≤ BIG then some (.str (a ++ b)) else none
  | .tup a, .tup b => if a.length + b.length ≤ BIG then some (.tup (a ++ b)) else none
  | .lst a, .lst b => if a.length + b.length ≤ BIG then some (.lst (a ++ b)) else none
  | _, _ => none
def subD : D → D → Option D
  | .int i, .int j => some (.int (i - j))
  | _, _ => none
def mulD : D → D → Option D
  | .int i, .int j => if (-(2 ^ 64) < i ∧ i < 2 ^ 64) ∨ (-(2 ^ 64) < j ∧ j < 2 ^ 64) then some (.int (i * j)) else none
  | .lst l, .int k => if 0 ≤ k ∧ k ≤ 1000 ∧ l.length ≤ 1000 then some (.lst (List.replicate k.toNat l).flatten) else none
  | .tup (x :: l), .int k => if k = 0 then some (.tup []) else if k = 1 then some (.tup (x :: l)) else none
  | _, _ => none
def fdivD : D → D → Option D
  | .int i, .int j => if 0 < j ∧ j < 1073741824 then some (.int (i / j)) else none
  | _, _ => none
def modD : D → D → Option D
  | .int i, .int j => if 0 < j then some (.int (i % j)) else none
  | _, _ => none
def powD : D → D → Option D
  | .int i, .int j => if 0 ≤ j ∧ j ≤ 1000 ∧ i.natAbs < 2 ^ 64 then some (.int (i ^ j.toNat)) else none
  | _, _ => none
def equD (d e : D) : Option Bool := if lay 40 d && lay 40 e then some (eqD d e) else none
def ltB : D → D → Option D
  | .int i, .int j => some (.bl (decide (i < j)))
  | .str a, .str b => some (.bl (strLt a b))
  | _, _ => none
def leB : D → D → Option D
  | .int i, .int j => some (.bl (decide (i ≤ j)))
  | .str a, .str b => some (.bl (!strLt b a))
  | _, _ => none
/-- one sign in a text -/
def signIn (z : Str) : D → Option Bool
  | .str x => match x.cps.toList with
    | [c] => some (decide (c ∈ z.cps.toList))
    | _ => none
  | _ => none
def inD (d : D) : D → Option Bool
  | .str z => signIn z d
  | .lst l => if lay 40 d && lay 40 (.lst l) then some (l.any fun z => eqD z d) else none
  | .tup l => if lay 40 d && lay 40 (.tup l) then some (l.any fun z => eqD z d) else none
  | .dct l => (keyOf d).map fun k => (dget l k).isSome
  | .dctL l => (keyOf d).map fun k => (dget l k).isSome
  | _ => none
def ixD : D → D → Option D
  | .lst l, .int i => atI l i
  | .tup l, .int i => atI l i
  | .str x, .int i => (atI x.cps.toList i).map fun c => .str ⟨#[c]⟩
  | .dct l, d => (keyOf d).bind fun k => dget l k
  | .dctL l, d => (keyOf d).bind fun k => dget l k
  | _, _ => none
def indexD : D → D → Option D
  | .lst l, d => if lay 40 d && lay 40 (.lst l) then (findIx (fun z => eqD z d) l).map fun n => .int n else none
  | .tup l, .str x => if l.all fun z => kinds z == 2 then (findIx (fun z => eqD z (.str x)) l).map fun n => .int n else none
  | _, _ => none
def minD : D → D → Option D
  | .int i, .int j => some (.int (if j < i then j else i))
  | .str a, .str b => some (.str (if strLt b a then b else a))
  | _, _ => none
def maxD : D → D → Option D
  | .int i, .int j => some (.int (if j > i then j else i))
  | .str a, .str b => some (.str (if strLt a b then b else a))
  | _, _ => none
def joinD : D → D → Option D
  | .str a, .lst l => match allO isS l with
    | some xs => if (xs.map (·.length)).sum + xs.length * a.length ≤ BIG then some (.str (Str.join a xs)) else none
    | none => none
  | _, _ => none
def shlD : D → D → Option D
  | .int i, .int j => if 0 ≤ j ∧ j ≤ 1000 ∧ i.natAbs < 2 ^ 64 then some (.int (i * 2 ^ j.toNat)) else none
  | _, _ => none
def shrD : D → D → Option D
  | .int i, .int j => if 0 ≤ j then some (.int (i / 2 ^ j.toNat)) else none
  | _, _ => none
def bandD : D → D → Option D
  | .int i, .int j => some (.int (Builtin.bitAnd i j))
  | _, _ => none
def borD : D → D → Option D
  | .int i, .int j => some (.int (Builtin.bitOr i j))
  | _, _ => none
def op2 (o : Op2) (d e : D) : Option D := match o with
  | .add => addD d e
  | .sub => subD d e
  | .mul => mulD d e
  | .fdiv => fdivD d e
  | .mod => modD d e
  | .pow => powD d e
  | .eq => (equD d e).map .bl
  | .ne => (equD d e).map fun b => .bl (!b)
  | .lt => ltB d e
  | .le => leB d e
  | .gt => ltB e d
  | .ge => leB e d
  | .isin => (inD d e).map .bl
  | .notin => (inD d e).map fun b => .bl (!b)
  | .is => (isD d e).map .bl
  | .isnot => (isD d e).map fun b => .bl (!b)
  | .ix => ixD d e
  | .index => indexD d e
  | .min => minD d e
  | .max => maxD d e
  | .join => joinD d e
  | .shl => shlD d e
  | .shr => shrD d e
  | .band => bandD d e
  | .bor => borD d e
def cutL {α : Type} (xs : List α) (lo hi : Option Int) : List α := (xs.drop (HT.sIx xs.length 0 lo)).take (HT.sIx xs.length xs.length hi - HT.sIx xs.length 0 lo)
def cutD (d : D) (lo hi : Option Int) : Option D := match d with
  | .lst l => some (.lst (cutL l lo hi))
  | .tup l => some (.tup (cutL l lo hi))
  | .str x => some (.str (cutS x lo hi))
  | .scr ns => some (.lst (cutL (ns.map .int) lo hi))
  | _ => none
def getD (d e f : D) : Option D := match d with
  | .dct l => (keyOf e).map fun k => (dget l k).getD f
  | .dctL l => (keyOf e).map fun k => (dget l k).getD f
  | _ => none
def isDct : D → Bool
  | .dct _ => true
  | .dctL _ => true
  | _ => false
/-- what a method is asked of -/
def recvD (o : Op2) (d : D) : Bool := match o, d with
  | .join, .str _ => true
  | .index, .lst _ => true
  | .index, .tup _ => true
  | _, _ => false
/-! ### terms -/
inductive Tg where
  | nm (i : Nat)
  | tp (ts : List Nat)
  /-- (i, j), k -/
  | nst (i j k : Nat)
  deriving DecidableEq
/-- a parameter's argument: the j-th handed in, or the default -/
inductive Par where
  | arg (j : Nat)
  | dfl (d : D)
mutual
inductive E where
  | var (i : Nat)
  | mv (i : Nat)
  | mref (i : Nat)
  | own (a : E)
  | cst (d : D)
  | glb (x : Str) (d : D)
  | dnew
  | tup (es : List E)
  | lst (es : List E)
  | op1 (o : Op1) (a : E)
  | op2 (o : Op2) (a b : E)
  | slc (a : E) (lo hi : Option E)
  | get (a b c : E)
  | meth (o : Op2) (a b : E)
  | and (a b : E)
  | or (a b : E)
  | nt (a : E)
  | ite (c a b : E)
  | chain (o p : Op2) (a b c : E)
  | call (f : Str) (es : List E)
  | callK (f : Str) (np : Nat) (ks : List Str) (pm : List Par) (es : List E)
  | lend (ls hs ms : List Nat) (a : E)
  | lc (own : List Nat) (t : Tg) (it : It) (c : Option E) (e : E)
  /-- {k: v for t in it if c} -/
  | dc (own : List Nat) (t : Tg) (it : It) (c : Option E) (k v : E)
  /-- a part of an owned pair; o: the other part's shape -/
  | pick (k : Nat) (o : Sh) (a : E)
  /-- never reached -/
  | dead
  /-- a field of a plain object -/
  | fld (c : Str) (k : Nat) (a : E)
  /-- a plain field of a changeable object -/
  | fldM (i k : Nat)
  /-- r.m(..), f the method -/
  | mcall (c f : Str) (r : E) (as : List E)
  /-- a new object, f its __init__ -/
  | new (c f : Str) (as : List E)
  /-- as lend, the result a new list of flat things -/
  | lendL (ls hs ms : List Nat) (a : E)
  /-- a[::-1] -/
  | rev (a : E)
  /-- a new dict, locked from now on -/
  | lock (a : E)
  /-- x.pop(), x.pop(a) -/
  | pop (i : Nat) (a : Option E)
  /-- a + b, lists: a new one -/
  | addL (a b : E)
  | ixM (i : Nat) (a : E)
inductive It where
  | seq (a : E)
  | rng (a : E)
  | rng2 (a b : E)
  | enm (a : E)
  | zip (a b : E)
  | keys (a : E)
  | items (a : E)
end
inductive CR where
  | ok (d : D) (ds : List D)
  | exc (x : Exn) (ds : List D)
  | stuck
def bindR {α β : Type} (r : R α) (f : α → Dv → R β) : R β := match r with
  | .ok d e => f d e
  | .exc x e => .exc x e
  | .stuck => .stuck
def liftO {α : Type} (o : Option α) (e : Dv) : R α := match o with
  | some d => .ok d e
  | none => .stuck
/-- a target's store -/
def setAll : List Nat → List D → Dv → Dv
  | i :: is, d :: ds, env => setAll is ds (env.set i (some d))
  | _, _, env => env
def bindTg (t : Tg) (d : D) (env : Dv) : Option Dv := match t with
  | .nm i => some (env.set i (some d))
  | .tp ts => match d with
    | .tup l => if l.length = ts.length then some (setAll ts l env) else none
    | .lst l => if l.length = ts.length then some (setAll ts l env) else none
    | _ => none
  | .nst i j k => match d with
    | .tup [x, y] => match x with
      | .tup [u, w] => some (((env.set i (some u)).set j (some w)).set k (some y))
      | _ => none
    | _ => none
def wipeE (env : Dv) : List Nat → Dv
  | [] => env
  | v :: vs => (wipeE env vs).set v none
/-- the slots of a block's own names as they were -/
def backE (env0 env : Dv) : List Nat → Dv
  | [] => env
  | v :: vs => (backE env0 env vs).set v ((env0[v]?).getD none)
/-- the turns of a comprehension -/
def compLoop (own : List Nat) (t : Tg) (cnd : Dv → R Bool) (elt : Dv → R D) : List D → Dv → List D → R (List D)
  | [], env, acc => .ok acc env
  | d :: ds, env, acc => match bindTg t d env with
    | none => .stuck
    | some env1 => match cnd env1 with
      | .ok true env2 => match elt env2 with
        | .ok x env3 => if acc.length < BIG then compLoop own t cnd elt ds (wipeE env3 own) (acc ++ [x]) else .stuck
        | _ => .stuck
      | .ok false env2 => compLoop own t cnd elt ds (wipeE env2 own) acc
      | _ => .stuck
def compRun (own : List Nat) (t : Tg) (cnd : Dv → R Bool) (elt : Dv → R D) (items : List D) (env : Dv) : R D :=
  match compLoop own t cnd elt items (wipeE env own) [] with
  | .ok l env' => .ok (.lst l) (backE env env' own)
  | _ => .stuck
def putD {α : Type} (l : List (Key × α)) (k : Key) (v : α) : List (Key × α) := if (dget l k).isSome then l.map fun p => if p.1 = k then (k, v) else p else l ++ [(k, v)]
/-- the turns of a dict comprehension -/
def compLoopD (own : List Nat) (t : Tg) (cnd : Dv → R Bool) (kx vx : Dv → R D) : List D → Dv → List (Key × D) → R (List (Key × D))
  | [], env, acc => .ok acc env
  | d :: ds, env, acc => match bindTg t d env with
    | none => .stuck
    | some env1 => match cnd env1 with
      | .ok true env2 => match kx env2 with
        | .ok y env3 => match vx env3 with
          | .ok x env4 => match keyOf y with
            | some k => if acc.length < BIG then compLoopD own t cnd kx vx ds (wipeE env4 own) (putD acc k x) else .stuck
            | none => .stuck
          | _ => .stuck
        | _ => .stuck
      | .ok false env2 => compLoopD own t cnd kx vx ds (wipeE env2 own) acc
      | _ => .stuck
def compRunD (own : List Nat) (t : Tg) (cnd : Dv → R Bool) (kx vx : Dv → R D) (items : List D) (env : Dv) : R D :=
  match compLoopD own t cnd kx vx items (wipeE env own) [] with
  | .ok l env' => .ok (.dct l) (backE env env' own)
  | _ => .stuck
def rangeL (lo : Int) (n : Nat) : List D := (List.range n).map fun (i : Nat) => D.int (lo + i)
def enumL (l : List D) : List D := l.zipIdx.map fun p => .tup [.int p.2, p.1]
def zipL (l m : List D) : List D := (l.zip m).map fun p => .tup [p.1, p.2]
def seqOf : D → Option (List D)
  | .lst l => some l
  | .tup l => some l
  | _ => none
def seqStr : D → Option (List D)
  | .lst l => some l
  | .tup l => some l
  | .str x => some (x.cps.toList.map fun c => .str ⟨#[c]⟩)
  | _ => none
def smallI (i : Int) : Bool := decide (-(2 ^ 62) ≤ i) && decide (i < 2 ^ 62)
def rngD (x : D) : Option (List D) := match x with
  | .int n => if smallI n then some (rangeL 0 n.toNat) else none
  | _ => none
def rng2D (x y : D) : Option (List D) := match x, y with
  | .int m, .int n => if smallI m && smallI n then some (rangeL m (n - m).toNat) else none
  | _, _ => none
def zipD (x y : D) : Option (List D) := match x, y with
  | .lst l, .lst m => some (zipL l m)
  | .tup l, .tup m => some (zipL l m)
  | _, _ => none
/-- arguments of a call: a reference stands for its slot as it is at the end -/
def resolve : List E → List D → Dv → Option (List D)
  | [], [], _ => some []
  | e :: es, d :: ds, env => match resolve es ds env with
    | none => none
    | some r => match e with
      | .mref i => match env[i]? with
        | some (some d') => some (d' :: r)
        | _ => none
      | _ => some (d :: r)
  | _, _, _ => none
/-- what the callee did to its references' data -/
def writeBack : List E → List D → Dv → Dv
  | e :: es, d :: ds, env => match e with
    | .mref i => writeBack es ds (env.set i (some d))
    | _ => writeBack es ds env
  | _, _, env => env
def permA (ds : List D) : List Par → Option (List D)
  | [] => some []
  | .arg j :: r => match ds[j]?, permA ds r with
    | some d, some l => some (d :: l)
    | _, _ => none
  | .dfl d :: r => (permA ds r).map (d :: ·)
/-- slots that hold lists of flat things -/
def flatAt (env : Dv) (ms : List Nat) : Bool := ms.all fun i => match env[i]? with
  | some (some (.lst l)) => l.all (flat 40)
  | _ => false
def truthR (r : R D) : R Bool := bindR r fun d e => liftO d.truth e
def pickD : Nat → D → Option D
  | 0, .tup [x, _] => some x
  | 1, .tup [_, y] => some y
  | _, _ => none
def pairSet (i j : Nat) (d : D) (env : Dv) : Option Dv := match d with
  | .tup [x, y] => some ((env.set i (some x)).set j (some y))
  | _ => none
/-- the fields with one more, or anew -/
def setP : List (Option D) → Nat → D → List (Option D)
  | [], 0, d => [some d]
  | [], k + 1, d => none :: setP [] k d
  | _ :: l, 0, d => some d :: l
  | o :: l, k + 1, d => o :: setP l k d
def fldD (c : Str) (k : Nat) (d : D) : Option D := match d with
  | .obj c' l => if c' = c then (l[k]?).getD none else none
  | _ => none
def fldE (i k : Nat) (env : Dv) : Option D := match env[i]? with
  | some (some (.obj _ l)) => (l[k]?).getD none
  | _ => none
def isCls (c : Str) (d : D) : Bool := match d with
  | .obj c' _ => decide (c' = c)
  | _ => false
def isRf : E → Bool
  | .mref _ => true
  | _ => false
def revD : D → Option D
  | .lst l => some (.lst l.reverse)
  | _ => none
/-- an item of a changeable dict -/
def dctE (env : Dv) (i : Nat) : Option (List (Key × D)) := match env[i]? with
  | some (some (.dct l)) => some l
  | _ => none
def isDctE (env : Dv) (i : Nat) : Bool := (dctE env i).isSome
def ixE (env : Dv) (i : Nat) (k : D) : Option D := match dctE env i, keyOf k with
  | some l, some k => dget l k
  | _, _ => none
def catD : D → D → Option D
  | .lst a, .lst b => if a.length + b.length ≤ BIG then some (.lst (a ++ b)) else none
  | _, _ => none
def lockD : D → Option D
  | .dct l => some (.dctL l)
  | _ => none
def flatL : D → Bool
  | .lst l => l.all (flat 40)
  | _ => false
/-- the place that is popped -/
def popK (n : Nat) : Option D → Option Nat
  | none => if n = 0 then none else some (n - 1)
  | some (.int i) => ixN n i
  | some _ => none
def popE (i : Nat) (o : Option D) (env : Dv) : R D := match env[i]? with
  | some (some (.lst l)) => match popK l.length o with
    | some k => match l[k]? with
      | some d => .ok d (env.set i (some (.lst (l.eraseIdx k))))
      | none => .stuck
    | none => .stuck
  | _ => .stuck
def isLst (i : Nat) (env : Dv) : Bool := match env[i]? with
  | some (some (.lst _)) => true
  | _ => false
/-- the object that __init__ leaves -/
def newR (e : Dv) : CR → R D
  | .ok .non (s :: _) => .ok s e
  | .exc x _ => .exc x e
  | _ => .stuck
def callR (as : List E) (e : Dv) : CR → R D
  | .ok d ds => .ok d (writeBack as ds e)
  | .exc x ds => .exc x (writeBack as ds e)
  | .stuck => .stuck
def keysD : D → Option (List D)
  | .dctL l => some (l.map fun p => match p.1 with
    | .inl i => .int i
    | .inr x => .str x)
  | _ => none
def itemsD : D → Option (List D)
  | .dctL l => some (l.map fun p => .tup [match p.1 with
    | .inl i => .int i
    | .inr x => .str x, p.2])
  | _ => none
section
variable (cf : Str → List D → CR)
mutual
def ev : E → Dv → R D
  | .var i, env => match env[i]? with
    | some (some d) => .ok d env
    | _ => .stuck
  | .mv i, env => match env[i]? with
    | some (some d) => .ok d (env.set i none)
    | _ => .stuck
  | .mref i, env => match env[i]? with
    | some (some _) => .ok .non env
    | _ => .stuck
  | .own a, env => ev a env
  | .cst d, env => .ok d env
  | .glb _ d, env => .ok d env
  | .dnew, env => .ok (.dct []) env
  | .tup es, env => bindR (evs es env) fun ds e => .ok (.tup ds) e
  | .lst es, env => bindR (evs es env) fun ds e => .ok (.lst ds) e
  | .op1 o a, env => bindR (ev a env) fun x e => liftO (op1 o x) e
  | .op2 o a b, env => bindR (ev a env) fun x e => bindR (ev b e) fun y e' => liftO (op2 o x y) e'
  | .slc a lo hi, env => bindR (ev a env) fun x e => bindR (evO lo e) fun y e' => bindR (evO hi e') fun z e'' => liftO (cutD x y z) e''
  | .get a b c, env => bindR (ev a env) fun x e => bif isDct x then bindR (ev b e) fun y e' => bindR (ev c e') fun z e'' => liftO (getD x y z) e'' else .stuck
  | .meth o a b, env => bindR (ev a env) fun x e => bif recvD o x then bindR (ev b e) fun y e' => liftO (op2 o x y) e' else .stuck
  | .and a b, env => bindR (ev a env) fun x e => bindR (liftO x.truth e) fun k e => bif k then ev b e else .ok x e
  | .or a b, env => bindR (ev a env) fun x e => bindR (liftO x.truth e) fun k e => bif k then .ok x e else ev b e
  | .nt a, env => bindR (ev a env) fun x e => bindR (liftO x.truth e) fun k e => .ok (.bl (!k)) e
  | .ite c a b, env => bindR (ev c env) fun x e => bindR (liftO x.truth e) fun k e => bif k then ev a e else ev b e
  | .chain o p a b c, env => bindR (ev a env) fun x e => bindR (ev b e) fun y e' => bindR (liftO ((op2 o x y).bind isB) e') fun k e' =>
      bif k then bindR (ev c e') fun z e'' => bindR (liftO ((op2 p y z).bind isB) e'') fun k e'' => .ok (.bl k) e'' else .ok (.bl false) e'
  | .call f es, env => bindR (evs es env) fun ds e => bindR (liftO (resolve es ds e) e) fun ds' e => match cf f ds' with
    | .ok d ds'' => .ok d (writeBack es ds'' e)
    | .exc x ds'' => .exc x (writeBack es ds'' e)
    | .stuck => .stuck
  | .callK f _ _ pm es, env => bindR (evs es env) fun ds e => bindR (liftO (permA ds pm) e) fun ds' e => match cf f ds' with
    | .ok d _ => .ok d e
    | .exc x _ => .exc x e
    | .stuck => .stuck
  | .lend _ hs ms a, env => match ev a (wipeE env hs) with
    | .ok d e => bif flat 40 d && flatAt e ms then .ok d (backE e env ms) else .stuck
    | _ => .stuck
  | .lc own t it c e, env => bindR (evIt it env) fun l env1 => compRun own t (evC c) (ev e) l env1
  | .dc own t it c k v, env => bindR (evIt it env) fun l env1 => compRunD own t (evC c) (ev k) (ev v) l env1
  | .pick k _ a, env => bindR (ev a env) fun x e => liftO (pickD k x) e
  | .dead, _ => .stuck
  | .fld c k a, env => bindR (ev a env) fun x e => liftO (fldD c k x) e
  | .fldM i k, env => liftO (fldE i k env) env
  | .mcall c f r as, env => bindR (ev r env) fun x e => bif isRf r || isCls c x then bindR (evs as e) fun ds e => bindR (liftO (resolve (r :: as) (x :: ds) e) e) fun ds' e => callR (r :: as) e (cf f ds') else .stuck
  | .new c f as, env => bindR (evs as env) fun ds e => newR e (cf f (.obj c [] :: ds))
  | .lendL _ hs ms a, env => match ev a (wipeE env hs) with
    | .ok d e => bif flatL d && flatAt e ms then .ok d (backE e env ms) else .stuck
    | _ => .stuck
  | .rev a, env => bindR (ev a env) fun x e => liftO (revD x) e
  | .lock a, env => bindR (ev a env) fun x e => liftO (lockD x) e
  | .addL a b, env => bindR (ev a env) fun x e => bindR (ev b e) fun y e' => liftO (catD x y) e'
  | .ixM i a, env => bif isDctE env i then bindR (ev a env) fun k e => liftO (ixE e i k) e else .stuck
  | .pop i none, env => popE i none env
  | .pop i (some a), env => bif isLst i env then bindR (ev a env) fun x e => popE i (some x) e else .stuck
def evO : Option E → Dv → R (Option Int)
  | none, env => .ok none env
  | some a, env => bindR (ev a env) fun x e => liftO ((isI x).map some) e
def evC : Option E → Dv → R Bool
  | none, env => .ok true env
  | some c, env => bindR (ev c env) fun d e => liftO d.truth e
def evIt : It → Dv → R (List D)
  | .seq a, env => bindR (ev a env) fun x e => liftO (seqStr x) e
  | .rng a, env => bindR (ev a env) fun x e => liftO (rngD x) e
  | .rng2 a b, env => bindR (ev a env) fun x e => bindR (ev b e) fun y e' => liftO (rng2D x y) e'
  | .enm a, env => bindR (ev a env) fun x e => liftO ((seqOf x).map enumL) e
  | .zip a b, env => bindR (ev a env) fun x e => bindR (ev b e) fun y e' => liftO (zipD x y) e'
  | .keys a, env => bindR (ev a env) fun x e => liftO (keysD x) e
  | .items a, env => bindR (ev a env) fun x e => liftO (itemsD x) e
def evs : List E → Dv → R (List D)
  | [], env => .ok [] env
  | a :: es, env => bindR (ev a env) fun d e => bindR (evs es e) fun ds e' => .ok (d :: ds) e'
end
/-! ### statements -/
inductive S where
  | asg (t : Tg) (e : E)
  | asgM (i : Nat) (e : E)
  /-- i, j = e, an owned pair -/
  | asgP (i j : Nat) (e : E)
  | par (is : List Nat) (es : List E)
  | parT (is : List Nat) (es : List E)
  | app (i : Nat) (e : E)
  | ins (i : Nat) (a e : E)
  | setL (i : Nat) (k e : E)
  | setD (i : Nat) (k e : E)
  | sdd (i : Nat) (k l e : E)
  | ex (e : E)
  | ife (c : E) (a b : List S)
  | fr (t : Tg) (it : It) (body : List S)
  | whl (c : E) (body : List S)
  | ret (e : E)
  | brk
  | cnt
  | pass
  | dead
  /-- x.f = e -/
  | setF (i k : Nat) (e : E)
  /-- x.f.append(e) -/
  | appF (i k : Nat) (e : E)
  /-- x.f[j] = e -/
  | setDF (i k : Nat) (j e : E)
  /-- del x.f[j] -/
  | delDF (i k : Nat) (j : E)
  /-- x.f op= e -/
  | augF (i k : Nat) (o : Op2) (e : E)
  /-- x.reverse() -/
  | revL (i : Nat)
  /-- x[1].append(a text), x an owned pair -/
  | appP (i : Nat) (x : Str)
  /-- x[k], x[k + 1] = x[k + 1], x[k] -/
  | swp (i j : Nat)
inductive O where
  | nx (e : Dv)
  | rt (d : D) (e : Dv)
  | bk (e : Dv)
  | ct (e : Dv)
  | exc (x : Exn) (e : Dv)
  | stuck
def bindO {α : Type} (r : R α) (f : α → Dv → O) : O := match r with
  | .ok d e => f d e
  | .exc x e => .exc x e
  | .stuck => .stuck
def nxO (o : Option Dv) : O := match o with
  | some e => .nx e
  | none => .stuck
def thenO (o : O) (f : Dv → O) : O := match o with
  | .nx e => f e
  | o => o
def forLoop (t : Tg) (body : Dv → O) : List D → Dv → O
  | [], env => .nx env
  | d :: ds, env => match bindTg t d env with
    | none => .stuck
    | some env1 => match body env1 with
      | .nx e => forLoop t body ds e
      | .ct e => forLoop t body ds e
      | .bk e => .nx e
      | o => o
def whileLoop (c : Dv → R Bool) (body : Dv → O) : Nat → Dv → O
  | 0, _ => .stuck
  | n + 1, env => match c env with
    | .ok true e => match body e with
      | .nx e => whileLoop c body n e
      | .ct e => whileLoop c body n e
      | .bk e => .nx e
      | o => o
    | .ok false e => .nx e
    | .exc x e => .exc x e
    | .stuck => .stuck
def lstAt (env : Dv) (i : Nat) : Option (List D) := match env[i]? with
  | some (some (.lst l)) => some l
  | _ => none
def dctAt (env : Dv) (i : Nat) : Option (List (Key × D)) := match env[i]? with
  | some (some (.dct l)) => some l
  | _ => none
def appE (env : Dv) (i : Nat) (d : D) : Option Dv := match lstAt env i with
  | some l => if l.length < BIG then some (env.set i (some (.lst (l ++ [d])))) else none
  | none => none
def insE (env : Dv) (i : Nat) (a d : D) : Option Dv := match lstAt env i, a with
  | some l, .int k => if l.length < BIG ∧ 0 ≤ k ∧ k < 2 ^ 63 then some (env.set i (some (.lst (l.take k.toNat ++ [d] ++ l.drop k.toNat)))) else none
  | _, _ => none
def setLE (env : Dv) (i : Nat) (k d : D) : Option Dv := match lstAt env i, k with
  | some l, .int k => (ixN l.length k).map fun j => env.set i (some (.lst (l.set j d)))
  | _, _ => none
def setDE (env : Dv) (i : Nat) (k d : D) : Option Dv := match dctAt env i, keyOf k with
  | some l, some k => if l.length < BIG then some (env.set i (some (.dct (putD l k d)))) else none
  | _, _ => none
/-- x.setdefault(k, {})[l] = d -/
def sddE (env : Dv) (i : Nat) (k l d : D) : Option Dv := match dctAt env i, keyOf k, keyOf l with
  | some m, some k, some l => match (dget m k).getD (.dct []) with
    | .dct n => if m.length < BIG ∧ n.length < BIG then some (env.set i (some (.dct (putD m k (.dct (putD n l d)))))) else none
    | _ => none
  | _, _, _ => none
def objAt (env : Dv) (i : Nat) : Option (Str × List (Option D)) := match env[i]? with
  | some (some (.obj c l)) => some (c, l)
  | _ => none
/-- a field's new value; its old one, if there is -/
def putFE (env : Dv) (i k : Nat) (f : Option D → Option D) : Option Dv := match objAt env i with
  | some (c, l) => (f ((l[k]?).getD none)).map fun d => env.set i (some (.obj c (setP l k d)))
  | none => none
def appV (d : D) : Option D → Option D
  | some (.lst l) => if l.length < BIG then some (.lst (l ++ [d])) else none
  | _ => none
def setV (j d : D) : Option D → Option D
  | some (.dct l) => match keyOf j with
    | some k => if l.length < BIG then some (.dct (putD l k d)) else none
    | none => none
  | _ => none
def dropD {α : Type} (l : List (Key × α)) (k : Key) : List (Key × α) := l.filter fun p => !decide (p.1 = k)
def delV (j : D) : Option D → Option D
  | some (.dct l) => match keyOf j with
    | some k => if (dget l k).isSome then some (.dct (dropD l k)) else none
    | none => none
  | _ => none
def appPV (x : Str) : Option (Option D) → Option D
  | some (some (.tup [a, .lst l])) => if l.length < BIG then some (.tup [a, .lst (l ++ [.str x])]) else none
  | _ => none
/-- the list with the one at k and the next one exchanged -/
def swpL (l : List D) (k : Int) : Option (List D) := match atI l (k + 1), atI l k with
  | some d, some e => (ixN l.length k).bind fun a => (ixN l.length (k + 1)).map fun b => (l.set a d).set b e
  | _, _ => none
def swpE (env : Dv) (i j : Nat) : Option Dv := match lstAt env i, env[j]? with
  | some l, some (some (.int k)) => (swpL l k).map fun m => env.set i (some (.lst m))
  | _, _ => none
variable (wf : Nat)
mutual
def exe : S → Dv → O
  | .asg t e, env => bindO (ev cf e env) fun d env => nxO (bindTg t d env)
  | .asgM i e, env => bindO (ev cf e env) fun d env => .nx (env.set i (some d))
  | .asgP i j e, env => bindO (ev cf e env) fun d env => nxO (pairSet i j d env)
  | .par is es, env => bindO (evs cf es env) fun ds env => .nx (setAll is ds env)
  | .parT is es, env => bindO (evs cf es env) fun ds env => .nx (setAll is ds env)
  | .app i e, env => bif (lstAt env i).isNone then .stuck else bindO (ev cf e env) fun d env => nxO (appE env i d)
  | .ins i a e, env => bif (lstAt env i).isNone then .stuck else bindO (ev cf a env) fun k env => bindO (ev cf e env) fun d env => nxO (insE env i k d)
  | .setL i k e, env => bif (lstAt env i).isNone then .stuck else bindO (ev cf e env) fun d env => bindO (ev cf k env) fun j env => nxO (setLE env i j d)
  | .setD i k e, env => bif (dctAt env i).isNone then .stuck else bindO (ev cf e env) fun d env => bindO (ev cf k env) fun j env => nxO (setDE env i j d)
  | .sdd i k l e, env => bindO (ev cf e env) fun d env => bif (dctAt env i).isNone then .stuck else bindO (ev cf k env) fun a env => bindO (ev cf l env) fun b env => nxO (sddE env i a b d)
  | .ex e, env => bindO (ev cf e env) fun _ env => .nx env
  | .ife c a b, env => bindO (ev cf c env) fun d env => bindO (liftO d.truth env) fun k env => bif k then exs a env else exs b env
  | .fr t it body, env => bindO (evIt cf it env) fun l env => forLoop t (exs body) l env
  | .whl c body, env => whileLoop (evC cf (some c)) (exs body) wf env
  | .ret e, env => bindO (ev cf e env) fun d env => .rt d env
  | .brk, env => .bk env
  | .cnt, env => .ct env
  | .pass, env => .nx env
  | .dead, _ => .stuck
  | .setF i k e, env => bindO (ev cf e env) fun d env => nxO (putFE env i k fun _ => some d)
  | .appF i k e, env => bif (fldE i k env).isNone then .stuck else bindO (ev cf e env) fun d env => nxO (putFE env i k (appV d))
  | .setDF i k j e, env => bindO (ev cf e env) fun d env => bif (fldE i k env).isNone then .stuck else bindO (ev cf j env) fun x env => nxO (putFE env i k (setV x d))
  | .delDF i k j, env => bif (fldE i k env).isNone then .stuck else bindO (ev cf j env) fun x env => nxO (putFE env i k (delV x))
  | .augF i k o e, env => match fldE i k env with
    | some x => bindO (ev cf e env) fun d env => nxO (putFE env i k fun _ => op2 o x d)
    | none => .stuck
  | .revL i, env => match lstAt env i with
    | some l => .nx (env.set i (some (.lst l.reverse)))
    | none => .stuck
  | .appP i x, env => nxO ((appPV x env[i]?).map fun d => env.set i (some d))
  | .swp i j, env => nxO (swpE env i j)
def exs : List S → Dv → O
  | [], env => .nx env
  | s :: r, env => thenO (exe s env) (exs r)
end
end
/-! ### defs -/
structure Def where
  name : Str
  /-- the def's own name in the program -/
  py : Str := name
  /-- keyword-only parameters -/
  kwo : Bool := false
  pars : List Str
  /-- the slots' names, parameters first -/
  names : List Str
  /-- the slots that are changeable, with their shapes -/
  muts : List (Nat × Sh)
  ret : Sh
  body : List S
  /-- a method's class -/
  cls : Option Str := none
def Def.M (f : Def) (i : Nat) : Sh := (f.muts.lookup i).getD .pure
def startE (f : Def) (ds : List D) : Dv := ds.map some ++ List.replicate (f.names.length - ds.length) none
/-- the parameters' data at the end: the changeable ones as they are, the others as handed in -/
def finE (M : Nat → Sh) (env : Dv) : Nat → List D → Option (List D)
  | _, [] => some []
  | i, d :: ds => match finE M env (i + 1) ds with
    | none => none
    | some r => if M i = .pure then some (d :: r) else match env[i]? with
      | some (some d') => some (d' :: r)
      | _ => none
def endO (f : Def) (ds : List D) (o : O) : CR := match o with
  | .nx e => match finE f.M e 0 ds with
    | some ds' => if f.ret = .pure then .ok .non ds' else .stuck
    | none => .stuck
  | .rt d e => match finE f.M e 0 ds with
    | some ds' => .ok d ds'
    | none => .stuck
  | .exc x e => match finE f.M e 0 ds with
    | some ds' => .exc x ds'
    | none => .stuck
  | _ => .stuck
def runDef (cf : Str → List D → CR) (wf : Nat) (f : Def) (ds : List D) : CR := if ds.length = f.pars.length then endO f ds (exs cf wf f.body (startE f ds)) else .stuck
def callN (P : List Def) (wf : Nat) : Nat → Str → List D → CR
  | 0, _, _ => .stuck
  | n + 1, f, ds => match P.find? fun g => g.name == f with
    | some g => runDef (callN P wf n) wf g ds
    | none => .stuck
end Pv
set_option Elab.async false
set_option linter.all false
set_option maxRecDepth 100000
set_option maxHeartbeats 4000000
namespace Pv
open PySem PySem.Spec PyProof.Rows L2
structure Ctx where
  K : PySem.W.Frag
  M : Nat → Sh
  H0 : Hp
  F0 : Hp
  A0 : List Addr
  /-- slots that stay as they are -/
  P : Nat → Option V
/-- the plain slots env stand in the slots σ and the heap H; F: what is frozen; As: what each changeable slot owns -/
structure Rel (c : Ctx) (As : Nat → List Addr) (F : Hp) (env : Dv) (σ : L2.St) (H : Hp) : Prop where
  val : ∀ i d, env[i]? = some (some d) → ∃ v, σ[i]? = some (some v) ∧ Own c.K F H (c.M i) v d (As i)
  off : ∀ i d, env[i]? = some (some d) → ∀ a ∈ As i, F a = none
  nw : ∀ i d, env[i]? = some (some d) → ∀ a ∈ As i, c.H0 a = none ∨ a ∈ c.A0
  dis : ∀ i j d e, i ≠ j → env[i]? = some (some d) → env[j]? = some (some e) → ∀ a ∈ As i, a ∉ As j
  sub : Sub F H
  old : Sub c.F0 F
  frame : ∀ a o, c.H0 a = some o → a ∉ c.A0 → H a = some o
  newF : ∀ a o, F a = some o → c.F0 a = some o ∨ c.H0 a = none ∨ a ∈ c.A0
  len : env.length = σ.length
  fix : ∀ i v, c.P i = some v → σ[i]? = some (some v)
/-- new objects alone -/
structure Grow (F H F' H' : Hp) : Prop where
  h : Sub H H'
  f : Sub F F'
  s : Sub F' H'
  n : ∀ a o, F' a = some o → F a = some o ∨ H a = none
theorem Grow.refl {F H : Hp} (s : Sub F H) : Grow F H F H := ⟨Sub.refl _, Sub.refl _, s, fun _ _ h => .inl h⟩
theorem Grow.new {F H : Hp} {p : Addr} {o : HO} (s : Sub F H) (hp : H p = none) : Grow F H (upd F p o) (upd H p o) := by
  have fp : F p = none := s.back hp
  refine ⟨Sub.new hp, Sub.new fp, fun a u e => ?_, fun a u e => ?_⟩
  · by_cases q : a = p
    · subst q; rw [upd_same] at e ⊢; exact e
    · rw [upd_ne q] at e ⊢; exact s a u e
  · by_cases q : a = p
    · subst q; exact .inr hp
    · rw [upd_ne q] at e; exact .inl e
/-- new, but not frozen -/
theorem Grow.lay {F H : Hp} {p : Addr} {o : HO} (s : Sub F H) (hp : H p = none) : Grow F H F (upd H p o) :=
  ⟨Sub.new hp, Sub.refl _, s.trans (Sub.new hp), fun _ _ e => .inl e⟩
section
variable {c : Ctx} {As : Nat → List Addr} {F H F' H' : Hp} {env : Dv} {σ : L2.St}
theorem Rel.grow (r : Rel c As F env σ H) (g : Grow F H F' H') : Rel c As F' env σ H' := by
  refine ⟨fun i d e => ?_, fun i d e a ha => ?_, r.nw, r.dis, g.s, r.old.trans g.f, fun a o h1 h2 => g.h _ _ (r.frame a o h1 h2), fun a o h => ?_, r.len, r.fix⟩
  · obtain ⟨v, h1, h2⟩ := r.val i d e
    exact ⟨v, h1, h2.mono g.f fun a _ o q => g.h a o q⟩
  · cases q : F' a with
    | none => rfl
    | some o =>
      obtain ⟨v, h1, h2⟩ := r.val i d e
      obtain ⟨u, hu, _⟩ := h2.there a ha
      rcases g.n a o q with z | z
      · rw [r.off i d e a ha] at z; cases z
      · rw [hu] at z; cases z
  · rcases g.n a o h with z | z
    · exact r.newF a o z
    · right
      by_cases q : a ∈ c.A0
      · exact .inr q
      · cases w : c.H0 a with
        | none => exact .inl rfl
        | some u => rw [r.frame a u w q] at z; cases z
/-- from here on anew -/
def Ctx.re (c : Ctx) (As : Nat → List Addr) (F H : Hp) (env : Dv) : Ctx := { c with H0 := H, F0 := F, A0 := owned As env }
theorem Rel.re (r : Rel c As F env σ H) : Rel (c.re As F H env) As F env σ H :=
  ⟨r.val, r.off, fun i d e a ha => .inr (mem_owned.mpr ⟨i, d, e, ha⟩), r.dis, r.sub, Sub.refl _, fun _ _ h _ => h, fun _ _ h => .inl h, r.len, r.fix⟩
theorem Rel.h0 (r : Rel c As F env σ H) {a : Addr} (h : H a = none) : c.H0 a = none ∨ a ∈ c.A0 := by
  by_cases q : a ∈ c.A0
  · exact .inr q
  · cases w : c.H0 a with
    | none => exact .inl rfl
    | some u => rw [r.frame a u w q] at h; cases h
theorem Rel.own0 (r : Rel c As F env σ H) {a : Addr} (h : a ∈ owned As env) : c.H0 a = none ∨ a ∈ c.A0 := by
  obtain ⟨i, d, e, ha⟩ := mem_owned.mp h
  exact r.nw i d e a ha
theorem Rel.un {As' : Nat → List Addr} {env' : Dv} {σ' : L2.St} (r : Rel c As F env σ H) (r' : Rel (c.re As F H env) As' F' env' σ' H') : Rel c As' F' env' σ' H' := by
  refine ⟨r'.val, r'.off, fun i d e a ha => ?_, r'.dis, r'.sub, r.old.trans r'.old, fun a o h1 h2 => ?_, fun a o h => ?_, r'.len, r'.fix⟩
  · rcases r'.nw i d e a ha with z | z
    · exact r.h0 z
    · exact r.own0 z
  · refine r'.frame a o (r.frame a o h1 h2) fun z => ?_
    rcases r.own0 z with q | q
    · rw [h1] at q; cases q
    · exact h2 q
  · rcases r'.newF a o h with z | z | z
    · exact r.newF a o z
    · exact .inr (r.h0 z)
    · exact .inr (r.own0 z)
/-- what stands aside stays aside -/
structure Aside (F H : Hp) (As : Nat → List Addr) (env : Dv) (A : List Addr) : Prop where
  here : ∀ a ∈ A, ∃ o, H a = some o
  off : ∀ a ∈ A, F a = none
  apart : ∀ a ∈ A, a ∉ owned As env
theorem Aside.nil : Aside F H As env [] := ⟨by simp, by simp, by simp⟩
theorem Aside.keep {As' : Nat → List Addr} {env' : Dv} {σ' : L2.St} {A : List Addr} (s : Aside F H As env A) (r' : Rel (c.re As F H env) As' F' env' σ' H') :
    Aside F' H' As' env' A ∧ ∀ a ∈ A, ∀ o, H a = some o → H' a = some o := by
  have k : ∀ a ∈ A, ∀ o, H a = some o → H' a = some o := fun a ha o e => r'.frame a o e (s.apart a ha)
  refine ⟨⟨fun a ha => ?_, fun a ha => ?_, fun a ha z => ?_⟩, k⟩
  · obtain ⟨o, e⟩ := s.here a ha
    exact ⟨o, k a ha o e⟩
  · cases q : F' a with
    | none => rfl
    | some o =>
      obtain ⟨u, hu⟩ := s.here a ha
      rcases r'.newF a o q with z | z | z
      · have z : F a = some o := z
        rw [s.off a ha] at z; cases z
      · have z : H a = none := z
        rw [hu] at z; cases z
      · exact absurd z (s.apart a ha)
  · obtain ⟨i, d, e, h⟩ := mem_owned.mp z
    obtain ⟨u, hu⟩ := s.here a ha
    rcases r'.nw i d e a h with w | w
    · have w : H a = none := w
      rw [hu] at w; cases w
    · exact s.apart a ha w
end
/-! ### what is fixed in a proof -/
structure Z where
  K : PySem.W.Frag
  cf : Str → List D → CR
  wf : Nat
  /-- an exception by its class, its own dict -/
  XR : Exn → Value → Option Addr → Hp → Hp → Prop
/-- an owned value that is new or was ours -/
structure New (c : Ctx) (F H : Hp) (As : Nat → List Addr) (env : Dv) (A : List Addr) : Prop where
  side : Aside F H As env A
  nw : ∀ a ∈ A, c.H0 a = none ∨ a ∈ c.A0
/-- the result is wanted: a value of the shape -/
def okE (z : Z) (W : WX) (c : Ctx) (sh : Sh) (F : Hp) (σ : L2.St) (r : R D) (Q : VK) : Prop := match r with
  | .ok d env' => ∀ v H' F' As' A, Rel c As' F' env' σ H' → Sub F F' → Own c.K F' H' sh v d A → New c F' H' As' env' A → Q v H'
  | .exc x env' => ∀ cl da H' F' As', Rel c As' F' env' σ H' → Sub F F' → z.XR x cl da F' H' → W cl da σ H'
  | .stuck => False
def tF (z : Z) (M : Nat → Sh) (W : WX) (sh : Sh) (f : Dv → R D) : TE := fun σ H Q => ∃ c As F env, c.K = z.K ∧ c.M = M ∧ Rel c As F env σ H ∧ okE z W c sh F σ (f env) Q
section
variable {z : Z} {W : WX} {c : Ctx} {sh : Sh} {F F1 : Hp} {σ : L2.St} {Q : VK}
theorem okE.mono {r : R D} (h : okE z W c sh F σ r Q) (s : Sub F F1) : okE z W c sh F1 σ r Q := by
  cases r with
  | ok d e => exact fun v H' F' As' A r s' o n => h v H' F' As' A r (s.trans s') o n
  | exc x e => exact fun cl da H' F' As' r s' q => h cl da H' F' As' r (s.trans s') q
  | stuck => exact h
theorem okE.imp {r : R D} {Q' : VK} (h : okE z W c sh F σ r Q) (k : ∀ v H, Q v H → Q' v H) : okE z W c sh F σ r Q' := by
  cases r with
  | ok d e => exact fun v H' F' As' A r s' o n => k _ _ (h v H' F' As' A r s' o n)
  | exc x e => exact h
  | stuck => exact h
/-- one behind the other -/
theorem okE.bind {r : R D} {f : D → Dv → R D} (h : okE z W c sh F σ (bindR r f) Q) :
    okE z W c .pure F σ r (fun v H1 => ∃ d e F1 As1, r = .ok d e ∧ Rel c As1 F1 e σ H1 ∧ Sub F F1 ∧ Rep c.K F1 v d ∧ okE z W c sh F1 σ (f d e) Q) := by
  cases r with
  | ok d e => exact fun v H' F' As' A r s' o n => ⟨d, e, F', As', rfl, r, s', o.2, okE.mono h s'⟩
  | exc x e => exact h
  | stuck => exact h
theorem New.nil {H : Hp} {As : Nat → List Addr} {env : Dv} : New c F H As env [] := ⟨Aside.nil, by simp⟩
theorem okE.ret {d : D} {env : Dv} {As : Nat → List Addr} {H : Hp} {v : V} (h : okE z W c .pure F σ (.ok d env) Q) (r : Rel c As F1 env σ H) (s : Sub F F1) (q : Rep c.K F1 v d) : Q v H :=
  h v H F1 As [] r s ⟨rfl, q⟩ New.nil
/-- what is new may be frozen -/
theorem freeze {H : Hp} {As : Nat → List Addr} {env : Dv} {v : V} {d : D} {A : List Addr} (r : Rel c As F env σ H) (o : Own c.K F H sh v d A) (n : New c F H As env A) :
    ∃ F', Rel c As F' env σ H ∧ Sub F F' ∧ Rep c.K F' v d := by
  refine ⟨fun a => if a ∈ A then H a else F a, ⟨fun i d e => ?_, fun i d e a ha => ?_, r.nw, r.dis, fun a u e => ?_, fun a u e => ?_, r.frame, fun a u e => ?_, r.len, r.fix⟩, fun a u e => ?_, ?_⟩
  · obtain ⟨w, h1, h2⟩ := r.val i d e
    refine ⟨w, h1, h2.mono (fun a u e => ?_) fun _ _ _ q => q⟩
    show (if a ∈ A then H a else F a) = some u
    by_cases q : a ∈ A
    · rw [n.side.off a q] at e; cases e
    · rw [if_neg q]; exact e
  · show (if a ∈ A then H a else F a) = none
    rw [if_neg fun q => n.side.apart a q (mem_owned.mpr ⟨i, d, e, ha⟩)]
    exact r.off i d e a ha
  · have e : (if a ∈ A then H a else F a) = some u := e
    by_cases q : a ∈ A
    · rw [if_pos q] at e; exact e
    · rw [if_neg q] at e; exact r.sub a u e
  · show (if a ∈ A then H a else F a) = some u
    have e' := r.old a u e
    rw [if_neg fun q => by rw [n.side.off a q] at e'; cases e']
    exact e'
  · have e : (if a ∈ A then H a else F a) = some u := e
    by_cases q : a ∈ A
    · exact .inr (n.nw a q)
    · rw [if_neg q] at e; exact r.newF a u e
  · show (if a ∈ A then H a else F a) = some u
    rw [if_neg fun q => by rw [n.side.off a q] at e; cases e]
    exact e
  · refine o.rep (fun a u e => ?_) fun a ha u e => ?_
    · show (if a ∈ A then H a else F a) = some u
      rw [if_neg fun q => by rw [n.side.off a q] at e; cases e]
      exact e
    · show (if a ∈ A then H a else F a) = some u
      rw [if_pos ha]; exact e
theorem okE.frz {r : R D} (h : okE z W c .pure F σ r Q) : okE z W c sh F σ r Q := by
  cases r with
  | ok d e =>
    intro v H' F' As' A r s' o n
    obtain ⟨F2, r2, s2, q2⟩ := freeze r o n
    exact h v H' F2 As' [] r2 (s'.trans s2) ⟨rfl, q2⟩ New.nil
  | exc x e => exact h
  | stuck => exact h
end
section
variable {X : Cx} {e : Expr} {t t' : TE}
theorem PE.imp (h : PE X e t) (k : ∀ σ H Q, t' σ H Q → t σ H Q) : PE X e t' := ⟨fun pins s σ H Q I q => h.run pins s σ H Q I (k σ H Q q)⟩
theorem PE.or (h : PE X e t) (h' : PE X e t') : PE X e (fun σ H Q => t σ H Q ∨ t' σ H Q) := ⟨fun pins s σ H Q I q => q.elim (h.run pins s σ H Q I) (h'.run pins s σ H Q I)⟩
theorem PE.frz {z : Z} {M : Nat → Sh} {W : WX} {sh : Sh} {f : Dv → R D} (h : PE X e (tF z M W sh f)) : PE X e (tF z M W .pure f) :=
  PE.imp h fun σ H Q ⟨c, As, F, env, h1, h2, h3, h4⟩ => ⟨c, As, F, env, h1, h2, h3, h4.frz⟩
end
end Pv
set_option Elab.async false
set_option linter.all false
set_option maxRecDepth 100000
set_option maxHeartbeats 4000000
namespace Pv
open PySem PySem.Spec PyProof.Rows L2
/-- what an operation on values is asked, by the data -/
def rP1 (K : PySem.W.Frag) (o : Op1) : V → Hp → VK → Prop := fun x H Q => ∃ F d g, Sub F H ∧ Rep K F x d ∧ op1 o d = some g ∧ ∀ v H' F', Grow F H F' H' → Rep K F' v g → Q v H'
def rP2 (K : PySem.W.Frag) (o : Op2) : R2 := fun x y H Q => ∃ F d e g, Sub F H ∧ Rep K F x d ∧ Rep K F y e ∧ op2 o d e = some g ∧ ∀ v H' F', Grow F H F' H' → Rep K F' v g → Q v H'
/-- a new list is handed back -/
def rF1 (K : PySem.W.Frag) (o : Op1) : V → Hp → VK → Prop := fun x H Q => ∃ F d g, Sub F H ∧ Rep K F x d ∧ op1 o d = some g ∧ ∀ p H' vs ds, g = .lst ds → Grow F H F H' → H p = none → H' p = some (.lst vs) → vs.length ≤ sizeLine → Paired (Rep K F) vs ds → Q (.ref p) H'
theorem big_size {n : Nat} (h : n ≤ BIG) : n ≤ sizeLine := Nat.le_trans h (by decide)
theorem big_lt {n : Nat} (h : n < BIG) : n < sizeLine := Nat.lt_of_lt_of_le h (by decide)
theorem OpR.imp {X : Cx} {f : Value → Value → Sem Value} {r r' : R2} (h : OpR X f r) (k : ∀ x y H Q, r' x y H Q → r x y H Q) : OpR X f r' :=
  fun pins s σ H x y v u Q I rx ry q => h pins s σ H x y v u Q I rx ry (k _ _ _ _ q)
theorem strOk_app {a b : Str} (ha : PyData.strOk a = true) (hb : PyData.strOk b = true) : PyData.strOk (a ++ b) = true := by
  have e : (a ++ b).cps = a.cps ++ b.cps := rfl
  unfold PyData.strOk at *
  rw [e, Array.all_append, ha, hb]
  rfl
theorem str_len_app (a b : Str) : (a ++ b).length = a.length + b.length := by
  show (a.cps ++ b.cps).size = _
  rw [Array.size_append]
  rfl
section
variable {X : Cx} {F H : Hp} {K : PySem.W.Frag} {v : V} {d : D}
/-- a new tuple, a new list, frozen -/
theorem grow_tup {p : Addr} {ob : Obj} {vs : List V} {ds : List D} (s : Sub F H) (hp : H p = none) (hd : ob.dict = none) (hz : vs.length ≤ sizeLine) (r : Paired (Rep K F) vs ds) :
    Grow F H (upd F p (.frz ob (.tup vs))) (upd H p (.frz ob (.tup vs))) ∧ Rep K (upd F p (.frz ob (.tup vs))) (.ref p) (.tup ds) :=
  ⟨Grow.new s hp, Rep.tupI (.inl ⟨ob, upd_same, hd⟩) hz ((Sub.new (s.back hp)).reps r)⟩
theorem grow_lst {p : Addr} {vs : List V} {ds : List D} (s : Sub F H) (hp : H p = none) (hz : vs.length ≤ sizeLine) (r : Paired (Rep K F) vs ds) : Grow F H (upd F p (.lst vs)) (upd H p (.lst vs)) ∧ Rep K (upd F p (.lst vs)) (.ref p) (.lst ds) :=
  ⟨Grow.new s hp, Rep.lstI upd_same hz ((Sub.new (s.back hp)).reps r)⟩
theorem Rep.sub_st {K : PySem.W.Frag} {F H : Hp} {a : Addr} {vs : List V} (s : Sub F H) (h : TupAt K F a vs) : SqT K H a vs := ((SubR.of s).st h).sq
/-- a new tuple stands, and what it is -/
theorem tup_new {pins : List (Addr × Obj)} {σ : L2.St} {s : Shared} {us : List Value} {vs : List V} {t' : Nat} (I : Inv X pins σ H s) (r : Vals vs us) (z : vs.length ≤ sizeLine) :
    Inv X pins σ (upd H s.heap.objs.size (.frz { cls := .type "tuple", data := .seq us.toArray } (.tup vs))) { s with heap := s.heap.push { cls := .type "tuple", data := .seq us.toArray }, toks := t' } :=
  I.laid (fun _ _ q => Heap.get?_push_of_some _ q) (Nat.le_refl _) ⟨Heap.get?_push_size _ rfl, z, us, r, IsTup.new _ _⟩
/-- (e, ..): the new tuple's object has no dict -/
theorem pe_tupG {es : List Expr} {t : TA} {x1} {pos : Pos} (h : L2.PA X es t) : PE X (.Tuple es x1 pos) (fun σ H Q => t σ H fun xs H1 => xs.length ≤ sizeLine ∧ ∀ p ob, ob.dict = none → H1 p = none → Q (.ref p) (upd H1 p (.frz ob (.tup xs)))) := by
  refine ⟨fun pins s σ H Q I hq => ?_⟩
  refine wpAny_Tuple_spliced (thn (h.run pos pins s σ H _ I hq) fun us s1 w => ?_)
  obtain ⟨xs, H1, I1, r, z, q⟩ := w
  exact ⟨by rw [← r.length]; exact z, ⟨.ref _, _, tup_new (t' := s1.toks) I1 r z, rfl, q _ _ rfl (I1.hok.fresh (Nat.le_refl _))⟩⟩
/-- t + u -/
theorem op_catG : OpR X (binaryOp .Add) (fun x y H Q => ∃ a b xs ys, x = .ref a ∧ y = .ref b ∧ SqT X.K H a xs ∧ SqT X.K H b ys ∧ xs.length + ys.length ≤ sizeLine ∧ (xs = [] → Q (.ref b) H) ∧ (xs ≠ [] → ys = [] → Q (.ref a) H) ∧
    (xs ≠ [] → ys ≠ [] → ∀ p ob, ob.dict = none → H p = none → Q (.ref p) (upd H p (.frz ob (.tup (xs ++ ys)))))) := by
  intro pins s σ H x y v u Q I rx ry w
  obtain ⟨a, b, xs, ys, rfl, rfl, ha, hb, hz, q0, q1, q2⟩ := w
  obtain ⟨its, r1, p1, _⟩ := I.tuple ha
  obtain ⟨its2, r2, p2, _⟩ := I.tuple hb
  cases rx
  cases ry
  by_cases hx : xs = []
  · subst hx
    cases r1
    exact cat_tup0 p1 p2 ⟨.ref b, H, I, rfl, q0 rfl⟩
  · refine HT.cat_tup p1 p2 (fun z => hx (r1.nil_iff.mp z)) (fun z => ⟨.ref _, H, I, rfl, q1 hx (r2.nil_iff.mp z)⟩) (fun z => ?_) (by rw [← r1.length, ← r2.length]; exact hz)
    exact ⟨.ref _, _, tup_new (t' := s.toks) I (r1.append r2) (by rw [List.length_append]; exact hz), rfl, q2 hx (fun w => z (r2.nil_iff.mpr w)) _ _ rfl (I.hok.fresh (Nat.le_refl _))⟩
/-- t[lo:hi] -/
theorem sl_tupG : SlR X (fun x lo hi H Q => ∃ a xs, x = .ref a ∧ SqT X.K H a xs ∧ (HT.sIx xs.length 0 lo = 0 ∧ HT.sIx xs.length xs.length hi = xs.length → Q (.ref a) H) ∧
    (¬ (HT.sIx xs.length 0 lo = 0 ∧ HT.sIx xs.length xs.length hi = xs.length) → ∀ p ob, ob.dict = none → H p = none → Q (.ref p) (upd H p (.frz ob (.tup (cutV xs lo hi)))))) := by
  intro pins s σ H x v vl vu lo hi sl Q I rx hs pl pu w
  obtain ⟨a, xs, rfl, hx, q1, q2⟩ := w
  obtain ⟨its, r, ht, hz⟩ := I.tuple hx
  cases rx
  have hlen : its.toArray.size = xs.length := by rw [List.size_toArray, r.length]
  refine ⟨"tuple", _, PyProof.Rows.slot_tuple_getitem.lookup, ht.typeIs, ?_⟩
  by_cases hw : HT.sIx xs.length 0 lo = 0 ∧ HT.sIx xs.length xs.length hi = xs.length
  · exact getItem_tuple_whole ht hs pl pu (by rw [hlen]; exact hw) ⟨.ref _, H, I, rfl, q1 hw⟩
  · refine HT.getItem_tuple_cut ht hs pl pu (by rw [hlen]; exact hw) ?_ (by rw [hlen]; exact hz)
    rw [hlen]
    exact ⟨.ref _, _, tup_new (t' := s.toks) I ((r.drop (HT.sIx xs.length 0 lo)).take (HT.sIx xs.length xs.length hi - HT.sIx xs.length 0 lo)) (Nat.le_trans (cutV_length xs lo hi) hz), rfl, q2 hw _ _ rfl (I.hok.fresh (Nat.le_refl _))⟩
/-- tuple(xs) -/
theorem call_tupG : CallR X (.type "tuple") (fun xs H Q => ∃ p ys, xs = [.ref p] ∧ ((SqL X.K H p ys ∧ ∀ l ob, ob.dict = none → H l = none → Q (.ref l) (upd H l (.frz ob (.tup ys)))) ∨ (SqT X.K H p ys ∧ Q (.ref p) H))) := by
  intro pins s σ H xs us Q I r w
  obtain ⟨p, ys, rfl, w⟩ := w
  obtain ⟨u, rfl, rx⟩ := vals1 r
  cases rx
  rcases w with ⟨hq, q⟩ | ⟨hq, q⟩
  · obtain ⟨its, r', pl, hz⟩ := I.list hq
    have hlen := r'.length
    refine call_tuple_list pl.isList (fun h' kp => ?_) (by simp only [List.size_toArray] <;> omega)
    have I1 : Inv X pins σ H { s with heap := h' } := I.kept (t' := s.toks) kp
    exact ⟨.ref _, _, tup_new (t' := s.toks) I1 r' hz, rfl, q _ _ rfl (I1.hok.fresh (Nat.le_refl _))⟩
  · obtain ⟨its, r', pl, hz⟩ := I.tuple hq
    exact call_tuple_same pl ⟨.ref _, H, I, rfl, q⟩
theorem p2_add : OpR X (binaryOp .Add) (rP2 X.K .add) := by
  refine OpR.imp (OpR.or op_add (OpR.or op_add_str (OpR.or op_catG op_cat))) fun x y H Q h => ?_
  obtain ⟨F, d, e, g, sf, hx, hy, ho, q⟩ := h
  unfold op2 addD at ho
  simp only [] at ho
  split at ho
  · obtain rfl := hx.intE; obtain rfl := hy.intE; cases ho
    exact .inl ⟨_, _, rfl, rfl, q _ _ _ (Grow.refl sf) (.int _)⟩
  · obtain ⟨rfl, l1, o1⟩ := hx.strE; obtain ⟨rfl, l2, o2⟩ := hy.strE
    split at ho
    · rename_i hz
      cases ho
      exact .inr (.inl ⟨_, _, rfl, rfl, big_size hz, q _ _ _ (Grow.refl sf) (.str _ (by rw [str_len_app]; exact big_size hz) (strOk_app o1 o2))⟩)
    · cases ho
  · obtain ⟨a, vs, rfl, h1, z1, p1⟩ := hx.tupE
    obtain ⟨b, ws, rfl, h2, z2, p2⟩ := hy.tupE
    have l1 := paired_len p1
    have l2 := paired_len p2
    split at ho
    · rename_i hz
      cases ho
      have hz' := big_size hz
      refine .inr (.inr (.inl ⟨a, b, vs, ws, rfl, rfl, Rep.sub_st sf h1, Rep.sub_st sf h2, by omega, fun e => ?_, fun _ e => ?_, fun _ _ p ob hd hp => ?_⟩))
      · subst e; cases p1; exact q _ _ _ (Grow.refl sf) hy
      · subst e; cases p2
        rw [List.append_nil] at q
        exact q _ _ _ (Grow.refl sf) hx
      · have g := grow_tup (K := X.K) sf hp hd (vs := vs ++ ws) (by rw [List.length_append]; omega) (paired_append p1 p2)
        exact q _ _ _ g.1 g.2
    · cases ho
  · obtain ⟨a, vs, rfl, h1, z1, p1⟩ := hx.lstE
    obtain ⟨b, ws, rfl, h2, z2, p2⟩ := hy.lstE
    have l1 := paired_len p1
    have l2 := paired_len p2
    split at ho
    · rename_i hz
      cases ho
      have hz' := big_size hz
      refine .inr (.inr (.inr ⟨a, b, vs, ws, rfl, rfl, sf _ _ h1, sf _ _ h2, by omega, fun p hp => ?_⟩))
      have g := grow_lst (K := X.K) sf hp (vs := vs ++ ws) (by rw [List.length_append]; omega) (paired_append p1 p2)
      exact q _ _ _ g.1 g.2
    · cases ho
  · cases ho
theorem p2_sub : OpR X (binaryOp .Sub) (rP2 X.K .sub) := by
  refine OpR.imp op_sub fun x y H Q h => ?_
  obtain ⟨F, d, e, g, sf, hx, hy, ho, q⟩ := h
  unfold op2 subD at ho
  simp only [] at ho
  split at ho
  · obtain rfl := hx.intE; obtain rfl := hy.intE; cases ho
    exact ⟨_, _, rfl, rfl, q _ _ _ (Grow.refl sf) (.int _)⟩
  · cases ho
theorem tuple_mul1 (l : Addr) (items : Array Value) (n : Nat) (dd : Option Addr) (sl : Array (Option Value)) (u : Tok) :
    Meets (Builtin.«tuple.__mul__» ⟨[.ref l, .int 1 u], []⟩) (fun _ R s => s.heap.get? l = some { cls := .type "tuple", dict := dd, data := .seq items n, slots := sl } ∧ R (.ok (.ret (Value.ref l))) s) :=
  .of_wp fun prog w A R s h => by
    obtain ⟨hp, g, d, tk, os⟩ := s
    obtain ⟨hl, h⟩ := h
    have f1 := AutoSeq1.idx_int
    wp_walk using wpAny_loadPart' hl
    exact ⟨_, rfl, h⟩
theorem tuple_mul0 (l : Addr) (items : Array Value) (n : Nat) (dd : Option Addr) (sl : Array (Option Value)) (u : Tok) (c : items.isEmpty = false) :
    Meets (Builtin.«tuple.__mul__» ⟨[.ref l, .int 0 u], []⟩) (fun _ R s => s.heap.get? l = some { cls := .type "tuple", dict := dd, data := .seq items n, slots := sl } ∧
      R (.ok (.ret (Value.ref s.heap.objs.size))) { s with heap := s.heap.push { cls := Value.type "tuple", data := Data.seq #[] }, toks := s.toks }) :=
  .of_wp fun prog w A R s h => by
    obtain ⟨hp, g, d, tk, os⟩ := s
    obtain ⟨hl, h⟩ := h
    have f1 := AutoSeq1.idx_int
    wp_walk using wpAny_loadPart' hl
    exact ⟨_, rfl, h⟩
/-- a tuple by 1, by 0 -/
theorem op_repG : OpR X (binaryOp .Mult) (fun x y H Q => ∃ l k xs, x = .ref l ∧ y = .int k ∧ SqT X.K H l xs ∧ xs ≠ [] ∧ ((k = 1 ∧ Q (.ref l) H) ∨ (k = 0 ∧ ∀ p ob, ob.dict = none → H p = none → Q (.ref p) (upd H p (.frz ob (.tup [])))))) := by
  intro pins s σ H x y v u Q I rx ry h
  obtain ⟨l, k, xs, rfl, rfl, hT, hne, h⟩ := h
  cases rx
  obtain ⟨t, rfl⟩ := ry
  obtain ⟨its, r, ⟨⟨cls, dd, data, sl⟩, ho, hc, n, hd⟩, hs⟩ := I.tuple hT
  simp only at hc hd
  subst hc hd
  have hi : its.toArray.isEmpty = false := by
    cases its with
    | nil => exact absurd (r.nil_iff.mp rfl) hne
    | cons a b => rfl
  rcases h with ⟨rfl, q⟩ | ⟨rfl, q⟩
  · exact wpAny_binaryOp_repeat_ref (T := "tuple") (U := "int") (by decide) ⟨_, ho, rfl⟩ (fun s' => typeIs_int s' 1 t) noFill_tuple_mul F.fills_int_mul F.slot_int_rmul repeat_tuple F.slot_int_index.lookup
      (call_meets F.slot_int_rmul (typeIs_int s 1 t) F.entry_int_rmul (F.args_int_rmul_2 _ _) (int_rmul_tuple 1 t l its.toArray n dd sl)
        ⟨ho, rfl, ⟨_, ho, rfl⟩, call_meets F.slot_tuple_mul ⟨_, ho, rfl⟩ F.entry_tuple_mul (F.args_tuple_mul_2 _ _) (tuple_mul1 l its.toArray n dd sl t) ⟨ho, ⟨.ref l, H, I, rfl, q⟩⟩⟩)
  · exact wpAny_binaryOp_repeat_ref (T := "tuple") (U := "int") (by decide) ⟨_, ho, rfl⟩ (fun s' => typeIs_int s' 0 t) noFill_tuple_mul F.fills_int_mul F.slot_int_rmul repeat_tuple F.slot_int_index.lookup
      (call_meets F.slot_int_rmul (typeIs_int s 0 t) F.entry_int_rmul (F.args_int_rmul_2 _ _) (int_rmul_tuple 0 t l its.toArray n dd sl)
        ⟨ho, rfl, ⟨_, ho, rfl⟩, call_meets F.slot_tuple_mul ⟨_, ho, rfl⟩ F.entry_tuple_mul (F.args_tuple_mul_2 _ _) (tuple_mul0 l its.toArray n dd sl t hi) ⟨ho, ⟨.ref _, _, tup_new (us := []) (vs := []) (t' := s.toks) I .nil (Nat.zero_le _), rfl, q _ _ rfl (I.hok.fresh (Nat.le_refl _))⟩⟩⟩)
theorem p2_mul : OpR X (binaryOp .Mult) (rP2 X.K .mul) := by
  refine OpR.imp (OpR.or (OpR.or op_mul op_rep) op_repG) fun x y H Q h => ?_
  obtain ⟨F, d, e, g, sf, hx, hy, ho, q⟩ := h
  unfold op2 mulD at ho
  simp only [] at ho
  split at ho
  · obtain rfl := hx.intE; obtain rfl := hy.intE
    split at ho
    · rename_i hz; cases ho
      exact .inl (.inl ⟨_, _, rfl, rfl, hz, q _ _ _ (Grow.refl sf) (.int _)⟩)
    · cases ho
  · obtain ⟨a, vs, rfl, h1, z1, p1⟩ := hx.lstE
    obtain rfl := hy.intE
    split at ho
    · rename_i hz; cases ho
      obtain ⟨k0, k1, k2⟩ := hz
      have l1 := paired_len p1
      rename_i l k
      have hk : k.toNat ≤ 1000 := by omega
      have hm : vs.length * k.toNat ≤ 1000 * 1000 := Nat.mul_le_mul (by omega) hk
      have hzz : vs.length * k.toNat ≤ sizeLine := Nat.le_trans hm (by decide)
      refine .inl (.inr ⟨a, k, vs, rfl, rfl, sf _ _ h1, by omega, by omega, hzz, fun p hp => ?_⟩)
      have pr : ∀ n : Nat, Paired (Rep X.K F) (List.replicate n vs).flatten (List.replicate n l).flatten := fun n => by
        induction n with
        | zero => exact .nil
        | succ n ih => simp only [List.replicate_succ, List.flatten_cons]; exact paired_append p1 ih
      have hlen : (List.replicate k.toNat vs).flatten.length ≤ sizeLine := by
        rw [List.length_flatten, List.map_replicate, List.sum_replicate_nat, Nat.mul_comm]
        exact hzz
      have g := grow_lst (K := X.K) sf hp hlen (pr k.toNat)
      exact q _ _ _ g.1 g.2
    · cases ho
  · obtain ⟨a, vs, rfl, h1, z1, p1⟩ := hx.tupE
    obtain rfl := hy.intE
    have hne : vs ≠ [] := fun e => by
      subst e
      have := paired_len p1
      simp at this
    split at ho
    · rename_i hk; cases ho
      refine .inr ⟨a, _, vs, rfl, rfl, Rep.sub_st sf h1, hne, .inr ⟨hk, fun p ob hd hp => ?_⟩⟩
      have g := grow_tup (K := X.K) (vs := []) (ds := []) sf hp hd (Nat.zero_le _) .nil
      exact q _ _ _ g.1 g.2
    · split at ho
      · rename_i hk; cases ho
        exact .inr ⟨a, _, vs, rfl, rfl, Rep.sub_st sf h1, hne, .inl ⟨hk, q _ _ _ (Grow.refl sf) hx⟩⟩
      · cases ho
  · cases ho
theorem p2_fdiv : OpR X (binaryOp .FloorDiv) (rP2 X.K .fdiv) := by
  refine OpR.imp op_fdiv fun x y H Q h => ?_
  obtain ⟨F, d, e, g, sf, hx, hy, ho, q⟩ := h
  unfold op2 fdivD at ho
  simp only [] at ho
  split at ho
  · obtain rfl := hx.intE; obtain rfl := hy.intE
    split at ho
    · rename_i hz; cases ho
      exact ⟨_, _, rfl, rfl, hz, q _ _ _ (Grow.refl sf) (.int _)⟩
    · cases ho
  · cases ho
theorem p2_mod : OpR X (binaryOp .Mod) (rP2 X.K .mod) := by
  refine OpR.imp op_mod fun x y H Q h => ?_
  obtain ⟨F, d, e, g, sf, hx, hy, ho, q⟩ := h
  unfold op2 modD at ho
  simp only [] at ho
  split at ho
  · obtain rfl := hx.intE; obtain rfl := hy.intE
    split at ho
    · rename_i hz; cases ho
      exact ⟨_, _, rfl, rfl, hz, q _ _ _ (Grow.refl sf) (.int _)⟩
    · cases ho
  · cases ho
theorem p2_pow : OpR X (binaryOp .Pow) (rP2 X.K .pow) := by
  refine OpR.imp op_pow fun x y H Q h => ?_
  obtain ⟨F, d, e, g, sf, hx, hy, ho, q⟩ := h
  unfold op2 powD at ho
  simp only [] at ho
  split at ho
  · obtain rfl := hx.intE; obtain rfl := hy.intE
    split at ho
    · rename_i hz; cases ho
      exact ⟨_, _, rfl, rfl, ⟨hz.1, by omega, hz.2.2⟩, q _ _ _ (Grow.refl sf) (.int _)⟩
    · cases ho
  · cases ho
theorem p2_shl : OpR X (binaryOp .LShift) (rP2 X.K .shl) := by
  refine OpR.imp op_shl fun x y H Q h => ?_
  obtain ⟨F, d, e, g, sf, hx, hy, ho, q⟩ := h
  unfold op2 shlD at ho
  simp only [] at ho
  split at ho
  · obtain rfl := hx.intE; obtain rfl := hy.intE
    split at ho
    · rename_i hz; cases ho
      exact ⟨_, _, rfl, rfl, ⟨hz.1, by omega, hz.2.2⟩, q _ _ _ (Grow.refl sf) (.int _)⟩
    · cases ho
  · cases ho
theorem p2_shr : OpR X (binaryOp .RShift) (rP2 X.K .shr) := by
  refine OpR.imp op_shr fun x y H Q h => ?_
  obtain ⟨F, d, e, g, sf, hx, hy, ho, q⟩ := h
  unfold op2 shrD at ho
  simp only [] at ho
  split at ho
  · obtain rfl := hx.intE; obtain rfl := hy.intE
    split at ho
    · rename_i hz; cases ho
      exact ⟨_, _, rfl, rfl, hz, q _ _ _ (Grow.refl sf) (.int _)⟩
    · cases ho
  · cases ho
theorem p2_band : OpR X (binaryOp .BitAnd) (rP2 X.K .band) := by
  refine OpR.imp op_and fun x y H Q h => ?_
  obtain ⟨F, d, e, g, sf, hx, hy, ho, q⟩ := h
  unfold op2 bandD at ho
  simp only [] at ho
  split at ho
  · obtain rfl := hx.intE; obtain rfl := hy.intE
    cases ho
    exact ⟨_, _, rfl, rfl, q _ _ _ (Grow.refl sf) (.int _)⟩
  · cases ho
theorem p2_bor : OpR X (binaryOp .BitOr) (rP2 X.K .bor) := by
  refine OpR.imp op_or fun x y H Q h => ?_
  obtain ⟨F, d, e, g, sf, hx, hy, ho, q⟩ := h
  unfold op2 borD at ho
  simp only [] at ho
  split at ho
  · obtain rfl := hx.intE; obtain rfl := hy.intE
    cases ho
    exact ⟨_, _, rfl, rfl, q _ _ _ (Grow.refl sf) (.int _)⟩
  · cases ho
/-! ### data at any depth -/
theorem toPyL_map (l : List D) : toPyL l = l.map D.toPy := by
  induction l with
  | nil => rfl
  | cons d l ih => simp only [toPyL, ih, List.map_cons]
theorem dpAll_of {H : Hp} {vs : List V} {ds : List D} : ∀ {n : Nat}, Paired (fun v d => Rep K H v d ∧ (lay n d = true → Dp K H v d.toPy)) vs ds → ds.all (lay n) = true → DpAll K H vs (toPyL ds) := by
  intro n p
  induction p with
  | nil => intro _; exact .nil
  | cons r _ ih =>
    intro h
    rw [List.all_cons, Bool.and_eq_true] at h
    exact .cons (r.2 h.1) (ih h.2)
theorem Rep.dp {H : Hp} (h : Rep K H v d) : ∀ n, lay n d = true → Dp K H v d.toPy := by
  induction h with
  | non => intro n _; exact .non
  | bl b => intro n _; exact .bl b
  | int i => intro n _; exact .int i
  | str x => intro n _; exact .str x
  | tup s z l f ih =>
    intro n hl
    cases n with
    | zero => simp [lay] at hl
    | succ n =>
      simp only [lay] at hl
      exact .tup s.sq (dpAll_of (n := n) (paired_of l fun i v d hv hd => ⟨f i v d hv hd, ih i v d hv hd n⟩) hl)
  | lst s z l f ih =>
    intro n hl
    cases n with
    | zero => simp [lay] at hl
    | succ n =>
      simp only [lay] at hl
      exact .lst (SqL.of s) (dpAll_of (n := n) (paired_of l fun i v d hv hd => ⟨f i v d hv hd, ih i v d hv hd n⟩) hl)
  | dct => intro n hl; cases n <;> simp [lay] at hl
  | dctL => intro n hl; cases n <;> simp [lay] at hl
  | scr => intro n hl; cases n <;> simp [lay] at hl
  | obj => intro n hl; cases n <;> simp [lay] at hl
theorem canAll_of {H : Hp} {vs : List V} {ds : List D} : ∀ {n : Nat}, Paired (fun v d => (lay n d = true → PyData.canLay0 d.toPy = true ∧ PyData.depth d.toPy ≤ n)) vs ds → ds.all (lay n) = true → PyData.canLayAll0 (toPyL ds) = true ∧ PyData.depthAll (toPyL ds) ≤ n := by
  intro n p
  induction p with
  | nil => intro _; exact ⟨rfl, Nat.zero_le _⟩
  | cons r _ ih =>
    intro h
    rw [List.all_cons, Bool.and_eq_true] at h
    obtain ⟨a1, a2⟩ := r h.1
    obtain ⟨b1, b2⟩ := ih h.2
    simp only [toPyL, PyData.canLayAll0, PyData.depthAll]
    exact ⟨by rw [a1, b1]; rfl, Nat.max_le.mpr ⟨a2, b2⟩⟩
theorem Rep.can {H : Hp} (h : Rep K H v d) : ∀ n, lay n d = true → PyData.canLay0 d.toPy = true ∧ PyData.depth d.toPy ≤ n := by
  induction h with
  | non => intro n _; exact ⟨rfl, Nat.zero_le _⟩
  | bl b => intro n _; exact ⟨rfl, Nat.zero_le _⟩
  | int i => intro n _; exact ⟨rfl, Nat.zero_le _⟩
  | str x _ o => intro n _; exact ⟨by simpa [D.toPy, PyData.canLay0] using o, Nat.zero_le _⟩
  | tup s z l f ih =>
    intro n hl
    cases n with
    | zero => simp [lay] at hl
    | succ n =>
      simp only [lay] at hl
      obtain ⟨a, b⟩ := canAll_of (H := H) (n := n) (paired_of l fun i v d hv hd => ih i v d hv hd n) hl
      simp only [D.toPy, PyData.canLay0, PyData.depth]
      exact ⟨a, by omega⟩
  | lst s z l f ih =>
    intro n hl
    cases n with
    | zero => simp [lay] at hl
    | succ n =>
      simp only [lay] at hl
      obtain ⟨a, b⟩ := canAll_of (H := H) (n := n) (paired_of l fun i v d hv hd => ih i v d hv hd n) hl
      simp only [D.toPy, PyData.canLay0, PyData.depth]
      exact ⟨a, by omega⟩
  | dct => intro n hl; cases n <;> simp [lay] at hl
  | dctL => intro n hl; cases n <;> simp [lay] at hl
  | scr => intro n hl; cases n <;> simp [lay] at hl
  | obj => intro n hl; cases n <;> simp [lay] at hl
theorem Rep.shaped {H : Hp} (h : Rep K H v d) (hl : lay 40 d = true) : SeqAt.shaped d.toPy = true := by
  obtain ⟨a, b⟩ := h.can 40 hl
  unfold SeqAt.shaped
  rw [a, decide_eq_true (show PyData.depth d.toPy ≤ 64 by omega)]
  rfl
theorem p2_eq (hu : X.A.units + 65 < cLine) : OpR X (compareOp .Eq) (rP2 X.K .eq) := by
  refine OpR.imp (op_eqD (by omega)) fun x y H Q h => ?_
  obtain ⟨F, d, e, g, sf, hx, hy, ho, q⟩ := h
  unfold op2 equD at ho
  simp only [] at ho
  split at ho
  · rename_i hl
    rw [Bool.and_eq_true] at hl
    cases ho
    have hx' := sf.rep hx
    have hy' := sf.rep hy
    exact ⟨_, _, hx'.dp 40 hl.1, hy'.dp 40 hl.2, hx'.shaped hl.1, hy'.shaped hl.2, q _ _ _ (Grow.refl sf) (.bl _)⟩
  · cases ho
theorem p2_ne (hu : X.A.units + 65 < cLine) : OpR X (compareOp .NotEq) (rP2 X.K .ne) := by
  refine OpR.imp (op_neD (by omega)) fun x y H Q h => ?_
  obtain ⟨F, d, e, g, sf, hx, hy, ho, q⟩ := h
  unfold op2 equD at ho
  simp only [] at ho
  split at ho
  · rename_i hl
    rw [Bool.and_eq_true] at hl
    cases ho
    have hx' := sf.rep hx
    have hy' := sf.rep hy
    exact ⟨_, _, hx'.dp 40 hl.1, hy'.dp 40 hl.2, hx'.shaped hl.1, hy'.shaped hl.2, q _ _ _ (Grow.refl sf) (.bl _)⟩
  · cases ho
theorem p2_lt : OpR X (compareOp .Lt) (rP2 X.K .lt) := by
  refine OpR.imp (OpR.or op_lt op_lt_str) fun x y H Q h => ?_
  obtain ⟨F, d, e, g, sf, hx, hy, ho, q⟩ := h
  unfold op2 ltB at ho
  simp only [] at ho
  split at ho
  · obtain rfl := hx.intE; obtain rfl := hy.intE; cases ho
    exact .inl ⟨_, _, rfl, rfl, q _ _ _ (Grow.refl sf) (.bl _)⟩
  · obtain ⟨rfl, _⟩ := hx.strE; obtain ⟨rfl, _⟩ := hy.strE; cases ho
    exact .inr ⟨_, _, rfl, rfl, q _ _ _ (Grow.refl sf) (.bl _)⟩
  · cases ho
theorem p2_gt : OpR X (compareOp .Gt) (rP2 X.K .gt) := by
  refine OpR.imp (OpR.or op_gt op_gt_str) fun x y H Q h => ?_
  obtain ⟨F, d, e, g, sf, hx, hy, ho, q⟩ := h
  unfold op2 ltB at ho
  simp only [] at ho
  split at ho
  · obtain rfl := hx.intE; obtain rfl := hy.intE; cases ho
    exact .inl ⟨_, _, rfl, rfl, q _ _ _ (Grow.refl sf) (.bl _)⟩
  · obtain ⟨rfl, _⟩ := hx.strE; obtain ⟨rfl, _⟩ := hy.strE; cases ho
    exact .inr ⟨_, _, rfl, rfl, q _ _ _ (Grow.refl sf) (.bl _)⟩
  · cases ho
theorem p2_le : OpR X (compareOp .LtE) (rP2 X.K .le) := by
  refine OpR.imp (OpR.or op_le op_le_str) fun x y H Q h => ?_
  obtain ⟨F, d, e, g, sf, hx, hy, ho, q⟩ := h
  unfold op2 leB at ho
  simp only [] at ho
  split at ho
  · obtain rfl := hx.intE; obtain rfl := hy.intE; cases ho
    exact .inl ⟨_, _, rfl, rfl, q _ _ _ (Grow.refl sf) (.bl _)⟩
  · obtain ⟨rfl, _⟩ := hx.strE; obtain ⟨rfl, _⟩ := hy.strE; cases ho
    exact .inr ⟨_, _, rfl, rfl, q _ _ _ (Grow.refl sf) (.bl _)⟩
  · cases ho
theorem p2_ge : OpR X (compareOp .GtE) (rP2 X.K .ge) := by
  refine OpR.imp (OpR.or op_ge op_ge_str) fun x y H Q h => ?_
  obtain ⟨F, d, e, g, sf, hx, hy, ho, q⟩ := h
  unfold op2 leB at ho
  simp only [] at ho
  split at ho
  · obtain rfl := hx.intE; obtain rfl := hy.intE; cases ho
    exact .inl ⟨_, _, rfl, rfl, q _ _ _ (Grow.refl sf) (.bl _)⟩
  · obtain ⟨rfl, _⟩ := hx.strE; obtain ⟨rfl, _⟩ := hy.strE; cases ho
    exact .inr ⟨_, _, rfl, rfl, q _ _ _ (Grow.refl sf) (.bl _)⟩
  · cases ho
theorem p2_is : OpR X (compareOp .Is) (rP2 X.K .is) := by
  refine OpR.imp (OpR.or op_isN op_is_bl) fun x y H Q h => ?_
  obtain ⟨F, d, e, g, sf, hx, hy, ho, q⟩ := h
  unfold op2 isD at ho
  simp only [] at ho
  split at ho <;> first
    | (cases ho; obtain rfl := hy.noneE; obtain rfl := hx.noneE; exact .inl ⟨rfl, q _ _ _ (Grow.refl sf) (.bl _)⟩)
    | (cases ho; obtain rfl := hy.blE; obtain rfl := hx.blE; exact .inr ⟨_, _, rfl, rfl, q _ _ _ (Grow.refl sf) (.bl _)⟩)
    | (cases ho; done)
    | (cases ho; obtain rfl := hy.noneE; cases hx <;> exact .inl ⟨rfl, q _ _ _ (Grow.refl sf) (.bl _)⟩)
theorem p2_isnot : OpR X (compareOp .IsNot) (rP2 X.K .isnot) := by
  refine OpR.imp (OpR.or op_notN op_isnot_bl) fun x y H Q h => ?_
  obtain ⟨F, d, e, g, sf, hx, hy, ho, q⟩ := h
  unfold op2 isD at ho
  simp only [] at ho
  split at ho <;> first
    | (cases ho; obtain rfl := hy.noneE; obtain rfl := hx.noneE; exact .inl ⟨rfl, q _ _ _ (Grow.refl sf) (.bl _)⟩)
    | (cases ho; obtain rfl := hy.blE; obtain rfl := hx.blE; exact .inr ⟨_, _, rfl, rfl, q _ _ _ (Grow.refl sf) (.bl _)⟩)
    | (cases ho; done)
    | (cases ho; obtain rfl := hy.noneE; cases hx <;> exact .inl ⟨rfl, q _ _ _ (Grow.refl sf) (.bl _)⟩)
end
end Pv
set_option Elab.async false
set_option linter.all false
set_option maxRecDepth 100000
set_option maxHeartbeats 4000000
namespace Pv
open PySem PySem.Spec PyProof.Rows L2
def rC1 (K : PySem.W.Frag) (o : Op1) : List V → Hp → VK → Prop := fun xs H Q => ∃ x, xs = [x] ∧ rP1 K o x H Q
def rC2 (K : PySem.W.Frag) (o : Op2) : List V → Hp → VK → Prop := fun xs H Q => ∃ x y, xs = [x, y] ∧ rP2 K o x y H Q
theorem CallR.imp {X : Cx} {f : Value} {r r' : List V → Hp → VK → Prop} (h : CallR X f r) (k : ∀ xs H Q, r' xs H Q → r xs H Q) : CallR X f r' :=
  fun pins s σ H xs us Q I rx q => h pins s σ H xs us Q I rx (k _ _ _ q)
section
variable {X : Cx} {F H : Hp} {K : PySem.W.Frag} {v : V} {d : D}
/-! ### in -/
theorem op_inT (hu : X.A.units + 65 < cLine) (neg : Bool) : OpR X (compareOp (if neg then .NotIn else .In)) (fun x y H Q => ∃ d ds, Dp X.K H x d ∧ Dp X.K H y (.tuple ds) ∧ SeqAt.shaped d = true ∧ SeqAt.shaped (.tuple ds) = true ∧ Q (.bl (if neg then !(ds.any fun z => PyData.eqv z d) else ds.any fun z => PyData.eqv z d)) H) := by
  intro pins s σ H x y v u Q I rx ry w
  obtain ⟨d, ds, hd, he, sd, se, q⟩ := w
  obtain ⟨as, r1⟩ := Dp.reads I d x v hd rx
  obtain ⟨bs, r2⟩ := Dp.reads I (.tuple ds) y u he ry
  cases neg with
  | false => exact SeqAt.in_tuple_reads r2 r1 (SeqAt.canLay_of_shaped se) (SeqAt.canLay_of_shaped sd) (room_in_shaped sd hu) ⟨.bl _, H, I, rfl, q⟩
  | true => exact SeqAt.notIn_tuple_reads r2 r1 (SeqAt.canLay_of_shaped se) (SeqAt.canLay_of_shaped sd) (room_in_shaped sd hu) ⟨.bl _, H, I, rfl, q⟩
theorem op_inDict (hu : X.A.units + 65 < cLine) : OpR X (compareOp .In) (fun x y H Q => ∃ a o, y = .ref a ∧ DGet H a x o ∧ Q (.bl o.isSome) H) := by
  intro pins s σ H x y v u Q I rx ry w
  obtain ⟨a, o, rfl, g, q⟩ := w
  cases ry
  exact d_in (by omega) I g rx fun s3 I3 => ⟨.bl o.isSome, H, I3, rfl, q⟩
theorem op_notInDict (hu : X.A.units + 65 < cLine) : OpR X (compareOp .NotIn) (fun x y H Q => ∃ a o, y = .ref a ∧ DGet H a x o ∧ Q (.bl (!o.isSome)) H) := by
  intro pins s σ H x y v u Q I rx ry w
  obtain ⟨a, o, rfl, g, q⟩ := w
  cases ry
  exact d_notIn (by omega) I g rx fun s3 I3 => ⟨.bl (!o.isSome), H, I3, rfl, q⟩
theorem any_toPy (l : List D) (d : D) : ((toPyL l).any fun z => PyData.eqv z d.toPy) = l.any fun z => eqD z d := by
  rw [toPyL_map, List.any_map]
  rfl
theorem kv_get {kvs : List (Key × V)} {l : List (Key × D)} (p : Paired (RepKV K H) kvs l) (k : Key) : (valV kvs k = none ∧ dget l k = none) ∨ ∃ v d, valV kvs k = some v ∧ dget l k = some d ∧ Rep K H v d := by
  induction p with
  | nil => exact .inl ⟨rfl, rfl⟩
  | cons r _ ih =>
    rename_i a b _ _ _
    by_cases e : a.1 = k
    · refine .inr ⟨a.2, b.2, valV_pos e, ?_, r.2⟩
      unfold dget
      rw [List.find?_cons_of_pos (by rw [← r.1]; simpa using e)]
      rfl
    · rcases ih with ⟨h1, h2⟩ | ⟨v, d, h1, h2, h3⟩
      · refine .inl ⟨by rw [valV_neg e]; exact h1, ?_⟩
        unfold dget at h2 ⊢
        rw [List.find?_cons_of_neg (by rw [← r.1]; simpa using e)]
        exact h2
      · refine .inr ⟨v, d, by rw [valV_neg e]; exact h1, ?_, h3⟩
        unfold dget at h2 ⊢
        rw [List.find?_cons_of_neg (by rw [← r.1]; simpa using e)]
        exact h2
theorem Rep.key {k : Key} (h : Rep K F v d) (e : keyOf d = some k) : v = kV k := by
  cases h <;> simp [keyOf] at e <;> subst e <;> rfl
theorem one_of {x : Str} {c : Nat} (h : x.cps.toList = [c]) : x = ⟨#[c]⟩ := by
  obtain ⟨a⟩ := x
  have e : a.toList = [c] := h
  congr 1
  exact Array.toList_inj.mp e
theorem sign_some {z : Str} {d g : D} {f : Bool → D} (h : (signIn z d).map f = some g) : ∃ x c, ∃ z' : Str, d = .str x ∧ x.cps.toList = [c] ∧ g = f (decide (c ∈ z.cps.toList)) ∧ z' = z := by
  unfold signIn at h
  split at h
  · rename_i x
    split at h
    · rename_i c e
      cases h
      exact ⟨x, c, z, rfl, e, rfl, rfl⟩
    · cases h
  · cases h
theorem p2_in (hu : X.A.units + 65 < cLine) : OpR X (compareOp .In) (rP2 X.K .isin) := by
  refine OpR.imp (OpR.or (op_inD hu) (OpR.or (op_inT hu false) (OpR.or (op_inDict hu) op_in_sign))) fun x y H Q h => ?_
  obtain ⟨F, d, e, g, sf, hx, hy, ho, q⟩ := h
  unfold op2 inD at ho
  simp only [] at ho
  have hx' := sf.rep hx
  have hy' := sf.rep hy
  split at ho
  · obtain ⟨x', c, z', e1, e2, rfl, rfl⟩ := sign_some ho
    subst e1
    obtain ⟨rfl, _, _⟩ := hx.strE
    obtain ⟨rfl, _, _⟩ := hy.strE
    refine .inr (.inr (.inr ⟨c, _, ?_, rfl, q _ _ _ (Grow.refl sf) (.bl _)⟩))
    rw [one_of e2]
  · split at ho
    · rename_i l hl
      rw [Bool.and_eq_true] at hl
      cases ho
      have e1 := any_toPy l d
      refine .inl ⟨_, _, hx'.dp 40 hl.1, hy'.dp 40 hl.2, hx'.shaped hl.1, hy'.shaped hl.2, ?_⟩
      rw [e1]
      exact q _ _ _ (Grow.refl sf) (.bl _)
    · cases ho
  · split at ho
    · rename_i l hl
      rw [Bool.and_eq_true] at hl
      cases ho
      have e1 := any_toPy l d
      refine .inr (.inl ⟨_, _, hx'.dp 40 hl.1, hy'.dp 40 hl.2, hx'.shaped hl.1, hy'.shaped hl.2, ?_⟩)
      simp only [Bool.false_eq_true, if_false]
      rw [e1]
      exact q _ _ _ (Grow.refl sf) (.bl _)
    · cases ho
  · cases hk : keyOf d with
    | none => rw [hk] at ho; cases ho
    | some k =>
      rw [hk] at ho
      cases ho
      obtain ⟨a, kvs, rfl, h1, _, _, p⟩ := hy'.dctE
      have ex := hx.key hk
      subst ex
      refine .inr (.inr (.inl ⟨a, valV kvs k, rfl, .inl ⟨kvs, k, h1, rfl, rfl⟩, ?_⟩))
      rcases kv_get p k with ⟨e1, e2⟩ | ⟨v, d', e1, e2, _⟩
      · rw [e1]; simp only [e2] at q; exact q _ _ _ (Grow.refl sf) (.bl _)
      · rw [e1]; simp only [e2] at q; exact q _ _ _ (Grow.refl sf) (.bl _)
  · cases hk : keyOf d with
    | none => rw [hk] at ho; cases ho
    | some k =>
      rw [hk] at ho
      cases ho
      obtain ⟨a, kvs, rfl, h1, _, _, p⟩ := hy'.unlk.dctE
      have ex := hx.key hk
      subst ex
      refine .inr (.inr (.inl ⟨a, valV kvs k, rfl, .inl ⟨kvs, k, h1, rfl, rfl⟩, ?_⟩))
      rcases kv_get p k with ⟨e1, e2⟩ | ⟨v, d', e1, e2, _⟩
      · rw [e1]; simp only [e2] at q; exact q _ _ _ (Grow.refl sf) (.bl _)
      · rw [e1]; simp only [e2] at q; exact q _ _ _ (Grow.refl sf) (.bl _)
  · cases ho
theorem p2_notin (hu : X.A.units + 65 < cLine) : OpR X (compareOp .NotIn) (rP2 X.K .notin) := by
  refine OpR.imp (OpR.or (op_notInD hu) (OpR.or (op_inT hu true) (OpR.or (op_notInDict hu) op_notIn_sign))) fun x y H Q h => ?_
  obtain ⟨F, d, e, g, sf, hx, hy, ho, q⟩ := h
  unfold op2 inD at ho
  simp only [] at ho
  have hx' := sf.rep hx
  have hy' := sf.rep hy
  split at ho
  · obtain ⟨x', c, z', e1, e2, rfl, rfl⟩ := sign_some ho
    subst e1
    obtain ⟨rfl, _, _⟩ := hx.strE
    obtain ⟨rfl, _, _⟩ := hy.strE
    refine .inr (.inr (.inr ⟨c, _, ?_, rfl, q _ _ _ (Grow.refl sf) (.bl _)⟩))
    rw [one_of e2]
  · split at ho
    · rename_i l hl
      rw [Bool.and_eq_true] at hl
      cases ho
      have e1 := any_toPy l d
      refine .inl ⟨_, _, hx'.dp 40 hl.1, hy'.dp 40 hl.2, hx'.shaped hl.1, hy'.shaped hl.2, ?_⟩
      rw [e1]
      exact q _ _ _ (Grow.refl sf) (.bl _)
    · cases ho
  · split at ho
    · rename_i l hl
      rw [Bool.and_eq_true] at hl
      cases ho
      have e1 := any_toPy l d
      refine .inr (.inl ⟨_, _, hx'.dp 40 hl.1, hy'.dp 40 hl.2, hx'.shaped hl.1, hy'.shaped hl.2, ?_⟩)
      simp only [if_true]
      rw [e1]
      exact q _ _ _ (Grow.refl sf) (.bl _)
    · cases ho
  · cases hk : keyOf d with
    | none => rw [hk] at ho; cases ho
    | some k =>
      rw [hk] at ho
      cases ho
      obtain ⟨a, kvs, rfl, h1, _, _, p⟩ := hy'.dctE
      have ex := hx.key hk
      subst ex
      refine .inr (.inr (.inl ⟨a, valV kvs k, rfl, .inl ⟨kvs, k, h1, rfl, rfl⟩, ?_⟩))
      rcases kv_get p k with ⟨e1, e2⟩ | ⟨v, d', e1, e2, _⟩
      · rw [e1]; simp only [e2] at q; exact q _ _ _ (Grow.refl sf) (.bl _)
      · rw [e1]; simp only [e2] at q; exact q _ _ _ (Grow.refl sf) (.bl _)
  · cases hk : keyOf d with
    | none => rw [hk] at ho; cases ho
    | some k =>
      rw [hk] at ho
      cases ho
      obtain ⟨a, kvs, rfl, h1, _, _, p⟩ := hy'.unlk.dctE
      have ex := hx.key hk
      subst ex
      refine .inr (.inr (.inl ⟨a, valV kvs k, rfl, .inl ⟨kvs, k, h1, rfl, rfl⟩, ?_⟩))
      rcases kv_get p k with ⟨e1, e2⟩ | ⟨v, d', e1, e2, _⟩
      · rw [e1]; simp only [e2] at q; exact q _ _ _ (Grow.refl sf) (.bl _)
      · rw [e1]; simp only [e2] at q; exact q _ _ _ (Grow.refl sf) (.bl _)
  · cases ho
/-! ### subscripts -/
theorem atI_paired {α β : Type} {R : α → β → Prop} {xs : List α} {ys : List β} (p : Paired R xs ys) {i : Int} {y : β} (h : atI ys i = some y) : ∃ x, atI xs i = some x ∧ R x y := by
  have hl := paired_len p
  unfold atI at h ⊢
  rw [hl]
  cases e : ixN ys.length i with
  | none => rw [e] at h; cases h
  | some j =>
    rw [e] at h
    exact paired_get' p h
theorem strOk_one {x : Str} {c : Nat} (h : PyData.strOk x = true) (m : c ∈ x.cps.toList) : PyData.strOk ⟨#[c]⟩ = true := by
  unfold PyData.strOk at h ⊢
  rw [Array.all_eq_true_iff_forall_mem] at h
  have := h c (by simpa using m)
  simpa using this
theorem atI_mem {α : Type} {xs : List α} {i : Int} {x : α} (h : atI xs i = some x) : x ∈ xs := by
  unfold atI at h
  cases e : ixN xs.length i with
  | none => rw [e] at h; cases h
  | some j => rw [e] at h; exact List.mem_of_getElem? h
theorem one_size : (1 : Nat) ≤ sizeLine := by decide
/-- a[i] -/
theorem pe_ixP {a b : Expr} {pos : Pos} {ta tb : TE} (hu : X.A.units + 65 < cLine) (ha : PE X a ta) (hb : PE X b tb) (hs : PlainIx b) (hn : NoSl b) :
    PE X (.Subscript a b pos) (fun σ H Q => tOp (rIx X.K) ta tb σ H Q ∨ tDGet ta tb σ H Q) := PE.or (pe_ix ix_seq ha hb hs) (pe_dget (by omega) ha hb hn)
theorem ix_of {x y : V} {Q : VK} {e g : D} (sf : Sub F H) (hx : Rep X.K F x d) (hy : Rep X.K F y e) (ho : ixD d e = some g) (q : ∀ v H' F', Grow F H F' H' → Rep X.K F' v g → Q v H') (hd : ∀ l, d ≠ .dct l) (hd' : ∀ l, d ≠ .dctL l) : rIx X.K x y H Q := by
  unfold ixD at ho
  split at ho
  · obtain ⟨a, vs, rfl, h1, z1, p1⟩ := hx.lstE
    obtain rfl := hy.intE
    obtain ⟨v, h2, h3⟩ := atI_paired p1 ho
    exact .inl ⟨a, vs, _, v, rfl, rfl, SqL.of (sf _ _ h1), h2, q _ _ _ (Grow.refl sf) h3⟩
  · obtain ⟨a, vs, rfl, h1, z1, p1⟩ := hx.tupE
    obtain rfl := hy.intE
    obtain ⟨v, h2, h3⟩ := atI_paired p1 ho
    exact .inr (.inl ⟨a, vs, _, v, rfl, rfl, Rep.sub_st sf h1, h2, q _ _ _ (Grow.refl sf) h3⟩)
  · obtain ⟨rfl, l1, o1⟩ := hx.strE
    obtain rfl := hy.intE
    rename_i z i
    cases e : atI z.cps.toList i with
    | none => rw [e] at ho; cases ho
    | some c =>
      rw [e] at ho
      cases ho
      exact .inr (.inr ⟨z, i, c, rfl, rfl, l1, e, q _ _ _ (Grow.refl sf) (.str _ one_size (strOk_one o1 (atI_mem e)))⟩)
  · exact absurd rfl (hd _)
  · exact absurd rfl (hd' _)
  · cases ho
theorem ixd_of {x y : V} {Q : VK} {e g : D} {l : List (Key × D)} (sf : Sub F H) (hx : Rep X.K F x (.dct l)) (hy : Rep X.K F y e) (ho : ixD (.dct l) e = some g) (q : ∀ v H' F', Grow F H F' H' → Rep X.K F' v g → Q v H') :
    ∃ a v, x = .ref a ∧ DGet H a y (some v) ∧ Q v H := by
  unfold ixD at ho
  simp only [] at ho
  cases hk : keyOf e with
  | none => rw [hk] at ho; cases ho
  | some k =>
    rw [hk] at ho
    obtain ⟨a, kvs, rfl, h1, _, _, p⟩ := hx.dctE
    have ey := hy.key hk
    subst ey
    rcases kv_get p k with ⟨e1, e2⟩ | ⟨v, d', e1, e2, h3⟩
    · have ho' : dget l k = some g := ho
      rw [e2] at ho'; cases ho'
    · have ho' : dget l k = some g := ho
      rw [e2] at ho'; cases ho'
      exact ⟨a, v, rfl, .inl ⟨kvs, k, (SubR.of sf).1 _ _ h1, rfl, e1.symm⟩, q _ _ _ (Grow.refl sf) h3⟩
end
end Pv
set_option Elab.async false
set_option linter.all false
set_option maxRecDepth 100000
set_option maxHeartbeats 4000000
namespace Pv
open PySem PySem.Spec PyProof.Rows L2
section
variable {X : Cx} {F H : Hp} {K : PySem.W.Frag} {v : V} {d : D}
theorem UnR.imp {f : Value → Sem Value} {r r' : V → Hp → VK → Prop} (h : UnR X f r) (k : ∀ x H Q, r' x H Q → r x H Q) : UnR X f r' :=
  fun pins s σ H x v Q I rx q => h pins s σ H x v Q I rx (k _ _ _ q)
theorem p1_neg : UnR X (unaryOp .USub) (rP1 X.K .neg) := by
  refine UnR.imp un_neg fun x H Q h => ?_
  obtain ⟨F, d, g, sf, hx, ho, q⟩ := h
  unfold op1 negD at ho
  simp only [] at ho
  split at ho
  · obtain rfl := hx.intE; cases ho
    exact ⟨_, rfl, q _ _ _ (Grow.refl sf) (.int _)⟩
  · cases ho
theorem p1_abs : CallR X (.builtin "abs") (rC1 X.K .abs) := by
  refine CallR.imp call_abs fun xs H Q h => ?_
  obtain ⟨x, rfl, F, d, g, sf, hx, ho, q⟩ := h
  unfold op1 absD at ho
  simp only [] at ho
  split at ho
  · obtain rfl := hx.intE; cases ho
    exact ⟨_, rfl, q _ _ _ (Grow.refl sf) (.int _)⟩
  · cases ho
theorem p1_int : CallR X (.type "int") (rC1 X.K .int) := by
  refine CallR.imp call_int1 fun xs H Q h => ?_
  obtain ⟨x, rfl, F, d, g, sf, hx, ho, q⟩ := h
  unfold op1 intD at ho
  simp only [] at ho
  split at ho
  · obtain rfl := hx.intE; cases ho
    exact .inl ⟨_, rfl, q _ _ _ (Grow.refl sf) (.int _)⟩
  · obtain rfl := hx.blE; cases ho
    exact .inr ⟨_, rfl, q _ _ _ (Grow.refl sf) (.int _)⟩
  · cases ho
theorem pv_lenD : CallR X (.builtin "len") (fun xs H Q => ∃ a kvs, xs = [V.ref a] ∧ Rd H a (.dK kvs) ∧ Q (.int kvs.length) H) := by
  intro pins s σ H xs us Q I r h
  obtain ⟨a, kvs, rfl, ha, q⟩ := h
  obtain ⟨u, rfl, ru⟩ := vals1 r
  cases ru
  exact d_len I ha fun t s' I' => ⟨.int kvs.length, H, I', ⟨t, rfl⟩, q⟩
theorem p1_len : CallR X (.builtin "len") (rC1 X.K .len) := by
  refine CallR.imp (CallR.or call_len_str (CallR.or call_len_seq pv_lenD)) fun xs H Q h => ?_
  obtain ⟨x, rfl, F, d, g, sf, hx, ho, q⟩ := h
  unfold op1 lenD at ho
  simp only [] at ho
  split at ho
  · obtain ⟨rfl, l1, o1⟩ := hx.strE; cases ho
    exact .inl ⟨_, rfl, l1, q _ _ _ (Grow.refl sf) (.int _)⟩
  · obtain ⟨a, vs, rfl, h1, z1, p1⟩ := hx.tupE; cases ho
    rw [← paired_len p1] at q
    exact .inr (.inl ⟨a, vs, rfl, .inr (Rep.sub_st sf h1), q _ _ _ (Grow.refl sf) (.int _)⟩)
  · obtain ⟨a, vs, rfl, h1, z1, p1⟩ := hx.lstE; cases ho
    rw [← paired_len p1] at q
    exact .inr (.inl ⟨a, vs, rfl, .inl (SqL.of (sf _ _ h1)), q _ _ _ (Grow.refl sf) (.int _)⟩)
  · obtain ⟨a, kvs, rfl, h1, z1, nd, p1⟩ := hx.dctE; cases ho
    rw [← paired_len p1] at q
    exact .inr (.inr ⟨a, kvs, rfl, (SubR.of sf).1 _ _ h1, q _ _ _ (Grow.refl sf) (.int _)⟩)
  · obtain ⟨a, kvs, rfl, h1, z1, nd, p1⟩ := hx.unlk.dctE; cases ho
    rw [← paired_len p1] at q
    exact .inr (.inr ⟨a, kvs, rfl, (SubR.of sf).1 _ _ h1, q _ _ _ (Grow.refl sf) (.int _)⟩)
  · cases ho
/-- repr, where no other repr is open -/
theorem call_reprG (gu : X.A.guards = some []) (hu : X.A.units + 65 < cLine) : CallR X (.builtin "repr") (fun xs H Q => ∃ a d, xs = [V.ref a] ∧ Dp X.K H (.ref a) d ∧ d.showable = true ∧ d.hasDict = false ∧ d.depth ≤ 40 ∧ d.shown.length ≤ sizeLine ∧ Q (.str d.shown) H) := by
  intro pins s σ H xs us Q I r h
  obtain ⟨a, d, rfl, hd, h1, h2, h3, h4, q⟩ := h
  obtain ⟨u, rfl, ru⟩ := vals1 r
  obtain ⟨as, rd⟩ := Dp.reads I d (.ref a) u hd ru
  cases ru
  exact repr_of_reads' rd h1 (PyData.noDict_hsm h2) gu (by omega) (fun _ _ e => e) (fun h' t tk k => ⟨.str d.shown, H, I.kept k, ⟨t, rfl⟩, q⟩) h4
theorem p1_repr (gu : X.A.guards = some []) (hu : X.A.units + 65 < cLine) : CallR X (.builtin "repr") (rC1 X.K .repr) := by
  refine CallR.imp (call_reprG gu hu) fun xs H Q h => ?_
  obtain ⟨x, rfl, F, d, g, sf, hx, ho, q⟩ := h
  have fin : ∀ a, x = .ref a → reprOk d = true → g = .str d.toPy.shown → ∃ a' e, [x] = [V.ref a'] ∧ Dp X.K H (.ref a') e ∧ e.showable = true ∧ e.hasDict = false ∧ e.depth ≤ 40 ∧ e.shown.length ≤ sizeLine ∧ Q (.str e.shown) H := fun a hxa hok hg => by
    subst hxa hg
    unfold reprOk at hok
    simp only [Bool.and_eq_true, decide_eq_true_eq] at hok
    obtain ⟨⟨⟨h1, h2⟩, h3⟩, h4⟩ := hok
    have hx' := sf.rep hx
    obtain ⟨c1, c2⟩ := hx'.can 40 h1
    exact ⟨a, d.toPy, rfl, hx'.dp 40 h1, h2, PyData.hasDict_of_canLay _ c1, c2, h3, q _ _ _ (Grow.refl sf) (.str _ h3 h4)⟩
  have ho : reprD d = some g := ho
  cases d with
  | lst l =>
    have ho : (if reprOk (.lst l) then some (D.str (D.toPy (.lst l)).shown) else none) = some g := ho
    split at ho
    · rename_i hok
      obtain ⟨a, vs, rfl, _⟩ := hx.lstE
      exact fin a rfl hok (Option.some.inj ho).symm
    · cases ho
  | tup l =>
    have ho : (if reprOk (.tup l) then some (D.str (D.toPy (.tup l)).shown) else none) = some g := ho
    split at ho
    · rename_i hok
      obtain ⟨a, vs, rfl, _⟩ := hx.tupE
      exact fin a rfl hok (Option.some.inj ho).symm
    · cases ho
  | _ => cases ho
/-- a new list -/
def rCF1 (K : PySem.W.Frag) (o : Op1) : List V → Hp → VK → Prop := fun xs H Q => ∃ x F d g, xs = [x] ∧ Sub F H ∧ Rep K F x d ∧ op1 o d = some g ∧
  ∀ p vs ds, g = .lst ds → H p = none → vs.length ≤ sizeLine → Paired (Rep K F) vs ds → Q (.ref p) (upd H p (.lst vs))
theorem f1_list : CallR X (.type "list") (rCF1 X.K .list) := by
  refine CallR.imp call_list_of fun xs H Q h => ?_
  obtain ⟨x, F, d, g, rfl, sf, hx, ho, q⟩ := h
  unfold op1 listD at ho
  simp only [] at ho
  split at ho
  · obtain ⟨a, vs, rfl, h1, z1, p1⟩ := hx.lstE; cases ho
    exact ⟨a, vs, rfl, .inl (SqL.of (sf _ _ h1)), fun l hl => q l vs _ rfl hl z1 p1⟩
  · obtain ⟨a, vs, rfl, h1, z1, p1⟩ := hx.tupE; cases ho
    exact ⟨a, vs, rfl, .inr (Rep.sub_st sf h1), fun l hl => q l vs _ rfl hl z1 p1⟩
  · cases ho
theorem p1_tuple : CallR X (.type "tuple") (rC1 X.K .tuple) := by
  refine CallR.imp call_tupG fun xs H Q h => ?_
  obtain ⟨x, rfl, F, d, g, sf, hx, ho, q⟩ := h
  unfold op1 tupleD at ho
  simp only [] at ho
  split at ho
  · obtain ⟨a, vs, rfl, h1, z1, p1⟩ := hx.lstE; cases ho
    refine ⟨a, vs, rfl, .inl ⟨SqL.of (sf _ _ h1), fun l ob hd hl => ?_⟩⟩
    have g := grow_tup (K := X.K) sf hl hd z1 p1
    exact q _ _ _ g.1 g.2
  · obtain ⟨a, vs, rfl, h1, z1, p1⟩ := hx.tupE; cases ho
    exact ⟨a, vs, rfl, .inr ⟨Rep.sub_st sf h1, q _ _ _ (Grow.refl sf) hx⟩⟩
  · cases ho
theorem allO_map {α : Type} {f : D → Option α} {g : α → V} (hg : ∀ {H v d a}, f d = some a → Rep K H v d → v = g a) : ∀ {vs : List V} {ds : List D} {as : List α}, Paired (Rep K F) vs ds → allO f ds = some as → vs = as.map g
  | _, _, _, .nil, h => by cases h; rfl
  | _, _, _, .cons (a := v) (b := d) r t, h => by
    unfold allO at h
    cases e : f d with
    | none => rw [e] at h; simp at h
    | some a =>
      rw [e] at h
      rename_i l₁ l₂
      cases e' : allO f l₂ with
      | none => rw [e'] at h; simp at h
      | some r' =>
        rw [e'] at h
        cases h
        rw [List.map_cons, hg e r, allO_map hg t e']
theorem isI_rep {H : Hp} {v : V} {d : D} {i : Int} (h : isI d = some i) (r : Rep K H v d) : v = .int i := by
  cases d <;> simp [isI] at h; subst h; exact r.intE
theorem isB_rep {H : Hp} {v : V} {d : D} {i : Bool} (h : isB d = some i) (r : Rep K H v d) : v = .bl i := by
  cases d <;> simp [isB] at h; subst h; exact r.blE
theorem isS_rep {H : Hp} {v : V} {d : D} {i : Str} (h : isS d = some i) (r : Rep K H v d) : v = .str i := by
  cases d <;> simp [isS] at h; subst h; exact r.strE.1
theorem p1_sum (hc : X.calm = true) : CallR X (.builtin "sum") (rC1 X.K .sum) := by
  refine CallR.imp (cr_sum hc) fun xs H Q h => ?_
  obtain ⟨x, rfl, F, d, g, sf, hx, ho, q⟩ := h
  unfold op1 sumD at ho
  simp only [] at ho
  split at ho
  · obtain ⟨a, vs, rfl, h1, z1, p1⟩ := hx.lstE
    rename_i l
    cases e : allO isI l with
    | none => rw [e] at ho; cases ho
    | some ns =>
      rw [e] at ho; cases ho
      have ev := allO_map (g := V.int) (fun h r => isI_rep h r) p1 e
      subst ev
      exact ⟨a, ns, rfl, SqL.of (sf _ _ h1), q _ _ _ (Grow.refl sf) (.int _)⟩
  · cases ho
theorem p1_all (hc : X.calm = true) : CallR X (.builtin "all") (rC1 X.K .all) := by
  refine CallR.imp (cr_all hc) fun xs H Q h => ?_
  obtain ⟨x, rfl, F, d, g, sf, hx, ho, q⟩ := h
  unfold op1 allD at ho
  simp only [] at ho
  split at ho
  · obtain ⟨a, vs, rfl, h1, z1, p1⟩ := hx.lstE
    rename_i l
    cases e : allO isB l with
    | none => rw [e] at ho; cases ho
    | some ns =>
      rw [e] at ho; cases ho
      have ev := allO_map (g := V.bl) (fun h r => isB_rep h r) p1 e
      subst ev
      exact ⟨a, ns, rfl, SqL.of (sf _ _ h1), q _ _ _ (Grow.refl sf) (.bl _)⟩
  · cases ho
theorem p1_any (hc : X.calm = true) : CallR X (.builtin "any") (rC1 X.K .any) := by
  refine CallR.imp (cr_any hc) fun xs H Q h => ?_
  obtain ⟨x, rfl, F, d, g, sf, hx, ho, q⟩ := h
  unfold op1 anyD at ho
  simp only [] at ho
  split at ho
  · obtain ⟨a, vs, rfl, h1, z1, p1⟩ := hx.lstE
    rename_i l
    cases e : allO isB l with
    | none => rw [e] at ho; cases ho
    | some ns =>
      rw [e] at ho; cases ho
      have ev := allO_map (g := V.bl) (fun h r => isB_rep h r) p1 e
      subst ev
      exact ⟨a, ns, rfl, SqL.of (sf _ _ h1), q _ _ _ (Grow.refl sf) (.bl _)⟩
  · cases ho
/-! ### methods -/
/-- t.m(e, ..), t a tuple -/
theorem pe_tm {o e : Expr} {es : List Expr} {to : TE} {t : TA} {name : Str} {apos cpos : Pos} {id : String} {r : V → List V → Hp → VK → Prop} (slot : Slot "tuple" name id) (hty : typeOf (.builtin id) = pure (.type "method_descriptor")) (hm : MtR X id r) (ho : PE X o to) (ha : L2.PA X (e :: es) t)
    (hbase : attributeBase o name X.env (eval o X.env) = eval o X.env)
    (hfew : ((backTo cpos (starEach (e :: es) X.env)).all (fun x => !x.1) && (backToKw cpos (keywordEach [] X.env)).all (fun x => x.1.isSome)
      && decide ((e :: es).length + ([] : List Keyword).length + (if ([] : List Keyword).isEmpty then 0 else 1) < 30)) = true)
    (hline : (apos.endLine == cpos.line) = true) (hs : starEach (e :: es) X.env = (false, eval e X.env) :: starEach es X.env) (hplain : (backTo cpos (starEach es X.env)).any (·.1) = false) :
    PE X (.Call (.Attribute o name apos) (e :: es) [] cpos) (fun σ H Q => to σ H fun x H1 => (∃ p vs, x = .ref p ∧ TupAt X.K H1 p vs) ∧ t σ H1 fun xs H2 => r x xs H2 Q) := by
  refine ⟨fun pins s σ H Q I h => ?_⟩
  refine wpAny_Call_method_late hbase hfew hline rfl (thn (ho.run pins s σ H _ I h) fun v s1 w => ?_)
  obtain ⟨x, H1, I1, r1, ⟨p, vs, ex, ht⟩, q1⟩ := w
  subst ex
  obtain rfl : v = Value.ref p := r1
  have hob : ∃ ob, s1.heap.get? p = some ob ∧ ob.cls = .type "tuple" ∧ ob.dict = none := by
    rcases ht with ⟨o, h1, h2⟩ | ⟨o, its, n, h1, h2, h3, _⟩
    · obtain ⟨k1, _, _, _, o', k2, k3, _⟩ := I1.hok p _ h1
      rw [k1] at k2
      cases k2
      exact ⟨_, k1, k3, h2⟩
    · exact ⟨o, I1.kIn p o h1, h2, h3⟩
  obtain ⟨ob, k1, k2, k3⟩ := hob
  refine ⟨"tuple", id, PySem.F.plainAttrs_tuple, slot, hty, ⟨ob, k1, k2⟩, fun a e => ?_, ?_⟩
  · cases e; exact ⟨ob, k1, k3⟩
  · have hA := ha.run cpos pins s1 σ H1 _ I1 q1
    rw [hs] at hA ⊢
    refine Calls.callWith_builtin (by show (false || (backTo cpos (starEach es X.env)).any (·.1)) = false; rw [hplain] <;> rfl) (Calls.evalArgs_plain ?_)
    refine thn hA fun us s2 w => ?_
    obtain ⟨ws, H2, I2, r2, q2⟩ := w
    exact hm pins s2 σ H2 (.ref p) ws (.ref p) us Q I2 rfl r2 q2
end
end Pv
set_option Elab.async false
set_option linter.all false
set_option maxRecDepth 100000
set_option maxHeartbeats 4000000
namespace Pv
open PySem PySem.Spec PyProof.Rows L2
theorem findIx_some {p : D → Bool} : ∀ {l : List D} {n : Nat}, findIx p l = some n → ∃ z, l[n]? = some z ∧ p z = true ∧ ∀ m z', m < n → l[m]? = some z' → p z' = false
  | [], _, h => by cases h
  | d :: l, n, h => by
    unfold findIx at h
    split at h
    · rename_i hp
      cases h
      exact ⟨d, rfl, hp, fun m z' hm => absurd hm (Nat.not_lt_zero _)⟩
    · rename_i hp
      cases e : findIx p l with
      | none => rw [e] at h; cases h
      | some k =>
        rw [e] at h
        cases h
        obtain ⟨z, h1, h2, h3⟩ := findIx_some e
        refine ⟨z, by simpa using h1, h2, fun m z' hm hz => ?_⟩
        cases m with
        | zero =>
          simp at hz; subst hz
          cases q : p d with
          | false => rfl
          | true => exact absurd q hp
        | succ m => exact h3 m z' (Nat.lt_of_succ_lt_succ hm) (by simpa using hz)
section
variable {X : Cx} {F H : Hp} {K : PySem.W.Frag} {v : V} {d : D}
theorem MtR.imp {id : String} {r r' : V → List V → Hp → VK → Prop} (h : MtR X id r) (k : ∀ x xs H Q, r' x xs H Q → r x xs H Q) : MtR X id r' :=
  fun pins s σ H x xs v us Q I rx rxs q => h pins s σ H x xs v us Q I rx rxs (k _ _ _ _ q)
theorem toPyL_get (l : List D) (i : Nat) : (toPyL l)[i]? = (l[i]?).map D.toPy := by rw [toPyL_map, List.getElem?_map]
/-- xs.index(x), a list -/
theorem m_indexL (hu : X.A.units + 65 < cLine) : MtR X "list.index" (fun x xs H Q => ∃ y F l e g, xs = [y] ∧ Sub F H ∧ Rep X.K F x (.lst l) ∧ Rep X.K F y e ∧ indexD (.lst l) e = some g ∧ ∀ v, Rep X.K F v g → Q v H) := by
  refine MtR.imp (mt_indexD hu) fun x xs H Q h => ?_
  obtain ⟨y, F, l, e, g, rfl, sf, hx, hy, ho, q⟩ := h
  unfold indexD at ho
  simp only [] at ho
  have hx' := sf.rep hx
  have hy' := sf.rep hy
  split at ho
  · rename_i hl
    rw [Bool.and_eq_true] at hl
    cases hf : findIx (fun z => eqD z e) l with
    | none => rw [hf] at ho; cases ho
    | some n =>
      rw [hf] at ho
      cases ho
      obtain ⟨z, h1, h2, h3⟩ := findIx_some hf
      obtain ⟨a, vs, ex, _⟩ := hx.lstE
      subst ex
      refine ⟨a, y, e.toPy, toPyL l, n, z.toPy, rfl, rfl, hx'.dp 40 hl.2, hy'.dp 40 hl.1, hx'.shaped hl.2, hy'.shaped hl.1, by rw [toPyL_get, h1]; rfl, h2, fun m z' hm hz => ?_, q _ (.int _)⟩
      rw [toPyL_get] at hz
      cases hq : l[m]? with
      | none => rw [hq] at hz; cases hz
      | some w => rw [hq] at hz; cases hz; exact h3 m w hm hq
  · cases ho
theorem strs_of : ∀ {vs : List V} {ds : List D}, Paired (Rep K F) vs ds → (ds.all fun z => kinds z == 2) = true → ∃ ys : List Str, vs = ys.map V.str ∧ ds = ys.map D.str
  | _, _, .nil, _ => ⟨[], rfl, rfl⟩
  | _, _, .cons (a := v) (b := d) r t, h => by
    rw [List.all_cons, Bool.and_eq_true] at h
    obtain ⟨ys, e1, e2⟩ := strs_of t h.2
    have hd : ∃ x, d = .str x := by
      have h1 := h.1
      unfold kinds at h1
      split at h1
      · exact absurd h1 (by decide)
      · exact ⟨_, rfl⟩
      · exact absurd h1 (by decide)
      · exact absurd h1 (by decide)
    obtain ⟨x, rfl⟩ := hd
    obtain ⟨rfl, _⟩ := r.strE
    exact ⟨x :: ys, by rw [e1]; rfl, by rw [e2]; rfl⟩
theorem eqD_str (a b : Str) : eqD (.str a) (.str b) = (a == b) := rfl
/-- t.index(x), a tuple of texts -/
theorem m_indexT : MtR X "tuple.index" (fun x xs H Q => ∃ y F l e g, xs = [y] ∧ Sub F H ∧ Rep X.K F x (.tup l) ∧ Rep X.K F y e ∧ indexD (.tup l) e = some g ∧ ∀ v, Rep X.K F v g → Q v H) := by
  refine MtR.imp mt_tup_index fun x xs H Q h => ?_
  obtain ⟨y, F, l, e, g, rfl, sf, hx, hy, ho, q⟩ := h
  unfold indexD at ho
  split at ho
  · rename_i heq; cases heq
  · rename_i l' x' heq
    cases heq
    split at ho
    · rename_i hl
      obtain ⟨a, vs, rfl, h1, z1, p1⟩ := hx.tupE
      obtain ⟨ys, e1, e2⟩ := strs_of p1 hl
      subst e1 e2
      obtain ⟨rfl, _⟩ := hy.strE
      cases hf : findIx (fun z => eqD z (.str x')) (ys.map D.str) with
      | none => rw [hf] at ho; cases ho
      | some n =>
        rw [hf] at ho
        cases ho
        obtain ⟨z, h2, h3, h4⟩ := findIx_some hf
        rw [List.getElem?_map] at h2
        cases hq : ys[n]? with
        | none => rw [hq] at h2; cases h2
        | some w =>
          rw [hq] at h2; cases h2
          rw [eqD_str] at h3
          have e3 : w = x' := by simpa using h3
          subst e3
          refine ⟨a, ys, w, n, rfl, rfl, Rep.sub_st sf h1, hq, fun m hm hz => ?_, q _ (.int _)⟩
          have := h4 m (.str w) hm (by rw [List.getElem?_map, hz]; rfl)
          rw [eqD_str] at this
          simp at this
    · cases ho
  · cases ho
/-- sep.join(xs) -/
theorem strOk_join {a : Str} (ha : PyData.strOk a = true) : ∀ {xs : List Str}, (∀ x ∈ xs, PyData.strOk x = true) → PyData.strOk (Str.join a xs) = true
  | [], _ => by simp [Str.join, Str.empty, PyData.strOk]
  | [x], h => h x List.mem_cons_self
  | x :: y :: r, h => strOk_app (strOk_app (h x List.mem_cons_self) ha) (strOk_join ha fun z hz => h z (List.mem_cons_of_mem _ hz))
theorem len_join (a : Str) : ∀ xs : List Str, (Str.join a xs).length ≤ (xs.map (·.length)).sum + xs.length * a.length
  | [] => Nat.zero_le _
  | [x] => by simp [Str.join]
  | x :: y :: r => by
    have ih := len_join a (y :: r)
    have e : (Str.join a (x :: y :: r)).length = x.length + a.length + (Str.join a (y :: r)).length := by
      show (x ++ a ++ Str.join a (y :: r)).length = _
      rw [str_len_app, str_len_app]
    rw [e, List.map_cons, List.sum_cons, List.length_cons, Nat.add_mul, Nat.one_mul]
    omega
theorem m_join : MtR X "str.join" (fun x xs H Q => ∃ y F d e g, xs = [y] ∧ Sub F H ∧ Rep X.K F x d ∧ Rep X.K F y e ∧ joinD d e = some g ∧ ∀ v, Rep X.K F v g → Q v H) := by
  refine MtR.imp mt_join fun x xs H Q h => ?_
  obtain ⟨y, F, d, e, g, rfl, sf, hx, hy, ho, q⟩ := h
  unfold joinD at ho
  split at ho
  · rename_i a l
    cases hl : allO isS l with
    | none => rw [hl] at ho; simp at ho
    | some xs =>
      rw [hl] at ho
      simp only [] at ho
      split at ho
      · rename_i hz
        cases ho
        obtain ⟨rfl, l1, o1⟩ := hx.strE
        obtain ⟨p, vs, rfl, h1, z1, p1⟩ := hy.lstE
        have ev := allO_map (g := V.str) (fun h r => isS_rep h r) p1 hl
        subst ev
        have ok : ∀ x ∈ xs, PyData.strOk x = true := by
          intro x hx
          obtain ⟨i, hi⟩ := List.mem_iff_getElem?.mp hx
          obtain ⟨d, _, r⟩ := paired_get p1 (i := i) (x := V.str x) (by rw [List.getElem?_map, hi]; rfl)
          cases r
          assumption
        refine ⟨a, p, xs, rfl, rfl, .inl (SqL.of (sf _ _ h1)), Nat.le_trans hz (by decide), ?_⟩
        rw [TL.join_eq]
        exact q _ (.str _ (big_size (Nat.le_trans (len_join a xs) hz)) (strOk_join o1 ok))
      · cases ho
  · cases ho
/-! ### isinstance -/
theorem Rep.ty (h : Rep K H v d) (hob : isObj d = false) : TyX K H v (.type (tyOf d)) := by
  cases h with
  | non => exact .base .non
  | bl b => exact .base (.bl b)
  | int i => exact .base (.int i)
  | str x => exact .base (.str x)
  | tup s =>
    rcases s with ⟨o, e, _⟩ | ⟨o, _, _, e, c, _⟩
    · exact .fTuple e
    · exact .kTuple e c
  | lst s => exact .base (.lst s)
  | dct s =>
    rcases s with s | ⟨o, s⟩
    · exact .base (.dK s)
    · exact .fDict s
  | dctL s => exact .fDict s
  | scr s =>
    rcases s with (s | ⟨o, s⟩) | ⟨o, _, _, e, c, _⟩
    · exact .base (.lst s)
    · exact .base (.frz s)
    · exact .kList e c
  | obj => cases hob
def tyNames : List String := ["int", "str", "list", "tuple", "bool"]
theorem kitB_ok : (["NoneType", "bool", "int", "str", "tuple", "list", "dict"].all fun a => tyNames.all fun b => decide (kitB a b = some (b == a || (b == "int" && a == "bool")))) = true := by decide +kernel
theorem tyOf_mem (d : D) (hob : isObj d = false) : tyOf d ∈ ["NoneType", "bool", "int", "str", "tuple", "list", "dict"] := by cases d <;> first | (cases hob; done) | simp [tyOf]
theorem kit_isa {n : String} (hn : n ∈ tyNames) (d : D) (hob : isObj d = false) : PySem.W.kitOne K (.type (tyOf d)) (.type n) = some (isa1 n d) := by
  refine kit_ty ?_
  have h := List.all_eq_true.mp (List.all_eq_true.mp kitB_ok (tyOf d) (tyOf_mem d hob)) n hn
  exact of_decide_eq_true h
theorem c_isi : CallR X (.builtin "isinstance") (fun xs H Q => ∃ x F d n, xs = [x, .ty n] ∧ Sub F H ∧ Rep X.K F x d ∧ isObj d = false ∧ n ∈ tyNames ∧ Q (.bl (isa1 n d)) H) := by
  refine CallR.imp call_isi fun xs H Q h => ?_
  obtain ⟨x, F, d, n, rfl, sf, hx, hob, hn, q⟩ := h
  exact ⟨x, .ty n, _, _, _, rfl, .ty n, (sf.rep hx).ty hob, kit_isa hn d hob, q⟩
theorem kitAny_isa (d : D) (hob : isObj d = false) : ∀ {ns : List String}, (∀ n ∈ ns, n ∈ tyNames) → PySem.W.kitAny K (.type (tyOf d)) (ns.map .type) = some (isa ns d)
  | [], _ => rfl
  | n :: ns, h => by
    refine kitAny_cons (kit_isa (h n List.mem_cons_self) d hob) (fun e => ?_) fun e => ?_
    · rw [kitAny_isa d hob fun m hm => h m (List.mem_cons_of_mem _ hm)]
      unfold isa
      rw [List.any_cons, e, Bool.false_or]
    · unfold isa
      rw [List.any_cons, e, Bool.true_or]
theorem c_isiT : CallR X (.builtin "isinstance") (fun xs H Q => ∃ x F d tp ns, xs = [x, .ref tp] ∧ H tp = some (.tup (ns.map V.ty)) ∧ Sub F H ∧ Rep X.K F x d ∧ isObj d = false ∧ (∀ n ∈ ns, n ∈ tyNames) ∧ Q (.bl (isa ns d)) H) := by
  refine CallR.imp call_isiT fun xs H Q h => ?_
  obtain ⟨x, F, d, tp, ns, rfl, ht, sf, hx, hob, hn, q⟩ := h
  refine ⟨x, tp, _, _, ns.map .type, _, rfl, ht, ?_, (sf.rep hx).ty hob, kitAny_isa d hob hn, q⟩
  clear hn ht q
  induction ns with
  | nil => exact .nil
  | cons n ns ih => exact .cons (.ty n) ih
/-! ### slices -/
theorem SlR.imp {r r' : V → Option Int → Option Int → Hp → VK → Prop} (h : SlR X r) (k : ∀ x lo hi H Q, r' x lo hi H Q → r x lo hi H Q) : SlR X r' :=
  fun pins s σ H x v vl vu lo hi sl Q I rx hs pl pu q => h pins s σ H x v vl vu lo hi sl Q I rx hs pl pu (k _ _ _ _ _ q)
theorem cut_paired {vs : List V} {ds : List D} (p : Paired (Rep K F) vs ds) (lo hi : Option Int) : Paired (Rep K F) (cutV vs lo hi) (cutL ds lo hi) := by
  unfold cutV cutL
  rw [paired_len p]
  exact paired_take (paired_drop p _) _
theorem cutS_len (z : Str) (lo hi : Option Int) : (cutS z lo hi).length ≤ z.length := by
  show (List.toArray _).size ≤ z.cps.size
  rw [List.size_toArray, List.length_take, List.length_drop, Array.length_toList]
  omega
theorem cutS_ok {z : Str} (h : PyData.strOk z = true) (lo hi : Option Int) : PyData.strOk (cutS z lo hi) = true := by
  unfold PyData.strOk at h ⊢
  rw [Array.all_eq_true_iff_forall_mem] at h ⊢
  intro c hc
  refine h c ?_
  have h1 : c ∈ ((z.cps.toList.drop (HT.sIx z.length 0 lo)).take (HT.sIx z.length z.length hi - HT.sIx z.length 0 lo)) := by simpa [cutS] using hc
  have h2 := List.mem_of_mem_drop (List.mem_of_mem_take h1)
  simpa using h2
theorem ints_paired (ns : List Int) : Paired (Rep K F) (ns.map V.int) (ns.map D.int) := by
  induction ns with
  | nil => exact .nil
  | cons n ns ih => exact .cons (.int n) ih
theorem p_slice : SlR X (fun x lo hi H Q => ∃ F d g, Sub F H ∧ Rep X.K F x d ∧ cutD d lo hi = some g ∧ ∀ v H' F', Grow F H F' H' → Rep X.K F' v g → Q v H') := by
  refine SlR.imp (SlR.or sl_list (SlR.or sl_tupG sl_str)) fun x lo hi H Q h => ?_
  obtain ⟨F, d, g, sf, hx, ho, q⟩ := h
  unfold cutD at ho
  split at ho
  · obtain ⟨a, vs, rfl, h1, z1, p1⟩ := hx.lstE
    cases ho
    refine .inl ⟨a, vs, rfl, SqL.of (sf _ _ h1), fun p hp => ?_⟩
    have g := grow_lst (K := X.K) sf hp (Nat.le_trans (cutV_length vs lo hi) z1) (cut_paired p1 lo hi)
    exact q _ _ _ g.1 g.2
  · rename_i l
    obtain ⟨a, vs, rfl, h1, z1, p1⟩ := hx.tupE
    cases ho
    refine .inr (.inl ⟨a, vs, rfl, Rep.sub_st sf h1, fun e => ?_, fun _ p ob hd hp => ?_⟩)
    · have e1 : cutL l lo hi = l := by
        unfold cutL
        rw [← paired_len p1, e.1, e.2, List.drop_zero, Nat.sub_zero, paired_len p1, List.take_length]
      rw [e1] at q
      exact q _ _ _ (Grow.refl sf) hx
    · have g := grow_tup (K := X.K) sf hp hd (Nat.le_trans (cutV_length vs lo hi) z1) (cut_paired p1 lo hi)
      exact q _ _ _ g.1 g.2
  · obtain ⟨rfl, l1, o1⟩ := hx.strE
    cases ho
    exact .inr (.inr ⟨_, rfl, l1, q _ _ _ (Grow.refl sf) (.str _ (Nat.le_trans (cutS_len _ _ _) l1) (cutS_ok o1 lo hi))⟩)
  · cases hx with
    | scr s z =>
      rename_i ns a
      cases ho
      have sq : SqL X.K H a (ns.map V.int) := s.elim (fun r => .inl ((SubR.of sf).1 _ _ r)) .inr
      refine .inl ⟨a, _, rfl, sq, fun p hp => ?_⟩
      have z1 : (ns.map V.int).length ≤ sizeLine := by rw [List.length_map]; exact z
      have g := grow_lst (K := X.K) sf hp (Nat.le_trans (cutV_length (ns.map V.int) lo hi) z1) (cut_paired (ints_paired ns) lo hi)
      exact q _ _ _ g.1 g.2
  · cases ho
end
end Pv
set_option Elab.async false
set_option linter.all false
set_option maxRecDepth 100000
set_option maxHeartbeats 4000000
namespace Pv
open PySem PySem.Spec PyProof.Rows L2 SrtO
/-! ### the order of texts -/
theorem nlt_total {a b : List Nat} (h : ¬ a < b) (h' : ¬ b < a) : a = b := List.le_antisymm (List.not_lt.mp h') (List.not_lt.mp h)
theorem strLt_irrefl (a : Str) : strLt a a = false := decide_eq_false (List.lt_irrefl _)
theorem strLt_asym {a b : Str} (h : strLt a b = true) : strLt b a = false := decide_eq_false (List.lt_asymm (of_decide_eq_true h))
theorem strLt_tr {a b c : Str} (h : strLt b a = false) (h' : strLt c b = false) : strLt c a = false := by
  have h1 : a.cps.toList ≤ b.cps.toList := List.not_lt.mp (of_decide_eq_false h)
  have h2 : b.cps.toList ≤ c.cps.toList := List.not_lt.mp (of_decide_eq_false h')
  exact decide_eq_false (List.not_lt.mpr (List.le_trans h1 h2))
theorem strLt_eq {a b : Str} (h : strLt a b = false) (h' : strLt b a = false) : a = b := by
  have e := nlt_total (of_decide_eq_false h) (of_decide_eq_false h')
  obtain ⟨a⟩ := a
  obtain ⟨b⟩ := b
  have : a = b := Array.toList_inj.mp e
  rw [this]
def pairLt (p q : Str × Str) : Bool := if p.1 = q.1 then strLt p.2 q.2 else strLt p.1 q.1
theorem pairLt_asym {p q : Str × Str} (h : pairLt p q = true) : pairLt q p = false := by
  unfold pairLt at *
  by_cases e : p.1 = q.1
  · rw [if_pos e] at h; rw [if_pos e.symm]; exact strLt_asym h
  · rw [if_neg e] at h; rw [if_neg (Ne.symm e)]; exact strLt_asym h
theorem pairLt_tr {p q r : Str × Str} (h : pairLt q p = false) (h' : pairLt r q = false) : pairLt r p = false := by
  unfold pairLt at *
  by_cases e : q.1 = p.1
  · rw [if_pos e] at h
    by_cases e' : r.1 = q.1
    · rw [if_pos e'] at h'
      rw [if_pos (e'.trans e)]
      exact strLt_tr h h'
    · rw [if_neg e'] at h'
      rw [if_neg (fun z => e' (z.trans e.symm)), ← e]
      exact h'
  · rw [if_neg e] at h
    by_cases e' : r.1 = q.1
    · rw [if_neg (fun z => e (e'.symm.trans z)), e']
      exact h
    · rw [if_neg e'] at h'
      by_cases e2 : r.1 = p.1
      · rw [if_pos e2]
        rw [e2] at h'
        exact absurd (strLt_eq h h') e
      · rw [if_neg e2]
        exact strLt_tr h h'
theorem pairLt_eq {p q : Str × Str} (h : pairLt p q = false) (h' : pairLt q p = false) : p = q := by
  unfold pairLt at *
  by_cases e : p.1 = q.1
  · rw [if_pos e] at h; rw [if_pos e.symm] at h'
    exact Prod.ext e (strLt_eq h h')
  · rw [if_neg e] at h; rw [if_neg (Ne.symm e)] at h'
    exact absurd (strLt_eq h h') e
section
variable {prog : Program} {w : World} {A : Around} {E : Value → Shared → Prop} {s : Shared}
def sv : Value → Str
  | .str x _ => x
  | _ => ⟨#[]⟩
def ltSv (v u : Value) : Bool := strLt (sv v) (sv u)
theorem swo_str : Swo ltSv := ⟨fun x y h => strLt_asym h, fun x y z h1 h2 => strLt_tr h1 h2⟩
theorem strs_mem : ∀ {vs : List Value} {ns : List Str}, StrsAre vs ns → ∀ v ∈ vs, ∃ i t, v = Value.str i t
  | _, _, .nil, v, h => absurd h (by simp)
  | _, _, .cons n t r, v, h => by
    rcases List.mem_cons.mp h with e | h
    · exact ⟨n, t, e⟩
    · exact strs_mem r v h
theorem strs_sortable {a : Addr} {vs : List Value} {ns : List Str} (hI : StrsAre vs ns) (h2 : 2 ≤ vs.length) : SortableO prog w A s a vs ltSv := by
  intro h' _
  refine ⟨oneType', fun Q E hq => ?_, fun p q hm hm' => ?_⟩
  · match vs, hI, h2 with
    | v1 :: v2 :: rest, hI, _ =>
      rw [keyKind_strs hI]
      exact wpAny_pure hq
    | [], _, h => exact absurd h (by decide)
    | [v], _, h => exact absurd h (by simp)
  · obtain ⟨a, t, e⟩ := strs_mem hI _ hm
    obtain ⟨b, u, e'⟩ := strs_mem hI _ hm'
    show wpAny (model prog w) A (keyLt' oneType' p.1 q.1) (fun r s' => s' = _ ∧ r = ltSv p.1 q.1) (fun _ _ => False) _
    rw [e, e', keyLt'_oneType]
    exact oneLt_str ⟨rfl, rfl⟩
/-- a pair of texts -/
def IsPairS (h : Heap) (v : Value) (p : Str × Str) : Prop := ∃ a o t u n, v = .ref a ∧ h.get? a = some o ∧ o.cls = .type "tuple" ∧ o.data = .seq #[.str p.1 t, .str p.2 u] n
theorem pairS_cmp {vs : List Value} {k : Value → Str × Str} (hp : ∀ v ∈ vs, IsPairS s.heap v (k v)) : Cmp prog w A s (tuples' true) (fun p => p.1 ∈ vs) (lt2 fun v u => pairLt (k v) (k u)) := by
  intro p q hm hm'
  have h1 := hp _ hm
  have h2 := hp _ hm'
  show wpAny (model prog w) A (keyLt' (tuples' true) p.1 q.1) (fun r s' => s' = s ∧ r = pairLt (k p.1) (k q.1)) (fun _ _ => False) s
  generalize k p.1 = x at h1 ⊢
  generalize k q.1 = y at h2 ⊢
  obtain ⟨a, o, t, u, n, e, ho, hc, hd⟩ := h1
  obtain ⟨a', o', t', u', n', e', ho', hc', hd'⟩ := h2
  obtain ⟨x1, x2⟩ := x
  obtain ⟨y1, y2⟩ := y
  rw [e, e']
  refine PySem.W.kat_lt ho hd ho' hd' ?_
  show PySem.W.KatLex prog w A true (decide (2 < 2)) _ [(.str x1 t, .str y1 t'), (.str x2 u, .str y2 u')] 0 s
  refine PySem.W.kat_cons (SeqAt.EqAt.str_str x1 t y1 t' prog w _ _ ?_)
  refine PySem.W.kat_go (fun e1 => ?_) (fun e1 => ?_)
  · have ex : x1 = y1 := by simpa using e1
    refine PySem.W.kat_yes (PySem.W.kat_cons (SeqAt.EqAt.str_str x2 u y2 u' prog w _ _ ?_))
    refine PySem.W.kat_go (fun e2 => ?_) (fun e2 => ?_)
    · have ey : x2 = y2 := by simpa using e2
      have e3 : pairLt (x1, x2) (y1, y2) = false := by
        unfold pairLt
        rw [if_pos ex]
        show strLt x2 y2 = false
        rw [ey]
        exact strLt_irrefl _
      exact PySem.W.kat_yes (PySem.W.kat_nil ⟨rfl, e3.symm⟩)
    · have e3 : pairLt (x1, x2) (y1, y2) = strLt x2 y2 := if_pos ex
      refine PySem.W.kat_no (PySem.W.kat_one _ _ (PyProof.Rows.lt_str ?_))
      exact (show s = s ∧ decide (x2.cps.toList < y2.cps.toList) = pairLt (x1, x2) (y1, y2) from ⟨rfl, e3.symm⟩)
  · have ex : ¬ x1 = y1 := by simpa using e1
    have e3 : pairLt (x1, x2) (y1, y2) = strLt x1 y1 := if_neg ex
    exact PySem.W.kat_no (oneLt_str ⟨rfl, e3.symm⟩)
theorem firstsS {h : Heap} : ∀ {vs : List Value}, (∀ v ∈ vs, ∃ p, IsPairS h v p) → ∃ fs : List Value, PySem.W.KatTups h vs fs ∧ fs.length = vs.length ∧ ∀ f ∈ fs, ∃ x t, f = Value.str x t
  | [], _ => ⟨[], PySem.W.KatTups.nil, rfl, fun _ hm => by simp at hm⟩
  | v :: vs, hp => by
    obtain ⟨fs, h1, h2, h3⟩ := firstsS (vs := vs) fun v' hm => hp v' (List.mem_cons_of_mem _ hm)
    obtain ⟨p, a, o, t, u, n, e, ho, hc, hd⟩ := hp v List.mem_cons_self
    subst e
    refine ⟨.str p.1 t :: fs, PySem.W.KatTups.cons ho hc hd rfl h1, by rw [List.length_cons, List.length_cons, h2], fun f hm => ?_⟩
    rcases List.mem_cons.mp hm with rfl | hm
    · exact ⟨_, _, rfl⟩
    · exact h3 f hm
theorem pairsS_sortable {a : Addr} {vs : List Value} {k : Value → Str × Str} (h0 : 0 < vs.length) (hp : ∀ v ∈ vs, IsPairS s.heap v (k v)) (ha : ∀ o, s.heap.get? a = some o → o.cls ≠ .type "tuple") : SortableO prog w A s a vs fun v u => pairLt (k v) (k u) := by
  intro h' keep
  have hp' : ∀ v ∈ vs, IsPairS h' v (k v) := fun v hm => by
    obtain ⟨b, o, t, u, n, e, ho, hc, hd⟩ := hp v hm
    exact ⟨b, o, t, u, n, e, keep b o (fun z => by subst z; exact ha o ho hc) ho, hc, hd⟩
  obtain ⟨fs, h1, h2, h3⟩ := firstsS fun v hm => ⟨_, hp' v hm⟩
  refine ⟨tuples' true, fun Q E hq => ?_, pairS_cmp hp'⟩
  refine PySem.W.kat_kind (T := .type "str") h1 (by omega) (fun f hm => ?_) (by rfl) ?_
  · obtain ⟨x, t, rfl⟩ := h3 f hm
    exact PySem.W.Looks.now
  · have e : (Value.type "str" != Value.type "tuple") = true := by decide +kernel
    rw [e]
    exact hq
end
end Pv
set_option Elab.async false
set_option linter.all false
set_option maxRecDepth 100000
set_option maxHeartbeats 4000000
namespace Pv
open PySem PySem.Spec PyProof.Rows L2 SrtO
def ltK (d e : D) : Bool := (ltD d e).getD false
theorem kinds1 {d : D} (h : kinds d = 1) : ∃ i, d = .int i := by
  unfold kinds at h
  split at h <;> first | exact ⟨_, rfl⟩ | exact absurd h (by decide)
theorem kinds2 {d : D} (h : kinds d = 2) : ∃ i, d = .str i := by
  unfold kinds at h
  split at h <;> first | exact ⟨_, rfl⟩ | exact absurd h (by decide)
theorem kinds3 {d : D} (h : kinds d = 3) : ∃ p : Str × Str, d = .tup [.str p.1, .str p.2] := by
  unfold kinds at h
  split at h <;> first | exact ⟨(_, _), rfl⟩ | exact absurd h (by decide)
theorem ltK_int (i j : Int) : ltK (.int i) (.int j) = decide (i < j) := rfl
theorem ltK_str (a b : Str) : ltK (.str a) (.str b) = strLt a b := rfl
theorem ltK_pair (p q : Str × Str) : ltK (.tup [.str p.1, .str p.2]) (.tup [.str q.1, .str q.2]) = pairLt p q := rfl
structure Hom (k : Nat) (l : List D) : Prop where
  ok : k = 1 ∨ k = 2 ∨ k = 3
  all : ∀ d ∈ l, kinds d = k
theorem ltK_asym {k : Nat} (hk : k = 1 ∨ k = 2 ∨ k = 3) {x y : D} (hx : kinds x = k) (hy : kinds y = k) (h : ltK x y = true) : ltK y x = false := by
  rcases hk with rfl | rfl | rfl
  · obtain ⟨i, rfl⟩ := kinds1 hx; obtain ⟨j, rfl⟩ := kinds1 hy
    rw [ltK_int] at *
    have := of_decide_eq_true h
    exact decide_eq_false (by omega)
  · obtain ⟨i, rfl⟩ := kinds2 hx; obtain ⟨j, rfl⟩ := kinds2 hy
    exact strLt_asym h
  · obtain ⟨i, rfl⟩ := kinds3 hx; obtain ⟨j, rfl⟩ := kinds3 hy
    exact pairLt_asym h
theorem ltK_tr {k : Nat} (hk : k = 1 ∨ k = 2 ∨ k = 3) {x y z : D} (hx : kinds x = k) (hy : kinds y = k) (hz : kinds z = k) (h : ltK y x = false) (h' : ltK z y = false) : ltK z x = false := by
  rcases hk with rfl | rfl | rfl
  · obtain ⟨i, rfl⟩ := kinds1 hx; obtain ⟨j, rfl⟩ := kinds1 hy; obtain ⟨l, rfl⟩ := kinds1 hz
    rw [ltK_int] at *
    have := of_decide_eq_false h
    have := of_decide_eq_false h'
    exact decide_eq_false (by omega)
  · obtain ⟨i, rfl⟩ := kinds2 hx; obtain ⟨j, rfl⟩ := kinds2 hy; obtain ⟨l, rfl⟩ := kinds2 hz
    exact strLt_tr h h'
  · obtain ⟨i, rfl⟩ := kinds3 hx; obtain ⟨j, rfl⟩ := kinds3 hy; obtain ⟨l, rfl⟩ := kinds3 hz
    exact pairLt_tr h h'
theorem ltK_eq {k : Nat} (hk : k = 1 ∨ k = 2 ∨ k = 3) {x y : D} (hx : kinds x = k) (hy : kinds y = k) (h : ltK x y = false) (h' : ltK y x = false) : x = y := by
  rcases hk with rfl | rfl | rfl
  · obtain ⟨i, rfl⟩ := kinds1 hx; obtain ⟨j, rfl⟩ := kinds1 hy
    rw [ltK_int] at *
    have := of_decide_eq_false h
    have := of_decide_eq_false h'
    rw [show i = j by omega]
  · obtain ⟨i, rfl⟩ := kinds2 hx; obtain ⟨j, rfl⟩ := kinds2 hy
    rw [strLt_eq h h']
  · obtain ⟨i, rfl⟩ := kinds3 hx; obtain ⟨j, rfl⟩ := kinds3 hy
    rw [pairLt_eq h h']
/-! ### sortL is the sorted one -/
def Asc (l : List D) : Prop := l.Pairwise fun x y => ltK y x = false
theorem insS_perm (d : D) : ∀ l : List D, (insS d l).Perm (d :: l)
  | [] => List.Perm.refl _
  | e :: l => by
    unfold insS
    split
    · exact List.Perm.refl _
    · exact ((insS_perm d l).cons e).trans (List.Perm.swap d e l)
theorem sortL_perm_aux : ∀ (l acc : List D), (l.foldl (fun acc d => insS d acc) acc).Perm (l ++ acc)
  | [], acc => List.Perm.refl _
  | d :: l, acc => by
    rw [List.foldl_cons]
    refine (sortL_perm_aux l _).trans ?_
    refine (List.Perm.append_left l (insS_perm d acc)).trans ?_
    rw [List.cons_append]
    exact List.perm_middle
theorem sortL_perm (l : List D) : (sortL l).Perm l := by
  have := sortL_perm_aux l []
  rwa [List.append_nil] at this
theorem insS_asc {k : Nat} (hk : k = 1 ∨ k = 2 ∨ k = 3) {d : D} (hd : kinds d = k) : ∀ {l : List D}, (∀ e ∈ l, kinds e = k) → Asc l → Asc (insS d l)
  | [], _, _ => List.pairwise_singleton _ _
  | e :: l, ha, hs => by
    have he : kinds e = k := ha e List.mem_cons_self
    obtain ⟨h1, h2⟩ := List.pairwise_cons.mp hs
    unfold insS
    split
    · rename_i hlt
      refine List.pairwise_cons.mpr ⟨fun x hx => ?_, hs⟩
      have hde : ltK d e = true := hlt
      rcases List.mem_cons.mp hx with rfl | hx
      · exact ltK_asym hk hd he hde
      · exact ltK_tr hk hd he (ha x (List.mem_cons_of_mem _ hx)) (ltK_asym hk hd he hde) (h1 x hx)
    · rename_i hlt
      have hde : ltK d e = false := by
        cases q : ltK d e with
        | false => rfl
        | true => exact absurd q hlt
      refine List.pairwise_cons.mpr ⟨fun x hx => ?_, insS_asc hk hd (fun e' h' => ha e' (List.mem_cons_of_mem _ h')) h2⟩
      rcases List.mem_cons.mp ((insS_perm d l).mem_iff.mp hx) with rfl | hx
      · exact hde
      · exact h1 x hx
theorem sortL_asc_aux {k : Nat} (hk : k = 1 ∨ k = 2 ∨ k = 3) : ∀ (l acc : List D), (∀ e ∈ l, kinds e = k) → (∀ e ∈ acc, kinds e = k) → Asc acc → Asc (l.foldl (fun acc d => insS d acc) acc)
  | [], acc, _, _, h => h
  | d :: l, acc, h1, h2, h3 => by
    rw [List.foldl_cons]
    refine sortL_asc_aux hk l _ (fun e h => h1 e (List.mem_cons_of_mem _ h)) (fun e h => ?_) (insS_asc hk (h1 d List.mem_cons_self) h2 h3)
    rcases List.mem_cons.mp ((insS_perm d acc).mem_iff.mp h) with rfl | h
    · exact h1 _ List.mem_cons_self
    · exact h2 e h
theorem sortL_asc {k : Nat} {l : List D} (h : Hom k l) : Asc (sortL l) := sortL_asc_aux h.ok l [] h.all (by simp) List.Pairwise.nil
theorem asc_uniq {k : Nat} (hk : k = 1 ∨ k = 2 ∨ k = 3) : ∀ {l m : List D}, (∀ e ∈ l, kinds e = k) → Asc l → Asc m → l.Perm m → l = m
  | [], m, _, _, _, p => (List.nil_perm.mp p).symm
  | x :: l, [], _, _, _, p => absurd p.length_eq (by simp)
  | x :: l, y :: m, ha, h1, h2, p => by
    obtain ⟨a1, a2⟩ := List.pairwise_cons.mp h1
    obtain ⟨b1, b2⟩ := List.pairwise_cons.mp h2
    have hx : kinds x = k := ha x List.mem_cons_self
    have hy : kinds y = k := ha y (p.mem_iff.mpr List.mem_cons_self)
    have e : x = y := by
      rcases List.mem_cons.mp (p.mem_iff.mp List.mem_cons_self) with e | hm
      · exact e
      · rcases List.mem_cons.mp (p.mem_iff.mpr List.mem_cons_self) with e | hm'
        · exact e.symm
        · exact ltK_eq hk hx hy (b1 x hm) (a1 y hm')
    subst e
    rw [asc_uniq hk (fun e h => ha e (List.mem_cons_of_mem _ h)) a2 b2 (p.cons_inv)]
theorem sortL_uniq {k : Nat} {l m : List D} (h : Hom k l) (hm : Asc m) (p : m.Perm l) : m = sortL l :=
  asc_uniq h.ok (fun e he => h.all e (p.mem_iff.mp he)) hm (sortL_asc h) (p.trans (sortL_perm l).symm)
theorem sortD_hom {l : List D} {m : List D} (h : sortD l = some m) : m = sortL l ∧ ∃ k, Hom k l := by
  unfold sortD at h
  split at h
  · rename_i hk
    cases h
    refine ⟨rfl, ?_⟩
    rw [Bool.or_eq_true, Bool.or_eq_true] at hk
    rcases hk with (hk | hk) | hk
    · exact ⟨1, .inl rfl, fun d hd => by simpa using List.all_eq_true.mp hk d hd⟩
    · exact ⟨2, .inr (.inl rfl), fun d hd => by simpa using List.all_eq_true.mp hk d hd⟩
    · exact ⟨3, .inr (.inr rfl), fun d hd => by simpa using List.all_eq_true.mp hk d hd⟩
  · cases h
theorem perm_paired {α β : Type} {R : α → β → Prop} {xs xs' : List α} (p : xs'.Perm xs) : ∀ {ys : List β}, Paired R xs ys → ∃ ys', ys'.Perm ys ∧ Paired R xs' ys' := by
  induction p with
  | nil => intro ys h; cases h; exact ⟨[], .refl _, .nil⟩
  | cons x _ ih =>
    intro ys h
    cases h with
    | cons r t =>
      obtain ⟨ys', p', h'⟩ := ih t
      exact ⟨_, p'.cons _, .cons r h'⟩
  | swap x y l =>
    intro ys h
    cases h with
    | cons r t =>
      cases t with
      | cons r' t => exact ⟨_, .swap _ _ _, .cons r' (.cons r t)⟩
  | trans _ _ ih1 ih2 =>
    intro ys h
    obtain ⟨ys2, p2, h2⟩ := ih2 h
    obtain ⟨ys1, p1, h1⟩ := ih1 h2
    exact ⟨ys1, p1.trans p2, h1⟩
theorem paired_asc {ltv : Value → Value → Bool} {R : Value → V × D → Prop} (hR : ∀ u v p q, R u p → R v q → ltv u v = ltK p.2 q.2) : ∀ {out : List Value} {ps : List (V × D)}, Paired R out ps → Srtd ltv out → Asc (ps.map (·.2))
  | _, _, .nil, _ => List.Pairwise.nil
  | _, _, .cons r t, h => by
    obtain ⟨h1, h2⟩ := List.pairwise_cons.mp h
    rw [List.map_cons]
    refine List.pairwise_cons.mpr ⟨fun x hx => ?_, paired_asc hR t h2⟩
    obtain ⟨q, hq, rfl⟩ := List.mem_map.mp hx
    obtain ⟨i, hi⟩ := List.mem_iff_getElem?.mp hq
    obtain ⟨u, hu, r'⟩ := paired_get' t hi
    rw [← hR _ _ _ _ r' r]
    exact h1 u (List.mem_of_getElem? hu)
theorem paired_flip {α β γ : Type} {R : α → β → Prop} {S : γ → α → Prop} {f : β → γ} {xs : List α} {ys : List β} (h : Paired R xs ys) (k : ∀ x y, R x y → S (f y) x) : Paired S (ys.map f) xs := by
  induction h with
  | nil => exact .nil
  | cons r _ ih => exact .cons (k _ _ r) ih
theorem paired_maps {α β γ δ : Type} {R : α → β → Prop} {S : γ → δ → Prop} {f : β → γ} {g : β → δ} {xs : List α} {ys : List β} (h : Paired R xs ys) (k : ∀ x y, R x y → S (f y) (g y)) : Paired S (ys.map f) (ys.map g) := by
  induction h with
  | nil => exact .nil
  | cons r _ ih => exact .cons (k _ _ r) ih
section
variable {X : Cx} {F H : Hp} {K : PySem.W.Frag}
/-- a sorted list of values, as data -/
theorem sort_out {k : Nat} {vs : List V} {ds : List D} {its out : List Value} {ltv : Value → Value → Bool} (hh : Hom k ds) (p : Paired (Rep K F) vs ds) (r : Vals vs its) (hs : Srtd ltv out) (hb : Stb ltv out its)
    (hlt : ∀ (u v : Value) (p q : V × D), (RelV p.1 u ∧ Rep K F p.1 p.2 ∧ kinds p.2 = k ∧ u ∈ its) → (RelV q.1 v ∧ Rep K F q.1 q.2 ∧ kinds q.2 = k ∧ v ∈ its) → ltv u v = ltK p.2 q.2) :
    ∃ vs', Vals vs' out ∧ Paired (Rep K F) vs' (sortL ds) := by
  have z : Paired (fun u (p : V × D) => RelV p.1 u ∧ Rep K F p.1 p.2 ∧ kinds p.2 = k ∧ u ∈ its) its (vs.zip ds) := by
    have hl := paired_len p
    have hl' := r.length
    refine paired_of (by rw [List.length_zip]; omega) fun i u q hu hq => ?_
    obtain ⟨q1, q2⟩ := q
    rw [List.getElem?_zip_eq_some] at hq
    obtain ⟨w, hw, rw'⟩ := r.get hq.1
    rw [hu] at hw
    cases hw
    exact ⟨rw', paired_at p i _ _ hq.1 hq.2, hh.all _ (List.mem_of_getElem? hq.2), List.mem_of_getElem? hu⟩
  obtain ⟨ps, pp, hp⟩ := perm_paired hb.perm z
  have asc : Asc (ps.map (·.2)) := paired_asc hlt hp hs
  have hl := paired_len p
  have e2 : (vs.zip ds).map (·.2) = ds := List.map_snd_zip (by omega)
  have pd : (ps.map (·.2)).Perm ds := by have := pp.map (·.2); rwa [e2] at this
  have es := sortL_uniq hh asc pd
  refine ⟨ps.map (·.1), ?_, ?_⟩
  · exact paired_flip hp fun u q r => r.1
  · rw [← es]
    exact paired_maps hp fun u q r => r.2.1
theorem Vals.strs : ∀ {vs : List V} {us : List Value}, Vals vs us → (∀ v ∈ vs, ∃ x, v = .str x) → ∃ ss, StrsAre us ss
  | _, _, .nil, _ => ⟨[], .nil⟩
  | _, _, .cons r t, h => by
    obtain ⟨x, rfl⟩ := h _ List.mem_cons_self
    obtain ⟨k, rfl⟩ := r
    obtain ⟨ss, hs⟩ := Vals.strs t fun v hv => h v (List.mem_cons_of_mem _ hv)
    exact ⟨x :: ss, .cons x k hs⟩
theorem pairS_fun {h : Heap} {v : Value} {p q : Str × Str} (hp : IsPairS h v p) (hq : IsPairS h v q) : p = q := by
  obtain ⟨a, o, t, u, n, e, ho, hc, hd⟩ := hp
  obtain ⟨a', o', t', u', n', e', ho', hc', hd'⟩ := hq
  rw [e] at e'; cases e'
  rw [ho] at ho'; cases ho'
  rw [hd] at hd'
  injection hd' with hd1 hd2
  have hd' := congrArg Array.toList hd1
  simp only [List.cons.injEq, Value.str.injEq] at hd'
  exact Prod.ext hd'.1.1 hd'.2.1.1
/-- the pair that a value is -/
noncomputable def pkey (h : Heap) (v : Value) : Str × Str := open Classical in if e : ∃ p, IsPairS h v p then Classical.choose e else (⟨#[]⟩, ⟨#[]⟩)
theorem pkey_eq {h : Heap} {v : Value} {p : Str × Str} (hp : IsPairS h v p) : pkey h v = p := by
  unfold pkey
  rw [dif_pos ⟨p, hp⟩]
  exact pairS_fun (Classical.choose_spec (⟨p, hp⟩ : ∃ p, IsPairS h v p)) hp
theorem pair_of_rep {pins : List (Addr × Obj)} {σ : L2.St} {s : Shared} (I : Inv X pins σ H s) {v : V} {u : Value} {p : Str × Str} (h : Rep X.K H v (.tup [.str p.1, .str p.2])) (r : RelV v u) : IsPairS s.heap u p := by
  obtain ⟨a, vs, rfl, ht, _, pr⟩ := h.tupE
  obtain ⟨its, rv, ⟨o, ho, hc, n, hd⟩, _⟩ := I.tuple ht.sq
  cases r
  cases pr with
  | cons r1 t1 =>
    cases t1 with
    | cons r2 t2 =>
      cases t2
      obtain ⟨rfl, _⟩ := r1.strE
      obtain ⟨rfl, _⟩ := r2.strE
      obtain ⟨u1, u2, rfl, ⟨t, rfl⟩, ⟨t', rfl⟩⟩ := vals2 rv
      exact ⟨a, o, t, t', n, rfl, ho, hc, hd⟩
theorem ltCps_str (a b : Str) : ltCps a.cps.toList b.cps.toList = strLt a b := by
  unfold strLt
  rw [ltCps_eq]
theorem asc_rising : ∀ (x : Str) (r : List Str), risingS x r = true → Asc ((x :: r).map .str)
  | x, [], _ => List.pairwise_singleton _ _
  | x, y :: r, h => by
    have h : (!ltCps y.cps.toList x.cps.toList && risingS y r) = true := h
    rw [Bool.and_eq_true] at h
    have ih := asc_rising y r h.2
    have h1 : ltK (.str y) (.str x) = false := by
      rw [ltK_str, ← ltCps_str]
      simpa using h.1
    have hk : ∀ d ∈ (y :: r).map D.str, kinds d = 2 := fun d hd => by
      obtain ⟨a, _, rfl⟩ := List.mem_map.mp hd
      rfl
    refine List.pairwise_cons.mpr ⟨fun d hd => ?_, ih⟩
    rcases List.mem_cons.mp hd with e | hd'
    · rw [e]; exact h1
    · have h2 : ltK d (.str y) = false := (List.pairwise_cons.mp ih).1 d hd'
      exact ltK_tr (k := 2) (.inr (.inl rfl)) rfl rfl (hk d hd) h1 h2
theorem keysS_map {kk : List Key} {ks : List Str} (h : keysS kk = some ks) : kk = ks.map Sum.inr := by
  induction kk generalizing ks with
  | nil => cases h; rfl
  | cons k kk ih =>
    unfold keysS at h
    split at h
    · rename_i x r h1 h2
      cases h
      rw [ih h2, List.map_cons]
      cases k with
      | inl i => cases h1
      | inr y => cases h1; rfl
    · cases h
theorem f1_sorted (hcalm : X.calm = true) : CallR X (.builtin "sorted") (rCF1 X.K .sorted) := by
  intro pins s σ H xs us Q I r w
  obtain ⟨x, F, d, g, rfl, sf, hx, ho, q⟩ := w
  unfold op1 sortedD at ho
  simp only [] at ho
  split at ho
  · rename_i l
    cases hm : sortD l with
    | none => rw [hm] at ho; cases ho
    | some m =>
      rw [hm] at ho
      cases ho
      obtain ⟨rfl, k, hh⟩ := sortD_hom hm
      obtain ⟨a, vs, rfl, h1, z1, p1⟩ := hx.lstE
      have p1' := sf.reps p1
      obtain ⟨its, rv, pl, hz⟩ := I.list (SqL.of (sf _ _ h1))
      rw [Vals.ref1 r]
      have hzl : its.length ≤ sizeLine := by rw [← rv.length]; exact hz
      have fin : ∀ (out : List Value) (vs' : List V), Vals vs' out → Paired (Rep X.K F) vs' (sortL l) → EP X pins σ Q (.ref (s.heap.objs.size + 1)) { s with heap := sortedAll s.heap its out.toArray } := by
        intro out vs' r' p'
        obtain ⟨ep, he'⟩ := PyProof.Rows.sortedAll_at s.heap its out.toArray
        have hlen : vs'.length ≤ sizeLine := by
          rw [paired_len p', (sortL_perm l).length_eq, ← paired_len p1]
          exact z1
        exact ⟨.ref _, _, I.laid (o := .lst vs') (t' := s.toks) (fun _ _ => PyProof.Rows.sortedAll_old) (Nat.le_succ _) ⟨hlen, out, ep, r', he'⟩, rfl, q _ vs' _ rfl (I.hok.fresh (Nat.le_succ _)) hlen p'⟩
      rcases hh.ok with e | e | e
      · subst e
        have hi : ∃ ns, IntsAre its ns := by
          have : ∀ v ∈ vs, ∃ i, v = V.int i := fun v hv => by
            obtain ⟨i, hi⟩ := List.mem_iff_getElem?.mp hv
            obtain ⟨d, hd, rd⟩ := paired_get p1 hi
            obtain ⟨j, rfl⟩ := kinds1 (hh.all d (List.mem_of_getElem? hd))
            exact ⟨j, rd.intE⟩
          clear fin hzl hz pl p1' p1 h1 z1 hx
          induction rv with
          | nil => exact ⟨[], .nil⟩
          | cons r _ ih =>
            obtain ⟨i, rfl⟩ := this _ List.mem_cons_self
            obtain ⟨t, rfl⟩ := r
            obtain ⟨ns, hs⟩ := ih fun v hv => this v (List.mem_cons_of_mem _ hv)
            exact ⟨i :: ns, .cons i t hs⟩
        obtain ⟨ns, hi⟩ := hi
        refine sorted_ord swo_int pl.isList hzl (fun h2 h₁ a' _ _ => ints_sortable hi h2) fun out hs hb => ?_
        obtain ⟨vs', r', p'⟩ := sort_out hh p1 rv hs hb fun u v p q hp hq => by
          obtain ⟨i, ei⟩ := kinds1 hp.2.2.1
          obtain ⟨j, ej⟩ := kinds1 hq.2.2.1
          have h3 := hp.1
          have h4 := hq.1
          have h5 := hp.2.1
          have h6 := hq.2.1
          rw [ei] at h5 ⊢
          rw [ej] at h6 ⊢
          rw [h5.intE] at h3
          rw [h6.intE] at h4
          obtain ⟨t, rfl⟩ := h3
          obtain ⟨t', rfl⟩ := h4
          rfl
        exact fin out vs' r' p'
      · subst e
        have hi : ∃ ss, StrsAre its ss := Vals.strs rv fun v hv => by
          obtain ⟨i, hi⟩ := List.mem_iff_getElem?.mp hv
          obtain ⟨d, hd, rd⟩ := paired_get p1 hi
          obtain ⟨j, rfl⟩ := kinds2 (hh.all d (List.mem_of_getElem? hd))
          exact ⟨j, rd.strE.1⟩
        obtain ⟨ss, hi⟩ := hi
        refine sorted_ord swo_str pl.isList hzl (fun h2 h₁ a' _ _ => strs_sortable hi h2) fun out hs hb => ?_
        obtain ⟨vs', r', p'⟩ := sort_out hh p1 rv hs hb fun u v p q hp hq => by
          obtain ⟨i, ei⟩ := kinds2 hp.2.2.1
          obtain ⟨j, ej⟩ := kinds2 hq.2.2.1
          have h3 := hp.1
          have h4 := hq.1
          have h5 := hp.2.1
          have h6 := hq.2.1
          rw [ei] at h5 ⊢
          rw [ej] at h6 ⊢
          rw [h5.strE.1] at h3
          rw [h6.strE.1] at h4
          obtain ⟨t, rfl⟩ := h3
          obtain ⟨t', rfl⟩ := h4
          rfl
        exact fin out vs' r' p'
      · subst e
        have hp : ∀ v ∈ its, IsPairS s.heap v (pkey s.heap v) := fun v hv => by
          obtain ⟨i, hi⟩ := List.mem_iff_getElem?.mp hv
          obtain ⟨w, hw, rw'⟩ := paired_get' rv hi
          obtain ⟨d, hd, rd⟩ := paired_get p1' hw
          obtain ⟨p, rfl⟩ := kinds3 (hh.all d (List.mem_of_getElem? hd))
          have := pair_of_rep I rd rw'
          rw [pkey_eq this]
          exact this
        by_cases h0 : its = []
        · subst h0
          cases rv
          cases p1
          have swo : Swo fun v u : Value => pairLt (pkey s.heap v) (pkey s.heap u) := ⟨fun x y h => pairLt_asym h, fun x y z h1 h2 => pairLt_tr h1 h2⟩
          refine sorted_ord swo pl.isList hzl (fun h2 => absurd h2 (by simp)) fun out hs hb => ?_
          have eo : out = [] := List.perm_nil.mp hb.perm
          subst eo
          exact fin [] [] .nil .nil
        · have swo : Swo fun v u : Value => pairLt (pkey s.heap v) (pkey s.heap u) := ⟨fun x y h => pairLt_asym h, fun x y z h1 h2 => pairLt_tr h1 h2⟩
          refine sorted_ord swo pl.isList hzl (fun h2 h₁ a' ha kk => ?_) fun out hs hb => ?_
          · refine pairsS_sortable (s := { s with heap := h₁ }) (by omega) (fun v hm => ?_) fun o e => ?_
            · obtain ⟨b, o, t, u, n, e, ho, hc, hd⟩ := hp v hm
              exact ⟨b, o, t, u, n, e, (kk b o ho).2, hc, hd⟩
            · have e' : some o = some (seqObj "list" its.toArray 0) := e.symm.trans ha
              cases e'
              intro c
              exact absurd (Value.type.inj c) (by decide)
          · obtain ⟨vs', r', p'⟩ := sort_out hh p1 rv hs hb fun u v p q hp' hq' => by
              obtain ⟨i, ei⟩ := kinds3 hp'.2.2.1
              obtain ⟨j, ej⟩ := kinds3 hq'.2.2.1
              have h5 := sf.rep hp'.2.1
              have h6 := sf.rep hq'.2.1
              rw [ei] at h5 ⊢
              rw [ej] at h6 ⊢
              rw [pkey_eq (pair_of_rep I h5 hp'.1), pkey_eq (pair_of_rep I h6 hq'.1)]
              rfl
            exact fin out vs' r' p'
  · rename_i l
    split at ho
    · rename_i ks hks
      split at ho
      · rename_i h64
        cases ho
        obtain ⟨a, kvs, rfl, hrd, hz, kn, pr⟩ := hx.dctE
        have e1 := keysS_map hks
        refine call_sortedD hcalm pins s σ H _ us Q I r ⟨a, kvs, ks, rfl, (SubR.of sf).1 _ _ hrd, (kv_keys pr).trans e1, h64, fun ys p hp hs hn => ?_⟩
        have hasc : Asc (ys.map .str) := by
          cases ys with
          | nil => exact .nil
          | cons y ys => exact asc_rising y ys hs
        have he : ys.map D.str = sortL (ks.map .str) := sortL_uniq (k := 2) ⟨.inr (.inl rfl), fun d hd => by
          obtain ⟨x, _, rfl⟩ := List.mem_map.mp hd
          rfl⟩ hasc (hp.map _)
        refine q p (ys.map V.str) _ rfl hn (by rw [List.length_map, hp.length_eq, sizeLine_eq]; omega) ?_
        rw [← he]
        refine paired_of (by simp) fun i x y h1 h2 => ?_
        rw [List.getElem?_map] at h1 h2
        cases hy : ys[i]? with
        | none => rw [hy] at h1; cases h1
        | some w =>
          rw [hy] at h1 h2
          cases h1
          cases h2
          have hm : Sum.inr w ∈ l.map (·.1) := by
            rw [e1]
            exact List.mem_map.mpr ⟨w, hp.mem_iff.mp (List.mem_of_getElem? hy), rfl⟩
          have := kn.2 _ hm
          exact .str w this.1 this.2
      · cases ho
    · cases ho
  · cases ho
end
end Pv
set_option Elab.async false
set_option linter.all false
set_option maxRecDepth 100000
set_option maxHeartbeats 4000000
namespace Pv
open PySem PySem.Spec PyProof.Rows L2
section
variable {prog : Program} {w : World} {A : Around} {E : Value → Shared → Prop} {s : Shared}
theorem cmp_str_gt {P : Nat → Value → Prop} (val : Nat → Str) (hval : ∀ i v, P i v → ∃ t, v = .str (val i) t) : CmpOf prog w A .Gt P (fun i j => strLt (val j) (val i)) := fun i j vi vj s Q E hi hj h => by
  obtain ⟨t, rfl⟩ := hval i vi hi
  obtain ⟨u, rfl⟩ := hval j vj hj
  exact (show wpAny _ _ (compareOp .Gt _ _) _ _ _ from PySem.P.gt_str h)
theorem cmp_str_lt {P : Nat → Value → Prop} (val : Nat → Str) (hval : ∀ i v, P i v → ∃ t, v = .str (val i) t) : CmpOf prog w A .Lt P (fun i j => strLt (val i) (val j)) := fun i j vi vj s Q E hi hj h => by
  obtain ⟨t, rfl⟩ := hval i vi hi
  obtain ⟨u, rfl⟩ := hval j vj hj
  exact (show wpAny _ _ (compareOp .Lt _ _) _ _ _ from PyProof.Rows.lt_str h)
def two (a b : Str) (i : Nat) : Str := if i = 0 then a else b
theorem two_at {a b : Str} {t u : Tok} {i : Nat} {v : Value} (h : #[Value.str a t, Value.str b u][i]? = some v) : ∃ k, v = .str (two a b i) k := by
  match i, h with
  | 0, h => simp at h; subst h; exact ⟨t, rfl⟩
  | 1, h => simp at h; subst h; exact ⟨u, rfl⟩
  | i + 2, h => simp at h
theorem max_two_strs {a b : Str} {t u : Tok} {Q : Value → Shared → Prop} (hh : A.handled = none)
    (h : ∀ h' tk, (∀ c o, s.heap.get? c = some o → h'.get? c = some o) → Q (if strLt a b then .str b u else .str a t) { s with heap := h', toks := tk }) :
    wpAny (model prog w) A (call (.builtin "max") [.str a t, .str b u]) Q E s := by
  have hT : (s.heap.push { cls := .type "tuple", data := .seq #[.str a t, .str b u] }).IsTuple s.heap.objs.size #[.str a t, .str b u] := ⟨_, Heap.get?_push_size _ rfl, rfl, 0, rfl⟩
  have hsz : (s.heap.push { cls := .type "tuple", data := .seq #[.str a t, .str b u] }).objs.size = s.heap.objs.size + 1 := Heap.size_push ..
  refine call_max_two (wpAny_pyIter_tuple hT ?_)
  refine ⟨_, [_, s.heap.objs.size], [_], _, _, _, _, rfl, Walks.tuple (A := A.in1) hh _ s.heap.objs.size (by rw [hsz]; exact Nat.ne_of_lt (Nat.lt_succ_self _)) #[.str a t, .str b u],
    ⟨⟨_, Heap.get?_push_size _ rfl, rfl, rfl⟩, hT.push _⟩, fun c hc => ?_, by simp, cmp_str_gt (two a b) (fun _ _ hP => two_at hP), fun v h' tk hP hk => ?_⟩
  · rw [Heap.size_push, hsz]
    simp only [List.mem_cons, List.not_mem_nil, or_false] at hc
    rcases hc with rfl | rfl
    · rw [hsz]; exact Nat.lt_succ_self _
    · exact Nat.lt_succ_of_lt (Nat.lt_succ_self _)
  · have old : ∀ c o, s.heap.get? c = some o → h'.get? c = some o := fun c o e => by
      refine hk c o (fun hm => ?_) (Heap.get?_push_of_some _ (Heap.get?_push_of_some _ e))
      have lt := Heap.lt_size e
      simp only [List.mem_cons, List.not_mem_nil, or_false] at hm
      rw [hm, hsz] at lt
      exact Nat.lt_irrefl _ (Nat.lt_of_succ_lt lt)
    have hv : v = if strLt a b then Value.str b u else Value.str a t := by
      have hP' : #[Value.str a t, Value.str b u][argBest (fun i j => strLt (two a b j) (two a b i)) 1]? = some v := hP
      by_cases hba : strLt a b = true
      · have e : argBest (fun i j => strLt (two a b j) (two a b i)) 1 = 1 := by simp [argBest, two, hba]
        rw [e] at hP'
        simpa [hba] using hP'.symm
      · have e : argBest (fun i j => strLt (two a b j) (two a b i)) 1 = 0 := by simp [argBest, two, hba]
        rw [e] at hP'
        simpa [hba] using hP'.symm
    rw [hv]
    exact h h' tk old
theorem min_two_strs {a b : Str} {t u : Tok} {Q : Value → Shared → Prop} (hh : A.handled = none)
    (h : ∀ h' tk, (∀ c o, s.heap.get? c = some o → h'.get? c = some o) → Q (if strLt b a then .str b u else .str a t) { s with heap := h', toks := tk }) :
    wpAny (model prog w) A (call (.builtin "min") [.str a t, .str b u]) Q E s := by
  have hT : (s.heap.push { cls := .type "tuple", data := .seq #[.str a t, .str b u] }).IsTuple s.heap.objs.size #[.str a t, .str b u] := ⟨_, Heap.get?_push_size _ rfl, rfl, 0, rfl⟩
  have hsz : (s.heap.push { cls := .type "tuple", data := .seq #[.str a t, .str b u] }).objs.size = s.heap.objs.size + 1 := Heap.size_push ..
  refine call_min_two (wpAny_pyIter_tuple hT ?_)
  refine ⟨_, [_, s.heap.objs.size], [_], _, _, _, _, rfl, Walks.tuple (A := A.in1) hh _ s.heap.objs.size (by rw [hsz]; exact Nat.ne_of_lt (Nat.lt_succ_self _)) #[.str a t, .str b u],
    ⟨⟨_, Heap.get?_push_size _ rfl, rfl, rfl⟩, hT.push _⟩, fun c hc => ?_, by simp, cmp_str_lt (two a b) (fun _ _ hP => two_at hP), fun v h' tk hP hk => ?_⟩
  · rw [Heap.size_push, hsz]
    simp only [List.mem_cons, List.not_mem_nil, or_false] at hc
    rcases hc with rfl | rfl
    · rw [hsz]; exact Nat.lt_succ_self _
    · exact Nat.lt_succ_of_lt (Nat.lt_succ_self _)
  · have old : ∀ c o, s.heap.get? c = some o → h'.get? c = some o := fun c o e => by
      refine hk c o (fun hm => ?_) (Heap.get?_push_of_some _ (Heap.get?_push_of_some _ e))
      have lt := Heap.lt_size e
      simp only [List.mem_cons, List.not_mem_nil, or_false] at hm
      rw [hm, hsz] at lt
      exact Nat.lt_irrefl _ (Nat.lt_of_succ_lt lt)
    have hv : v = if strLt b a then Value.str b u else Value.str a t := by
      have hP' : #[Value.str a t, Value.str b u][argBest (fun i j => strLt (two a b i) (two a b j)) 1]? = some v := hP
      by_cases hba : strLt b a = true
      · have e : argBest (fun i j => strLt (two a b i) (two a b j)) 1 = 1 := by simp [argBest, two, hba]
        rw [e] at hP'
        simpa [hba] using hP'.symm
      · have e : argBest (fun i j => strLt (two a b i) (two a b j)) 1 = 0 := by simp [argBest, two, hba]
        rw [e] at hP'
        simpa [hba] using hP'.symm
    rw [hv]
    exact h h' tk old
end
section
variable {X : Cx}
theorem p2_max (hc : X.calm = true) : CallR X (.builtin "max") (rC2 X.K .max) := by
  intro pins s σ H xs us Q I r w
  obtain ⟨x, y, rfl, F, d, e, g, sf, hx, hy, ho, q⟩ := w
  unfold op2 maxD at ho
  simp only [] at ho
  split at ho
  · obtain rfl := hx.intE; obtain rfl := hy.intE; cases ho
    exact call_max2 hc pins s σ H _ us Q I r ⟨_, _, rfl, q _ _ _ (Grow.refl sf) (.int _)⟩
  · obtain ⟨rfl, l1, o1⟩ := hx.strE; obtain ⟨rfl, l2, o2⟩ := hy.strE; cases ho
    obtain ⟨u, w', rfl, ⟨t, rfl⟩, ⟨t', rfl⟩⟩ := vals2 r
    rename_i a b
    refine max_two_strs (I.ok.hd hc) fun h' tk k => ⟨.str (if strLt a b then b else a), H, I.kept k, ?_, q _ _ _ (Grow.refl sf) ?_⟩
    · by_cases hb : strLt a b = true
      · rw [if_pos hb, if_pos hb]; exact ⟨_, rfl⟩
      · rw [if_neg hb, if_neg hb]; exact ⟨_, rfl⟩
    · by_cases hb : strLt a b = true
      · rw [if_pos hb]; exact .str _ l2 o2
      · rw [if_neg hb]; exact .str _ l1 o1
  · cases ho
theorem p2_min (hc : X.calm = true) : CallR X (.builtin "min") (rC2 X.K .min) := by
  intro pins s σ H xs us Q I r w
  obtain ⟨x, y, rfl, F, d, e, g, sf, hx, hy, ho, q⟩ := w
  unfold op2 minD at ho
  simp only [] at ho
  split at ho
  · obtain rfl := hx.intE; obtain rfl := hy.intE; cases ho
    exact call_min2 hc pins s σ H _ us Q I r ⟨_, _, rfl, q _ _ _ (Grow.refl sf) (.int _)⟩
  · obtain ⟨rfl, l1, o1⟩ := hx.strE; obtain ⟨rfl, l2, o2⟩ := hy.strE; cases ho
    obtain ⟨u, w', rfl, ⟨t, rfl⟩, ⟨t', rfl⟩⟩ := vals2 r
    rename_i a b
    refine min_two_strs (I.ok.hd hc) fun h' tk k => ⟨.str (if strLt b a then b else a), H, I.kept k, ?_, q _ _ _ (Grow.refl sf) ?_⟩
    · by_cases hb : strLt b a = true
      · rw [if_pos hb, if_pos hb]; exact ⟨_, rfl⟩
      · rw [if_neg hb, if_neg hb]; exact ⟨_, rfl⟩
    · by_cases hb : strLt b a = true
      · rw [if_pos hb]; exact .str _ l2 o2
      · rw [if_neg hb]; exact .str _ l1 o1
  · cases ho
end
end Pv
set_option Elab.async false
set_option linter.all false
set_option maxRecDepth 100000
set_option maxHeartbeats 4000000
namespace Pv
open PySem PySem.Spec PyProof.Rows L2
/-- what a body's context must bear -/
structure XO (X : Cx) (z : Z) (W : WX) : Prop where
  K : X.K = z.K
  calm : X.calm = true
  nd : X.N.Nodup
  tk : Takes X W
  hu : X.A.units + 65 < cLine
  gu : X.A.guards = some []
section
variable {X : Cx} {z : Z} {M : Nat → Sh} {W : WX} {sh : Sh} {σ : L2.St} {H : Hp} {Q : VK}
abbrev SE (X : Cx) (z : Z) (M : Nat → Sh) (W : WX) (sh : Sh) (e : Expr) (f : Dv → R D) : Prop := PE X e (tF z M W sh f)
theorem snd_var {i : Nat} {x : Str} {pos : Pos} (hN : X.N[i]? = some x) (hv : Vis X.env.scope x) (hM : M i = .pure) (hd : (x == ("__debug__" : Str)) = false) (hcd : (x == ("__classdict__" : Str)) = false) :
    SE X z M W .pure (.Name x pos) (ev z.cf (.var i)) := by
  refine PE.imp (pe_var hN hv hd hcd) fun σ H Q w => ?_
  obtain ⟨c, As, F, env, hK, hM', r, h⟩ := w
  unfold ev at h
  split at h
  · rename_i d e
    obtain ⟨v, h1, h2⟩ := r.val i d e
    rw [hM', hM] at h2
    exact ⟨v, h1, h.ret r (Sub.refl _) h2.2⟩
  · exact h.elim
theorem get_set_none {env : Dv} {i j : Nat} {d : D} (h : (env.set i none)[j]? = some (some d)) : j ≠ i ∧ env[j]? = some (some d) := by
  rw [List.getElem?_set] at h
  split at h
  · split at h <;> cases h
  · rename_i hn
    exact ⟨fun e => hn e.symm, h⟩
/-- a slot given away -/
theorem Rel.gone {c : Ctx} {As : Nat → List Addr} {F : Hp} {env : Dv} (r : Rel c As F env σ H) {i : Nat} {d : D} (e : env[i]? = some (some d)) :
    Rel c As F (env.set i none) σ H ∧ New c F H As (env.set i none) (As i) := by
  refine ⟨⟨fun j d h => r.val j d (get_set_none h).2, fun j d h => r.off j d (get_set_none h).2, fun j d h => r.nw j d (get_set_none h).2,
    fun j k d e' hn h1 h2 => r.dis j k d e' hn (get_set_none h1).2 (get_set_none h2).2, r.sub, r.old, r.frame, r.newF, by rw [List.length_set]; exact r.len, r.fix⟩,
    ⟨fun a ha => ?_, r.off i d e, fun a ha m => ?_⟩, r.nw i d e⟩
  · obtain ⟨v, _, h2⟩ := r.val i d e
    obtain ⟨o, h3, _⟩ := h2.there a ha
    exact ⟨o, h3⟩
  · obtain ⟨j, d', h1, h2⟩ := mem_owned.mp m
    obtain ⟨hn, h3⟩ := get_set_none h1
    exact r.dis i j d d' (Ne.symm hn) e h3 a ha h2
theorem snd_mv {i : Nat} {x : Str} {pos : Pos} (hN : X.N[i]? = some x) (hv : Vis X.env.scope x) (hM : M i = sh) (hd : (x == ("__debug__" : Str)) = false) (hcd : (x == ("__classdict__" : Str)) = false) :
    SE X z M W sh (.Name x pos) (ev z.cf (.mv i)) := by
  refine PE.imp (pe_var hN hv hd hcd) fun σ H Q w => ?_
  obtain ⟨c, As, F, env, hK, hM', r, h⟩ := w
  unfold ev at h
  split at h
  · rename_i d e
    obtain ⟨v, h1, h2⟩ := r.val i d e
    rw [hM', hM] at h2
    obtain ⟨r', n⟩ := r.gone e
    exact ⟨v, h1, h v H F As (As i) r' (Sub.refl _) h2 n⟩
  · exact h.elim
theorem snd_c {e : Expr} {v : V} {d : D} (he : PE X e (tC v)) (hr : ∀ K F, Rep K F v d) : SE X z M W .pure e (ev z.cf (.cst d)) :=
  PE.imp he fun σ H Q ⟨c, As, F, env, hK, hM', r, h⟩ => h.ret r (Sub.refl _) (hr _ _)
/-! ### operations -/
theorem seq1 {fa : Dv → R D} {o : Op1} (h : tF z M W .pure (fun env => bindR (fa env) fun x e => liftO (op1 o x) e) σ H Q) : (tF z M W .pure fa) σ H fun x H1 => rP1 z.K o x H1 Q := by
  obtain ⟨c, As, F, env, hK, hM, r, h⟩ := h
  refine ⟨c, As, F, env, hK, hM, r, (okE.bind h).imp ?_⟩
  rintro v H1 ⟨d, e, F1, As1, _, r1, s1, p1, h1⟩
  cases ho : op1 o d with
  | none => rw [ho] at h1; exact h1.elim
  | some g =>
    rw [ho] at h1
    exact ⟨F1, d, g, r1.sub, hK ▸ p1, ho, fun w H' F' gr p => h1.ret (r1.grow gr) gr.f (hK ▸ p)⟩
theorem seq2 {fa fb : Dv → R D} {o : Op2} (h : tF z M W .pure (fun env => bindR (fa env) fun x e => bindR (fb e) fun y e' => liftO (op2 o x y) e') σ H Q) :
    tOp (rP2 z.K o) (tF z M W .pure fa) (tF z M W .pure fb) σ H Q := by
  obtain ⟨c, As, F, env, hK, hM, r, h⟩ := h
  refine ⟨c, As, F, env, hK, hM, r, (okE.bind h).imp ?_⟩
  rintro v H1 ⟨d, e, F1, As1, _, r1, s1, p1, h1⟩
  refine ⟨c, As1, F1, e, hK, hM, r1, (okE.bind h1).imp ?_⟩
  rintro u H2 ⟨d2, e2, F2, As2, _, r2, s2, p2, h2⟩
  cases ho : op2 o d d2 with
  | none => rw [ho] at h2; exact h2.elim
  | some g =>
    rw [ho] at h2
    exact ⟨F2, d, d2, g, r2.sub, hK ▸ s2.rep p1, hK ▸ p2, ho, fun w H' F' gr p => h2.ret (r2.grow gr) gr.f (hK ▸ p)⟩
/-- as seq2, what the operation does left open -/
theorem seq2' {fa fb : Dv → R D} {f : D → D → Option D} (h : tF z M W .pure (fun env => bindR (fa env) fun x e => bindR (fb e) fun y e' => liftO (f x y) e') σ H Q) :
    (tF z M W .pure fa) σ H fun x H1 => (tF z M W .pure fb) σ H1 fun y H2 => ∃ F d e g, Sub F H2 ∧ Rep z.K F x d ∧ Rep z.K F y e ∧ f d e = some g ∧ ∀ v H' F', Grow F H2 F' H' → Rep z.K F' v g → Q v H' := by
  obtain ⟨c, As, F, env, hK, hM, r, h⟩ := h
  refine ⟨c, As, F, env, hK, hM, r, (okE.bind h).imp ?_⟩
  rintro v H1 ⟨d, e, F1, As1, _, r1, s1, p1, h1⟩
  refine ⟨c, As1, F1, e, hK, hM, r1, (okE.bind h1).imp ?_⟩
  rintro u H2 ⟨d2, e2, F2, As2, _, r2, s2, p2, h2⟩
  cases ho : f d d2 with
  | none => rw [ho] at h2; exact h2.elim
  | some g =>
    rw [ho] at h2
    exact ⟨F2, d, d2, g, r2.sub, hK ▸ s2.rep p1, hK ▸ p2, ho, fun w H' F' gr p => h2.ret (r2.grow gr) gr.f (hK ▸ p)⟩
def binOf : Operator → Option Op2
  | .Add => some .add
  | .Sub => some .sub
  | .Mult => some .mul
  | .FloorDiv => some .fdiv
  | .Mod => some .mod
  | .Pow => some .pow
  | .LShift => some .shl
  | .RShift => some .shr
  | .BitAnd => some .band
  | .BitOr => some .bor
  | _ => none
def cmpOf : CmpOp → Option Op2
  | .Eq => some .eq
  | .NotEq => some .ne
  | .Lt => some .lt
  | .LtE => some .le
  | .Gt => some .gt
  | .GtE => some .ge
  | .In => some .isin
  | .NotIn => some .notin
  | .Is => some .is
  | .IsNot => some .isnot
theorem bin_rule {op : Operator} {o : Op2} (h : binOf op = some o) : OpR X (binaryOp op) (rP2 X.K o) := by
  cases op <;> simp [binOf] at h <;> subst h
  · exact p2_add
  · exact p2_sub
  · exact p2_mul
  · exact p2_mod
  · exact p2_pow
  · exact p2_shl
  · exact p2_shr
  · exact p2_bor
  · exact p2_band
  · exact p2_fdiv
theorem cmp_rule (hu : X.A.units + 65 < cLine) {op : CmpOp} {o : Op2} (h : cmpOf op = some o) : OpR X (compareOp op) (rP2 X.K o) := by
  cases op <;> simp [cmpOf] at h <;> subst h
  · exact p2_eq hu
  · exact p2_ne hu
  · exact p2_lt
  · exact p2_le
  · exact p2_gt
  · exact p2_ge
  · exact p2_is
  · exact p2_isnot
  · exact p2_in hu
  · exact p2_notin hu
theorem snd_bin {ea eb : Expr} {a b : E} {op : Operator} {o : Op2} {pos : Pos} (x : XO X z W) (hb : binOf op = some o) (ha : SE X z M W .pure ea (ev z.cf a)) (hb' : SE X z M W .pure eb (ev z.cf b)) : SE X z M W .pure (.BinOp ea op eb pos) (ev z.cf (.op2 o a b)) :=
  PE.imp (pe_op (bin_rule hb) ha hb') fun σ H Q h => by rw [x.K]; exact seq2 h
theorem snd_cmp {ea eb : Expr} {a b : E} {op : CmpOp} {o : Op2} {pos : Pos} (x : XO X z W) (hb : cmpOf op = some o) (hm : behindInMarks op eb = false) (ha : SE X z M W .pure ea (ev z.cf a)) (hb' : SE X z M W .pure eb (ev z.cf b)) : SE X z M W .pure (.Compare ea [op] [eb] pos) (ev z.cf (.op2 o a b)) :=
  PE.imp (pe_cmpR (cmp_rule x.hu hb) ha hb' hm) fun σ H Q h => by rw [x.K]; exact seq2 h
theorem snd_neg {ea : Expr} {a : E} {pos : Pos} (x : XO X z W) (ha : SE X z M W .pure ea (ev z.cf a)) : SE X z M W .pure (.UnaryOp .USub ea pos) (ev z.cf (.op1 .neg a)) :=
  PE.imp (pe_un p1_neg ha) fun σ H Q h => by rw [x.K]; exact seq1 h
theorem snd_ix {ea eb : Expr} {a b : E} {pos : Pos} (x : XO X z W) (hs : PlainIx eb) (hn : NoSl eb) (ha : SE X z M W .pure ea (ev z.cf a)) (hb' : SE X z M W .pure eb (ev z.cf b)) : SE X z M W .pure (.Subscript ea eb pos) (ev z.cf (.op2 .ix a b)) := by
  refine PE.imp (pe_ixP x.hu ha hb' hs hn) fun σ H Q h => ?_
  obtain ⟨c, As, F, env, hK, hM, r, h⟩ := h
  have h' : okE z W c .pure F σ (bindR (ev z.cf a env) fun x e => bindR (ev z.cf b e) fun y e' => liftO (op2 .ix x y) e') Q := h
  by_cases hd : ∃ l e, ev z.cf a env = .ok (.dct l) e
  · right
    obtain ⟨l, e0, he0⟩ := hd
    refine ⟨c, As, F, env, hK, hM, r, (okE.bind h').imp ?_⟩
    rintro v H1 ⟨d, e, F1, As1, q, r1, s1, p1, h1⟩
    rw [he0] at q
    cases q
    refine ⟨c, As1, F1, e0, hK, hM, r1, (okE.bind h1).imp ?_⟩
    rintro u H2 ⟨d2, e2, F2, As2, _, r2, s2, p2, h2⟩
    cases ho : op2 .ix (.dct l) d2 with
    | none => rw [ho] at h2; exact h2.elim
    | some g =>
      rw [ho] at h2
      have k := x.K
      exact ixd_of (X := X) r2.sub (by rw [k, ← hK]; exact s2.rep p1) (by rw [k, ← hK]; exact p2) ho fun w H' F' gr p => h2.ret (r2.grow gr) gr.f (by rw [hK, ← k]; exact p)
  · by_cases hdL : ∃ l e, ev z.cf a env = .ok (.dctL l) e
    · right
      obtain ⟨l, e0, he0⟩ := hdL
      refine ⟨c, As, F, env, hK, hM, r, (okE.bind h').imp ?_⟩
      rintro v H1 ⟨d, e, F1, As1, q, r1, s1, p1, h1⟩
      rw [he0] at q
      cases q
      refine ⟨c, As1, F1, e0, hK, hM, r1, (okE.bind h1).imp ?_⟩
      rintro u H2 ⟨d2, e2, F2, As2, _, r2, s2, p2, h2⟩
      cases ho : op2 .ix (.dctL l) d2 with
      | none => rw [ho] at h2; exact h2.elim
      | some g =>
        rw [ho] at h2
        have k := x.K
        exact ixd_of (X := X) (l := l) r2.sub (by rw [k, ← hK]; exact (s2.rep p1).unlk) (by rw [k, ← hK]; exact p2) ho fun w H' F' gr p => h2.ret (r2.grow gr) gr.f (by rw [hK, ← k]; exact p)
    · left
      refine ⟨c, As, F, env, hK, hM, r, (okE.bind h').imp ?_⟩
      rintro v H1 ⟨d, e, F1, As1, q, r1, s1, p1, h1⟩
      refine ⟨c, As1, F1, e, hK, hM, r1, (okE.bind h1).imp ?_⟩
      rintro u H2 ⟨d2, e2, F2, As2, _, r2, s2, p2, h2⟩
      cases ho : op2 .ix d d2 with
      | none => rw [ho] at h2; exact h2.elim
      | some g =>
        rw [ho] at h2
        have k := x.K
        exact ix_of (X := X) r2.sub (by rw [k, ← hK]; exact s2.rep p1) (by rw [k, ← hK]; exact p2) ho (fun w H' F' gr p => h2.ret (r2.grow gr) gr.f (by rw [hK, ← k]; exact p)) (fun l el => hd ⟨l, e, by rw [q, el]⟩) fun l el => hdL ⟨l, e, by rw [q, el]⟩
/-! ### truth -/
theorem Rep.tru {K : PySem.W.Frag} {F : Hp} {v : V} {d : D} {k : Bool} (sf : Sub F H) (h : Rep K F v d) (e : d.truth = some k) : TruV K v H k := by
  cases h with
  | non => cases e; rfl
  | bl b => cases e; rfl
  | int i => cases e; rfl
  | str x l o =>
    cases e
    refine ⟨l, ?_⟩
    cases x.length <;> rfl
  | tup s z l _ =>
    cases e
    refine .inr (.inl ⟨_, Rep.sub_st sf s, ?_⟩)
    rename_i vs ds _
    cases vs <;> cases ds <;> simp at l ⊢
  | lst s z l _ =>
    cases e
    refine .inl ⟨_, SqL.of (sf _ _ s), ?_⟩
    rename_i vs ds _
    cases vs <;> cases ds <;> simp at l ⊢
  | dct => cases e
  | dctL => cases e
  | scr => cases e
  | obj => cases e
theorem snd_and {ea eb : Expr} {rest : List Expr} {a b : E} {pos : Pos} (x : XO X z W) (ha : SE X z M W .pure ea (ev z.cf a)) (hb : SE X z M W .pure (.BoolOp .And (eb :: rest) pos) (ev z.cf b)) : SE X z M W .pure (.BoolOp .And (ea :: eb :: rest) pos) (ev z.cf (.and a b)) := by
  refine PE.imp (pe_andT ha hb) fun σ H Q h => ?_
  obtain ⟨c, As, F, env, hK, hM, r, h⟩ := h
  have h' : okE z W c .pure F σ (bindR (ev z.cf a env) fun x e => bindR (liftO x.truth e) fun k e => bif k then ev z.cf b e else .ok x e) Q := h
  refine ⟨c, As, F, env, hK, hM, r, (okE.bind h').imp ?_⟩
  rintro v H1 ⟨d, e, F1, As1, _, r1, s1, p1, h1⟩
  cases ht : d.truth with
  | none => rw [ht] at h1; exact h1.elim
  | some k =>
    rw [ht] at h1
    refine ⟨k, by rw [x.K, ← hK]; exact p1.tru r1.sub ht, ?_⟩
    cases k with
    | true => rw [if_pos rfl]; exact ⟨c, As1, F1, e, hK, hM, r1, h1⟩
    | false => rw [if_neg Bool.false_ne_true]; exact okE.ret h1 r1 (Sub.refl _) p1
theorem snd_or {ea eb : Expr} {rest : List Expr} {a b : E} {pos : Pos} (x : XO X z W) (ha : SE X z M W .pure ea (ev z.cf a)) (hb : SE X z M W .pure (.BoolOp .Or (eb :: rest) pos) (ev z.cf b)) : SE X z M W .pure (.BoolOp .Or (ea :: eb :: rest) pos) (ev z.cf (.or a b)) := by
  refine PE.imp (pe_orT ha hb) fun σ H Q h => ?_
  obtain ⟨c, As, F, env, hK, hM, r, h⟩ := h
  have h' : okE z W c .pure F σ (bindR (ev z.cf a env) fun x e => bindR (liftO x.truth e) fun k e => bif k then .ok x e else ev z.cf b e) Q := h
  refine ⟨c, As, F, env, hK, hM, r, (okE.bind h').imp ?_⟩
  rintro v H1 ⟨d, e, F1, As1, _, r1, s1, p1, h1⟩
  cases ht : d.truth with
  | none => rw [ht] at h1; exact h1.elim
  | some k =>
    rw [ht] at h1
    refine ⟨k, by rw [x.K, ← hK]; exact p1.tru r1.sub ht, ?_⟩
    cases k with
    | false => rw [if_neg Bool.false_ne_true]; exact ⟨c, As1, F1, e, hK, hM, r1, h1⟩
    | true => rw [if_pos rfl]; exact okE.ret h1 r1 (Sub.refl _) p1
theorem snd_nt {ea : Expr} {a : E} {pos : Pos} (x : XO X z W) (ha : SE X z M W .pure ea (ev z.cf a)) : SE X z M W .pure (.UnaryOp .Not ea pos) (ev z.cf (.nt a)) := by
  refine PE.imp (pe_notT ha) fun σ H Q h => ?_
  obtain ⟨c, As, F, env, hK, hM, r, h⟩ := h
  have h' : okE z W c .pure F σ (bindR (ev z.cf a env) fun x e => bindR (liftO x.truth e) fun k e => .ok (.bl (!k)) e) Q := h
  refine ⟨c, As, F, env, hK, hM, r, (okE.bind h').imp ?_⟩
  rintro v H1 ⟨d, e, F1, As1, _, r1, s1, p1, h1⟩
  cases ht : d.truth with
  | none => rw [ht] at h1; exact h1.elim
  | some k =>
    rw [ht] at h1
    exact ⟨k, by rw [x.K, ← hK]; exact p1.tru r1.sub ht, okE.ret h1 r1 (Sub.refl _) (.bl _)⟩
/-! ### tests -/
def okT (z : Z) (W : WX) (c : Ctx) (F : Hp) (σ : L2.St) (r : R Bool) (Q : Bool → Hp → Prop) : Prop := match r with
  | .ok k env' => ∀ H' F' As', Rel c As' F' env' σ H' → Sub F F' → Q k H'
  | .exc x env' => ∀ cl da H' F' As', Rel c As' F' env' σ H' → Sub F F' → z.XR x cl da F' H' → W cl da σ H'
  | .stuck => False
def tTe (z : Z) (M : Nat → Sh) (W : WX) (f : Dv → R D) : TT := fun σ H Q => ∃ c As F env, c.K = z.K ∧ c.M = M ∧ Rel c As F env σ H ∧ okT z W c F σ (truthR (f env)) Q
abbrev ST (X : Cx) (z : Z) (M : Nat → Sh) (W : WX) (e : Expr) (f : Dv → R D) : Prop := PT X e (tTe z M W f)
theorem PT.imp {e : Expr} {t t' : TT} (h : PT X e t) (k : ∀ σ H Q, t' σ H Q → t σ H Q) : PT X e t' := ⟨fun pins s σ H Q I q => h.run pins s σ H Q I (k σ H Q q)⟩
theorem PW.imp {e : Expr} {t t' : TT} (h : PW X e t) (k : ∀ σ H Q, t' σ H Q → t σ H Q) : PW X e t' := ⟨fun wh pins s σ H Q I q => h.run wh pins s σ H Q I (k σ H Q q)⟩
theorem okT.mono {c : Ctx} {F F1 : Hp} {r : R Bool} {Q : Bool → Hp → Prop} (h : okT z W c F σ r Q) (s : Sub F F1) : okT z W c F1 σ r Q := by
  cases r with
  | ok d e => exact fun H' F' As' r s' => h H' F' As' r (s.trans s')
  | exc x e => exact fun cl da H' F' As' r s' q => h cl da H' F' As' r (s.trans s') q
  | stuck => exact h
theorem okT.bind {c : Ctx} {F : Hp} {r : R D} {f : D → Dv → R Bool} {Q : Bool → Hp → Prop} (h : okT z W c F σ (bindR r f) Q) :
    okE z W c .pure F σ r (fun v H1 => ∃ d e F1 As1, r = .ok d e ∧ Rel c As1 F1 e σ H1 ∧ Sub F F1 ∧ Rep c.K F1 v d ∧ okT z W c F1 σ (f d e) Q) := by
  cases r with
  | ok d e => exact fun v H' F' As' A r s' o n => ⟨d, e, F', As', rfl, r, s', o.2, okT.mono h s'⟩
  | exc x e => exact h
  | stuck => exact h
theorem st_plain {ea : Expr} {f : Dv → R D} (x : XO X z W) (ha : SE X z M W .pure ea f) (hp : ∀ whole, isTrue ea X.env whole = (do let v ← whole; standAt ea.pos; holding [v] (truthy v))) : ST X z M W ea f := by
  refine PT.imp (pt_truth ha hp) fun σ H Q h => ?_
  obtain ⟨c, As, F, env, hK, hM, r, h⟩ := h
  refine ⟨c, As, F, env, hK, hM, r, (okT.bind h).imp ?_⟩
  rintro v H1 ⟨d, e, F1, As1, _, r1, s1, p1, h1⟩
  cases ht : d.truth with
  | none => rw [ht] at h1; exact h1.elim
  | some k =>
    rw [ht] at h1
    exact ⟨k, by rw [x.K, ← hK]; exact p1.tru r1.sub ht, h1 H1 F1 As1 r1 (Sub.refl _)⟩
theorem op2_bl {o : Op2} {op : CmpOp} (h : cmpOf op = some o) {d e g : D} (ho : op2 o d e = some g) : ∃ b, g = .bl b := by
  cases op <;> simp [cmpOf] at h <;> subst h <;> simp only [op2] at ho
  all_goals first
    | (cases hq : equD d e <;> rw [hq] at ho <;> cases ho; exact ⟨_, rfl⟩)
    | (cases hq : inD d e <;> rw [hq] at ho <;> cases ho; exact ⟨_, rfl⟩)
    | (cases hq : isD d e <;> rw [hq] at ho <;> cases ho; exact ⟨_, rfl⟩)
    | (unfold ltB at ho; split at ho <;> cases ho <;> exact ⟨_, rfl⟩)
    | (unfold leB at ho; split at ho <;> cases ho <;> exact ⟨_, rfl⟩)
theorem st_cmp {ea eb : Expr} {a b : E} {op : CmpOp} {o : Op2} {pos : Pos} (x : XO X z W) (hb : cmpOf op = some o) (hm : behindInMarks op eb = false) (ha : SE X z M W .pure ea (ev z.cf a)) (hb' : SE X z M W .pure eb (ev z.cf b)) : ST X z M W (.Compare ea [op] [eb] pos) (ev z.cf (.op2 o a b)) := by
  refine PT.imp (pt_cmpR (cmp_rule x.hu hb) ha hb' hm) fun σ H Q h => ?_
  obtain ⟨c, As, F, env, hK, hM, r, h⟩ := h
  have h' : okT z W c F σ (bindR (bindR (ev z.cf a env) fun x e => bindR (ev z.cf b e) fun y e' => liftO (op2 o x y) e') fun d e => liftO d.truth e) Q := h
  show tOp _ _ _ σ H _
  rw [x.K]
  refine seq2 (o := o) ⟨c, As, F, env, hK, hM, r, (okT.bind h').imp ?_⟩
  rintro v H1 ⟨d, e, F1, As1, q, r1, s1, p1, h1⟩
  have hb : ∃ k, d = .bl k := by
    have q' : (bindR (ev z.cf a env) fun x e => bindR (ev z.cf b e) fun y e' => liftO (op2 o x y) e') = .ok d e := q
    cases ea' : ev z.cf a env with
    | ok d1 e1 =>
      rw [ea'] at q'
      cases eb' : ev z.cf b e1 with
      | ok d2 e2 =>
        simp only [bindR, eb'] at q'
        cases ho : op2 o d1 d2 with
        | none => rw [ho] at q'; cases q'
        | some g =>
          rw [ho] at q'
          cases q'
          exact op2_bl hb ho
      | exc x e => simp only [bindR, eb'] at q'; cases q'
      | stuck => simp only [bindR, eb'] at q'; cases q'
    | exc x e => rw [ea'] at q'; cases q'
    | stuck => rw [ea'] at q'; cases q'
  obtain ⟨k, rfl⟩ := hb
  exact ⟨k, p1.blE, h1 H1 F1 As1 r1 (Sub.refl _)⟩
theorem st_not {ea : Expr} {a : E} {pos : Pos} (ha : ST X z M W ea (ev z.cf a)) : ST X z M W (.UnaryOp .Not ea pos) (ev z.cf (.nt a)) := by
  refine PT.imp (pt_not ha) fun σ H Q h => ?_
  obtain ⟨c, As, F, env, hK, hM, r, h⟩ := h
  refine ⟨c, As, F, env, hK, hM, r, ?_⟩
  have h' : okT z W c F σ (bindR (bindR (ev z.cf a env) fun x e => bindR (liftO x.truth e) fun k e => R.ok (D.bl (!k)) e) fun d e => liftO d.truth e) Q := h
  show okT z W c F σ (bindR (ev z.cf a env) fun d e => liftO d.truth e) _
  cases q : ev z.cf a env with
  | ok d e =>
    rw [q] at h'
    simp only [bindR] at h' ⊢
    cases ht : d.truth with
    | none => rw [ht] at h'; exact h'.elim
    | some k => rw [ht] at h'; exact h'
  | exc x e => rw [q] at h'; exact h'
  | stuck => rw [q] at h'; exact h'
end
end Pv
set_option Elab.async false
set_option linter.all false
set_option maxRecDepth 100000
set_option maxHeartbeats 4000000
namespace Pv
open PySem PySem.Spec PyProof.Rows L2
/-! ### forms -/
def okHead : Expr → Bool
  | .Name .. => true
  | .Constant .. => true
  | .Tuple .. => true
  | .List .. => true
  | .Dict .. => true
  | .BinOp .. => true
  | .UnaryOp .. => true
  | .BoolOp .. => true
  | .Compare .. => true
  | .IfExp .. => true
  | .Subscript .. => true
  | .Call .. => true
  | .ListComp .. => true
  | .DictComp .. => true
  | .Attribute .. => true
  | _ => false
theorem nonStar {e : Expr} (h : okHead e = true) (es : List Expr) (env : PySem.Env) : starEach (e :: es) env = (false, eval e env) :: starEach es env := by
  cases e <;> simp [okHead] at h <;> rfl
theorem noMark {e : Expr} (h : okHead e = true) (op : CmpOp) : behindInMarks op e = false := by
  cases e <;> simp [okHead] at h <;> rfl
theorem noFold {e : Expr} (h : okHead e = true) (env : PySem.Env) (x : Value) : foldedSetIterable e env x = pure x := by
  cases e <;> simp [okHead] at h <;> rfl
def allHead (es : List Expr) : Bool := es.all okHead
theorem noStars {es : List Expr} (h : allHead es = true) (pos : Pos) (env : PySem.Env) : (backTo pos (starEach es env)).any (·.1) = false := by
  induction es with
  | nil => rfl
  | cons e es ih =>
    unfold allHead at h
    rw [List.all_cons, Bool.and_eq_true] at h
    rw [nonStar h.1]
    show (false || (backTo pos (starEach es env)).any (·.1)) = false
    rw [ih h.2]
    rfl
theorem fewOk {es : List Expr} (h : allHead es = true) (hl : es.length < 30) (pos : Pos) (env : PySem.Env) :
    ((backTo pos (starEach es env)).all (fun x => !x.1) && (backToKw pos (keywordEach [] env)).all (fun x => x.1.isSome)
      && decide (es.length + ([] : List Keyword).length + (if ([] : List Keyword).isEmpty then 0 else 1) < 30)) = true := by
  have h1 : (backTo pos (starEach es env)).all (fun x => !x.1) = true := by
    have := noStars h pos env
    rw [List.any_eq_false] at this
    rw [List.all_eq_true]
    intro x hx
    have := this x hx
    simpa using this
  rw [h1]
  simp [keywordEach, backToKw]
  exact hl
/-- o.m: o is no bare call -/
def recvOk : Expr → Bool
  | .Call (.Name _ _) [] [] _ => false
  | e => okHead e
theorem baseOk {o : Expr} (h : recvOk o = true) (m : Str) (env : PySem.Env) (w : Sem Value) : attributeBase o m env w = w := by
  unfold attributeBase
  split
  · simp [recvOk] at h
  · rfl
theorem recv_head {o : Expr} (h : recvOk o = true) : okHead o = true := by
  unfold recvOk at h
  split at h
  · cases h
  · exact h
/-- a subscript that is plain -/
def ixOk : Expr → Bool
  | .Tuple .. => false
  | e => okHead e
theorem plainIx {e : Expr} (h : okHead e = true) : ∀ o i, subscripted e false o i = operate [o, i] (getItem o i) := by
  intro o i
  cases e <;> simp [okHead] at h <;> rfl
end Pv
set_option Elab.async false
set_option linter.all false
set_option maxRecDepth 100000
set_option maxHeartbeats 4000000
namespace Pv
open PySem PySem.Spec PyProof.Rows L2
section
variable {X : Cx} {z : Z} {M : Nat → Sh} {W : WX} {sh : Sh} {σ : L2.St} {H : Hp} {Q : VK}
/-! ### argument lists -/
def okA (z : Z) (W : WX) (c : Ctx) (F : Hp) (σ : L2.St) (r : R (List D)) (Q : List V → Hp → Prop) : Prop := match r with
  | .ok ds env' => ∀ vs H' F' As', Rel c As' F' env' σ H' → Sub F F' → Paired (Rep c.K F') vs ds → Q vs H'
  | .exc x env' => ∀ cl da H' F' As', Rel c As' F' env' σ H' → Sub F F' → z.XR x cl da F' H' → W cl da σ H'
  | .stuck => False
def tAs (z : Z) (M : Nat → Sh) (W : WX) (f : Dv → R (List D)) : TA := fun σ H Q => ∃ c As F env, c.K = z.K ∧ c.M = M ∧ Rel c As F env σ H ∧ okA z W c F σ (f env) Q
abbrev SA (X : Cx) (z : Z) (M : Nat → Sh) (W : WX) (es : List Expr) (f : Dv → R (List D)) : Prop := L2.PA X es (tAs z M W f)
theorem PA.imp {es : List Expr} {t t' : TA} (h : L2.PA X es t) (k : ∀ σ H Q, t' σ H Q → t σ H Q) : L2.PA X es t' := ⟨fun pos pins s σ H Q I q => h.run pos pins s σ H Q I (k σ H Q q)⟩
theorem okA.mono {c : Ctx} {F F1 : Hp} {r : R (List D)} {Q : List V → Hp → Prop} (h : okA z W c F σ r Q) (s : Sub F F1) : okA z W c F1 σ r Q := by
  cases r with
  | ok d e => exact fun v H' F' As' r s' => h v H' F' As' r (s.trans s')
  | exc x e => exact fun cl da H' F' As' r s' q => h cl da H' F' As' r (s.trans s') q
  | stuck => exact h
theorem okA.imp {c : Ctx} {F : Hp} {r : R (List D)} {Q Q' : List V → Hp → Prop} (h : okA z W c F σ r Q) (k : ∀ v H, Q v H → Q' v H) : okA z W c F σ r Q' := by
  cases r with
  | ok d e => exact fun v H' F' As' r s' p => k _ _ (h v H' F' As' r s' p)
  | exc x e => exact h
  | stuck => exact h
theorem okA.bind {c : Ctx} {F : Hp} {r : R D} {f : D → Dv → R (List D)} {Q : List V → Hp → Prop} (h : okA z W c F σ (bindR r f) Q) :
    okE z W c .pure F σ r (fun v H1 => ∃ d e F1 As1, r = .ok d e ∧ Rel c As1 F1 e σ H1 ∧ Sub F F1 ∧ Rep c.K F1 v d ∧ okA z W c F1 σ (f d e) Q) := by
  cases r with
  | ok d e => exact fun v H' F' As' A r s' o n => ⟨d, e, F', As', rfl, r, s', o.2, okA.mono h s'⟩
  | exc x e => exact h
  | stuck => exact h
/-- a value behind a list of them -/
theorem okE.bindA {c : Ctx} {F : Hp} {r : R (List D)} {f : List D → Dv → R D} (h : okE z W c sh F σ (bindR r f) Q) :
    okA z W c F σ r (fun vs H1 => ∃ ds e F1 As1, r = .ok ds e ∧ Rel c As1 F1 e σ H1 ∧ Sub F F1 ∧ Paired (Rep c.K F1) vs ds ∧ okE z W c sh F1 σ (f ds e) Q) := by
  cases r with
  | ok d e => exact fun v H' F' As' r s' p => ⟨d, e, F', As', rfl, r, s', p, okE.mono h s'⟩
  | exc x e => exact h
  | stuck => exact h
theorem sa_nil : SA X z M W [] (evs z.cf []) :=
  PA.imp pa_nil fun σ H Q ⟨c, As, F, env, hK, hM, r, h⟩ => h [] H F As r (Sub.refl _) .nil
theorem sa_cons {e : Expr} {es : List Expr} {a : E} {as : List E} (hh : okHead e = true) (ha : SE X z M W .pure e (ev z.cf a)) (hs : SA X z M W es (evs z.cf as)) : SA X z M W (e :: es) (evs z.cf (a :: as)) := by
  refine PA.imp (pa_cons ha hs (nonStar hh es X.env)) fun σ H Q h => ?_
  obtain ⟨c, As, F, env, hK, hM, r, h⟩ := h
  have h' : okA z W c F σ (bindR (ev z.cf a env) fun d e => bindR (evs z.cf as e) fun ds e' => .ok (d :: ds) e') Q := h
  refine ⟨c, As, F, env, hK, hM, r, (okA.bind h').imp ?_⟩
  rintro v H1 ⟨d, e, F1, As1, _, r1, s1, p1, h1⟩
  refine ⟨c, As1, F1, e, hK, hM, r1, ?_⟩
  cases q : evs z.cf as e with
  | ok ds e' =>
    rw [q] at h1
    exact fun vs H' F' As' r' s' p' => h1 (v :: vs) H' F' As' r' s' (.cons (s'.rep p1) p')
  | exc x e' => rw [q] at h1; exact h1
  | stuck => rw [q] at h1; exact h1
/-! ### displays -/
theorem rel_lay {c : Ctx} {As : Nat → List Addr} {F : Hp} {env : Dv} {p : Addr} {o : HO} (r : Rel c As F env σ H) (hp : H p = none) : Rel c As F env σ (upd H p o) := r.grow (Grow.lay r.sub hp)
/-- a new list is nobody's -/
theorem new_list {c : Ctx} {As : Nat → List Addr} {F : Hp} {env : Dv} {p : Addr} {vs : List V} {ds : List D} (r : Rel c As F env σ H) (hp : H p = none) (hz : vs.length ≤ sizeLine) (pr : Paired (Rep c.K F) vs ds) :
    Own c.K F (upd H p (.lst vs)) (.lst .pure) (.ref p) (.lst ds) [p] ∧ New c F (upd H p (.lst vs)) As env [p] := by
  refine ⟨⟨p, vs, ds, ds.map fun _ => [], rfl, rfl, upd_same, hz, ?_, ?_, by simp⟩, ⟨fun a ha => ?_, fun a ha => ?_, fun a ha hm => ?_⟩, fun a ha => ?_⟩
  · clear hz
    induction pr with
    | nil => exact .nil
    | cons r _ ih => exact .cons ⟨rfl, r⟩ ih
  · have : ∀ l : List D, (l.map fun _ => ([] : List Addr)).flatten = [] := fun l => by induction l <;> simp_all
    rw [this]
  · have e : a = p := by simpa using ha
    subst e; exact ⟨_, upd_same⟩
  · have e : a = p := by simpa using ha
    subst e; exact r.sub.back hp
  · have e : a = p := by simpa using ha
    subst e
    obtain ⟨i, d, h1, h2⟩ := mem_owned.mp hm
    obtain ⟨v, _, h3⟩ := r.val i d h1
    obtain ⟨o, h4, _⟩ := h3.there a h2
    rw [hp] at h4; cases h4
  · have e : a = p := by simpa using ha
    subst e; exact r.h0 hp
theorem snd_lst {es : List Expr} {as : List E} {pos : Pos} (x : XO X z W) (hn : as.length ≤ 1000) (hs : SA X z M W es (evs z.cf as)) (hl : ∀ env ds e, evs z.cf as env = .ok ds e → ds.length = as.length) :
    SE X z M W (.lst .pure) (.List es pos) (ev z.cf (.lst as)) := by
  refine PE.imp (pe_lst hs) fun σ H Q h => ?_
  obtain ⟨c, As, F, env, hK, hM, r, h⟩ := h
  have h' : okE z W c (.lst .pure) F σ (bindR (evs z.cf as env) fun ds e => .ok (.lst ds) e) Q := h
  refine ⟨c, As, F, env, hK, hM, r, (okE.bindA h').imp ?_⟩
  rintro vs H1 ⟨ds, e, F1, As1, q, r1, s1, p1, h1⟩
  have hz : vs.length ≤ sizeLine := by rw [paired_len p1, hl _ _ _ q]; exact Nat.le_trans hn (by decide)
  refine ⟨hz, fun p hp => ?_⟩
  obtain ⟨o, n⟩ := new_list r1 hp hz p1
  exact h1 _ _ F1 As1 [p] (rel_lay r1 hp) (Sub.refl _) o n
theorem snd_tup {es : List Expr} {as : List E} {x1} {pos : Pos} (x : XO X z W) (hn : as.length ≤ 1000) (hs : SA X z M W es (evs z.cf as)) (hl : ∀ env ds e, evs z.cf as env = .ok ds e → ds.length = as.length) :
    SE X z M W .pure (.Tuple es x1 pos) (ev z.cf (.tup as)) := by
  refine PE.imp (pe_tupG hs) fun σ H Q h => ?_
  obtain ⟨c, As, F, env, hK, hM, r, h⟩ := h
  have h' : okE z W c .pure F σ (bindR (evs z.cf as env) fun ds e => .ok (.tup ds) e) Q := h
  refine ⟨c, As, F, env, hK, hM, r, (okE.bindA h').imp ?_⟩
  rintro vs H1 ⟨ds, e, F1, As1, q, r1, s1, p1, h1⟩
  have hz : vs.length ≤ sizeLine := by rw [paired_len p1, hl _ _ _ q]; exact Nat.le_trans hn (by decide)
  refine ⟨hz, fun p ob hd hp => ?_⟩
  have g := grow_tup (K := c.K) r1.sub hp hd hz p1
  exact okE.ret h1 (r1.grow g.1) g.1.f g.2
theorem evs_len (cf : Str → List D → CR) : ∀ (as : List E) {env : Dv} {ds : List D} {e : Dv}, evs cf as env = .ok ds e → ds.length = as.length
  | [], env, ds, e, h => by cases h; rfl
  | a :: as, env, ds, e, h => by
    have h' : (bindR (ev cf a env) fun d e => bindR (evs cf as e) fun ds e' => .ok (d :: ds) e') = .ok ds e := h
    cases qa : ev cf a env with
    | ok d e1 =>
      rw [qa] at h'
      simp only [bindR] at h'
      cases qs : evs cf as e1 with
      | ok ds' e2 =>
        rw [qs] at h'
        cases h'
        rw [List.length_cons, List.length_cons, evs_len cf as qs]
      | exc x e2 => rw [qs] at h'; cases h'
      | stuck => rw [qs] at h'; cases h'
    | exc x e1 => rw [qa] at h'; cases h'
    | stuck => rw [qa] at h'; cases h'
/-! ### built-in functions -/
theorem evs_one {cf : Str → List D → CR} {a : E} {env : Dv} : evs cf [a] env = bindR (ev cf a env) fun d e => .ok [d] e := rfl
theorem sa_one {e : Expr} {a : E} (hh : okHead e = true) (ha : SE X z M W .pure e (ev z.cf a)) : SA X z M W [e] (evs z.cf [a]) := sa_cons hh ha sa_nil
theorem seqC1 {a : E} {o : Op1} (h : tF z M W .pure (ev z.cf (.op1 o a)) σ H Q) : tAs z M W (evs z.cf [a]) σ H fun vs H1 => rC1 z.K o vs H1 Q := by
  obtain ⟨c, As, F, env, hK, hM, r, h⟩ := h
  have h' : okE z W c .pure F σ (bindR (ev z.cf a env) fun x e => liftO (op1 o x) e) Q := h
  refine ⟨c, As, F, env, hK, hM, r, ?_⟩
  rw [evs_one]
  cases q : ev z.cf a env with
  | ok d e =>
    rw [q] at h'
    simp only [bindR] at h' ⊢
    intro vs H' F' As' r' s' p'
    cases ho : op1 o d with
    | none => rw [ho] at h'; exact h'.elim
    | some g =>
      rw [ho] at h'
      cases p' with
      | cons p1 t =>
        cases t
        exact ⟨_, rfl, F', d, g, r'.sub, hK ▸ p1, ho, fun w H2 F2 gr p => okE.ret h' (r'.grow gr) (s'.trans gr.f) (hK ▸ p)⟩
  | exc x e => rw [q] at h'; exact h'
  | stuck => rw [q] at h'; exact h'
theorem seqCF1 {a : E} {o : Op1} (h : tF z M W (.lst .pure) (ev z.cf (.op1 o a)) σ H Q) (hf : ∀ d g, op1 o d = some g → ∃ l, g = .lst l) : tAs z M W (evs z.cf [a]) σ H fun vs H1 => rCF1 z.K o vs H1 Q := by
  obtain ⟨c, As, F, env, hK, hM, r, h⟩ := h
  have h' : okE z W c (.lst .pure) F σ (bindR (ev z.cf a env) fun x e => liftO (op1 o x) e) Q := h
  refine ⟨c, As, F, env, hK, hM, r, ?_⟩
  rw [evs_one]
  cases q : ev z.cf a env with
  | ok d e =>
    rw [q] at h'
    simp only [bindR] at h' ⊢
    intro vs H' F' As' r' s' p'
    cases ho : op1 o d with
    | none => rw [ho] at h'; exact h'.elim
    | some g =>
      rw [ho] at h'
      cases p' with
      | cons p1 t =>
        cases t
        obtain ⟨l, rfl⟩ := hf d g ho
        refine ⟨_, F', d, _, rfl, r'.sub, hK ▸ p1, ho, fun p vs ds eg hp hz pr => ?_⟩
        cases eg
        obtain ⟨ow, n⟩ := new_list r' hp hz (hK ▸ pr)
        exact h' _ _ F' As' [p] (rel_lay r' hp) s' ow n
  | exc x e => rw [q] at h'; exact h'
  | stuck => rw [q] at h'; exact h'
theorem seqC2 {a b : E} {o : Op2} (h : tF z M W .pure (ev z.cf (.op2 o a b)) σ H Q) : tAs z M W (evs z.cf [a, b]) σ H fun vs H1 => rC2 z.K o vs H1 Q := by
  obtain ⟨c, As, F, env, hK, hM, r, h⟩ := h
  have h' : okE z W c .pure F σ (bindR (ev z.cf a env) fun x e => bindR (ev z.cf b e) fun y e' => liftO (op2 o x y) e') Q := h
  refine ⟨c, As, F, env, hK, hM, r, ?_⟩
  show okA z W c F σ (bindR (ev z.cf a env) fun d e => bindR (bindR (ev z.cf b e) fun d e => .ok [d] e) fun ds e' => .ok (d :: ds) e') _
  cases q : ev z.cf a env with
  | ok d e =>
    rw [q] at h'
    simp only [bindR] at h' ⊢
    cases q2 : ev z.cf b e with
    | ok d2 e2 =>
      rw [q2] at h'
      simp only at h' ⊢
      intro vs H' F' As' r' s' p'
      cases ho : op2 o d d2 with
      | none => rw [ho] at h'; exact h'.elim
      | some g =>
        rw [ho] at h'
        cases p' with
        | cons p1 t =>
          cases t with
          | cons p2 t =>
            cases t
            exact ⟨_, _, rfl, F', d, d2, g, r'.sub, hK ▸ p1, hK ▸ p2, ho, fun w H2 F2 gr p => okE.ret h' (r'.grow gr) (s'.trans gr.f) (hK ▸ p)⟩
    | exc x e => rw [q2] at h'; exact h'
    | stuck => rw [q2] at h'; exact h'
  | exc x e => rw [q] at h'; exact h'
  | stuck => rw [q] at h'; exact h'
/-- one built-in by its name -/
structure Bi (X : Cx) (x : Str) (u : Value) : Prop where
  g : Gl X x
  m : X.mg x = none
  v : bootBuiltins x = some u
  n : x ≠ "__name__"
  d : (x == ("__debug__" : Str)) = false
theorem snd_b1 {ea : Expr} {a : E} {o : Op1} {f : Str} {id : String} {p pos : Pos} (x : XO X z W) (b : Bi X f (.builtin id)) (hr : CallR X (.builtin id) (rC1 X.K o)) (hh : okHead ea = true) (ha : SE X z M W .pure ea (ev z.cf a)) :
    SE X z M W .pure (.Call (.Name f p) [ea] [] pos) (ev z.cf (.op1 o a)) :=
  PE.imp (pe_callB hr b.g b.m b.v (sa_one hh ha) b.n b.d (nonStar hh [] X.env) rfl) fun σ H Q h => by
    have := seqC1 h
    rw [← x.K] at this
    exact this
theorem snd_t1 {ea : Expr} {a : E} {o : Op1} {f : Str} {T : String} {p pos : Pos} (x : XO X z W) (b : Bi X f (.type T)) (hr : CallR X (.type T) (rC1 X.K o)) (hh : okHead ea = true) (ha : SE X z M W .pure ea (ev z.cf a)) :
    SE X z M W .pure (.Call (.Name f p) [ea] [] pos) (ev z.cf (.op1 o a)) :=
  PE.imp (pe_callTy hr b.g b.m b.v (sa_one hh ha) b.n b.d (nonStar hh [] X.env) rfl) fun σ H Q h => by
    have := seqC1 h
    rw [← x.K] at this
    exact this
theorem snd_bF {ea : Expr} {a : E} {o : Op1} {f : Str} {id : String} {p pos : Pos} (x : XO X z W) (b : Bi X f (.builtin id)) (hr : CallR X (.builtin id) (rCF1 X.K o)) (hf : ∀ d g, op1 o d = some g → ∃ l, g = .lst l) (hh : okHead ea = true) (ha : SE X z M W .pure ea (ev z.cf a)) :
    SE X z M W (.lst .pure) (.Call (.Name f p) [ea] [] pos) (ev z.cf (.op1 o a)) :=
  PE.imp (pe_callB hr b.g b.m b.v (sa_one hh ha) b.n b.d (nonStar hh [] X.env) rfl) fun σ H Q h => by
    have := seqCF1 h hf
    rw [← x.K] at this
    exact this
theorem snd_tF {ea : Expr} {a : E} {o : Op1} {f : Str} {T : String} {p pos : Pos} (x : XO X z W) (b : Bi X f (.type T)) (hr : CallR X (.type T) (rCF1 X.K o)) (hf : ∀ d g, op1 o d = some g → ∃ l, g = .lst l) (hh : okHead ea = true) (ha : SE X z M W .pure ea (ev z.cf a)) :
    SE X z M W (.lst .pure) (.Call (.Name f p) [ea] [] pos) (ev z.cf (.op1 o a)) :=
  PE.imp (pe_callTy hr b.g b.m b.v (sa_one hh ha) b.n b.d (nonStar hh [] X.env) rfl) fun σ H Q h => by
    have := seqCF1 h hf
    rw [← x.K] at this
    exact this
theorem snd_b2 {ea eb : Expr} {a b' : E} {o : Op2} {f : Str} {id : String} {p pos : Pos} (x : XO X z W) (b : Bi X f (.builtin id)) (hr : CallR X (.builtin id) (rC2 X.K o)) (hh : okHead ea = true) (hh' : okHead eb = true) (ha : SE X z M W .pure ea (ev z.cf a)) (hb : SE X z M W .pure eb (ev z.cf b')) :
    SE X z M W .pure (.Call (.Name f p) [ea, eb] [] pos) (ev z.cf (.op2 o a b')) :=
  PE.imp (pe_callB hr b.g b.m b.v (sa_cons hh ha (sa_one hh' hb)) b.n b.d (nonStar hh [eb] X.env) (noStars (by simp [allHead, hh']) pos X.env)) fun σ H Q h => by
    have := seqC2 h
    rw [← x.K] at this
    exact this
end
end Pv
set_option Elab.async false
set_option linter.all false
set_option maxRecDepth 100000
set_option maxHeartbeats 4000000
namespace Pv
open PySem PySem.Spec PyProof.Rows L2
section
variable {X : Cx} {z : Z} {M : Nat → Sh} {W : WX} {sh : Sh} {σ : L2.St} {H : Hp} {Q : VK}
/-! ### slices -/
theorem okE.bindO {c : Ctx} {F : Hp} {a : E} {env : Dv} {f : Option Int → Dv → R D} (h : okE z W c sh F σ (bindR (evO z.cf (some a) env) f) Q) :
    okE z W c .pure F σ (ev z.cf a env) (fun v H1 => ∃ i e F1 As1, v = .int i ∧ Rel c As1 F1 e σ H1 ∧ Sub F F1 ∧ okE z W c sh F1 σ (f (some i) e) Q) := by
  have h' : okE z W c sh F σ (bindR (bindR (ev z.cf a env) fun x e => liftO ((isI x).map some) e) f) Q := h
  cases q : ev z.cf a env with
  | ok d e =>
    rw [q] at h'
    simp only [bindR] at h'
    cases hi : isI d with
    | none => rw [hi] at h'; exact h'.elim
    | some i =>
      rw [hi] at h'
      exact fun v H' F' As' A r s' o n => ⟨i, e, F', As', isI_rep hi o.2, r, s', okE.mono h' s'⟩
  | exc x e => rw [q] at h'; exact h'
  | stuck => rw [q] at h'; exact h'
/-- a part of a slice -/
inductive SO (X : Cx) (z : Z) (M : Nat → Sh) (W : WX) : Option Expr → Option E → Prop
  | none : SO X z M W none none
  | some {e : Expr} {a : E} : SE X z M W .pure e (ev z.cf a) → SO X z M W (some e) (some a)
def tPa (z : Z) (M : Nat → Sh) (W : WX) : Option E → TO
  | none => tNoPart
  | some a => tPart (tF z M W .pure (ev z.cf a))
theorem so_po {e : Option Expr} {a : Option E} (h : SO X z M W e a) : PO X e (tPa z M W a) := by
  cases h with
  | none => exact po_none
  | some h => exact po_some h
theorem okE.part {c : Ctx} {As : Nat → List Addr} {F : Hp} {a : Option E} {env : Dv} {f : Option Int → Dv → R D} (hK : c.K = z.K) (hM : c.M = M) (r : Rel c As F env σ H) (h : okE z W c sh F σ (bindR (evO z.cf a env) f) Q) :
    tPa z M W a σ H (fun o H1 => ∃ e F1 As1, Rel c As1 F1 e σ H1 ∧ Sub F F1 ∧ okE z W c sh F1 σ (f o e) Q) := by
  cases a with
  | none => exact ⟨env, F, As, r, Sub.refl _, h⟩
  | some a =>
    refine ⟨c, As, F, env, hK, hM, r, (okE.bindO h).imp ?_⟩
    rintro v H1 ⟨i, e, F1, As1, rfl, r1, s1, h1⟩
    exact ⟨i, rfl, e, F1, As1, r1, s1, h1⟩
theorem snd_slc {ea : Expr} {el eh : Option Expr} {a : E} {lo hi : Option E} {p2 pos : Pos} (x : XO X z W) (ha : SE X z M W .pure ea (ev z.cf a)) (hl : SO X z M W el lo) (hh : SO X z M W eh hi) :
    SE X z M W .pure (.Subscript ea (.Slice el eh none p2) pos) (ev z.cf (.slc a lo hi)) := by
  refine PE.imp (pe_slice p_slice ha (so_po hl) (so_po hh)) fun σ H Q h => ?_
  obtain ⟨c, As, F, env, hK, hM, r, h⟩ := h
  have h' : okE z W c .pure F σ (bindR (ev z.cf a env) fun x e => bindR (evO z.cf lo e) fun y e' => bindR (evO z.cf hi e') fun w e'' => liftO (cutD x y w) e'') Q := h
  refine ⟨c, As, F, env, hK, hM, r, (okE.bind h').imp ?_⟩
  rintro v H1 ⟨d, e, F1, As1, _, r1, s1, p1, h1⟩
  have k := x.K
  cases lo with
  | none =>
    have h1 : okE z W c .pure F1 σ (bindR (evO z.cf hi e) fun w e'' => liftO (cutD d none w) e'') Q := h1
    show tPa z M W hi σ H1 _
    have t := okE.part (z := z) hK hM r1 h1
    cases hi with
    | none =>
      obtain ⟨e2, F2, As2, r2, s2, h2⟩ := t
      cases ho : cutD d none none with
      | none => rw [ho] at h2; exact h2.elim
      | some g => rw [ho] at h2; exact ⟨F2, d, g, r2.sub, by rw [k, ← hK]; exact s2.rep p1, ho, fun w H' F' gr p => h2.ret (r2.grow gr) gr.f (by rw [hK, ← k]; exact p)⟩
    | some b =>
      obtain ⟨c', As', F', env', hK', hM', r', t⟩ := t
      refine ⟨c', As', F', env', hK', hM', r', t.imp ?_⟩
      rintro v2 H2 ⟨i, ei, e2, F2, As2, r2, s2, h2⟩
      refine ⟨i, ei, ?_⟩
      cases ho : cutD d none (some i) with
      | none => rw [ho] at h2; exact h2.elim
      | some g => rw [ho] at h2; exact ⟨F2, d, g, r2.sub, by rw [k, ← hK]; exact s2.rep p1, ho, fun w H' F' gr p => h2.ret (r2.grow gr) gr.f (by rw [hK, ← k]; exact p)⟩
  | some a2 =>
    have t := okE.part (z := z) (a := some a2) hK hM r1 h1
    obtain ⟨c', As', F', env', hK', hM', r', t⟩ := t
    refine ⟨c', As', F', env', hK', hM', r', t.imp ?_⟩
    rintro v2 H2 ⟨i, ei, e2, F2, As2, r2, s2, h2⟩
    refine ⟨i, ei, ?_⟩
    have t := okE.part (z := z) hK hM r2 h2
    cases hi with
    | none =>
      obtain ⟨e3, F3, As3, r3, s3, h3⟩ := t
      show _
      cases ho : cutD d (some i) none with
      | none => rw [ho] at h3; exact h3.elim
      | some g => rw [ho] at h3; exact ⟨F3, d, g, r3.sub, by rw [k, ← hK]; exact s3.rep (s2.rep p1), ho, fun w H' F' gr p => h3.ret (r3.grow gr) gr.f (by rw [hK, ← k]; exact p)⟩
    | some b =>
      obtain ⟨c3, As3, F3, env3, hK3, hM3, r3, t⟩ := t
      refine ⟨c3, As3, F3, env3, hK3, hM3, r3, t.imp ?_⟩
      rintro v3 H3 ⟨j, ej, e4, F4, As4, r4, s4, h4⟩
      refine ⟨j, ej, ?_⟩
      cases ho : cutD d (some i) (some j) with
      | none => rw [ho] at h4; exact h4.elim
      | some g => rw [ho] at h4; exact ⟨F4, d, g, r4.sub, by rw [k, ← hK]; exact s4.rep (s2.rep p1), ho, fun w H' F' gr p => h4.ret (r4.grow gr) gr.f (by rw [hK, ← k]; exact p)⟩
/-! ### a if c else b, a < b < c, tests -/
theorem snd_ite {ec ea eb : Expr} {c a b : E} {pos : Pos} (hc : ST X z M W ec (ev z.cf c)) (ha : SE X z M W sh ea (ev z.cf a)) (hb : SE X z M W sh eb (ev z.cf b)) : SE X z M W sh (.IfExp ec ea eb pos) (ev z.cf (.ite c a b)) := by
  refine PE.imp (pe_ifExp hc ha hb) fun σ H Q h => ?_
  obtain ⟨c', As, F, env, hK, hM, r, h⟩ := h
  have h' : okE z W c' sh F σ (bindR (ev z.cf c env) fun x e => bindR (liftO x.truth e) fun k e => bif k then ev z.cf a e else ev z.cf b e) Q := h
  refine ⟨c', As, F, env, hK, hM, r, ?_⟩
  show okT z W c' F σ (bindR (ev z.cf c env) fun d e => liftO d.truth e) _
  cases q : ev z.cf c env with
  | ok d e =>
    rw [q] at h'
    simp only [bindR] at h' ⊢
    cases ht : d.truth with
    | none => rw [ht] at h'; exact h'.elim
    | some k =>
      rw [ht] at h'
      intro H' F' As' r' s'
      cases k with
      | true => rw [if_pos rfl]; exact ⟨c', As', F', e, hK, hM, r', okE.mono h' s'⟩
      | false => rw [if_neg Bool.false_ne_true]; exact ⟨c', As', F', e, hK, hM, r', okE.mono h' s'⟩
  | exc x e => rw [q] at h'; exact h'
  | stuck => rw [q] at h'; exact h'
theorem chain_of {a b d : E} {o o' : Op2} {op op' : CmpOp} (x : XO X z W) (h1 : cmpOf op = some o) (h2 : cmpOf op' = some o') (h : tF z M W .pure (ev z.cf (.chain o o' a b d)) σ H Q) :
    tChain (rP2 X.K o) (rP2 X.K o') (tF z M W .pure (ev z.cf a)) (tF z M W .pure (ev z.cf b)) (tF z M W .pure (ev z.cf d)) σ H Q := by
  obtain ⟨c, As, F, env, hK, hM, r, h⟩ := h
  have h' : okE z W c .pure F σ (bindR (ev z.cf a env) fun x e => bindR (ev z.cf b e) fun y e' => bindR (liftO ((op2 o x y).bind isB) e') fun k e' =>
      bif k then bindR (ev z.cf d e') fun w e'' => bindR (liftO ((op2 o' y w).bind isB) e'') fun k e'' => .ok (.bl k) e'' else .ok (.bl false) e') Q := h
  refine ⟨c, As, F, env, hK, hM, r, (okE.bind h').imp ?_⟩
  rintro v H1 ⟨d1, e, F1, As1, _, r1, s1, p1, h1'⟩
  refine ⟨c, As1, F1, e, hK, hM, r1, (okE.bind h1').imp ?_⟩
  rintro u H2 ⟨d2, e2, F2, As2, _, r2, s2, p2, h2'⟩
  have k := x.K
  cases ho : op2 o d1 d2 with
  | none => rw [ho] at h2'; exact h2'.elim
  | some g =>
    obtain ⟨bb, rfl⟩ := op2_bl h1 ho
    rw [ho] at h2'
    refine ⟨F2, d1, d2, _, r2.sub, by rw [k, ← hK]; exact s2.rep p1, by rw [k, ← hK]; exact p2, ho, fun w H' F' gr p => ⟨bb, p.blE, ?_⟩⟩
    cases bb with
    | false => rw [if_neg Bool.false_ne_true]; exact okE.ret h2' (r2.grow gr) gr.f (.bl _)
    | true =>
      rw [if_pos rfl]
      have h3 : okE z W c .pure F2 σ (bindR (ev z.cf d e2) fun w e'' => bindR (liftO ((op2 o' d2 w).bind isB) e'') fun k e'' => .ok (.bl k) e'') Q := h2'
      refine ⟨c, As2, F', e2, hK, hM, r2.grow gr, (okE.bind (okE.mono h3 gr.f)).imp ?_⟩
      rintro u3 H3 ⟨d3, e3, F3, As3, _, r3, s3, p3, h4⟩
      cases ho' : op2 o' d2 d3 with
      | none => rw [ho'] at h4; exact h4.elim
      | some g' =>
        obtain ⟨b3, rfl⟩ := op2_bl h2 ho'
        rw [ho'] at h4
        exact ⟨F3, d2, d3, _, r3.sub, by rw [k, ← hK]; exact s3.rep (gr.f.rep p2), by rw [k, ← hK]; exact p3, ho', fun w H' F' gr p => okE.ret h4 (r3.grow gr) gr.f (by rw [hK, ← k]; exact p)⟩
theorem snd_chain {ea eb ed : Expr} {a b d : E} {op op' : CmpOp} {o o' : Op2} {pos : Pos} (x : XO X z W) (h1 : cmpOf op = some o) (h2 : cmpOf op' = some o') (hm : okHead ed = true) (ha : SE X z M W .pure ea (ev z.cf a)) (hb : SE X z M W .pure eb (ev z.cf b)) (hd : SE X z M W .pure ed (ev z.cf d)) :
    SE X z M W .pure (.Compare ea [op, op'] [eb, ed] pos) (ev z.cf (.chain o o' a b d)) :=
  PE.imp (pe_chain (cmp_rule x.hu h1) (cmp_rule x.hu h2) ha hb hd (noMark hm op')) fun σ H Q h => chain_of x h1 h2 h
theorem st_chain {ea eb ed : Expr} {a b d : E} {op op' : CmpOp} {o o' : Op2} {pos : Pos} (x : XO X z W) (h1 : cmpOf op = some o) (h2 : cmpOf op' = some o') (hm : okHead ed = true) (ha : SE X z M W .pure ea (ev z.cf a)) (hb : SE X z M W .pure eb (ev z.cf b)) (hd : SE X z M W .pure ed (ev z.cf d)) :
    ST X z M W (.Compare ea [op, op'] [eb, ed] pos) (ev z.cf (.chain o o' a b d)) := by
  refine PT.imp (pt_chain (cmp_rule x.hu h1) (cmp_rule x.hu h2) ha hb hd (noMark hm op')) fun σ H Q h => ?_
  obtain ⟨c, As, F, env, hK, hM, r, h⟩ := h
  refine chain_of x h1 h2 ⟨c, As, F, env, hK, hM, r, ?_⟩
  have h' : okT z W c F σ (bindR (ev z.cf (.chain o o' a b d) env) fun d e => liftO d.truth e) Q := h
  cases q : ev z.cf (.chain o o' a b d) env with
  | ok g e =>
    rw [q] at h'
    simp only [bindR] at h'
    have hb : ∃ k, g = .bl k := by
      have q' : (bindR (ev z.cf a env) fun x e => bindR (ev z.cf b e) fun y e' => bindR (liftO ((op2 o x y).bind isB) e') fun k e' =>
        bif k then bindR (ev z.cf d e') fun w e'' => bindR (liftO ((op2 o' y w).bind isB) e'') fun k e'' => R.ok (D.bl k) e'' else R.ok (D.bl false) e') = .ok g e := q
      revert q'
      cases ev z.cf a env <;> simp only [bindR] <;> intro q' <;> first | cases q' | skip
      rename_i x1 e1
      revert q'
      cases ev z.cf b e1 <;> simp only [] <;> intro q' <;> first | cases q' | skip
      rename_i x2 e2
      revert q'
      cases (op2 o x1 x2).bind isB <;> simp only [liftO] <;> intro q' <;> first | cases q' | skip
      rename_i k
      cases k with
      | false => cases q'; exact ⟨_, rfl⟩
      | true =>
        simp only [cond_true] at q'
        revert q'
        cases ev z.cf d e2 <;> simp only [] <;> intro q' <;> first | cases q' | skip
        rename_i x3 e3
        revert q'
        cases (op2 o' x2 x3).bind isB <;> simp only [liftO] <;> intro q' <;> first | cases q' | skip
        exact ⟨_, rfl⟩
    obtain ⟨k, rfl⟩ := hb
    exact fun v H' F' As' A r' s' ow n => ⟨k, ow.2.blE, h' H' F' As' r' s'⟩
  | exc x e => rw [q] at h'; exact h'
  | stuck => rw [q] at h'; exact h'
/-- a test whatever its whole is -/
abbrev SW (X : Cx) (z : Z) (M : Nat → Sh) (W : WX) (e : Expr) (f : Dv → R D) : Prop := PW X e (tTe z M W f)
theorem sw_and1 {ea : Expr} {a : E} {pos : Pos} (ha : ST X z M W ea (ev z.cf a)) : SW X z M W (.BoolOp .And [ea] pos) (ev z.cf a) := pw_and1 ha
theorem sw_or1 {ea : Expr} {a : E} {pos : Pos} (ha : ST X z M W ea (ev z.cf a)) : SW X z M W (.BoolOp .Or [ea] pos) (ev z.cf a) := pw_or1 ha
theorem sw_and {ea eb : Expr} {rest : List Expr} {a b : E} {pos : Pos} (ha : ST X z M W ea (ev z.cf a)) (hb : SW X z M W (.BoolOp .And (eb :: rest) pos) (ev z.cf b)) : SW X z M W (.BoolOp .And (ea :: eb :: rest) pos) (ev z.cf (.and a b)) := by
  refine PW.imp (pw_and ha hb) fun σ H Q h => ?_
  obtain ⟨c, As, F, env, hK, hM, r, h⟩ := h
  have h' : okT z W c F σ (bindR (bindR (ev z.cf a env) fun x e => bindR (liftO x.truth e) fun k e => bif k then ev z.cf b e else R.ok x e) fun d e => liftO d.truth e) Q := h
  refine ⟨c, As, F, env, hK, hM, r, ?_⟩
  show okT z W c F σ (bindR (ev z.cf a env) fun d e => liftO d.truth e) _
  cases q : ev z.cf a env with
  | ok d e =>
    rw [q] at h'
    simp only [bindR] at h' ⊢
    cases ht : d.truth with
    | none => rw [ht] at h'; exact h'.elim
    | some k =>
      rw [ht] at h'
      intro H' F' As' r' s'
      cases k with
      | true => rw [if_pos rfl]; exact ⟨c, As', F', e, hK, hM, r', okT.mono h' s'⟩
      | false =>
        rw [if_neg Bool.false_ne_true]
        simp only [liftO, cond_false] at h'
        rw [ht] at h'
        exact h' H' F' As' r' s'
  | exc x e => rw [q] at h'; exact h'
  | stuck => rw [q] at h'; exact h'
theorem sw_or {ea eb : Expr} {rest : List Expr} {a b : E} {pos : Pos} (ha : ST X z M W ea (ev z.cf a)) (hb : SW X z M W (.BoolOp .Or (eb :: rest) pos) (ev z.cf b)) : SW X z M W (.BoolOp .Or (ea :: eb :: rest) pos) (ev z.cf (.or a b)) := by
  refine PW.imp (pw_or ha hb) fun σ H Q h => ?_
  obtain ⟨c, As, F, env, hK, hM, r, h⟩ := h
  have h' : okT z W c F σ (bindR (bindR (ev z.cf a env) fun x e => bindR (liftO x.truth e) fun k e => bif k then R.ok x e else ev z.cf b e) fun d e => liftO d.truth e) Q := h
  refine ⟨c, As, F, env, hK, hM, r, ?_⟩
  show okT z W c F σ (bindR (ev z.cf a env) fun d e => liftO d.truth e) _
  cases q : ev z.cf a env with
  | ok d e =>
    rw [q] at h'
    simp only [bindR] at h' ⊢
    cases ht : d.truth with
    | none => rw [ht] at h'; exact h'.elim
    | some k =>
      rw [ht] at h'
      intro H' F' As' r' s'
      cases k with
      | false => rw [if_neg Bool.false_ne_true]; exact ⟨c, As', F', e, hK, hM, r', okT.mono h' s'⟩
      | true =>
        rw [if_pos rfl]
        simp only [liftO, cond_true] at h'
        rw [ht] at h'
        exact h' H' F' As' r' s'
  | exc x e => rw [q] at h'; exact h'
  | stuck => rw [q] at h'; exact h'
end
end Pv
set_option Elab.async false
set_option linter.all false
set_option maxRecDepth 100000
set_option maxHeartbeats 4000000
namespace Pv
open PySem PySem.Spec PyProof.Rows L2
section
variable {X : Cx} {z : Z} {M : Nat → Sh} {W : WX} {sh : Sh} {σ : L2.St} {H : Hp} {Q : VK}
/-! ### isinstance -/
def tyExpr : Expr → Option String
  | .Name x _ => if x = ("int" : Str) then some "int" else if x = ("str" : Str) then some "str" else if x = ("list" : Str) then some "list" else if x = ("tuple" : Str) then some "tuple" else if x = ("bool" : Str) then some "bool" else none
  | _ => none
def tyExprs : List Expr → Option (List String)
  | [] => some []
  | e :: es => match tyExpr e, tyExprs es with
    | some t, some r => some (t :: r)
    | _, _ => none
/-- the types' names are the built-in ones here -/
structure Tys (X : Cx) : Prop where
  g : ∀ x ∈ (["int", "str", "list", "tuple", "bool"] : List Str), Gl X x
  m : ∀ x ∈ (["int", "str", "list", "tuple", "bool"] : List Str), X.mg x = none
theorem boot_ty {x : Str} {t : String} {p : Pos} (h : tyExpr (.Name x p) = some t) : bootBuiltins x = some (.type t) ∧ x ∈ (["int", "str", "list", "tuple", "bool"] : List Str) ∧ t ∈ tyNames ∧ x ≠ "__name__" ∧ (x == ("__debug__" : Str)) = false := by
  unfold tyExpr at h
  simp only [] at h
  split at h
  · rename_i e; cases h; subst e; exact ⟨by decide +kernel, by decide +kernel, by decide, by decide, by decide⟩
  · split at h
    · rename_i e; cases h; subst e; exact ⟨by decide +kernel, by decide +kernel, by decide, by decide, by decide⟩
    · split at h
      · rename_i e; cases h; subst e; exact ⟨by decide +kernel, by decide +kernel, by decide, by decide, by decide⟩
      · split at h
        · rename_i e; cases h; subst e; exact ⟨by decide +kernel, by decide +kernel, by decide, by decide, by decide⟩
        · split at h
          · rename_i e; cases h; subst e; exact ⟨by decide +kernel, by decide +kernel, by decide, by decide, by decide⟩
          · cases h
theorem pe_ty {e : Expr} {t : String} (T : ∀ x ∈ (["int", "str", "list", "tuple", "bool"] : List Str), X.mg x = none) (hg : ∀ x p, e = .Name x p → Gl X x) (h : tyExpr e = some t) : PE X e (tC (.ty t)) ∧ okHead e = true ∧ t ∈ tyNames := by
  cases e with
  | Name x p =>
    obtain ⟨h1, h2, h3, h4, h5⟩ := boot_ty h
    exact ⟨pe_bltn (hg x p rfl) (T x h2) h1 rfl h4 h5, rfl, h3⟩
  | _ => cases h
theorem pa_tys (T : ∀ x ∈ (["int", "str", "list", "tuple", "bool"] : List Str), X.mg x = none) : ∀ {es : List Expr} {ts : List String}, (∀ e ∈ es, ∀ x p, e = .Name x p → Gl X x) → tyExprs es = some ts → L2.PA X es (fun _ H Q => Q (ts.map V.ty) H) ∧ allHead es = true ∧ ∀ t ∈ ts, t ∈ tyNames
  | [], ts, _, h => by cases h; exact ⟨pa_nil, rfl, by simp⟩
  | e :: es, ts, hg, h => by
    unfold tyExprs at h
    cases h1 : tyExpr e with
    | none => rw [h1] at h; simp at h
    | some t =>
      cases h2 : tyExprs es with
      | none => rw [h1, h2] at h; simp at h
      | some r =>
        rw [h1, h2] at h
        cases h
        obtain ⟨a1, a2, a3⟩ := pe_ty T (hg e List.mem_cons_self) h1
        obtain ⟨b1, b2, b3⟩ := pa_tys T (fun e' he => hg e' (List.mem_cons_of_mem _ he)) h2
        refine ⟨PA.imp (pa_cons a1 b1 (nonStar a2 es X.env)) fun σ H Q q => q, by unfold allHead at b2 ⊢; rw [List.all_cons, a2, b2]; rfl, fun t' ht => ?_⟩
        rcases List.mem_cons.mp ht with rfl | ht
        · exact a3
        · exact b3 t' ht
theorem isi_some {c : Ctx} {F1 : Hp} {σ : L2.St} {ts : List String} {d : D} {e : Dv} {Q : VK} (h : okE z W c .pure F1 σ (liftO (op1 (.isinst ts) d) e) Q) : isObj d = false ∧ okE z W c .pure F1 σ (.ok (.bl (isa ts d)) e) Q := by
  have h : okE z W c .pure F1 σ (liftO (if isObj d then none else some (.bl (isa ts d))) e) Q := h
  cases q : isObj d with
  | true => rw [q] at h; exact h.elim
  | false => rw [q] at h; exact ⟨rfl, h⟩
theorem snd_isi {ea et : Expr} {a : E} {t : String} {p pos : Pos} (x : XO X z W) (b : Bi X "isinstance" (.builtin "isinstance")) (T : ∀ x ∈ (["int", "str", "list", "tuple", "bool"] : List Str), X.mg x = none) (hg : ∀ x p, et = .Name x p → Gl X x) (ht : tyExpr et = some t) (hh : okHead ea = true) (ha : SE X z M W .pure ea (ev z.cf a)) :
    SE X z M W .pure (.Call (.Name "isinstance" p) [ea, et] [] pos) (ev z.cf (.op1 (.isinst [t]) a)) := by
  obtain ⟨a1, a2, a3⟩ := pe_ty T hg ht
  refine PE.imp (pe_callB c_isi b.g b.m b.v (pa_cons ha (pa_cons a1 pa_nil (nonStar a2 [] X.env)) (nonStar hh [et] X.env)) b.n b.d (nonStar hh [et] X.env) (noStars (by simp [allHead, a2]) pos X.env)) fun σ H Q h => ?_
  obtain ⟨c, As, F, env, hK, hM, r, h⟩ := h
  have h' : okE z W c .pure F σ (bindR (ev z.cf a env) fun x e => liftO (op1 (.isinst [t]) x) e) Q := h
  refine ⟨c, As, F, env, hK, hM, r, (okE.bind h').imp ?_⟩
  rintro v H1 ⟨d, e, F1, As1, _, r1, s1, p1, h1⟩
  obtain ⟨hob, h1⟩ := isi_some h1
  refine ⟨v, F1, d, t, rfl, r1.sub, by rw [x.K, ← hK]; exact p1, hob, a3, ?_⟩
  have e1 : isa [t] d = isa1 t d := by simp [isa]
  have h1 : okE z W c .pure F1 σ (.ok (.bl (isa [t] d)) e) Q := h1
  rw [e1] at h1
  exact okE.ret h1 r1 (Sub.refl _) (.bl _)
theorem snd_isiT {ea : Expr} {ets : List Expr} {a : E} {ts : List String} {x1} {p pos pt : Pos} (x : XO X z W) (b : Bi X "isinstance" (.builtin "isinstance")) (T : ∀ x ∈ (["int", "str", "list", "tuple", "bool"] : List Str), X.mg x = none) (hg : ∀ e ∈ ets, ∀ x p, e = .Name x p → Gl X x) (ht : tyExprs ets = some ts) (hl : ts.length ≤ 1000) (hh : okHead ea = true) (ha : SE X z M W .pure ea (ev z.cf a)) :
    SE X z M W .pure (.Call (.Name "isinstance" p) [ea, .Tuple ets x1 pt] [] pos) (ev z.cf (.op1 (.isinst ts) a)) := by
  obtain ⟨a1, a2, a3⟩ := pa_tys T hg ht
  refine PE.imp (pe_callB c_isiT b.g b.m b.v (pa_cons ha (pa_cons (pe_tup a1) pa_nil rfl) (nonStar hh [_] X.env)) b.n b.d (nonStar hh [_] X.env) rfl) fun σ H Q h => ?_
  obtain ⟨c, As, F, env, hK, hM, r, h⟩ := h
  have h' : okE z W c .pure F σ (bindR (ev z.cf a env) fun x e => liftO (op1 (.isinst ts) x) e) Q := h
  refine ⟨c, As, F, env, hK, hM, r, (okE.bind h').imp ?_⟩
  rintro v H1 ⟨d, e, F1, As1, _, r1, s1, p1, h1⟩
  refine ⟨by rw [List.length_map]; exact Nat.le_trans hl (by decide), fun tp htp => ?_⟩
  have r2 := rel_lay (o := .tup (ts.map V.ty)) r1 htp
  obtain ⟨hob, h1⟩ := isi_some h1
  refine ⟨v, F1, d, tp, ts, rfl, upd_same, r2.sub, by rw [x.K, ← hK]; exact p1, hob, a3, ?_⟩
  exact okE.ret (show okE z W c .pure F1 σ (.ok (.bl (isa ts d)) e) Q from h1) r2 (Sub.refl _) (.bl _)
/-! ### {} -/
theorem new_dict {c : Ctx} {As : Nat → List Addr} {F : Hp} {env : Dv} {p : Addr} {s : Sh} (r : Rel c As F env σ H) (hp : H p = none) :
    Own c.K F (upd H p (.dK [])) (.dct s) (.ref p) (.dct []) [p] ∧ New c F (upd H p (.dK [])) As env [p] := by
  refine ⟨⟨p, [], [], [], rfl, rfl, upd_same, Nat.zero_le _, KN.nil, .nil, rfl, by simp⟩, ⟨fun a ha => ?_, fun a ha => ?_, fun a ha hm => ?_⟩, fun a ha => ?_⟩
  · have e : a = p := by simpa using ha
    subst e; exact ⟨_, upd_same⟩
  · have e : a = p := by simpa using ha
    subst e; exact r.sub.back hp
  · have e : a = p := by simpa using ha
    subst e
    obtain ⟨i, d, h1, h2⟩ := mem_owned.mp hm
    obtain ⟨v, _, h3⟩ := r.val i d h1
    obtain ⟨o, h4, _⟩ := h3.there a h2
    rw [hp] at h4; cases h4
  · have e : a = p := by simpa using ha
    subst e; exact r.h0 hp
theorem snd_dnew {s : Sh} {pos : Pos} (hd : PE X (.Dict [] [] pos) (fun _ H Q => ∀ p, H p = none → Q (.ref p) (upd H p (.dK [])))) : SE X z M W (.dct s) (.Dict [] [] pos) (ev z.cf .dnew) := by
  refine PE.imp hd fun σ H Q h p hp => ?_
  obtain ⟨c, As, F, env, hK, hM, r, h⟩ := h
  obtain ⟨o, n⟩ := new_dict (s := s) r hp
  exact h _ _ F As [p] (rel_lay r hp) (Sub.refl _) o n
/-! ### methods -/
theorem okE.bif {c : Ctx} {F : Hp} {k : Bool} {r : R D} (h : okE z W c sh F σ (bif k then r else .stuck) Q) : k = true ∧ okE z W c sh F σ r Q := by
  cases k with
  | true => exact ⟨rfl, h⟩
  | false => exact h.elim
theorem snd_join {eo ea : Expr} {o a : E} {apos pos : Pos} (x : XO X z W) (hr : recvOk eo = true) (hh : okHead ea = true) (hl : (apos.endLine == pos.line) = true) (ho : SE X z M W .pure eo (ev z.cf o)) (ha : SE X z M W .pure ea (ev z.cf a)) :
    SE X z M W .pure (.Call (.Attribute eo "join" apos) [ea] [] pos) (ev z.cf (.meth .join o a)) := by
  refine PE.imp (pe_m1 PySem.F.slot_str_join PySem.F.type_str_join m_join ho ha (nonStar hh [] X.env) (baseOk hr _ _ _) hl) fun σ H Q h => ?_
  obtain ⟨c, As, F, env, hK, hM, r, h⟩ := h
  have h' : okE z W c .pure F σ (bindR (ev z.cf o env) fun x e => bif recvD .join x then bindR (ev z.cf a e) fun y e' => liftO (op2 .join x y) e' else .stuck) Q := h
  refine ⟨c, As, F, env, hK, hM, r, (okE.bind h').imp ?_⟩
  rintro v H1 ⟨d, e, F1, As1, _, r1, s1, p1, h1⟩
  obtain ⟨hk, h1⟩ := okE.bif h1
  have hs : ∃ s, d = .str s := by cases d <;> simp [recvD] at hk; exact ⟨_, rfl⟩
  obtain ⟨s, rfl⟩ := hs
  refine ⟨⟨s, p1.strE.1⟩, c, As1, F1, e, hK, hM, r1, (okE.bind h1).imp ?_⟩
  rintro u H2 ⟨d2, e2, F2, As2, _, r2, s2, p2, h2⟩
  cases hj : op2 .join (.str s) d2 with
  | none => rw [hj] at h2; exact h2.elim
  | some g =>
    rw [hj] at h2
    exact ⟨u, F2, _, _, g, rfl, r2.sub, by rw [x.K, ← hK]; exact s2.rep p1, by rw [x.K, ← hK]; exact p2, hj, fun w p => okE.ret h2 r2 (Sub.refl _) (by rw [hK, ← x.K]; exact p)⟩
theorem snd_index {eo ea : Expr} {o a : E} {apos pos : Pos} (x : XO X z W) (hr : recvOk eo = true) (hh : okHead ea = true) (hl : (apos.endLine == pos.line) = true) (ho : SE X z M W .pure eo (ev z.cf o)) (ha : SE X z M W .pure ea (ev z.cf a)) :
    SE X z M W .pure (.Call (.Attribute eo "index" apos) [ea] [] pos) (ev z.cf (.meth .index o a)) := by
  have hd : allHead [ea] = true := by simp [allHead, hh]
  have hA := sa_one (a := a) hh ha
  have P1 := pe_bm PySem.F.plainAttrs_list PySem.F.slot_list_index PySem.F.type_list_index (m_indexL x.hu) ho hA (baseOk hr _ _ _) (fewOk hd (by simp) pos X.env) hl (nonStar hh [] X.env) rfl
  have P2 := pe_tm PySem.F.slot_tuple_index PySem.F.type_tuple_index m_indexT ho hA (baseOk hr _ _ _) (fewOk hd (by simp) pos X.env) hl (nonStar hh [] X.env) rfl
  refine PE.imp (PE.or P1 P2) fun σ H Q h => ?_
  obtain ⟨c, As, F, env, hK, hM, r, h⟩ := h
  have h' : okE z W c .pure F σ (bindR (ev z.cf o env) fun x e => bif recvD .index x then bindR (ev z.cf a e) fun y e' => liftO (op2 .index x y) e' else .stuck) Q := h
  have k := x.K
  -- the argument, then the place
  have arg : ∀ {v : V} {H1 F1 : Hp} {As1 : Nat → List Addr} {d : D} {e : Dv}, Rel c As1 F1 e σ H1 → Rep c.K F1 v d → okE z W c .pure F1 σ (bindR (ev z.cf a e) fun y e' => liftO (op2 .index d y) e') Q →
      tAs z M W (evs z.cf [a]) σ H1 (fun xs H2 => ∃ y F2 g e2, xs = [y] ∧ Sub F2 H2 ∧ Rep X.K F2 v d ∧ Rep X.K F2 y e2 ∧ indexD d e2 = some g ∧ ∀ w, Rep X.K F2 w g → Q w H2) := by
    intro v H1 F1 As1 d e r1 p1 h1
    refine ⟨c, As1, F1, e, hK, hM, r1, ?_⟩
    rw [evs_one]
    cases q : ev z.cf a e with
    | ok d2 e2 =>
      rw [q] at h1
      simp only [bindR] at h1 ⊢
      intro vs H' F' As' r' s' p'
      cases hj : op2 .index d d2 with
      | none => rw [hj] at h1; exact h1.elim
      | some g =>
        rw [hj] at h1
        cases p' with
        | cons p2 t =>
          cases t
          exact ⟨_, F', g, d2, rfl, r'.sub, by rw [k, ← hK]; exact s'.rep p1, by rw [k, ← hK]; exact p2, hj, fun w p => okE.ret h1 r' s' (by rw [hK, ← k]; exact p)⟩
    | exc x e => rw [q] at h1; exact h1
    | stuck => rw [q] at h1; exact h1
  by_cases hL : ∃ l e, ev z.cf o env = .ok (.lst l) e
  · left
    obtain ⟨l, e0, q0⟩ := hL
    refine ⟨c, As, F, env, hK, hM, r, (okE.bind h').imp ?_⟩
    rintro v H1 ⟨d, e, F1, As1, q1, r1, s1, p1, h1⟩
    rw [q0] at q1
    cases q1
    obtain ⟨_, h1⟩ := okE.bif h1
    obtain ⟨pa, vs, rfl, hl1, _⟩ := p1.lstE
    refine ⟨.inl ⟨rfl, vs, SqL.of (r1.sub _ _ hl1)⟩, ?_⟩
    obtain ⟨c', As', F', env', hK', hM', r', t⟩ := arg r1 p1 h1
    refine ⟨c', As', F', env', hK', hM', r', okA.imp t ?_⟩
    rintro xs H2 ⟨y, F2, g, e2, rfl, a1, a2, a3, a4, a5⟩
    exact ⟨y, F2, l, e2, g, rfl, a1, a2, a3, a4, a5⟩
  · right
    refine ⟨c, As, F, env, hK, hM, r, (okE.bind h').imp ?_⟩
    rintro v H1 ⟨d, e, F1, As1, q1, r1, s1, p1, h1⟩
    obtain ⟨hk, h1⟩ := okE.bif h1
    have hs : ∃ l, d = .tup l := by
      cases d <;> simp [recvD] at hk
      · exact ⟨_, rfl⟩
      · exact absurd ⟨_, _, q1⟩ hL
    obtain ⟨l, rfl⟩ := hs
    obtain ⟨pa, vs, rfl, hl1, _⟩ := p1.tupE
    refine ⟨⟨pa, vs, rfl, by rw [k, ← hK]; exact (SubR.of r1.sub).st hl1⟩, ?_⟩
    obtain ⟨c', As', F', env', hK', hM', r', t⟩ := arg r1 p1 h1
    refine ⟨c', As', F', env', hK', hM', r', okA.imp t ?_⟩
    rintro xs H2 ⟨y, F2, g, e2, rfl, a1, a2, a3, a4, a5⟩
    exact ⟨y, F2, l, e2, g, rfl, a1, a2, a3, a4, a5⟩
theorem m2Ok {eo ea eb : Expr} {m : Str} {apos pos : Pos} (hr : recvOk eo = true) (h1 : okHead ea = true) (h2 : okHead eb = true) (hl : (apos.endLine == pos.line) = true) : M2 X eo m apos ea eb pos := by
  refine ⟨baseOk hr _ _ _, fewOk (by simp [allHead, h1, h2]) (by simp) pos X.env, hl, ?_⟩
  rw [nonStar h1, nonStar h2]
  rfl
theorem snd_get {eo ea eb : Expr} {o a b : E} {apos pos : Pos} (x : XO X z W) (hr : recvOk eo = true) (h1 : okHead ea = true) (h2 : okHead eb = true) (hl : (apos.endLine == pos.line) = true) (ho : SE X z M W .pure eo (ev z.cf o)) (ha : SE X z M W .pure ea (ev z.cf a)) (hb : SE X z M W .pure eb (ev z.cf b)) :
    SE X z M W .pure (.Call (.Attribute eo "get" apos) [ea, eb] [] pos) (ev z.cf (.get o a b)) := by
  have hu := x.hu
  refine PE.imp (pe_dget2 (by omega) ho ha hb (m2Ok hr h1 h2 hl)) fun σ H Q h => ?_
  obtain ⟨c, As, F, env, hK, hM, r, h⟩ := h
  have h' : okE z W c .pure F σ (bindR (ev z.cf o env) fun x e => bif isDct x then bindR (ev z.cf a e) fun y e' => bindR (ev z.cf b e') fun w e'' => liftO (getD x y w) e'' else .stuck) Q := h
  refine ⟨c, As, F, env, hK, hM, r, (okE.bind h').imp ?_⟩
  rintro v H1 ⟨d, e, F1, As1, q1, r1, s1, p1, h3⟩
  obtain ⟨hk, h3⟩ := okE.bif h3
  have hs : ∃ l, Rep c.K F1 v (.dct l) ∧ ∀ y w, Pv.getD d y w = Pv.getD (.dct l) y w := by
    cases d <;> simp [isDct] at hk
    · exact ⟨_, p1, fun _ _ => rfl⟩
    · exact ⟨_, p1.unlk, fun _ _ => rfl⟩
  obtain ⟨l, p1, eg⟩ := hs
  obtain ⟨p, kvs, rfl, g1, g2, g3, g4⟩ := p1.dctE
  refine ⟨p, rfl, .inl ⟨kvs, (SubR.of r1.sub).1 _ _ g1⟩, c, As1, F1, e, hK, hM, r1, (okE.bind h3).imp ?_⟩
  rintro u H2 ⟨d2, e2, F2, As2, _, r2, s2, p2, h4⟩
  refine ⟨c, As2, F2, e2, hK, hM, r2, (okE.bind h4).imp ?_⟩
  rintro w H3 ⟨d3, e3, F3, As3, _, r3, s3, p3, h5⟩
  rw [eg] at h5
  unfold Pv.getD at h5
  simp only [] at h5
  cases hq : keyOf d2 with
  | none => rw [hq] at h5; exact h5.elim
  | some kk =>
    rw [hq] at h5
    have ey := p2.key hq
    subst ey
    refine ⟨valV kvs kk, .inl ⟨kvs, kk, (SubR.of r3.sub).1 _ _ ((SubR.of s3).1 _ _ ((SubR.of s2).1 _ _ g1)), rfl, rfl⟩, ?_⟩
    rcases kv_get g4 kk with ⟨e1, e2⟩ | ⟨v', d', e1, e2, h6⟩
    · rw [e1]
      simp only [Option.map_some, e2, Option.getD_none] at h5 ⊢
      exact okE.ret h5 r3 (Sub.refl _) p3
    · rw [e1]
      simp only [Option.map_some, e2, Option.getD_some] at h5 ⊢
      exact okE.ret h5 r3 (Sub.refl _) (s3.rep (s2.rep h6))
end
end Pv
set_option Elab.async false
set_option linter.all false
set_option maxRecDepth 100000
set_option maxHeartbeats 4000000
namespace Pv
open PySem PySem.Spec PyProof.Rows L2
theorem wipeE_len (env : Dv) : ∀ vs, (wipeE env vs).length = env.length
  | [] => rfl
  | v :: vs => by unfold wipeE; rw [List.length_set, wipeE_len env vs]
theorem wipeE_some {env : Dv} {i : Nat} {d : D} : ∀ {vs : List Nat}, (wipeE env vs)[i]? = some (some d) → env[i]? = some (some d) ∧ i ∉ vs
  | [], h => ⟨h, by simp⟩
  | v :: vs, h => by
    unfold wipeE at h
    obtain ⟨h1, h2⟩ := get_set_none h
    obtain ⟨h3, h4⟩ := wipeE_some h2
    exact ⟨h3, by simp only [List.mem_cons, not_or]; exact ⟨h1, h4⟩⟩
theorem backE_len (e env : Dv) : ∀ vs, (backE e env vs).length = env.length
  | [] => rfl
  | v :: vs => by unfold backE; rw [List.length_set, backE_len e env vs]
theorem backE_out {e env : Dv} {i : Nat} : ∀ {vs : List Nat}, i ∉ vs → (backE e env vs)[i]? = env[i]?
  | [], _ => rfl
  | v :: vs, h => by
    simp only [List.mem_cons, not_or] at h
    unfold backE
    rw [List.getElem?_set_ne (Ne.symm h.1), backE_out h.2]
theorem backE_in {e env : Dv} {i : Nat} {d : D} : ∀ {vs : List Nat}, i ∈ vs → (backE e env vs)[i]? = some (some d) → e[i]? = some (some d)
  | [], h, _ => by simp at h
  | v :: vs, h, q => by
    unfold backE at q
    by_cases hv : v = i
    · subst hv
      rw [List.getElem?_set] at q
      rw [if_pos rfl] at q
      split at q
      · cases hq : e[v]? with
        | none => rw [hq] at q; cases q
        | some o => rw [hq] at q; cases q; rfl
      · cases q
    · rw [List.getElem?_set_ne hv] at q
      rcases List.mem_cons.mp h with h | h
      · exact absurd h.symm hv
      · exact backE_in h q
/-- flat things need tuples alone -/
theorem flat_rep {K : PySem.W.Frag} {F F' : Hp} {v : V} {d : D} (h : Rep K F v d) (k : ∀ a o vs, F a = some (.frz o (.tup vs)) → F' a = some (.frz o (.tup vs))) : ∀ {n : Nat}, flat n d = true → Rep K F' v d := by
  induction h with
  | non => intro _ _; exact .non
  | bl b => intro _ _; exact .bl b
  | int i => intro _ _; exact .int i
  | str x l o => intro _ _; exact .str x l o
  | tup s z l f ih =>
    intro n hn
    cases n with
    | zero => simp [flat] at hn
    | succ n =>
      simp only [flat] at hn
      refine .tup ?_ z l fun i v d hv hd => ih i v d hv hd (n := n) (List.all_eq_true.mp hn d (List.mem_of_getElem? hd))
      rcases s with ⟨o, e, hd⟩ | s
      · exact .inl ⟨o, k _ _ _ e, hd⟩
      · exact .inr s
  | lst => intro n hn; cases n <;> simp [flat] at hn
  | dct => intro n hn; cases n <;> simp [flat] at hn
  | dctL => intro n hn; cases n <;> simp [flat] at hn
  | scr => intro n hn; cases n <;> simp [flat] at hn
  | obj => intro n hn; cases n <;> simp [flat] at hn
/-- a list of flat things -/
theorem own_flat {K : PySem.W.Frag} {F F' H : Hp} {v : V} {l : List D} {A : List Addr} (h : Own K F H (.lst .pure) v (.lst l) A) (k : ∀ a o vs, F a = some (.frz o (.tup vs)) → F' a = some (.frz o (.tup vs))) (hl : l.all (flat 40) = true) : Own K F' H (.lst .pure) v (.lst l) A := by
  obtain ⟨a, vs, ds, As, rfl, e, ha, hz, t, rfl, nd⟩ := h
  cases e
  refine ⟨a, vs, l, As, rfl, rfl, ha, hz, ?_, rfl, nd⟩
  have : ∀ d ∈ l, flat 40 d = true := List.all_eq_true.mp hl
  clear hl hz ha nd
  induction t with
  | nil => exact .nil
  | cons r _ ih => exact .cons ⟨r.1, flat_rep r.2 k (this _ List.mem_cons_self)⟩ (ih fun d hd => this d (List.mem_cons_of_mem _ hd))
def lentM (M : Nat → Sh) (ls : List Nat) (i : Nat) : Sh := if i ∈ ls then .pure else M i
/-- every changeable slot is lent, hidden or handed on -/
structure LendOk (M : Nat → Sh) (ls hs ms : List Nat) : Prop where
  cov : ∀ i, M i ≠ .pure → i ∈ ls ∨ i ∈ hs ∨ i ∈ ms
  ms : ∀ i ∈ ms, M i = .lst .pure ∧ i ∉ ls
section
variable {X : Cx} {z : Z} {M : Nat → Sh} {W : WX} {sh : Sh} {σ : L2.St} {H : Hp} {Q : VK}
theorem lend_core {c : Ctx} {As : Nat → List Addr} {F : Hp} {env : Dv} {ls hs ms : List Nat} (lo : LendOk M ls hs ms) (hM : c.M = M) (r : Rel c As F env σ H) :
    ∃ cx Ax Fs, cx.K = c.K ∧ cx.M = lentM M ls ∧ Rel cx Ax Fs (wipeE env hs) σ H ∧ (∀ b, (cx.H0 b = none ∨ b ∈ cx.A0) → (c.H0 b = none ∨ b ∈ c.A0) ∧ ∀ i d, i ∉ ms → env[i]? = some (some d) → b ∉ As i) ∧
      ∀ e' H' F' As', Rel cx As' F' e' σ H' → flatAt e' ms = true → ∃ Fn As2, Rel c As2 Fn (backE e' env ms) σ H' ∧ Sub F Fn ∧ (∀ i, i ∉ ms → As2 i = As i) ∧ (∀ i, i ∈ ms → As2 i = As' i) ∧
        (∀ b o, H b = some o → (∀ i d, i ∈ ms → env[i]? = some (some d) → b ∉ As i) → H' b = some o) ∧ (∀ b ob vs, F' b = some (.frz ob (.tup vs)) → Fn b = some (.frz ob (.tup vs))) ∧ ∀ b, F' b = none → Fn b = none := by
  -- what is lent
  obtain ⟨L, hL⟩ : ∃ L : List Addr, ∀ b, b ∈ L ↔ ∃ i d, i ∈ ls ∧ env[i]? = some (some d) ∧ b ∈ As i := by
    refine ⟨ls.flatMap fun i => if (env[i]?.getD none).isSome then As i else [], fun b => ?_⟩
    simp only [List.mem_flatMap]
    constructor
    · rintro ⟨i, hi, hb⟩
      split at hb
      · rename_i q
        cases w : env[i]? with
        | none => rw [w] at q; simp at q
        | some o =>
          rw [w] at q
          simp only [Option.getD_some] at q
          obtain ⟨d, hd⟩ := Option.isSome_iff_exists.mp q
          subst hd
          exact ⟨i, d, hi, w, hb⟩
      · simp at hb
    · rintro ⟨i, d, hi, w, hb⟩
      exact ⟨i, hi, by rw [w]; simpa using hb⟩
  have offL : ∀ b ∈ L, F b = none := fun b hb => by
    obtain ⟨i, d, _, w, hb⟩ := (hL b).mp hb
    exact r.off i d w b hb
  obtain ⟨Fs, hFs⟩ : ∃ Fs : Hp, ∀ b, Fs b = if b ∈ L then H b else F b := ⟨_, fun _ => rfl⟩
  have FsL : ∀ b ∈ L, Fs b = H b := fun b hb => by rw [hFs, if_pos hb]
  have FsN : ∀ b, b ∉ L → Fs b = F b := fun b hb => by rw [hFs, if_neg hb]
  have sFs : Sub F Fs := fun b o e => by
    rw [FsN b fun hb => by rw [offL b hb] at e; cases e]
    exact e
  obtain ⟨Ax, hAx⟩ : ∃ Ax : Nat → List Addr, ∀ i, Ax i = if lentM M ls i = .pure then [] else As i := ⟨_, fun _ => rfl⟩
  have AxM : ∀ i b, b ∈ Ax i → b ∈ As i ∧ i ∉ ls ∧ M i ≠ .pure := fun i b hb => by
    rw [hAx] at hb
    split at hb
    · simp at hb
    · rename_i hn
      unfold lentM at hn
      split at hn
      · exact absurd rfl hn
      · exact ⟨hb, by assumption, hn⟩
  -- owned within: what is handed on
  have own1 : ∀ b, b ∈ owned Ax (wipeE env hs) → ∃ i d, i ∈ ms ∧ env[i]? = some (some d) ∧ b ∈ As i := fun b hb => by
    obtain ⟨i, d, w, hb⟩ := mem_owned.mp hb
    obtain ⟨h1, h2, h3⟩ := AxM i b hb
    obtain ⟨w1, w2⟩ := wipeE_some w
    rcases lo.cov i h3 with q | q | q
    · exact absurd q h2
    · exact absurd q w2
    · exact ⟨i, d, q, w1, h1⟩
  let cx : Ctx := ⟨c.K, lentM M ls, H, Fs, owned Ax (wipeE env hs), fun _ => none⟩
  have rx : Rel cx Ax Fs (wipeE env hs) σ H := by
    refine ⟨fun i d w => ?_, fun i d w b hb => ?_, fun i d w b hb => .inr (mem_owned.mpr ⟨i, d, w, hb⟩), fun i j d e' hn w1 w2 b hb hb' => ?_, fun b o e' => ?_, Sub.refl _, fun _ _ h _ => h, fun _ _ h => .inl h, by rw [wipeE_len]; exact r.len, fun i v h => nomatch h⟩
    · obtain ⟨w1, w2⟩ := wipeE_some w
      obtain ⟨v, h1, h2⟩ := r.val i d w1
      refine ⟨v, h1, ?_⟩
      show Own c.K Fs H (lentM M ls i) v d (Ax i)
      by_cases hp : lentM M ls i = .pure
      · rw [hp, hAx, if_pos hp]
        refine ⟨rfl, h2.rep sFs fun b hb o q => ?_⟩
        by_cases hi : i ∈ ls
        · rw [FsL b ((hL b).mpr ⟨i, d, hi, w1, hb⟩)]; exact q
        · have hm : M i = .pure := by unfold lentM at hp; rwa [if_neg hi] at hp
          rw [hM, hm] at h2
          rw [h2.1] at hb
          simp at hb
      · rw [hAx, if_neg hp]
        have hm : lentM M ls i = M i := by
          unfold lentM at hp ⊢
          split at hp
          · exact absurd rfl hp
          · rename_i hi; rw [if_neg hi]
        rw [hm, ← hM]
        exact h2.mono sFs fun _ _ _ q => q
    · obtain ⟨h1, h2, h3⟩ := AxM i b hb
      obtain ⟨w1, w2⟩ := wipeE_some w
      rw [FsN b fun q => ?_]
      · exact r.off i d w1 b h1
      · obtain ⟨j, d', hj, w', hb'⟩ := (hL b).mp q
        exact r.dis i j d d' (fun e => h2 (e ▸ hj)) w1 w' b h1 hb'
    · exact r.dis i j d e' hn (wipeE_some w1).1 (wipeE_some w2).1 b (AxM i b hb).1 (AxM j b hb').1
    · by_cases hb : b ∈ L
      · rw [FsL b hb] at e'; exact e'
      · rw [FsN b hb] at e'; exact r.sub b o e'
  refine ⟨cx, Ax, Fs, rfl, rfl, rx, ?_, ?_⟩
  · intro b hb
    rcases hb with hb | hb
    · have hb : H b = none := hb
      refine ⟨r.h0 hb, fun i d _ w hi => ?_⟩
      obtain ⟨v', _, h2⟩ := r.val i d w
      obtain ⟨u, hu, _⟩ := h2.there b hi
      rw [hu] at hb; cases hb
    · obtain ⟨k, d2, hk, w3, hb2⟩ := own1 b hb
      exact ⟨r.nw k d2 w3 b hb2, fun i d hi w hb' => r.dis k i d2 d (fun e => hi (e ▸ hk)) w3 w b hb2 hb'⟩
  intro e' H' F' As' R' hfl2
  have hfl : True ∧ flatAt e' ms = true := ⟨trivial, hfl2⟩
  have keepH : ∀ b o, H b = some o → (∀ i d, i ∈ ms → env[i]? = some (some d) → b ∉ As i) → H' b = some o := fun b o e1 e2 => R'.frame b o e1 fun hb => by
    obtain ⟨i, d, hi, w, hb⟩ := own1 b hb
    exact e2 i d hi w hb
  obtain ⟨Fn, hFn⟩ : ∃ Fn : Hp, ∀ b, Fn b = match F b with | some o => some o | none => if b ∈ L then none else match F' b with | some (.frz o (.tup vs)) => some (.frz o (.tup vs)) | _ => none := ⟨_, fun _ => rfl⟩
  have Fn1 : Sub F Fn := fun b o e1 => by rw [hFn, e1]
  have Fn2 : ∀ b o, Fn b = some o → F b = some o ∨ (F b = none ∧ b ∉ L ∧ F' b = some o) := fun b o e1 => by
    rw [hFn] at e1
    cases w : F b with
    | some u => rw [w] at e1; exact .inl e1
    | none =>
      rw [w] at e1
      simp only [] at e1
      split at e1
      · cases e1
      · rename_i hb
        split at e1
        · rename_i ob vs w'
          rw [w', e1]
          exact .inr ⟨rfl, hb, rfl⟩
        · cases e1
  have sF' : Sub Fs F' := R'.old
  have tupK : ∀ b ob vs, F' b = some (.frz ob (.tup vs)) → Fn b = some (.frz ob (.tup vs)) := fun b ob vs e1 => by
    rw [hFn]
    cases w : F b with
    | some u =>
      have := sF' b u (sFs b u w)
      rw [e1] at this
      exact this.symm
    | none =>
      simp only []
      rw [if_neg fun hb => ?_, e1]
      obtain ⟨i, d, _, w', hb'⟩ := (hL b).mp hb
      obtain ⟨v', _, h2⟩ := r.val i d w'
      obtain ⟨u, hu, _, hz⟩ := h2.there b hb'
      have := sF' b u (by rw [FsL b hb]; exact hu)
      rw [e1] at this
      cases this
      exact hz _ _ rfl
  have back : ∀ i d, (backE e' env ms)[i]? = some (some d) → (i ∈ ms ∧ e'[i]? = some (some d)) ∨ (i ∉ ms ∧ env[i]? = some (some d)) := fun i d w => by
    by_cases hi : i ∈ ms
    · exact .inl ⟨hi, backE_in hi w⟩
    · rw [backE_out hi] at w
      exact .inr ⟨hi, w⟩
  have apart : ∀ i j d0 d1, i ∈ ms → e'[i]? = some (some d0) → j ∉ ms → env[j]? = some (some d1) → ∀ b ∈ As' i, b ∉ As j := fun i j d0 d1 hi w1 hj w2 b hb hb' => by
    obtain ⟨v', _, h2⟩ := r.val j d1 w2
    obtain ⟨u, hu, _⟩ := h2.there b hb'
    rcases R'.nw i d0 w1 b hb with q1 | q1
    · have q1 : H b = none := q1
      rw [hu] at q1; cases q1
    · obtain ⟨k, d2, hk, w3, hb2⟩ := own1 b q1
      exact r.dis k j d2 d1 (fun e => hj (e ▸ hk)) w3 w2 b hb2 hb'
  have rn : Rel c (fun i => if i ∈ ms then As' i else As i) Fn (backE e' env ms) σ H' := by
    refine ⟨fun i d w => ?_, fun i d w b hb => ?_, fun i d w b hb => ?_, fun i j d0 d1 hn w1 w2 b hb hb' => ?_, fun b o e1 => ?_, r.old.trans Fn1, fun b o e1 e2 => ?_, fun b o e1 => ?_, by rw [backE_len]; exact r.len, r.fix⟩
    · rcases back i d w with ⟨hi, w'⟩ | ⟨hi, w'⟩
      · obtain ⟨v', h1, h2⟩ := R'.val i d w'
        refine ⟨v', h1, ?_⟩
        simp only [if_pos hi]
        have hm := (lo.ms i hi).1
        have hm' : lentM M ls i = .lst .pure := by unfold lentM; rw [if_neg (lo.ms i hi).2, hm]
        rw [hM, hm]
        have h2 : Own c.K F' H' (lentM M ls i) v' d (As' i) := h2
        rw [hm'] at h2
        have hf := List.all_eq_true.mp hfl.2 i hi
        rw [w'] at hf
        cases d with
        | lst l => exact own_flat h2 tupK hf
        | _ => simp at hf
      · obtain ⟨v', h1, h2⟩ := r.val i d w'
        refine ⟨v', h1, ?_⟩
        simp only [if_neg hi]
        refine h2.mono Fn1 fun b hb o e1 => keepH b o e1 fun j d' hj w2 hb' => ?_
        exact r.dis i j d d' (fun e => hi (e ▸ hj)) w' w2 b hb hb'
    · rcases back i d w with ⟨hi, w'⟩ | ⟨hi, w'⟩
      · simp only [if_pos hi] at hb
        have h1 := R'.off i d w' b hb
        cases w2 : Fn b with
        | none => rfl
        | some u =>
          rcases Fn2 b u w2 with q1 | ⟨_, _, q1⟩
          · rw [sF' b u (sFs b u q1)] at h1; cases h1
          · rw [q1] at h1; cases h1
      · simp only [if_neg hi] at hb
        cases w2 : Fn b with
        | none => rfl
        | some u =>
          rcases Fn2 b u w2 with q1 | ⟨_, _, q1⟩
          · rw [r.off i d w' b hb] at q1; cases q1
          · obtain ⟨v', _, h2⟩ := r.val i d w'
            obtain ⟨u', hu, _, hz⟩ := h2.there b hb
            have k1 := keepH b u' hu fun j d' hj w2 hb' => r.dis i j d d' (fun e => hi (e ▸ hj)) w' w2 b hb hb'
            have k2 := R'.sub b u q1
            rw [k1] at k2
            cases k2
            rw [hFn, r.off i d w' b hb] at w2
            simp only [] at w2
            split at w2
            · cases w2
            · rw [q1] at w2
              split at w2
              · rename_i e3; cases e3; exact absurd rfl (hz _ _)
              · cases w2
    · rcases back i d w with ⟨hi, w'⟩ | ⟨hi, w'⟩
      · simp only [if_pos hi] at hb
        rcases R'.nw i d w' b hb with q1 | q1
        · exact r.h0 q1
        · obtain ⟨k, d2, hk, w3, hb2⟩ := own1 b q1
          exact r.nw k d2 w3 b hb2
      · simp only [if_neg hi] at hb
        exact r.nw i d w' b hb
    · rcases back i d0 w1 with ⟨hi, w1'⟩ | ⟨hi, w1'⟩
      · rcases back j d1 w2 with ⟨hj, w2'⟩ | ⟨hj, w2'⟩
        · simp only [if_pos hi] at hb
          simp only [if_pos hj] at hb'
          exact R'.dis i j d0 d1 hn w1' w2' b hb hb'
        · simp only [if_pos hi] at hb
          simp only [if_neg hj] at hb'
          exact apart i j d0 d1 hi w1' hj w2' b hb hb'
      · rcases back j d1 w2 with ⟨hj, w2'⟩ | ⟨hj, w2'⟩
        · simp only [if_neg hi] at hb
          simp only [if_pos hj] at hb'
          exact apart j i d1 d0 hj w2' hi w1' b hb' hb
        · simp only [if_neg hi] at hb
          simp only [if_neg hj] at hb'
          exact r.dis i j d0 d1 hn w1' w2' b hb hb'
    · rcases Fn2 b o e1 with q1 | ⟨_, _, q1⟩
      · exact R'.sub b o (sF' b o (sFs b o q1))
      · exact R'.sub b o q1
    · refine R'.frame b o (r.frame b o e1 e2) fun hb => ?_
      obtain ⟨k, d2, hk, w3, hb2⟩ := own1 b hb
      rcases r.nw k d2 w3 b hb2 with q1 | q1
      · rw [e1] at q1; cases q1
      · exact e2 q1
    · rcases Fn2 b o e1 with q1 | ⟨w0, hb, q1⟩
      · exact r.newF b o q1
      · rcases R'.newF b o q1 with q2 | q2 | q2
        · have q2 : Fs b = some o := q2
          rw [FsN b hb, w0] at q2; cases q2
        · exact .inr (r.h0 q2)
        · obtain ⟨k, d2, hk, w3, hb2⟩ := own1 b q2
          exact .inr (r.nw k d2 w3 b hb2)
  refine ⟨Fn, _, rn, Fn1, fun i hi => if_neg hi, fun i hi => if_pos hi, keepH, tupK, fun b hb => ?_⟩
  cases w : Fn b with
  | none => rfl
  | some u =>
    rcases Fn2 b u w with q1 | ⟨_, _, q1⟩
    · rw [sF' b u (sFs b u q1)] at hb; cases hb
    · rw [q1] at hb; cases hb
theorem snd_lend {e : Expr} {a : E} {ls hs ms : List Nat} (lo : LendOk M ls hs ms) (ha : SE X z (lentM M ls) W .pure e (ev z.cf a)) : SE X z M W .pure e (ev z.cf (.lend ls hs ms a)) := by
  refine PE.imp ha fun σ H Q h => ?_
  obtain ⟨c, As, F, env, hK, hM, r, h⟩ := h
  have hh : okE z W c .pure F σ (match ev z.cf a (wipeE env hs) with | .ok d e => bif flat 40 d && flatAt e ms then .ok d (backE e env ms) else .stuck | _ => .stuck) Q := h
  obtain ⟨cx, Ax, Fs, k1, k2, rx, _, core⟩ := lend_core lo hM r
  refine ⟨cx, Ax, Fs, wipeE env hs, k1.trans hK, k2, rx, ?_⟩
  cases q : ev z.cf a (wipeE env hs) with
  | exc x e' => rw [q] at hh; exact hh.elim
  | stuck => rw [q] at hh; exact hh.elim
  | ok d e' =>
    rw [q] at hh
    simp only [] at hh
    intro v H' F' As' A R' s' o n
    cases hfl : (flat 40 d && flatAt e' ms) with
    | false => rw [hfl] at hh; exact hh.elim
    | true =>
      rw [hfl] at hh
      rw [Bool.and_eq_true] at hfl
      obtain ⟨Fn, As2, rn, sn, _, _, _, tk, _⟩ := core e' H' F' As' R' hfl.2
      exact okE.ret hh rn sn (flat_rep (by rw [← k1]; exact o.2) tk hfl.1)
/-- the result is a new list of flat things -/
theorem snd_lendL {e : Expr} {a : E} {ls hs ms : List Nat} (lo : LendOk M ls hs ms) (ha : SE X z (lentM M ls) W (.lst .pure) e (ev z.cf a)) : SE X z M W (.lst .pure) e (ev z.cf (.lendL ls hs ms a)) := by
  refine PE.imp ha fun σ H Q h => ?_
  obtain ⟨c, As, F, env, hK, hM, r, h⟩ := h
  have hh : okE z W c (.lst .pure) F σ (match ev z.cf a (wipeE env hs) with | .ok d e => bif flatL d && flatAt e ms then .ok d (backE e env ms) else .stuck | _ => .stuck) Q := h
  obtain ⟨cx, Ax, Fs, k1, k2, rx, nwx, core⟩ := lend_core lo hM r
  refine ⟨cx, Ax, Fs, wipeE env hs, k1.trans hK, k2, rx, ?_⟩
  cases q : ev z.cf a (wipeE env hs) with
  | exc x e' => rw [q] at hh; exact hh.elim
  | stuck => rw [q] at hh; exact hh.elim
  | ok d e' =>
    rw [q] at hh
    simp only [] at hh
    intro v H' F' As' A R' s' o n
    cases hfl : (flatL d && flatAt e' ms) with
    | false => rw [hfl] at hh; exact hh.elim
    | true =>
      rw [hfl] at hh
      rw [Bool.and_eq_true] at hfl
      obtain ⟨Fn, As2, rn, sn, a1, a2, _, tk, nn⟩ := core e' H' F' As' R' hfl.2
      cases d with
      | lst l =>
        refine hh v H' Fn As2 A rn sn (own_flat (by rw [← k1]; exact o) tk hfl.1) ⟨⟨n.side.here, fun b hb => nn b (n.side.off b hb), fun b hb hm => ?_⟩, fun b hb => (nwx b (n.nw b hb)).1⟩
        obtain ⟨i, d', w, hbi⟩ := mem_owned.mp hm
        by_cases hi : i ∈ ms
        · rw [a2 i hi] at hbi
          exact n.side.apart b hb (mem_owned.mpr ⟨i, d', backE_in hi w, hbi⟩)
        · rw [a1 i hi] at hbi
          rw [backE_out hi] at w
          exact (nwx b (n.nw b hb)).2 i d' hi w hbi
      | _ => simp [flatL] at hfl
theorem st_lend {e : Expr} {a : E} {ls hs ms : List Nat} (lo : LendOk M ls hs ms) (ha : ST X z (lentM M ls) W e (ev z.cf a)) : ST X z M W e (ev z.cf (.lend ls hs ms a)) := by
  refine PT.imp ha fun σ H Q h => ?_
  obtain ⟨c, As, F, env, hK, hM, r, h⟩ := h
  have hh : okT z W c F σ (truthR (match ev z.cf a (wipeE env hs) with | .ok d e => bif flat 40 d && flatAt e ms then .ok d (backE e env ms) else .stuck | _ => .stuck)) Q := h
  obtain ⟨cx, Ax, Fs, k1, k2, rx, _, core⟩ := lend_core lo hM r
  refine ⟨cx, Ax, Fs, wipeE env hs, k1.trans hK, k2, rx, ?_⟩
  cases q : ev z.cf a (wipeE env hs) with
  | exc x e' => rw [q] at hh; exact hh.elim
  | stuck => rw [q] at hh; exact hh.elim
  | ok d e' =>
    rw [q] at hh
    simp only [] at hh
    show okT z W cx Fs σ (liftO d.truth e') Q
    cases hfl : (flat 40 d && flatAt e' ms) with
    | false => rw [hfl] at hh; exact hh.elim
    | true =>
      rw [hfl] at hh
      have hh : okT z W c F σ (liftO d.truth (backE e' env ms)) Q := hh
      rw [Bool.and_eq_true] at hfl
      cases ht : d.truth with
      | none => rw [ht] at hh; exact hh.elim
      | some k =>
        rw [ht] at hh
        intro H' F' As' R' s'
        obtain ⟨Fn, As2, rn, sn, _⟩ := core e' H' F' As' R' hfl.2
        exact hh H' Fn As2 rn sn
end
end Pv
set_option Elab.async false
set_option linter.all false
set_option maxRecDepth 100000
set_option maxHeartbeats 4000000
namespace Pv
open PySem PySem.Spec PyProof.Rows L2
/-! ### what a def promises -/
def parM (shs : List Sh) (i : Nat) : Sh := (shs[i]?).getD .pure
/-- the context of a call, by its arguments -/
def callC (K : PySem.W.Frag) (shs : List Sh) (H F : Hp) (As : Nat → List Addr) (ds : List D) : Ctx := ⟨K, parM shs, H, F, owned As (ds.map some), fun _ => none⟩
def spS (z : Z) (shs : List Sh) (ret : Sh) (g : List D → CR) : Sp := fun vs H Q E => ∃ F As ds, vs.length = shs.length ∧ ds.length = shs.length ∧
  Rel (callC z.K shs H F As ds) As F (ds.map some) (vs.map some) H ∧ match g ds with
    | .ok d ds' => ∀ v H' F' As' A, Rel (callC z.K shs H F As ds) As' F' (ds'.map some) (vs.map some) H' → Sub F F' → Own z.K F' H' ret v d A → New (callC z.K shs H F As ds) F' H' As' (ds'.map some) A → Q v H'
    | .exc x ds' => ∀ cl da H' F' As', Rel (callC z.K shs H F As ds) As' F' (ds'.map some) (vs.map some) H' → Sub F F' → z.XR x cl da F' H' → E cl da H'
    | .stuck => False
/-! ### values in the air -/
inductive Air where
  | ref (i : Nat)
  | val (d : D) (sh : Sh) (A : List Addr)
def Air.addrs : Air → List Addr
  | .ref _ => []
  | .val _ _ A => A
def AirOk (K : PySem.W.Frag) (F H : Hp) (σ : L2.St) (p : V × Air) : Prop := match p.2 with
  | .ref i => σ[i]? = some (some p.1)
  | .val d sh A => Own K F H sh p.1 d A
structure Lim (c : Ctx) (F H : Hp) (As : Nat → List Addr) (env : Dv) (σ : L2.St) (ps : List (V × Air)) : Prop where
  ok : ∀ p ∈ ps, AirOk c.K F H σ p
  side : ∀ p ∈ ps, Aside F H As env p.2.addrs
  nw : ∀ p ∈ ps, ∀ a ∈ p.2.addrs, c.H0 a = none ∨ a ∈ c.A0
  dis : ps.Pairwise fun p q => ∀ a ∈ p.2.addrs, a ∉ q.2.addrs
section
variable {c : Ctx} {As As' : Nat → List Addr} {F F' H H' : Hp} {env env' : Dv} {σ : L2.St} {ps : List (V × Air)}
theorem Lim.nil : Lim c F H As env σ [] := ⟨by simp, by simp, by simp, .nil⟩
theorem Lim.keep (l : Lim c F H As env σ ps) (r' : Rel (c.re As F H env) As' F' env' σ H') : Lim c F' H' As' env' σ ps := by
  refine ⟨fun p hp => ?_, fun p hp => ((l.side p hp).keep r').1, l.nw, l.dis⟩
  have k := ((l.side p hp).keep r').2
  have h := l.ok p hp
  unfold AirOk at h ⊢
  split
  · rename_i i e; rw [e] at h; exact h
  · rename_i d sh A e
    rw [e] at h
    refine Own.mono h (show Sub F F' from r'.old) fun a ha o q => k a (by rw [e]; exact ha) o q
theorem Lim.add (l : Lim c F H As env σ ps) {v : V} {d : D} {sh : Sh} {A : List Addr} (o : Own c.K F H sh v d A) (n : New c F H As env A) (hd : ∀ p ∈ ps, ∀ a ∈ p.2.addrs, a ∉ A) : Lim c F H As env σ (ps ++ [(v, .val d sh A)]) := by
  refine ⟨fun p hp => ?_, fun p hp => ?_, fun p hp => ?_, ?_⟩
  · rcases List.mem_append.mp hp with hp | hp
    · exact l.ok p hp
    · have e : p = (v, .val d sh A) := by simpa using hp
      subst e; exact o
  · rcases List.mem_append.mp hp with hp | hp
    · exact l.side p hp
    · have e : p = (v, .val d sh A) := by simpa using hp
      subst e; exact n.side
  · rcases List.mem_append.mp hp with hp | hp
    · exact l.nw p hp
    · have e : p = (v, .val d sh A) := by simpa using hp
      subst e; exact n.nw
  · rw [List.pairwise_append]
    refine ⟨l.dis, List.pairwise_singleton _ _, fun p hp q hq a ha => ?_⟩
    have e : q = (v, .val d sh A) := by simpa using hq
    subst e
    exact hd p hp a ha
theorem Lim.addRef (l : Lim c F H As env σ ps) {v : V} {i : Nat} (h : σ[i]? = some (some v)) : Lim c F H As env σ (ps ++ [(v, .ref i)]) := by
  refine ⟨fun p hp => ?_, fun p hp => ?_, fun p hp a ha => ?_, ?_⟩
  · rcases List.mem_append.mp hp with hp | hp
    · exact l.ok p hp
    · have e : p = (v, .ref i) := by simpa using hp
      subst e; exact h
  · rcases List.mem_append.mp hp with hp | hp
    · exact l.side p hp
    · have e : p = (v, .ref i) := by simpa using hp
      subst e; exact Aside.nil
  · rcases List.mem_append.mp hp with hp | hp
    · exact l.nw p hp a ha
    · have e : p = (v, .ref i) := by simpa using hp
      subst e; exact absurd ha (by simp [Air.addrs])
  · rw [List.pairwise_append]
    refine ⟨l.dis, List.pairwise_singleton _ _, fun p hp q hq a ha => ?_⟩
    have e : q = (v, .ref i) := by simpa using hq
    subst e
    simp [Air.addrs]
end
def isRef : E → Bool
  | .mref _ => true
  | _ => false
/-- the arguments' values, what they are in the air -/
inductive AirAll (M : Nat → Sh) : List V → List E → List Sh → List D → List (V × Air) → Prop
  | nil : AirAll M [] [] [] [] []
  | ref {v i d vs as sh shs ds qs} : M i = sh → AirAll M vs as shs ds qs → AirAll M (v :: vs) (.mref i :: as) (sh :: shs) (d :: ds) ((v, .ref i) :: qs)
  | val {v a d A vs as sh shs ds qs} : isRef a = false → AirAll M vs as shs ds qs → AirAll M (v :: vs) (a :: as) (sh :: shs) (d :: ds) ((v, .val d sh A) :: qs)
section
variable {X : Cx} {z : Z} {M : Nat → Sh} {W : WX} {sh : Sh} {σ : L2.St} {H : Hp} {Q : VK}
def okL (z : Z) (M : Nat → Sh) (W : WX) (c : Ctx) (F : Hp) (σ : L2.St) (as : List E) (shs : List Sh) (ps : List (V × Air)) (r : R (List D)) (Q : List V → Hp → Prop) : Prop := match r with
  | .ok ds e => ∀ vs H' F' As' qs, Rel c As' F' e σ H' → Sub F F' → Lim c F' H' As' e σ (ps ++ qs) → AirAll M vs as shs ds qs → Q vs H'
  | .exc x e => ∀ cl da H' F' As', Rel c As' F' e σ H' → Sub F F' → z.XR x cl da F' H' → W cl da σ H'
  | .stuck => False
def tArg (z : Z) (M : Nat → Sh) (W : WX) (as : List E) (shs : List Sh) : TA := fun σ H Q => ∃ c As F env ps, c.K = z.K ∧ c.M = M ∧ Rel c As F env σ H ∧ Lim c F H As env σ ps ∧ okL z M W c F σ as shs ps (evs z.cf as env) Q
/-- one argument -/
inductive ArgK (X : Cx) (z : Z) (M : Nat → Sh) (W : WX) : Expr → E → Sh → Prop
  | pure {e a} : isRef a = false → SE X z M W .pure e (ev z.cf a) → ArgK X z M W e a .pure
  | own {e a sh} : SE X z M W sh e (ev z.cf a) → ArgK X z M W e (.own a) sh
  | ref {x i pos sh} : X.N[i]? = some x → Vis X.env.scope x → (x == ("__debug__" : Str)) = false → (x == ("__classdict__" : Str)) = false → M i = sh → ArgK X z M W (.Name x pos) (.mref i) sh
theorem okL.mono {c : Ctx} {F F1 : Hp} {as : List E} {shs : List Sh} {ps : List (V × Air)} {r : R (List D)} {Q : List V → Hp → Prop} (h : okL z M W c F σ as shs ps r Q) (s : Sub F F1) : okL z M W c F1 σ as shs ps r Q := by
  cases r with
  | ok d e => exact fun v H' F' As' qs r s' => h v H' F' As' qs r (s.trans s')
  | exc x e => exact fun cl da H' F' As' r s' q => h cl da H' F' As' r (s.trans s') q
  | stuck => exact h
theorem pArg_nil : L2.PA X [] (tArg z M W [] []) :=
  PA.imp pa_nil fun σ H Q ⟨c, As, F, env, ps, hK, hM, r, l, h⟩ => h [] H F As [] r (Sub.refl _) (by rw [List.append_nil]; exact l) .nil
/-- a value of a shape, then the rest -/
theorem arg_step {a : E} {as : List E} {shs : List Sh} {f : Dv → R D} (hf : ∀ env, ev z.cf a env = f env) (hr : isRef a = false) {Q : List V → Hp → Prop} (h : tArg z M W (a :: as) (sh :: shs) σ H Q) :
    tF z M W sh f σ H fun v H1 => tArg z M W as shs σ H1 fun vs H2 => Q (v :: vs) H2 := by
  obtain ⟨c, As, F, env, ps, hK, hM, r, l, h⟩ := h
  have h' : okL z M W c F σ (a :: as) (sh :: shs) ps (bindR (ev z.cf a env) fun d e => bindR (evs z.cf as e) fun ds e' => .ok (d :: ds) e') Q := h
  refine ⟨c.re As F H env, As, F, env, hK, hM, r.re, ?_⟩
  rw [hf] at h'
  cases q : f env with
  | ok d e =>
    rw [q] at h'
    intro v H1 F1 As1 A r1 s1 o n
    have l1 := l.keep r1
    have nn : New c F1 H1 As1 e A := ⟨n.side, fun b hb => by
      rcases n.nw b hb with q1 | q1
      · exact r.h0 q1
      · exact r.own0 q1⟩
    have l2 := l1.add o nn fun p hp b hb hb' => by
      obtain ⟨u, hu⟩ := (l.side p hp).here b hb
      rcases n.nw b hb' with q1 | q1
      · have q1 : H b = none := q1
        rw [hu] at q1; cases q1
      · exact (l.side p hp).apart b hb q1
    refine ⟨c, As1, F1, e, _, hK, hM, r.un r1, l2, ?_⟩
    have h2 : okL z M W c F σ (a :: as) (sh :: shs) ps (bindR (evs z.cf as e) fun ds e' => .ok (d :: ds) e') Q := h'
    cases q2 : evs z.cf as e with
    | ok ds e' =>
      rw [q2] at h2
      intro vs H' F' As' qs r' s' l' al
      refine h2 (v :: vs) H' F' As' ((v, .val d sh A) :: qs) r' (s1.trans s') ?_ (.val hr al)
      rw [List.append_assoc] at l'
      exact l'
    | exc x e' =>
      rw [q2] at h2
      exact fun cl da H' F' As' r s' q => h2 cl da H' F' As' r (s1.trans s') q
    | stuck => rw [q2] at h2; exact h2
  | exc x e =>
    rw [q] at h'
    exact fun cl da H' F' As' r1 s' q => h' cl da H' F' As' (r.un r1) s' q
  | stuck => rw [q] at h'; exact h'
theorem arg_ref {i : Nat} {as : List E} {shs : List Sh} (hMi : M i = sh) {Q : List V → Hp → Prop} (h : tArg z M W (.mref i :: as) (sh :: shs) σ H Q) :
    tVar i σ H fun v H1 => tArg z M W as shs σ H1 fun vs H2 => Q (v :: vs) H2 := by
  obtain ⟨c, As, F, env, ps, hK, hM, r, l, h⟩ := h
  have h' : okL z M W c F σ (.mref i :: as) (sh :: shs) ps (bindR (ev z.cf (.mref i) env) fun d e => bindR (evs z.cf as e) fun ds e' => .ok (d :: ds) e') Q := h
  unfold ev at h'
  cases q : env[i]? with
  | none => rw [q] at h'; exact h'.elim
  | some o =>
    cases o with
    | none => rw [q] at h'; exact h'.elim
    | some d =>
      rw [q] at h'
      obtain ⟨v, hv, _⟩ := r.val i d q
      refine ⟨v, hv, c, As, F, env, _, hK, hM, r, l.addRef hv, ?_⟩
      have h2 : okL z M W c F σ (.mref i :: as) (sh :: shs) ps (bindR (evs z.cf as env) fun ds e' => .ok (.non :: ds) e') Q := h'
      cases q2 : evs z.cf as env with
      | ok ds e' =>
        rw [q2] at h2
        intro vs H' F' As' qs r' s' l' al
        refine h2 (v :: vs) H' F' As' ((v, .ref i) :: qs) r' s' ?_ (.ref hMi al)
        rw [List.append_assoc] at l'
        exact l'
      | exc x e' => rw [q2] at h2; exact h2
      | stuck => rw [q2] at h2; exact h2
theorem pArg_cons {e : Expr} {es : List Expr} {a : E} {as : List E} {shs : List Sh} (hh : okHead e = true) (ha : ArgK X z M W e a sh) (hs : L2.PA X es (tArg z M W as shs)) : L2.PA X (e :: es) (tArg z M W (a :: as) (sh :: shs)) := by
  cases ha with
  | pure hr h => exact PA.imp (pa_cons h hs (nonStar hh es X.env)) fun σ H Q q => arg_step (fun _ => rfl) hr q
  | @own _ a' _ h => exact PA.imp (pa_cons h hs (nonStar hh es X.env)) fun σ H Q q => arg_step (a := .own a') (f := ev z.cf a') (fun _ => rfl) rfl q
  | ref h1 h2 h3 h4 h5 => exact PA.imp (pa_cons (pe_var h1 h2 h3 h4) hs (nonStar hh es X.env)) fun σ H Q q => arg_ref h5 q
end
end Pv
set_option Elab.async false
set_option linter.all false
set_option maxRecDepth 100000
set_option maxHeartbeats 4000000
/-! defs whose callers hold no repr open: what a def promises where no guard stands around it -/
namespace Pv
open PySem PySem.Spec PyProof.Rows L2
structure FnG (P : Program) (w : World) (K : PySem.W.Frag) (mg : Str → Option Value) (base : Heap) (CXt : CXT) (k : Nat) (f : Addr) (fd : FuncData) (ps : List Str) (sp : Sp) : Prop where
  len : ∀ vs H Q E, sp vs H Q E → vs.length = ps.length
  go : ∀ {A : Around} {out : List PySem.Env} {s : Shared} {H : Hp} {args : Args} {us : List Value} {vs : List V} {Q : VK} {E : XK}, Room k A → A.guards = some [] → Env0 P w K mg base A out s H → BindsTo s fd args (ps.zip us) → Vals vs us → sp vs H Q E → codeAny (model P w) A (.call (.ref f) args) (L2.CR CXt out P w H s Q E) s
section
variable {X : Cx} {CXt : CXT} {k : Nat} {f : Addr} {fd : FuncData} {ps : List Str} {sp : Sp} {Ex : L2.St → XK} {σ : L2.St} {H : Hp} {Q : VK} {s : Shared} {pins : List (Addr × Obj)}
/-- a call, its arguments bound -/
theorem FnG.call (F : FnG X.prog X.w X.K X.mg X.base CXt k f fd ps sp) (hr : Room k X.A) (hg : X.A.guards = some []) (hx : PassesAt CXt X σ (Ex σ)) (I : Inv X pins σ H s) {pa us : List Value} {kw : List (Str × Value)} {vs : List V} (b : BindsTo s fd ⟨pa, kw⟩ (ps.zip us)) (r : Vals vs us) (h : sp vs H Q (Ex σ)) :
    wpAny (model X.prog X.w) X.A (PySem.call (.ref f) pa kw) (EP X pins σ Q) X.xe s :=
  wpAny_call (codeAny_mono (F.go hr hg I.env0 b r h) fun res s' hq => match res, hq with
    | .error e, hq => hx pins H s e s' I hq
    | .ok (.ret u), hq => I.after hq
    | .ok .next, hq => False.elim hq
    | .ok .brk, hq => False.elim hq
    | .ok .cont, hq => False.elim hq)
/-- every parameter given by place -/
theorem FnG.plain (F : FnG X.prog X.w X.K X.mg X.base CXt k f fd ps sp) (hr : Room k X.A) (hg : X.A.guards = some []) (hb : Binds X.K fd ps []) (hx : PassesAt CXt X σ (Ex σ)) (I : Inv X pins σ H s) {us : List Value} {vs : List V} (r : Vals vs us) (h : sp vs H Q (Ex σ)) :
    wpAny (model X.prog X.w) X.A (PySem.call (.ref f) us) (EP X pins σ Q) X.xe s := by
  have n : (us ++ []).length = ps.length := by
    rw [List.append_nil, ← r.length]
    exact F.len vs H Q _ h
  have b := hb s us I.kIn n
  rw [List.append_nil] at b
  exact F.call hr hg hx I b r h
theorem pe_callG {x : Str} {p pos : Pos} {e : Expr} {es : List Expr} {t : TA} (F : FnG X.prog X.w X.K X.mg X.base CXt k f fd ps sp) (hr : Room k X.A) (hgu : X.A.guards = some []) (hg : Gl X x) (hm : X.mg x = some (.ref f)) (hk : PySem.W.keepIn X.K (.ref f) = true) (hb : Binds X.K fd ps []) (hx : ∀ σ, PassesAt CXt X σ (Ex σ)) (ha : L2.PA X (e :: es) t)
    (hdb : (x == ("__debug__" : Str)) = false) (he : starEach (e :: es) X.env = (false, eval e X.env) :: starEach es X.env) (hpl : (backTo pos (starEach es X.env)).any (·.1) = false) : PE X (.Call (.Name x p) (e :: es) [] pos) fun σ H Q => t σ H fun vs H1 => sp vs H1 Q (Ex σ) :=
  ⟨fun pins s σ H Q I h => wpAny_Call_Name_kw (ld_glob I hg hm (PySem.W.callWith_K (h₀ := X.base) I.ok.mod.kin hk (thn (ha.run pos pins s σ H _ I h) fun us s1 ⟨vs, H1, J, r, q⟩ => ⟨J.kIn, F.plain hr hgu hb (hx σ) J r q⟩) he hpl) hdb)⟩
end
/-- a def keeps a promise if its body does -/
theorem fnG_of {P : Program} {w : World} {K : PySem.W.Frag} {mg : Str → Option Value} {base : Heap} {CXt : CXT} {x qual : Str} {params : Arguments} {body : List Stmt} {scope : Scope} {dvs : List V} {kws : List (Str × V)} {f : Addr} {fd : FuncData} {N ps : List Str} {k : Nat} {sp : Sp}
    (D : FunD K x qual params body scope dvs kws f fd) (S : FnScope N ps scope) (len : ∀ vs H Q E, sp vs H Q E → vs.length = ps.length)
    (bd : ∀ (cdv : Value) (A : Around) (out : List PySem.Env) (s : Shared) (H : Hp) (vs : List V) (Q : VK) (E : XK), Room k (A.deeper (envOfC qual scope s.heap.objs.size f cdv)) → A.guards = some [] → sp vs H Q E →
      ∃ t, PSs (cxOf CXt P w K mg base N qual scope f cdv A out s H E) body t ∧ t { nx := fun _ H' => Q .non H', rt := Q } (start N vs) H) : FnG P w K mg base CXt (k + 1) f fd ps sp := by
  obtain ⟨_, _, _, _, _, _, _, cdv, _, _, rfl, lk, hcd, _, _⟩ := D.ex
  refine ⟨len, @fun A out s H args us vs Q E room gu env bind vals pre => ?_⟩
  have old := fun b o (e : base.get? b = some o) => (env.bs b o e).1
  have inK := env.mod.kin.keeps old
  refine codeAny_call_function room.depth (inK _ _ lk) rfl S.co S.gen rfl (PySem.W.codeRec_of inK hcd) (bind _ _ _ _ (wpAny_newFunctionEnv_cells S.kind (fun y hy => ?_) fun e1 he s1 made => ?_))
  · have hp := S.par y.1 (List.of_mem_zip (show (y.1, y.2) ∈ ps.zip us from hy)).1
    exact hp.imp id fun q => ⟨q, PySem.W.cellsFrom_some _ _ _ (.inl q)⟩
  · cases he
    refine ⟨(env.mod.nolimit.keeps old).keeps made.toInCall.keep, codeAny_func ?_⟩
    obtain ⟨t, walk, post⟩ := bd cdv A out s H vs Q E (room.deeper _) gu pre
    refine wpAny_mono (walk.run [] s1 (start N vs) H _ (inv_start S room.hd env (len vs H Q E pre) vals made) post) (fun fl s2 hs => ?_) fun _ _ hs => hs
    match fl, hs with
    | .ret u, ⟨v, _, H2, J, rv, q⟩ => exact ⟨v, H2, J.os, J.bare, J.base, J.hok, rv, q⟩
    | .next, ⟨_, H2, J, q⟩ => exact ⟨V.non, H2, J.os, J.bare, J.base, J.hok, rfl, q⟩
    | .brk, ⟨_, _, _, q⟩ => exact q.elim
    | .cont, ⟨_, _, _, q⟩ => exact q.elim
theorem guards_deeper {A : Around} {e : PySem.Env} : (A.deeper e).guards = A.guards := rfl
theorem guards_make {A : Around} {C : Addr} {us : List Value} {kw : List (Str × Value)} (h : A.guards = some []) : (A.under (.builtin "type.__call__" ⟨.ref C :: us, kw⟩)).guards = some [] := by
  have : Code.isGuard (.builtin "type.__call__" ⟨.ref C :: us, kw⟩) = false := by
    first | rfl | decide +kernel | simp [Code.isGuard, guardIds]
  simp [Around.under, Code.guards, this, pushGuards, h]
end Pv
set_option Elab.async false
set_option linter.all false
set_option maxRecDepth 100000
set_option maxHeartbeats 4000000
namespace Pv
open PySem PySem.Spec PyProof.Rows L2
theorem wb_len : ∀ (as : List E) (ds : List D) (env : Dv), (writeBack as ds env).length = env.length
  | [], _, _ => by simp [writeBack]
  | _ :: _, [], _ => by simp [writeBack]
  | a :: as, d :: ds, env => by
    unfold writeBack
    split
    · rw [wb_len as ds, List.length_set]
    · exact wb_len as ds env
theorem wb_at : ∀ {as : List E} {ds : List D} {env : Dv} {i : Nat} {d : D}, as.length = ds.length → (writeBack as ds env)[i]? = some (some d) →
    (∃ j : Nat, as[j]? = some (E.mref i) ∧ ds[j]? = some d) ∨ ((∀ j : Nat, as[j]? ≠ some (E.mref i)) ∧ env[i]? = some (some d))
  | [], _, _, _, _, _, h => .inr ⟨fun j => by simp, by simpa [writeBack] using h⟩
  | _ :: _, [], _, _, _, hl, _ => by simp at hl
  | a :: as, d0 :: ds, env, i, d, hl, h => by
    have hl' : as.length = ds.length := by simpa using hl
    unfold writeBack at h
    split at h
    · rename_i k
      rcases wb_at hl' h with ⟨j, h1, h2⟩ | ⟨h1, h2⟩
      · exact .inl ⟨j + 1, by simpa using h1, by simpa using h2⟩
      · by_cases e : k = i
        · subst e
          rw [List.getElem?_set, if_pos rfl] at h2
          split at h2
          · cases h2; exact .inl ⟨0, rfl, rfl⟩
          · cases h2
        · rw [List.getElem?_set_ne e] at h2
          refine .inr ⟨fun j hj => ?_, h2⟩
          cases j with
          | zero => simp at hj; exact e hj
          | succ j => exact h1 j (by simpa using hj)
    · rename_i hn
      rcases wb_at hl' h with ⟨j, h1, h2⟩ | ⟨h1, h2⟩
      · exact .inl ⟨j + 1, by simpa using h1, by simpa using h2⟩
      · refine .inr ⟨fun j hj => ?_, h2⟩
        cases j with
        | zero => simp at hj; exact hn i hj
        | succ j => exact h1 j (by simpa using hj)
theorem air_len {M : Nat → Sh} {vs : List V} {as : List E} {shs : List Sh} {ds : List D} {qs : List (V × Air)} (h : AirAll M vs as shs ds qs) : vs.length = shs.length ∧ ds.length = shs.length ∧ as.length = shs.length ∧ qs.length = shs.length := by
  induction h with
  | nil => exact ⟨rfl, rfl, rfl, rfl⟩
  | ref _ _ ih => simp [ih]
  | val _ _ ih => simp [ih]
theorem res_len : ∀ {as : List E} {ds : List D} {env : Dv} {r : List D}, resolve as ds env = some r → r.length = as.length ∧ ds.length = as.length
  | [], [], _, r, h => by simp [resolve] at h; subst h; simp
  | [], _ :: _, _, r, h => by simp [resolve] at h
  | _ :: _, [], _, r, h => by simp [resolve] at h
  | a :: as, d :: ds, env, r, h => by
    unfold resolve at h
    cases q : resolve as ds env with
    | none => rw [q] at h; cases h
    | some r' =>
      rw [q] at h
      have ih := res_len q
      simp only [] at h
      split at h
      · split at h
        · cases h; simp [ih]
        · cases h
      · cases h; simp [ih]
/-- each argument by its place -/
theorem air_at {M : Nat → Sh} {vs : List V} {as : List E} {shs : List Sh} {ds : List D} {qs : List (V × Air)} (h : AirAll M vs as shs ds qs) : ∀ {env : Dv} {r : List D}, resolve as ds env = some r → ∀ {j : Nat} {d : D}, r[j]? = some d →
    ∃ v q sh, vs[j]? = some v ∧ qs[j]? = some (v, q) ∧ shs[j]? = some sh ∧ ((∃ i, q = .ref i ∧ as[j]? = some (E.mref i) ∧ M i = sh ∧ env[i]? = some (some d)) ∨ (∃ A, q = .val d sh A ∧ ∀ i, as[j]? ≠ some (E.mref i))) := by
  induction h with
  | nil => intro env r h j d hd; simp [resolve] at h; subst h; simp at hd
  | @ref v i d0 vs as sh shs ds qs hm _ ih =>
    intro env r h j d hd
    unfold resolve at h
    cases q : resolve as ds env with
    | none => rw [q] at h; cases h
    | some r' =>
      rw [q] at h
      simp only [] at h
      split at h
      · rename_i d' hd'
        cases h
        cases j with
        | zero => simp at hd; subst hd; exact ⟨v, .ref i, sh, rfl, rfl, rfl, .inl ⟨i, rfl, rfl, hm, hd'⟩⟩
        | succ j =>
          obtain ⟨v', q', sh', h1, h2, h3, h4⟩ := ih q (j := j) (by simpa using hd)
          exact ⟨v', q', sh', by simpa using h1, by simpa using h2, by simpa using h3, by simpa using h4⟩
      · cases h
  | @val v a d0 A vs as sh shs ds qs hr _ ih =>
    intro env r h j d hd
    unfold resolve at h
    cases q : resolve as ds env with
    | none => rw [q] at h; cases h
    | some r' =>
      rw [q] at h
      have h : r = d0 :: r' := by
        cases a with
        | mref i => simp [isRef] at hr
        | _ => simpa using h.symm
      subst h
      cases j with
      | zero =>
        simp at hd; subst hd
        refine ⟨v, .val _ sh A, sh, rfl, rfl, rfl, .inr ⟨A, rfl, fun i e => ?_⟩⟩
        simp at e
        subst e
        simp [isRef] at hr
      | succ j =>
        obtain ⟨v', q', sh', h1, h2, h3, h4⟩ := ih q (j := j) (by simpa using hd)
        exact ⟨v', q', sh', by simpa using h1, by simpa using h2, by simpa using h3, by simpa using h4⟩
def RefNd (as : List E) : Prop := ∀ j k i : Nat, as[j]? = some (E.mref i) → as[k]? = some (E.mref i) → j = k
theorem map_some_get {ds : List D} {j : Nat} {d : D} (h : (ds.map some)[j]? = some (some d)) : ds[j]? = some d := by
  rw [List.getElem?_map] at h
  cases q : ds[j]? with
  | none => rw [q] at h; cases h
  | some e => rw [q] at h; simpa using h
theorem mapv_some_get {ds : List V} {j : Nat} {d : V} (h : (ds.map some)[j]? = some (some d)) : ds[j]? = some d := by
  rw [List.getElem?_map] at h
  cases q : ds[j]? with
  | none => rw [q] at h; cases h
  | some e => rw [q] at h; simpa using h
section
variable {z : Z} {M : Nat → Sh} {W : WX} {σ : L2.St} {Q : VK} {c : Ctx} {As : Nat → List Addr} {F F0 H : Hp} {e : Dv} {vs : List V} {as : List E} {shs : List Sh} {ds ds' : List D} {qs : List (V × Air)} {ret : Sh} {f : Str}
theorem call_core (hK : c.K = z.K) (hM : c.M = M) (nd : RefNd as) (r : Rel c As F e σ H) (l : Lim c F H As e σ qs) (al : AirAll M vs as shs ds qs) (hr : resolve as ds e = some ds')
    (h : okE z W c ret F σ (match z.cf f ds' with | .ok d ds'' => .ok d (writeBack as ds'' e) | .exc x ds'' => .exc x (writeBack as ds'' e) | .stuck => .stuck) Q) : spS z shs ret (z.cf f) vs H Q (WE W σ) := by
  obtain ⟨l1, l2, l3, l4⟩ := air_len al
  obtain ⟨l5, l6⟩ := res_len hr
  obtain ⟨A1, hA1⟩ : ∃ A1 : Nat → List Addr, ∀ j, A1 j = match qs[j]? with | some (_, .ref i) => As i | some (_, .val _ _ A) => A | none => [] := ⟨_, fun _ => rfl⟩
  have at1 : ∀ {j : Nat} {d : D}, ds'[j]? = some d → ∃ v q sh, vs[j]? = some v ∧ qs[j]? = some (v, q) ∧ parM shs j = sh ∧ ((∃ i, q = .ref i ∧ as[j]? = some (E.mref i) ∧ M i = sh ∧ e[i]? = some (some d) ∧ A1 j = As i) ∨ (∃ A, q = .val d sh A ∧ A1 j = A ∧ ∀ i, as[j]? ≠ some (E.mref i))) := fun {j d} hd => by
    obtain ⟨v, q, sh, h1, h2, h3, h4⟩ := air_at al hr hd
    refine ⟨v, q, sh, h1, h2, by unfold parM; rw [h3]; rfl, ?_⟩
    rcases h4 with ⟨i, rfl, h5, h6, h7⟩ | ⟨A, rfl, h5⟩
    · exact .inl ⟨i, rfl, h5, h6, h7, by rw [hA1, h2]⟩
    · exact .inr ⟨A, rfl, by rw [hA1, h2], h5⟩
  have limA : ∀ {j : Nat} {v : V} {q : Air}, qs[j]? = some (v, q) → (v, q) ∈ qs := fun h => List.mem_of_getElem? h
  have pw : ∀ {j k : Nat} {p q : V × Air}, j < k → qs[j]? = some p → qs[k]? = some q → ∀ a ∈ p.2.addrs, a ∉ q.2.addrs := fun {j k p q} hjk hp hq => by
    obtain ⟨hj, rfl⟩ := List.getElem?_eq_some_iff.mp hp
    obtain ⟨hk, rfl⟩ := List.getElem?_eq_some_iff.mp hq
    exact List.pairwise_iff_getElem.mp l.dis j k hj hk hjk
  have pw' : ∀ {j k : Nat} {p q : V × Air}, j ≠ k → qs[j]? = some p → qs[k]? = some q → ∀ a ∈ p.2.addrs, a ∉ q.2.addrs := fun {j k p q} hjk hp hq a ha ha' => by
    rcases Nat.lt_or_gt_of_ne hjk with g | g
    · exact pw g hp hq a ha ha'
    · exact pw g hq hp a ha' ha
  -- what the callee owns
  have own0 : ∀ a, a ∈ owned A1 (ds'.map some) → (∃ (j i : Nat) (d : D), as[j]? = some (E.mref i) ∧ e[i]? = some (some d) ∧ a ∈ As i) ∨ (∃ p ∈ qs, a ∈ p.2.addrs) := fun a ha => by
    obtain ⟨j, d, h1, h2⟩ := mem_owned.mp ha
    obtain ⟨v, q, sh, g1, g2, g3, g4⟩ := at1 (map_some_get h1)
    rcases g4 with ⟨i, rfl, g5, g6, g7, g8⟩ | ⟨A, rfl, g8, _⟩
    · exact .inl ⟨j, i, d, g5, g7, g8 ▸ h2⟩
    · exact .inr ⟨_, limA g2, by rw [g8] at h2; exact h2⟩
  have own1 : ∀ a, a ∈ owned A1 (ds'.map some) → c.H0 a = none ∨ a ∈ c.A0 := fun a ha => by
    rcases own0 a ha with ⟨j, i, d, _, g2, g3⟩ | ⟨p, hp, h2⟩
    · exact r.nw i d g2 a g3
    · exact l.nw p hp a h2
  have own2 : ∀ (a : Addr) (i : Nat) (d : D), e[i]? = some (some d) → (∀ j : Nat, as[j]? ≠ some (E.mref i)) → a ∈ As i → a ∉ owned A1 (ds'.map some) := fun a i d g1 g2 g3 g4 => by
    rcases own0 a g4 with ⟨j, i', d', h1, h2, h3⟩ | ⟨p, hp, h2⟩
    · exact r.dis i i' d d' (fun e' => g2 j (by rw [h1, e'])) g1 h2 a g3 h3
    · exact (l.side p hp).apart a h2 (mem_owned.mpr ⟨i, d, g1, g3⟩)
  refine ⟨F, A1, ds', l1, by omega, ?_, ?_⟩
  · refine ⟨fun j d hj => ?_, fun j d hj a ha => ?_, fun j d hj a ha => .inr (mem_owned.mpr ⟨j, d, hj, ha⟩), fun j k d d2 hn hj hk a ha ha' => ?_, r.sub, Sub.refl _, fun _ _ h _ => h, fun _ _ h => .inl h, by simp only [List.length_map]; omega, fun i v h => nomatch h⟩
    · obtain ⟨v, q, sh, g1, g2, g3, g4⟩ := at1 (map_some_get hj)
      refine ⟨v, by rw [List.getElem?_map, g1]; rfl, ?_⟩
      show Own z.K F H (parM shs j) v d (A1 j)
      have ok := l.ok _ (limA g2)
      rcases g4 with ⟨i, rfl, g5, g6, g7, g8⟩ | ⟨A, rfl, g8, _⟩
      · rw [g3, g8, ← g6]
        obtain ⟨v', w1, w2⟩ := r.val i d g7
        have ok : σ[i]? = some (some v) := ok
        rw [w1] at ok
        cases ok
        rw [hK, hM] at w2
        exact w2
      · rw [g3, g8, ← hK]
        exact ok
    · obtain ⟨v, q, sh, g1, g2, g3, g4⟩ := at1 (map_some_get hj)
      rcases g4 with ⟨i, rfl, g5, g6, g7, g8⟩ | ⟨A, rfl, g8, _⟩
      · exact r.off i d g7 a (g8 ▸ ha)
      · exact (l.side _ (limA g2)).off a (by rw [g8] at ha; exact ha)
    · obtain ⟨v, q, sh, g1, g2, g3, g4⟩ := at1 (map_some_get hj)
      obtain ⟨v', q', sh', g1', g2', g3', g4'⟩ := at1 (map_some_get hk)
      rcases g4 with ⟨i, rfl, g5, g6, g7, g8⟩ | ⟨A, rfl, g8, _⟩
      · rcases g4' with ⟨i', rfl, g5', g6', g7', g8'⟩ | ⟨A', rfl, g8', _⟩
        · exact r.dis i i' d d2 (fun e' => hn (nd j k i g5 (e' ▸ g5'))) g7 g7' a (g8 ▸ ha) (g8' ▸ ha')
        · exact (l.side _ (limA g2')).apart a (by rw [g8'] at ha'; exact ha') (mem_owned.mpr ⟨i, d, g7, g8 ▸ ha⟩)
      · rcases g4' with ⟨i', rfl, g5', g6', g7', g8'⟩ | ⟨A', rfl, g8', _⟩
        · exact (l.side _ (limA g2)).apart a (by rw [g8] at ha; exact ha) (mem_owned.mpr ⟨i', d2, g7', g8' ▸ ha'⟩)
        · exact pw' hn g2 g2' a (by rw [g8] at ha; exact ha) (by rw [g8'] at ha'; exact ha')
  -- the way back
  have key : ∀ {ds'' : List D} {H' F' : Hp} {As' : Nat → List Addr}, Rel (callC z.K shs H F A1 ds') As' F' (ds''.map some) (vs.map some) H' →
      ∃ As2, Rel c As2 F' (writeBack as ds'' e) σ H' ∧ ∀ a, a ∈ owned As2 (writeBack as ds'' e) → a ∈ owned As' (ds''.map some) ∨ (∃ o, H a = some o) ∧ a ∉ owned A1 (ds'.map some) := fun {ds'' H' F' As'} r' => by
    have ll : ds''.length = vs.length := by simpa using r'.len
    have lw : as.length = ds''.length := by omega
    obtain ⟨As2, hA2, hA3⟩ : ∃ As2 : Nat → List Addr, (∀ j i : Nat, as[j]? = some (E.mref i) → As2 i = As' j) ∧ ∀ i, (∀ j : Nat, as[j]? ≠ some (E.mref i)) → As2 i = As i := by
      classical
      refine ⟨fun i => if h : ∃ j : Nat, as[j]? = some (E.mref i) then As' h.choose else As i, fun j i h => ?_, fun i h => ?_⟩
      · simp only []
        rw [dif_pos ⟨j, h⟩, nd _ _ _ (⟨j, h⟩ : ∃ j : Nat, as[j]? = some (E.mref i)).choose_spec h]
      · simp only []
        rw [dif_neg fun ⟨j, q⟩ => h j q]
    have ref1 : ∀ {j i : Nat} {d : D}, as[j]? = some (E.mref i) → ds''[j]? = some d → ∃ v, vs[j]? = some v ∧ σ[i]? = some (some v) ∧ Own c.K F' H' (c.M i) v d (As' j) := fun {j i d} g1 g2 => by
      obtain ⟨v, w1, w2⟩ := r'.val j d (by rw [List.getElem?_map, g2]; rfl)
      have w1 := mapv_some_get w1
      have hj : j < ds'.length := by
        obtain ⟨q, _⟩ := List.getElem?_eq_some_iff.mp g1
        omega
      obtain ⟨v', q, sh, h1, h2, h3, h4⟩ := at1 (List.getElem?_eq_getElem hj)
      rw [w1] at h1
      cases h1
      rcases h4 with ⟨i', rfl, h5, h6, h7, _⟩ | ⟨A, _, _, h5⟩
      · rw [g1] at h5
        cases h5
        refine ⟨v, w1, l.ok _ (limA h2), ?_⟩
        rw [hK, hM, h6, ← h3]
        exact w2
      · exact absurd g1 (h5 i)
    have two : ∀ {i j : Nat} {d d0 : D} {a : Addr}, e[i]? = some (some d) → (∀ j : Nat, as[j]? ≠ some (E.mref i)) → ds''[j]? = some d0 → a ∈ As' j → a ∉ As i := fun {i j d d0 a} g1 g2 g3 g4 g5 => by
      rcases r'.nw j d0 (by rw [List.getElem?_map, g3]; rfl) a g4 with w | w
      · have w : H a = none := w
        obtain ⟨v, _, h2⟩ := r.val i d g1
        obtain ⟨u, hu, _⟩ := h2.there a g5
        rw [hu] at w; cases w
      · exact own2 a i d g1 g2 g5 w
    refine ⟨As2, ⟨fun i d w => ?_, fun i d w a ha => ?_, fun i d w a ha => ?_, fun i k d d2 hn w1 w2 a ha ha' => ?_, r'.sub, r.old.trans r'.old, fun a o h1 h2 => ?_, fun a o h1 => ?_, by rw [wb_len]; exact r.len, r.fix⟩, fun a ha => ?_⟩
    · rcases wb_at lw w with ⟨j, g1, g2⟩ | ⟨g1, g2⟩
      · obtain ⟨v, _, w2, w3⟩ := ref1 g1 g2
        exact ⟨v, w2, by rw [hA2 j i g1]; exact w3⟩
      · obtain ⟨v, h1, h2⟩ := r.val i d g2
        refine ⟨v, h1, ?_⟩
        rw [hA3 i g1]
        exact h2.mono (show Sub F F' from r'.old) fun a ha o q => r'.frame a o q (own2 a i d g2 g1 ha)
    · rcases wb_at lw w with ⟨j, g1, g2⟩ | ⟨g1, g2⟩
      · exact r'.off j d (by rw [List.getElem?_map, g2]; rfl) a (by rw [hA2 j i g1] at ha; exact ha)
      · rw [hA3 i g1] at ha
        cases q : F' a with
        | none => rfl
        | some o =>
          rcases r'.newF a o q with w | w | w
          · have w : F a = some o := w
            rw [r.off i d g2 a ha] at w; cases w
          · have w : H a = none := w
            obtain ⟨v, _, h2⟩ := r.val i d g2
            obtain ⟨u, hu, _⟩ := h2.there a ha
            rw [hu] at w; cases w
          · exact absurd w (own2 a i d g2 g1 ha)
    · rcases wb_at lw w with ⟨j, g1, g2⟩ | ⟨g1, g2⟩
      · rw [hA2 j i g1] at ha
        rcases r'.nw j d (by rw [List.getElem?_map, g2]; rfl) a ha with w | w
        · exact r.h0 w
        · exact own1 a w
      · rw [hA3 i g1] at ha
        exact r.nw i d g2 a ha
    · rcases wb_at lw w1 with ⟨j, g1, g2⟩ | ⟨g1, g2⟩
      · rw [hA2 j i g1] at ha
        rcases wb_at lw w2 with ⟨j', g1', g2'⟩ | ⟨g1', g2'⟩
        · rw [hA2 j' k g1'] at ha'
          refine r'.dis j j' d d2 (fun e' => ?_) (by rw [List.getElem?_map, g2]; rfl) (by rw [List.getElem?_map, g2']; rfl) a ha ha'
          rw [e', g1'] at g1
          cases g1
          exact hn rfl
        · rw [hA3 k g1'] at ha'
          exact two g2' g1' g2 ha ha'
      · rw [hA3 i g1] at ha
        rcases wb_at lw w2 with ⟨j', g1', g2'⟩ | ⟨g1', g2'⟩
        · rw [hA2 j' k g1'] at ha'
          exact two g2 g1 g2' ha' ha
        · rw [hA3 k g1'] at ha'
          exact r.dis i k d d2 hn g2 g2' a ha ha'
    · refine r'.frame a o (r.frame a o h1 h2) fun w => ?_
      rcases own1 a w with q | q
      · rw [h1] at q; cases q
      · exact h2 q
    · rcases r'.newF a o h1 with w | w | w
      · exact r.newF a o w
      · exact .inr (r.h0 w)
      · exact .inr (own1 a w)
    · obtain ⟨i, d, w, ha⟩ := mem_owned.mp ha
      rcases wb_at lw w with ⟨j, g1, g2⟩ | ⟨g1, g2⟩
      · exact .inl (mem_owned.mpr ⟨j, d, by rw [List.getElem?_map, g2]; rfl, by rw [hA2 j i g1] at ha; exact ha⟩)
      · rw [hA3 i g1] at ha
        obtain ⟨v, _, h2⟩ := r.val i d g2
        obtain ⟨u, hu, _⟩ := h2.there a ha
        exact .inr ⟨⟨u, hu⟩, own2 a i d g2 g1 ha⟩
  cases q : z.cf f ds' with
  | ok d ds'' =>
    rw [q] at h
    intro v H' F' As' A r' s' o n
    obtain ⟨As2, r2, h2⟩ := key r'
    refine h v H' F' As2 A r2 s' (hK ▸ o) ⟨⟨n.side.here, n.side.off, fun a ha hw => ?_⟩, fun a ha => ?_⟩
    · rcases h2 a hw with g | ⟨⟨u, hu⟩, g⟩
      · exact n.side.apart a ha g
      · rcases n.nw a ha with w | w
        · have w : H a = none := w
          rw [hu] at w; cases w
        · exact g w
    · rcases n.nw a ha with w | w
      · exact r.h0 w
      · exact own1 a w
  | exc x ds'' =>
    rw [q] at h
    intro cl da H' F' As' r' s' hx
    obtain ⟨As2, r2, h2⟩ := key r'
    exact h cl da H' F' As2 r2 s' hx
  | stuck => rw [q] at h; exact h
end
section
variable {X : Cx} {z : Z} {M : Nat → Sh} {W : WX} {σ : L2.St} {H : Hp} {Q : VK}
theorem call_pre {f : Str} {ret : Sh} {as : List E} {shs : List Sh} (nd : RefNd as) (h : tF z M W ret (ev z.cf (.call f as)) σ H Q) :
    tArg z M W as shs σ H fun vs H1 => spS z shs ret (z.cf f) vs H1 Q (WE W σ) := by
  obtain ⟨c, As, F, env, hK, hM, r, h⟩ := h
  refine ⟨c, As, F, env, [], hK, hM, r, Lim.nil, ?_⟩
  unfold ev at h
  cases q : evs z.cf as env with
  | ok ds e =>
    rw [q] at h
    intro vs H' F' As' qs r' s' l al
    rw [List.nil_append] at l
    have h : okE z W c ret F σ (bindR (liftO (resolve as ds e) e) fun ds' e => match z.cf f ds' with | .ok d ds'' => .ok d (writeBack as ds'' e) | .exc x ds'' => .exc x (writeBack as ds'' e) | .stuck => .stuck) Q := h
    cases q2 : resolve as ds e with
    | none => rw [q2] at h; exact h.elim
    | some ds' =>
      rw [q2] at h
      exact call_core hK hM nd r' l al q2 (okE.mono h s')
  | exc x e => rw [q] at h; exact h
  | stuck => rw [q] at h; exact h
/-- f(e, ..) -/
theorem snd_call {g gy : Str} {ret : Sh} {as : List E} {shs : List Sh} {k : Nat} {f : Addr} {fd : FuncData} {ps : List Str} {e : Expr} {es : List Expr} {p pos : Pos} (xo : XO X z W)
    (F : FnG X.prog X.w X.K X.mg X.base (L2.CX X.prog X.w) k f fd ps (spS z shs ret (z.cf g))) (hr : Room k X.A) (hg : Gl X gy) (hm : X.mg gy = some (.ref f)) (hk : PySem.W.keepIn X.K (.ref f) = true) (hb : Binds X.K fd ps []) (nd : RefNd as)
    (hdb : (gy == ("__debug__" : Str)) = false) (hh : okHead e = true) (hp : allHead es = true) (ha : L2.PA X (e :: es) (tArg z M W as shs)) : SE X z M W ret (.Call (.Name gy p) (e :: es) [] pos) (ev z.cf (.call g as)) := by
  exact PE.imp (pe_callG (Ex := WE W) F hr xo.gu hg hm hk hb (passAt xo.tk) ha hdb (nonStar hh es X.env) (noStars hp pos X.env)) fun σ H Q h => call_pre (shs := shs) nd h
end
end Pv
set_option Elab.async false
set_option linter.all false
set_option maxRecDepth 100000
set_option maxHeartbeats 4000000
namespace Pv
open PySem PySem.Spec PyProof.Rows L2
def constV : D → V
  | .bl b => .bl b
  | .int i => .int i
  | .str x => .str x
  | _ => .non
def constD : D → Bool
  | .non => true
  | .bl _ => true
  | .int _ => true
  | .str x => decide (x.length ≤ sizeLine) && PyData.strOk x
  | _ => false
theorem const_rep {K : PySem.W.Frag} {F : Hp} {d : D} (h : constD d = true) : Rep K F (constV d) d := by
  cases d <;> simp [constD] at h
  · exact .non
  · exact .bl _
  · exact .int _
  · exact .str _ h.1 h.2
/-- a default's value; t0: the empty tuple that is written there -/
def dflV (t0 : V) : D → V
  | .tup [] => t0
  | d => constV d
def dflD : D → Bool
  | .tup [] => true
  | d => constD d
/-- the parameters' values of a call with keywords -/
def gP (t0 : V) (xs : List V) : List Par → List V
  | [] => []
  | .arg j :: r => ((xs[j]?).getD .non) :: gP t0 xs r
  | .dfl d :: r => dflV t0 d :: gP t0 xs r
def pmOk : List Par → Bool
  | [] => true
  | .arg _ :: r => pmOk r
  | .dfl d :: r => dflD d && pmOk r
/-- an empty tuple among the defaults -/
def pmT : List Par → Bool
  | [] => false
  | .arg _ :: r => pmT r
  | .dfl (.tup []) :: _ => true
  | .dfl _ :: r => pmT r
theorem gP_rep {K : PySem.W.Frag} {F : Hp} {t0 : V} {xs : List V} {ds : List D} (h : Paired (Rep K F) xs ds) : ∀ {pm : List Par} {ds' : List D}, pmOk pm = true → (pmT pm = true → Rep K F t0 (.tup [])) → permA ds pm = some ds' → Paired (Rep K F) (gP t0 xs pm) ds'
  | [], ds', _, _, e => by simp [permA] at e; subst e; exact .nil
  | .arg j :: r, ds', k, t, e => by
    unfold permA at e
    split at e
    · rename_i d l h1 h2
      cases e
      obtain ⟨x, hx, hr⟩ := paired_get' h h1
      unfold gP
      rw [hx]
      exact .cons hr (gP_rep h k t h2)
    · cases e
  | .dfl d :: r, ds', k, t, e => by
    unfold permA at e
    simp only [pmOk, Bool.and_eq_true] at k
    cases q : permA ds r with
    | none => rw [q] at e; cases e
    | some l =>
      rw [q] at e
      cases e
      by_cases hd : d = .tup []
      · subst hd
        have t0r := t rfl
        exact .cons t0r (gP_rep h k.2 (fun _ => t0r) q)
      · have e1 : dflV t0 d = constV d := by
          unfold dflV
          split
          · exact absurd rfl hd
          · rfl
        have e2 : dflD d = constD d := by
          unfold dflD
          split
          · exact absurd rfl hd
          · rfl
        have e3 : pmT (.dfl d :: r) = pmT r := by
          cases d with
          | tup l => cases l with
            | nil => exact absurd rfl hd
            | cons _ _ => rfl
          | _ => rfl
        unfold gP
        rw [e1]
        rw [e2] at k
        exact .cons (const_rep k.1) (gP_rep h k.2 (fun hp => t (by rw [e3]; exact hp)) q)
def allPure (shs : List Sh) : Prop := ∀ s ∈ shs, s = .pure
theorem allPure.at {shs : List Sh} (h : allPure shs) (j : Nat) : parM shs j = .pure := by
  unfold parM
  cases q : shs[j]? with
  | none => rfl
  | some s => exact h s (List.mem_of_getElem? q)
section
variable {z : Z} {M : Nat → Sh} {W : WX} {σ : L2.St} {Q : VK} {c : Ctx} {As : Nat → List Addr} {F F0 H : Hp} {e : Dv} {vs : List V} {as : List E} {shs : List Sh} {ds ds' : List D} {qs : List (V × Air)} {ret : Sh} {f : Str}
theorem call_coreK (hK : c.K = z.K) (hp : allPure shs) (r : Rel c As F e σ H) (pr : Paired (Rep z.K F) vs ds) (hl : ds.length = shs.length)
    (h : okE z W c ret F σ (match z.cf f ds with | .ok d _ => .ok d e | .exc x _ => .exc x e | .stuck => .stuck) Q) : spS z shs ret (z.cf f) vs H Q (WE W σ) := by
  have own0 : ∀ a, a ∉ owned (fun _ => []) (ds.map some) := fun a ha => by
    obtain ⟨_, _, _, h⟩ := mem_owned.mp ha
    simp at h
  refine ⟨F, fun _ => [], ds, by rw [paired_len pr, hl], hl, ⟨fun j d hj => ?_, fun _ _ _ a ha => by simp at ha, fun _ _ _ a ha => by simp at ha, fun _ _ _ _ _ _ _ a ha => by simp at ha, r.sub, Sub.refl _, fun _ _ h _ => h, fun _ _ h => .inl h, by simp only [List.length_map, paired_len pr], fun i v h => nomatch h⟩, ?_⟩
  · obtain ⟨v, h1, h2⟩ := paired_get' pr (map_some_get hj)
    refine ⟨v, by rw [List.getElem?_map, h1]; rfl, ?_⟩
    show Own z.K F H (parM shs j) v d []
    rw [hp.at]
    exact ⟨rfl, h2⟩
  have key : ∀ {ds'' : List D} {H' F' : Hp} {As' : Nat → List Addr}, Rel (callC z.K shs H F (fun _ => []) ds) As' F' (ds''.map some) (vs.map some) H' → Grow F H F' H' := fun {ds'' H' F' As'} r' =>
    ⟨fun a o q => r'.frame a o q (own0 a), r'.old, r'.sub, fun a o q => (r'.newF a o q).elim .inl fun w => w.elim .inr fun w => absurd w (own0 a)⟩
  cases q : z.cf f ds with
  | ok d ds'' =>
    rw [q] at h
    intro v H' F' As' A r' s' o n
    have g := key r'
    have fresh : ∀ a ∈ A, H a = none := fun a ha => (n.nw a ha).elim id fun w => absurd w (own0 a)
    refine h v H' F' As A (r.grow g) s' (hK ▸ o) ⟨⟨n.side.here, n.side.off, fun a ha hw => ?_⟩, fun a ha => r.h0 (fresh a ha)⟩
    obtain ⟨i, d, h1, h2⟩ := mem_owned.mp hw
    obtain ⟨v, _, h3⟩ := r.val i d h1
    obtain ⟨u, hu, _⟩ := h3.there a h2
    rw [fresh a ha] at hu; cases hu
  | exc x ds'' =>
    rw [q] at h
    intro cl da H' F' As' r' s' hx
    exact h cl da H' F' As (r.grow (key r')) s' hx
  | stuck => rw [q] at h; exact h
theorem air_pure {vs : List V} {as : List E} {shs : List Sh} {ds : List D} {qs : List (V × Air)} (hp : allPure shs) (nr : ∀ a ∈ as, isRef a = false) (l : Lim c F H As e σ qs) (al : AirAll M vs as shs ds qs) : Paired (Rep c.K F) vs ds := by
  have ok : ∀ p ∈ qs, AirOk c.K F H σ p := l.ok
  clear l
  induction al with
  | nil => exact .nil
  | ref _ _ _ => exact absurd (nr _ List.mem_cons_self) (by simp [isRef])
  | @val v a d A vs as sh shs ds qs _ _ ih =>
    have e : sh = .pure := hp sh List.mem_cons_self
    subst e
    refine .cons ?_ (ih (fun s hs => hp s (List.mem_cons_of_mem _ hs)) (fun s hs => nr s (List.mem_cons_of_mem _ hs)) fun p hm => ok p (List.mem_cons_of_mem _ hm))
    have := ok _ List.mem_cons_self
    exact this.2
end
section
variable {X : Cx} {z : Z} {M : Nat → Sh} {W : WX} {sh : Sh} {σ : L2.St} {H : Hp} {Q : VK}
theorem PK.imp {kws : List Keyword} {t t' : TA} (h : L2.PK X kws t) (k : ∀ σ H Q, t' σ H Q → t σ H Q) : L2.PK X kws t' := ⟨fun pos pins s σ H Q I q => h.run pos pins s σ H Q I (k σ H Q q)⟩
theorem kArg_nil : L2.PK X [] (tArg z M W [] []) :=
  PK.imp pk_nil fun σ H Q ⟨c, As, F, env, ps, hK, hM, r, l, h⟩ => h [] H F As [] r (Sub.refl _) (by rw [List.append_nil]; exact l) .nil
theorem kArg_cons {e : Expr} {kws : List Keyword} {a : E} {as : List E} {shs : List Sh} {nm : Option Str} {kpos : Pos} (ha : ArgK X z M W e a sh) (hs : L2.PK X kws (tArg z M W as shs)) : L2.PK X (⟨nm, e, kpos⟩ :: kws) (tArg z M W (a :: as) (sh :: shs)) := by
  cases ha with
  | pure hr h => exact PK.imp (pk_cons h hs) fun σ H Q q => arg_step (fun _ => rfl) hr q
  | @own _ a' _ h => exact PK.imp (pk_cons h hs) fun σ H Q q => arg_step (a := .own a') (f := ev z.cf a') (fun _ => rfl) rfl q
  | ref h1 h2 h3 h4 h5 => exact PK.imp (pk_cons (pe_var h1 h2 h3 h4) hs) fun σ H Q q => arg_ref h5 q
theorem evs_app : ∀ (as bs : List E) (env : Dv), evs z.cf (as ++ bs) env = bindR (evs z.cf as env) fun ds e => bindR (evs z.cf bs e) fun es e' => .ok (ds ++ es) e'
  | [], bs, env => by
    simp only [List.nil_append, evs, bindR]
    cases evs z.cf bs env <;> rfl
  | a :: as, bs, env => by
    simp only [List.cons_append, evs]
    cases ev z.cf a env with
    | ok d e =>
      simp only [bindR, evs_app as bs e]
      cases evs z.cf as e with
      | ok ds e2 =>
        simp only [bindR]
        cases evs z.cf bs e2 <;> rfl
      | exc x e2 => rfl
      | stuck => rfl
    | exc x e => rfl
    | stuck => rfl
theorem paired_sub {K : PySem.W.Frag} {F F' : Hp} {vs : List V} {ds : List D} (h : Paired (Rep K F) vs ds) (s : Sub F F') : Paired (Rep K F') vs ds := s.reps h
theorem evs_length {cf : Str → List D → CR} : ∀ {as : List E} {env e : Dv} {ds : List D}, evs cf as env = .ok ds e → ds.length = as.length
  | [], env, e, ds, h => by simp [evs] at h; simp [← h.1]
  | a :: as, env, e, ds, h => by
    simp only [evs] at h
    cases q : ev cf a env with
    | ok d e1 =>
      rw [q] at h
      simp only [bindR] at h
      cases q2 : evs cf as e1 with
      | ok ds1 e2 =>
        rw [q2] at h
        simp only [bindR, R.ok.injEq] at h
        rw [← h.1]
        simp [evs_length q2]
      | exc x e2 => rw [q2] at h; simp [bindR] at h
      | stuck => rw [q2] at h; simp [bindR] at h
    | exc x e1 => rw [q] at h; simp [bindR] at h
    | stuck => rw [q] at h; simp [bindR] at h
theorem perm_len {ds : List D} : ∀ {pm : List Par} {ds' : List D}, permA ds pm = some ds' → ds'.length = pm.length
  | [], ds', e => by simp [permA] at e; simp [← e]
  | .arg j :: pm, ds', e => by
    unfold permA at e
    split at e
    · rename_i h1 h2
      cases e
      simp [perm_len h2]
    · cases e
  | .dfl d :: pm, ds', e => by
    unfold permA at e
    cases q : permA ds pm with
    | none => rw [q] at e; cases e
    | some l => rw [q] at e; cases e; simp [perm_len q]
/-- the arguments, positional ones first, then the keywords -/
theorem callK_pre {f : Str} {ret : Sh} {as bs : List E} {pm : List Par} {shs s1 s2 : List Sh} {ks : List Str} {np : Nat} (hp : allPure shs) (p1 : allPure s1) (p2 : allPure s2) (r1 : ∀ a ∈ as, isRef a = false) (r2 : ∀ a ∈ bs, isRef a = false) (hpm : pmOk pm = true) {t0 : V} (ht : pmT pm = true → ∀ F, Rep z.K F t0 (.tup [])) (hlen : pm.length = shs.length)
    (h : tF z M W ret (ev z.cf (.callK f np ks pm (as ++ bs))) σ H Q) :
    tArg z M W as s1 σ H fun vs H1 => tArg z M W bs s2 σ H1 fun zs H2 => vs.length = as.length ∧ zs.length = bs.length ∧ spS z shs ret (z.cf f) (gP t0 (vs ++ zs) pm) H2 Q (WE W σ) := by
  obtain ⟨c, As, F, env, hK, hM, r, h⟩ := h
  refine ⟨c, As, F, env, [], hK, hM, r, Lim.nil, ?_⟩
  simp only [ev, evs_app] at h
  cases q : evs z.cf as env with
  | exc x e => rw [q] at h; exact h
  | stuck => rw [q] at h; exact h
  | ok ds e =>
    rw [q] at h
    have h : okE z W c ret F σ (bindR (bindR (evs z.cf bs e) fun es e' => .ok (ds ++ es) e') fun ds e => bindR (liftO (permA ds pm) e) fun ds' e => match z.cf f ds' with | .ok d _ => .ok d e | .exc x _ => .exc x e | .stuck => .stuck) Q := h
    intro vs H' F' As' qs r' s' l al
    rw [List.nil_append] at l
    refine ⟨c, As', F', e, qs, hK, hM, r', l, ?_⟩
    cases q2 : evs z.cf bs e with
    | exc x e2 => rw [q2] at h; exact fun cl da H2 F2 As2 r2 s2 hx => h cl da H2 F2 As2 r2 (s'.trans s2) hx
    | stuck => rw [q2] at h; exact h
    | ok es e2 =>
      rw [q2] at h
      intro zs H2 F2 As2 qs2 r'' s'' l2 al2
      have h : okE z W c ret F σ (bindR (liftO (permA (ds ++ es) pm) e2) fun ds' e => match z.cf f ds' with | .ok d _ => .ok d e | .exc x _ => .exc x e | .stuck => .stuck) Q := h
      cases q3 : permA (ds ++ es) pm with
      | none => rw [q3] at h; exact h.elim
      | some ds' =>
        rw [q3] at h
        have ly : Lim c F2 H2 As2 e2 σ qs := ⟨fun p hp => l2.ok p (List.mem_append_left _ hp), fun p hp => l2.side p (List.mem_append_left _ hp), fun p hp => l2.nw p (List.mem_append_left _ hp), (List.pairwise_append.mp l2.dis).1⟩
        have lz : Lim c F2 H2 As2 e2 σ qs2 := ⟨fun p hp => l2.ok p (List.mem_append_right _ hp), fun p hp => l2.side p (List.mem_append_right _ hp), fun p hp => l2.nw p (List.mem_append_right _ hp), (List.pairwise_append.mp l2.dis).2.1⟩
        have pa := air_pure p1 r1 ly al
        have pb := air_pure p2 r2 lz al2
        rw [hK] at pa pb
        have pp := gP_rep (t0 := t0) (paired_append pa pb) hpm (fun q => ht q _) q3
        have l3 : ds'.length = shs.length := by rw [← hlen]; exact perm_len q3
        have v1 : vs.length = as.length := by rw [(air_len al).1, (air_len al).2.2.1]
        have v2 : zs.length = bs.length := by rw [(air_len al2).1, (air_len al2).2.2.1]
        exact ⟨v1, v2, call_coreK hK hp r'' pp l3 (okE.mono h (s'.trans s''))⟩
def kwNames : List Keyword → Option (List Str)
  | [] => some []
  | ⟨some n, e, _⟩ :: r => (kwNames r).map (n :: ·)
  | ⟨none, _, _⟩ :: _ => none
theorem kw_some {pos : Pos} {env : PySem.Env} : ∀ {kws : List Keyword} {ks : List Str}, kwNames kws = some ks → (backToKw pos (keywordEach kws env)).all (·.1.isSome) = true ∧ (backToKw pos (keywordEach kws env)).filterMap (·.1) = ks ∧ (backToKw pos (keywordEach kws env)).any (·.1.isNone) = false
  | [], ks, h => by simp [kwNames] at h; subst h; exact ⟨rfl, rfl, rfl⟩
  | ⟨some n, e, p⟩ :: r, ks, h => by
    simp only [kwNames] at h
    cases q : kwNames r with
    | none => rw [q] at h; cases h
    | some l =>
      rw [q] at h
      cases h
      obtain ⟨h1, h2, h3⟩ := kw_some (pos := pos) (env := env) q
      refine ⟨?_, ?_, ?_⟩
      · show (true && (backToKw pos (keywordEach r env)).all (·.1.isSome)) = true
        rw [h1]; rfl
      · show n :: (backToKw pos (keywordEach r env)).filterMap (·.1) = _
        rw [h2]
      · show (false || (backToKw pos (keywordEach r env)).any (·.1.isNone)) = false
        rw [h3]; rfl
  | ⟨none, _, _⟩ :: _, ks, h => by simp [kwNames] at h
theorem run_fnNS {CX : CXT} {k n : Nat} {f : Addr} {fd : FuncData} {ps ks : List Str} {sp : Sp} {Ex : L2.St → XK} {g : List Value → List Value → List Value} {gV : List V → List V → List V}
    {pins : List (Addr × Obj)} {s : Shared} {us ws : List Value} {vs zs : List V} (F : FnG X.prog X.w X.K X.mg X.base CX k f fd ps sp) (hr : Room k X.A) (hgu : X.A.guards = some []) (hb : KBn X.K fd ps n ks g gV) (hx : PassesAt CX X σ (Ex σ))
    (I : Inv X pins σ H s) (r : Vals vs us) (rz : Vals zs ws) (l1 : vs.length = n) (l2 : zs.length = ks.length) (h : sp (gV vs zs) H Q (Ex σ)) : wpAny (model X.prog X.w) X.A (call (.ref f) us (ks.zip ws)) (EP X pins σ Q) X.xe s :=
  F.call hr hgu hx I (hb.to s us ws I.kIn (r.length.symm.trans l1) (rz.length.symm.trans l2)) (hb.rel r rz) h
/-- the keywords bind so -/
def PatOk (K : PySem.W.Frag) (fd : FuncData) (ps : List Str) (n : Nat) (ks : List Str) (pm : List Par) : Prop := ∃ t0 g, (pmT pm = true → ∀ F, Rep K F t0 (.tup [])) ∧ KBn K fd ps n ks g fun vs zs => gP t0 (vs ++ zs) pm
theorem snd_callK {g gy : Str} {ret : Sh} {as bs : List E} {shs s1 s2 : List Sh} {k : Nat} {f : Addr} {fd : FuncData} {ps ks : List Str} {pm : List Par} {es : List Expr} {kws : List Keyword} {p pos : Pos} (xo : XO X z W)
    (F : FnG X.prog X.w X.K X.mg X.base (L2.CX X.prog X.w) k f fd ps (spS z shs ret (z.cf g))) (hr : Room k X.A) (hg : Gl X gy) (hm : X.mg gy = some (.ref f)) (hk : PySem.W.keepIn X.K (.ref f) = true) (hb : PatOk X.K fd ps as.length ks pm)
    (hdb : (gy == ("__debug__" : Str)) = false) (hh : allHead es = true) (hkn : kwNames kws = some ks) (hkl : bs.length = ks.length) (hel : es.length = as.length) (hs1 : s1.length = as.length) (hp : allPure shs) (p1 : allPure s1) (p2 : allPure s2) (r1 : ∀ a ∈ as, isRef a = false) (r2 : ∀ a ∈ bs, isRef a = false) (hpm : pmOk pm = true) (hlen : pm.length = shs.length)
    (ha : L2.PA X es (tArg z M W as s1)) (hkw : L2.PK X kws (tArg z M W bs s2)) : SE X z M W ret (.Call (.Name gy p) es kws pos) (ev z.cf (.callK g as.length ks pm (as ++ bs))) := by
  obtain ⟨t0, gg, ht, hb⟩ := hb
  rw [xo.K] at ht
  obtain ⟨k1, k2, k3⟩ := kw_some (pos := pos) (env := X.env) hkn
  refine ⟨fun pins s σ H Q I h => ?_⟩
  have h := callK_pre hp p1 p2 r1 r2 hpm ht hlen h
  refine wpAny_Call_Name_kw (ld_glob I hg hm ?_ hdb)
  cases es with
  | nil =>
    have e0 : as = [] := by simpa using hel.symm
    subst e0
    have e1 : s1 = [] := by simpa using hs1
    subst e1
    refine PySem.W.callWith_KW0 (h₀ := X.base) I.ok.mod.kin hk k1 ?_ (by rw [k3]; rfl)
    obtain ⟨c, As, F0, env, qs, h1, h2, h3, h4, h5⟩ := h
    have h := h5 [] H F0 As [] h3 (Sub.refl _) (by rw [List.append_nil]; exact h4) .nil
    refine thn (hkw.run pos pins s σ H _ I h) fun ws s2 ⟨zs, H2, I2, rz, l1, l2, q2⟩ => ⟨I2.kIn, ?_⟩
    rw [k2]
    exact run_fnNS (Ex := WE W) F hr xo.gu hb (passAt xo.tk σ) I2 .nil rz rfl (l2.trans hkl) q2
  | cons e es =>
    have hh' : okHead e = true ∧ allHead es = true := by simpa [allHead] using hh
    refine PySem.W.callWith_KW (h₀ := X.base) I.ok.mod.kin hk k1 (thn (ha.run pos pins s σ H _ I h) fun us s1 ⟨vs, H1, I1, r, q⟩ => ?_) (by rw [k3, noStars hh pos X.env]; rfl) (nonStar hh'.1 es X.env)
    refine thn (hkw.run pos pins s1 σ H1 _ I1 q) fun ws s2 ⟨zs, H2, I2, rz, l1, l2, q2⟩ => ⟨I2.kIn, ?_⟩
    rw [k2]
    exact run_fnNS (Ex := WE W) F hr xo.gu hb (passAt xo.tk σ) I2 r rz l1 (l2.trans hkl) q2
end
end Pv
set_option Elab.async false
set_option linter.all false
set_option maxRecDepth 100000
set_option maxHeartbeats 4000000
namespace PySem
open Sem (wp)
/-- enumerate(v): no start -/
theorem pv_enum_new1 {v : Value} {o : Obj} {H : Heap → Prop} (B : Begins v o H) :
    Meets (Builtin.«enumerate.__new__» ⟨[.type "enumerate", v], []⟩) (fun _ R s => H s.heap ∧
      R (.ok (.ret (.ref (s.heap.push o).objs.size))) { s with heap := (s.heap.push o).push { cls := .type "enumerate", data := .fields #[.none, .bool false, .ref s.heap.objs.size, rawInt 0, .none, .none] } }) :=
  .of_wp fun prog w A R s h => by
    obtain ⟨hp, g, d, tk, os⟩ := s
    obtain ⟨h1, h⟩ := h
    have hsub := sub_enumerate
    have q1 : ∀ {A' : Around} {E : Value → Shared → Prop} {Q : Value → Shared → Prop}, Q (.ref hp.objs.size) ⟨hp.push o, g, d, tk, os⟩ → wpAny (model prog w) A' (pyIter v) Q E ⟨hp, g, d, tk, os⟩ := fun q => B.iter prog w _ _ ⟨hp, g, d, tk, os⟩ _ h1 q
    wp_walk using q1
    first
      | exact ⟨_, rfl, h⟩
      | (refine wpAny_stack_any fun st => wpAny_pure ?_
         split
         · rename_i c _ _ _ _ _
           cases (c == Value.type "enumerate")
           · wp_walk using q1
             exact ⟨_, rfl, h⟩
           · wp_walk using q1
             exact ⟨_, rfl, h⟩
         · wp_walk using q1
           exact ⟨_, rfl, h⟩)
section
variable {prog : Program} {w : World} {A : Around} {E : Value → Shared → Prop} {s : Shared}
theorem pv_enum1 {v : Value} {o : Obj} {H : Heap → Prop} {Q : Value → Shared → Prop} (B : Begins v o H) (h1 : H s.heap)
    (h : ∀ h', IsEnum h' (s.heap.objs.size + 1) s.heap.objs.size 0 .none → h'.get? s.heap.objs.size = some o → h'.objs.size = s.heap.objs.size + 2 → (∀ b o, s.heap.get? b = some o → h'.get? b = some o) → Q (.ref (s.heap.objs.size + 1)) { s with heap := h' }) :
    wpAny (model prog w) A (call (.type "enumerate") [v]) Q E s := by
  refine callType_new F.called_enumerate (by decide) (F.typeCall_enumerate_1 _) (F.newCall_enumerate_1 _) (fun obj => F.args_object_init_2 obj _) F.entry_enumerate_new (pv_enum_new1 B) ⟨h1, ?_⟩
  have hz : (s.heap.push o).objs.size = s.heap.objs.size + 1 := Heap.size_push ..
  show _ ∧ _
  rw [hz]
  have he := Heap.get?_push_size (s.heap.push o) (o := { cls := .type "enumerate", data := .fields #[.none, .bool false, .ref s.heap.objs.size, rawInt 0, .none, .none] }) rfl
  rw [hz] at he
  exact ⟨⟨_, he, rfl⟩, h _ he (Heap.get?_push_of_some _ (Heap.get?_push_size _ B.free)) (by rw [Heap.size_push, hz]) fun b o x => Heap.get?_push_of_some _ (Heap.get?_push_of_some _ x)⟩
end
end PySem
namespace L2
open PySem PySem.Spec PyProof.Rows
/-- the tuple at a, each item in a new pair -/
def IteT (K : PySem.W.Frag) (a : Addr) : It where
  go := fun i H => ∃ (xs : List V) (x : V), SqT K H a xs ∧ xs[i]? = some x
  yld := fun i H v H' => ∃ T x, v = .ref T ∧ H T = none ∧ H' = upd H T (.tup [.int (i : Nat), x]) ∧ ∀ xs, SqT K H a xs → xs[i]? = some x
  stop := fun i H => ∃ xs : List V, SqT K H a xs ∧ xs.length = i
theorem turn_enumT {P : Program} {w : World} {K : PySem.W.Frag} {elts : List Expr} {kk : Nat} {tpos : Pos} (a e it : Addr) (hai : a ≠ it) (hae : a ≠ e) :
    Turn P w K (.Tuple elts kk tpos) (IteT K a) [e, it] e (fun i h => (∃ old, IsEnum h e it ((i : Nat) : Int) old) ∧ h.IsTupleIter it a i ∧ e ≠ it) where
  mem := by simp
  obj := fun i h st b hb => by
    obtain ⟨⟨old, he⟩, ⟨o, ho, hc, hd⟩, _⟩ := st
    have e' : b = e ∨ b = it := by simpa using hb
    rcases e' with z | z
    · rw [z]; exact ⟨_, he, fun v q => nomatch q⟩
    · rw [z]; exact ⟨o, ho, fun v q => by rw [hd] at q; cases q⟩
  keep := fun i h h' st k => let ⟨⟨old, he⟩, hi, hne⟩ := st; ⟨⟨old, k e (by simp) _ he⟩, hi.at fun o q => k it (by simp) o q, hne⟩
  item := by
    intro X hP hw hK hc i pins s σ H E I hf st hg
    subst hP hw hK
    obtain ⟨⟨old, he⟩, hit, hne⟩ := st
    obtain ⟨xs, x, hq, hx⟩ := hg
    obtain ⟨its, rv, p, hz⟩ := I.tuple hq
    obtain ⟨u, hu, ru⟩ := rv.get hx
    have hel : e < s.heap.objs.size := Heap.lt_size he
    have hil : it < s.heap.objs.size := by obtain ⟨_, q, _⟩ := hit; exact Heap.lt_size q
    have p : s.heap.IsTuple a its.toArray := p
    have hlt : i < its.toArray.size := by
      obtain ⟨q, _⟩ := List.getElem?_eq_some_iff.mp hu
      simpa using q
    refine wpAny_pyNext_enum_itemD (Draws.tuple (A := X.A.in1) (I.ok.hd hc) it a hai its.toArray) he ⟨hit, p⟩ hlt hne (by simp [hne, Ne.symm hae]) fun y h' tk hy ho hit' hT hsz hk => ?_
    have hy : u = y := by simpa [hu] using hy
    subst hy
    refine ⟨_, rfl, wpAny_letOwnedTupleGo_enum (s := { s with heap := h', toks := tk + 1 }) ho fun h'' he' sb => ?_⟩
    have hT2 : h''.get? s.heap.objs.size = some { cls := .type "tuple", data := .seq #[.int i tk, u] } := (sb.2 _ (Nat.ne_of_gt hel)).trans hT
    have new : ObjOk X.prog X.w (upd H s.heap.objs.size (.tup [.int (i : Nat), x])) h'' s.heap.objs.size (.tup [.int (i : Nat), x]) :=
      ⟨by show 2 ≤ sizeLine; decide, [.int i tk, u], .cons ⟨_, rfl⟩ (.cons ru .nil), ⟨_, hT2, rfl, _, rfl⟩⟩
    have I1 : Inv X pins σ (upd H s.heap.objs.size (.tup [.int (i : Nat), x])) { s with heap := h'', toks := tk + 1 } :=
      I.turnedNew (ch := [e, it]) (fun b ob hb q => (sb.2 b (fun z => hb (by simp [z]))).trans (hk b ob (fun z => hb (by simp [z])) (fun z => hb (by simp [z])) q)) hf (Nat.le_refl _) new
    refine ⟨.ref s.heap.objs.size, _, I1, rfl, ⟨_, x, rfl, I.hok.fresh (Nat.le_refl _), rfl, fun ys hy => by rw [I.tuple_inj hy hq]; exact hx⟩, ⟨⟨u, ?_⟩, hit'.1.at fun o q => (sb.2 it (Ne.symm hne)).trans q, hne⟩, fun b hb => ?_⟩
    · have e1 : ((i + 1 : Nat) : Int) = (i : Int) + 1 := by omega
      rw [e1]; exact he'
    · have hb' : b < s.heap.objs.size := by
        have e' : b = e ∨ b = it := by simpa using hb
        rcases e' with z | z
        · rw [z]; exact hel
        · rw [z]; exact hil
      rw [upd_ne (Nat.ne_of_lt hb')]
      exact (hf b hb).1
  done := by
    intro X hP hw hK hc i pins s σ H E I hf st hg
    subst hP hw hK
    obtain ⟨⟨old, he⟩, hit, hne⟩ := st
    obtain ⟨xs, hq, hx⟩ := hg
    obtain ⟨its, rv, p, hz⟩ := I.tuple hq
    obtain ⟨f0, f1, f2, f3, f4, f5⟩ := hf it (by simp)
    have hl := rv.length
    have hi : i = its.toArray.size := by simp; omega
    have p : s.heap.IsTuple a its.toArray := p
    exact wpAny_pyNext_enum_endD (Draws.tuple (A := X.A.in1) (I.ok.hd hc) it a hai its.toArray) he ⟨hi ▸ hit, p⟩ fun h' eb => ⟨rfl, I.turned (t' := s.toks) (fun b o hb q => eb b o hb q) f0 f1 f3 f4 f5⟩
  self := fun A i s Q E st h => let ⟨⟨_, he⟩, _⟩ := st; wpAny_pyIter_enum he h
/-- enumerate of a list or a tuple -/
def iEnumA (K : PySem.W.Frag) (ta : TA) : TI := fun σ H R => ta σ H fun vs H1 => ∃ a xs, vs = [.ref a] ∧ ((SqL K H1 a xs ∧ R (Ite K a) H1) ∨ (SqT K H1 a xs ∧ R (IteT K a) H1))
theorem pi_enumA {X : Cx} {e : Expr} {ta : TA} {p pos tpos : Pos} {elts : List Expr} {kk : Nat} (hg : Gl X "enumerate") (hm : X.mg "enumerate" = none) (ha : PA X [e] ta) (hs : starEach [e] X.env = [(false, eval e X.env)]) :
    PI X (.Tuple elts kk tpos) (.Call (.Name "enumerate" p) [e] [] pos) (iEnumA X.K ta) := by
  refine ⟨fun pins s σ H R I h => ?_⟩
  refine Call_ (ld_blt I hg hm boot_enumerate (PyProof.Rows.callWith_type1 (thn (ha.run pos pins s σ H _ I h) fun us s1 ⟨vs, H1, I1, r1, q1⟩ => ?_) hs rfl))
  obtain ⟨a, xs, ex, q1⟩ := q1
  subst ex
  cases r1 with
  | cons r rr =>
    cases rr
    cases r
    have fresh : ∀ b, b ∈ [s1.heap.objs.size + 1, s1.heap.objs.size] → FpOk X pins H1 b := fun b hb => by
      have e' : b = s1.heap.objs.size + 1 ∨ b = s1.heap.objs.size := by simpa using hb
      have hle : s1.heap.objs.size ≤ b := by
        rcases e' with z | z
        · rw [z]; exact Nat.le_add_right _ _
        · rw [z]; exact Nat.le_refl _
      exact I1.fpOk hle (I1.hok.fresh hle)
    rcases q1 with ⟨hq, q⟩ | ⟨hq, q⟩
    · obtain ⟨its, rv, p', hz⟩ := I1.list hq
      refine call_enumerate_list p'.isList fun h' he hit hsz hk => wpAny_pyIter_enum he ?_
      have I2 : Inv X pins σ H1 { s1 with heap := h' } := I1.kept (t' := s1.toks) hk
      exact ⟨s1.heap.objs.size + 1, [s1.heap.objs.size + 1, s1.heap.objs.size], _, _, H1, rfl, I2, turn_enum a (s1.heap.objs.size + 1) s1.heap.objs.size, ⟨⟨.none, he⟩, hit, Nat.succ_ne_self _⟩, fresh, q⟩
    · obtain ⟨its, rv, p', hz⟩ := I1.tuple hq
      have p' : s1.heap.IsTuple a its.toArray := p'
      have hlt : a < s1.heap.objs.size := by obtain ⟨o, ho, _⟩ := id p'; exact Heap.lt_size ho
      refine pv_enum1 (begins_tuple a its.toArray) p' fun h' he hit hsz hk => wpAny_pyIter_enum he ?_
      have I2 : Inv X pins σ H1 { s1 with heap := h' } := I1.kept (t' := s1.toks) hk
      exact ⟨s1.heap.objs.size + 1, [s1.heap.objs.size + 1, s1.heap.objs.size], _, _, H1, rfl, I2, turn_enumT a (s1.heap.objs.size + 1) s1.heap.objs.size (Nat.ne_of_lt hlt) (Nat.ne_of_lt (Nat.lt_succ_of_lt hlt)), ⟨⟨.none, he⟩, ⟨_, hit, rfl, rfl⟩, Nat.succ_ne_self _⟩, fresh, q⟩
end L2
set_option Elab.async false
set_option linter.all false
set_option maxRecDepth 100000
set_option maxHeartbeats 4000000
namespace Pv
open PySem PySem.Spec PyProof.Rows L2
/-! ### what an iterator gives -/
def ItemV (K : PySem.W.Frag) (F H : Hp) (tp : Bool) (v : V) (d : D) : Prop :=
  Rep K F v d ∨ (tp = true ∧ ∃ T vs ds, v = .ref T ∧ d = .tup ds ∧ H T = some (.tup vs) ∧ Paired (Rep K F) vs ds)
structure Walk (K : PySem.W.Frag) (J : L2.It) (F : Hp) (tp : Bool) (items : List D) : Prop where
  go : ∀ i H, Sub F H → i < items.length → J.go i H
  stop : ∀ H, Sub F H → J.stop items.length H
  yld : ∀ i H x H' d, Sub F H → items[i]? = some d → J.yld i H x H' → (H' = H ∧ Rep K F x d) ∨ (tp = true ∧ ∃ T vs ds, x = .ref T ∧ d = .tup ds ∧ H T = none ∧ H' = upd H T (.tup vs) ∧ Paired (Rep K F) vs ds)
section
variable {K : PySem.W.Frag} {F : Hp} {a b : Addr} {ds es : List D} {tp : Bool}
theorem walk_list (h : Rep K F (.ref a) (.lst ds)) : Walk K (Itl K a) F tp ds := by
  obtain ⟨a', vs, e, ha, hz, pr⟩ := h.lstE
  cases e
  have sq : ∀ {H : Hp}, Sub F H → SqL K H a vs := fun s => .inl (.inl (s _ _ ha))
  refine ⟨fun i H s hi => ?_, fun H s => ⟨vs, sq s, Nat.le_of_eq (paired_len pr)⟩, fun i H x H' d s hd y => ?_⟩
  · have hi' : i < vs.length := by rw [paired_len pr]; exact hi
    exact ⟨vs, vs[i], sq s, List.getElem?_eq_getElem hi'⟩
  · exact .inl ⟨y.1, paired_at pr i x d (y.2 vs (sq s)) hd⟩
theorem walk_tup (h : Rep K F (.ref a) (.tup ds)) : Walk K (Itt K a) F tp ds := by
  obtain ⟨a', vs, e, ha, hz, pr⟩ := h.tupE
  cases e
  have sq : ∀ {H : Hp}, Sub F H → SqT K H a vs := fun s => ((SubR.of s).st ha).sq
  refine ⟨fun i H s hi => ?_, fun H s => ⟨vs, sq s, Nat.le_of_eq (paired_len pr)⟩, fun i H x H' d s hd y => ?_⟩
  · have hi' : i < vs.length := by rw [paired_len pr]; exact hi
    exact ⟨vs, vs[i], sq s, List.getElem?_eq_getElem hi'⟩
  · exact .inl ⟨y.1, paired_at pr i x d (y.2 vs (sq s)) hd⟩
theorem walk_str {x : Str} (ho : PyData.strOk x = true) : Walk K (Its x) F tp (x.cps.toList.map fun c => .str ⟨#[c]⟩) := by
  refine ⟨fun i H s hi => ?_, fun H s => ?_, fun i H v H' d s hd y => ?_⟩
  · show i < x.cps.size
    simpa using hi
  · show x.cps.size ≤ _
    simp
  · obtain ⟨e, c, hc, rfl⟩ := y
    refine .inl ⟨e, ?_⟩
    have hc' : x.cps.toList[i]? = some c := by simpa using hc
    rw [List.getElem?_map, hc'] at hd
    cases hd
    exact .str _ one_size (strOk_one ho (List.mem_of_getElem? hc'))
theorem walk_rng (lo : Int) (n : Nat) : Walk K (Itr lo n) F tp (rangeL lo n) := by
  refine ⟨fun i H s hi => ?_, fun H s => ?_, fun i H v H' d s hd y => ?_⟩
  · show i < n
    simpa [rangeL] using hi
  · show n ≤ _
    simp [rangeL]
  · obtain ⟨e, rfl⟩ := y
    refine .inl ⟨e, ?_⟩
    unfold rangeL at hd
    rw [List.getElem?_map] at hd
    cases q : (List.range n)[i]? with
    | none => rw [q] at hd; cases hd
    | some k =>
      rw [q] at hd
      cases hd
      obtain ⟨h1, h2⟩ := List.getElem?_eq_some_iff.mp q
      rw [List.getElem_range] at h2
      subst h2
      exact .int _
theorem enum_at {l : List D} {i : Nat} {d : D} (h : (enumL l)[i]? = some d) : ∃ e, l[i]? = some e ∧ d = .tup [.int (i : Nat), e] := by
  unfold enumL at h
  rw [List.getElem?_map, List.getElem?_zipIdx] at h
  cases q : l[i]? with
  | none => rw [q] at h; cases h
  | some e =>
    rw [q] at h
    simp at h
    exact ⟨e, rfl, h.symm⟩
theorem enum_len {l : List D} : (enumL l).length = l.length := by simp [enumL]
theorem walk_enm (h : Rep K F (.ref a) (.lst ds)) : Walk K (Ite K a) F true (enumL ds) := by
  obtain ⟨a', vs, e, ha, hz, pr⟩ := h.lstE
  cases e
  have sq : ∀ {H : Hp}, Sub F H → SqL K H a vs := fun s => .inl (.inl (s _ _ ha))
  refine ⟨fun i H s hi => ?_, fun H s => ⟨vs, sq s, by rw [enum_len, paired_len pr]; exact Nat.le_refl _⟩, fun i H x H' d s hd y => ?_⟩
  · have hi' : i < vs.length := by rw [paired_len pr]; rw [enum_len] at hi; exact hi
    exact ⟨vs, vs[i], sq s, List.getElem?_eq_getElem hi'⟩
  · obtain ⟨T, x', rfl, hT, rfl, y⟩ := y
    obtain ⟨e, he, rfl⟩ := enum_at hd
    exact .inr ⟨rfl, T, _, _, rfl, rfl, hT, rfl, .cons (.int _) (.cons (paired_at pr i x' e (y vs (sq s)) he) .nil)⟩
theorem walk_enmT (h : Rep K F (.ref a) (.tup ds)) : Walk K (IteT K a) F true (enumL ds) := by
  obtain ⟨a', vs, e, ha, hz, pr⟩ := h.tupE
  cases e
  have sq : ∀ {H : Hp}, Sub F H → SqT K H a vs := fun s => ((SubR.of s).st ha).sq
  refine ⟨fun i H s hi => ?_, fun H s => ⟨vs, sq s, by rw [enum_len, paired_len pr]⟩, fun i H x H' d s hd y => ?_⟩
  · have hi' : i < vs.length := by rw [paired_len pr]; rw [enum_len] at hi; exact hi
    exact ⟨vs, vs[i], sq s, List.getElem?_eq_getElem hi'⟩
  · obtain ⟨T, x', rfl, hT, rfl, y⟩ := y
    obtain ⟨e, he, rfl⟩ := enum_at hd
    exact .inr ⟨rfl, T, _, _, rfl, rfl, hT, rfl, .cons (.int _) (.cons (paired_at pr i x' e (y vs (sq s)) he) .nil)⟩
theorem zip_at {l m : List D} {i : Nat} {d : D} (h : (zipL l m)[i]? = some d) : ∃ x y, l[i]? = some x ∧ m[i]? = some y ∧ d = .tup [x, y] := by
  unfold zipL at h
  rw [List.getElem?_map] at h
  cases q : (l.zip m)[i]? with
  | none => rw [q] at h; cases h
  | some p =>
    rw [q] at h
    cases h
    have := List.getElem?_zip_eq_some.mp q
    exact ⟨p.1, p.2, this.1, this.2, rfl⟩
theorem zip_len {l m : List D} : (zipL l m).length = min l.length m.length := by simp [zipL]
theorem walk_zip (h : Rep K F (.ref a) (.lst ds)) (h' : Rep K F (.ref b) (.lst es)) : Walk K (Itz K a b) F true (zipL ds es) := by
  obtain ⟨a', vs, e, ha, hz, pr⟩ := h.lstE
  obtain ⟨b', us, e', hb, hz', pr'⟩ := h'.lstE
  cases e
  cases e'
  have sq : ∀ {H : Hp}, Sub F H → SqL K H a vs := fun s => .inl (.inl (s _ _ ha))
  have sq' : ∀ {H : Hp}, Sub F H → SqL K H b us := fun s => .inl (.inl (s _ _ hb))
  have l1 := paired_len pr
  have l2 := paired_len pr'
  refine ⟨fun i H s hi => ?_, fun H s => ⟨vs, us, sq s, sq' s, by rw [zip_len]; omega⟩, fun i H x H' d s hd y => ?_⟩
  · rw [zip_len] at hi
    have h1 : i < vs.length := by omega
    have h2 : i < us.length := by omega
    exact ⟨vs, us, vs[i], us[i], sq s, sq' s, List.getElem?_eq_getElem h1, List.getElem?_eq_getElem h2⟩
  · obtain ⟨T, x', y', rfl, hT, rfl, y1, y2⟩ := y
    obtain ⟨e1, e2, he1, he2, rfl⟩ := zip_at hd
    exact .inr ⟨rfl, T, _, _, rfl, rfl, hT, rfl, .cons (paired_at pr i x' e1 (y1 vs (sq s)) he1) (.cons (paired_at pr' i y' e2 (y2 us (sq' s)) he2) .nil)⟩
theorem walk_zipT (h : Rep K F (.ref a) (.tup ds)) (h' : Rep K F (.ref b) (.tup es)) : Walk K (RZ.ItzT K a b) F true (zipL ds es) := by
  obtain ⟨a', vs, e, ha, hz, pr⟩ := h.tupE
  obtain ⟨b', us, e', hb, hz', pr'⟩ := h'.tupE
  cases e
  cases e'
  have sq : ∀ {H : Hp}, Sub F H → SqT K H a vs := fun s => ((SubR.of s).st ha).sq
  have sq' : ∀ {H : Hp}, Sub F H → SqT K H b us := fun s => ((SubR.of s).st hb).sq
  have l1 := paired_len pr
  have l2 := paired_len pr'
  refine ⟨fun i H s hi => ?_, fun H s => ⟨vs, us, sq s, sq' s, by rw [zip_len]; omega⟩, fun i H x H' d s hd y => ?_⟩
  · rw [zip_len] at hi
    have h1 : i < vs.length := by omega
    have h2 : i < us.length := by omega
    exact ⟨vs, us, vs[i], us[i], sq s, sq' s, List.getElem?_eq_getElem h1, List.getElem?_eq_getElem h2⟩
  · obtain ⟨T, x', y', rfl, hT, rfl, y1, y2⟩ := y
    obtain ⟨e1, e2, he1, he2, rfl⟩ := zip_at hd
    exact .inr ⟨rfl, T, _, _, rfl, rfl, hT, rfl, .cons (paired_at pr i x' e1 (y1 vs (sq s)) he1) (.cons (paired_at pr' i y' e2 (y2 us (sq' s)) he2) .nil)⟩
end
/-! ### iterating -/
section
variable {X : Cx} {z : Z} {M : Nat → Sh} {W : WX} {sh : Sh} {σ : L2.St} {H : Hp} {Q : VK} {tp : Bool}
def okI (z : Z) (W : WX) (c : Ctx) (tp : Bool) (F : Hp) (σ : L2.St) (r : R (List D)) (Rr : L2.It → Hp → Prop) : Prop := match r with
  | .ok l e => ∀ J H' F' As', Rel c As' F' e σ H' → Sub F F' → Walk c.K J F' tp l → Rr J H'
  | .exc x e => ∀ cl da H' F' As', Rel c As' F' e σ H' → Sub F F' → z.XR x cl da F' H' → W cl da σ H'
  | .stuck => False
def tI (z : Z) (M : Nat → Sh) (W : WX) (tp : Bool) (f : Dv → R (List D)) : TI := fun σ H Rr => ∃ c As F env, c.K = z.K ∧ c.M = M ∧ Rel c As F env σ H ∧ okI z W c tp F σ (f env) Rr
abbrev SI (X : Cx) (z : Z) (M : Nat → Sh) (W : WX) (tp : Bool) (tg e : Expr) (f : Dv → R (List D)) : Prop := PI X tg e (tI z M W tp f)
theorem PI.imp {tg e : Expr} {t t' : TI} (h : PI X tg e t) (k : ∀ σ H Q, t' σ H Q → t σ H Q) : PI X tg e t' := ⟨fun pins s σ H Q I q => h.run pins s σ H Q I (k σ H Q q)⟩
theorem PI.or3 {tg e : Expr} {t1 t2 t3 : TI} (h1 : PI X tg e t1) (h2 : PI X tg e t2) (h3 : PI X tg e t3) : PI X tg e (fun σ H Q => t1 σ H Q ∨ t2 σ H Q ∨ t3 σ H Q) :=
  ⟨fun pins s σ H Q I q => q.elim (h1.run pins s σ H Q I) fun q => q.elim (h2.run pins s σ H Q I) (h3.run pins s σ H Q I)⟩
theorem okI.mono {c : Ctx} {F F1 : Hp} {r : R (List D)} {Rr : L2.It → Hp → Prop} (h : okI z W c tp F σ r Rr) (s : Sub F F1) : okI z W c tp F1 σ r Rr := by
  cases r with
  | ok d e => exact fun J H' F' As' r s' => h J H' F' As' r (s.trans s')
  | exc x e => exact fun cl da H' F' As' r s' q => h cl da H' F' As' r (s.trans s') q
  | stuck => exact h
/-- a value, then the rest -/
theorem okI.bind {c : Ctx} {F : Hp} {r : R D} {f : D → Dv → R (List D)} {Rr : L2.It → Hp → Prop} (h : okI z W c tp F σ (bindR r f) Rr) :
    okE z W c .pure F σ r (fun v H1 => ∃ d e F1 As1, r = .ok d e ∧ Rel c As1 F1 e σ H1 ∧ Sub F F1 ∧ Rep c.K F1 v d ∧ okI z W c tp F1 σ (f d e) Rr) := by
  cases r with
  | ok d e => exact fun v H' F' As' A r s' o n => ⟨d, e, F', As', rfl, r, s', o.2, h.mono s'⟩
  | exc x e => exact h
  | stuck => exact h
theorem okI.bindA {c : Ctx} {F : Hp} {r : R (List D)} {f : List D → Dv → R (List D)} {Rr : L2.It → Hp → Prop} (h : okI z W c tp F σ (bindR r f) Rr) :
    okA z W c F σ r (fun vs H1 => ∃ ds e F1 As1, r = .ok ds e ∧ Rel c As1 F1 e σ H1 ∧ Sub F F1 ∧ Paired (Rep c.K F1) vs ds ∧ okI z W c tp F1 σ (f ds e) Rr) := by
  cases r with
  | ok d e => exact fun v H' F' As' r s' o => ⟨d, e, F', As', rfl, r, s', o, h.mono s'⟩
  | exc x e => exact h
  | stuck => exact h
theorem si_seq {tg e : Expr} {a : E} (x : XO X z W) (ha : SE X z M W .pure e (ev z.cf a)) : SI X z M W tp tg e (evIt z.cf (.seq a)) := by
  refine PI.imp (PI.or3 (pi_list ha) (pi_tup ha) (pi_str ha)) fun σ H Rr h => ?_
  obtain ⟨c, As, F, env, hK, hM, r, h⟩ := h
  simp only [evIt] at h
  have hXK : X.K = c.K := x.K.trans hK.symm
  cases q : ev z.cf a env with
  | stuck => rw [q] at h; exact h.elim
  | exc y e' =>
    rw [q] at h
    refine .inl ⟨c, As, F, env, hK, hM, r, ?_⟩
    rw [q]
    exact h
  | ok d e' =>
    rw [q] at h
    have h : okI z W c tp F σ (liftO (seqStr d) e') Rr := h
    cases d with
    | lst l =>
      refine .inl ⟨c, As, F, env, hK, hM, r, ?_⟩
      rw [q]
      intro v H' F' As' A r' s' o n
      obtain ⟨a', vs, rfl, ha', hz, pr⟩ := o.2.lstE
      exact ⟨a', rfl, ⟨vs, .inl (.inl (r'.sub _ _ ha'))⟩, h _ _ _ _ r' s' (by rw [hXK]; exact walk_list o.2)⟩
    | tup l =>
      refine .inr (.inl ⟨c, As, F, env, hK, hM, r, ?_⟩)
      rw [q]
      intro v H' F' As' A r' s' o n
      obtain ⟨a', vs, rfl, ha', hz, pr⟩ := o.2.tupE
      exact ⟨a', rfl, ⟨vs, hXK ▸ ((SubR.of r'.sub).st ha').sq⟩, h _ _ _ _ r' s' (by rw [hXK]; exact walk_tup o.2)⟩
    | str s =>
      refine .inr (.inr ⟨c, As, F, env, hK, hM, r, ?_⟩)
      rw [q]
      intro v H' F' As' A r' s' o n
      obtain ⟨rfl, _, ok⟩ := o.2.strE
      exact ⟨s, rfl, h _ _ _ _ r' s' (walk_str ok)⟩
    | non => exact h.elim
    | bl _ => exact h.elim
    | int _ => exact h.elim
    | dct _ => exact h.elim
    | dctL _ => exact h.elim
    | scr _ => exact h.elim
    | obj _ _ => exact h.elim
theorem small_of {n : Int} (h : smallI n = true) : -(2 ^ 62) ≤ n ∧ n < 2 ^ 62 := by simpa [smallI] using h
theorem si_rng {tg e : Expr} {a : E} {p pos : Pos} (x : XO X z W) (b : Bi X "range" (.type "range")) (hh : okHead e = true) (ha : SE X z M W .pure e (ev z.cf a)) : SI X z M W tp tg (.Call (.Name "range" p) [e] [] pos) (evIt z.cf (.rng a)) := by
  refine PI.imp (pi_range1 b.g b.m (sa_one hh ha) (nonStar hh [] X.env)) fun σ H Rr h => ?_
  obtain ⟨c, As, F, env, hK, hM, r, h⟩ := h
  simp only [evIt] at h
  refine ⟨c, As, F, env, hK, hM, r, ?_⟩
  rw [evs_one]
  cases q : ev z.cf a env with
  | stuck => rw [q] at h; exact h.elim
  | exc y e' => rw [q] at h; exact h
  | ok d e' =>
    rw [q] at h
    have h : okI z W c tp F σ (liftO (rngD d) e') Rr := h
    intro vs H' F' As' r' s' pr
    cases pr with
    | cons r1 rr =>
      cases rr
      cases d with
      | int n =>
        cases r1.intE
        unfold rngD at h
        simp only [] at h
        split at h
        · rename_i sm
          obtain ⟨s1, s2⟩ := small_of sm
          refine ⟨n, rfl, s1, s2, h _ _ _ _ r' s' (walk_rng 0 n.toNat)⟩
        · exact h.elim
      | _ => exact h.elim
theorem si_rng2 {tg e e2 : Expr} {a a2 : E} {p pos : Pos} (x : XO X z W) (b : Bi X "range" (.type "range")) (hh : okHead e = true) (hh2 : okHead e2 = true) (ha : SE X z M W .pure e (ev z.cf a)) (ha2 : SE X z M W .pure e2 (ev z.cf a2)) :
    SI X z M W tp tg (.Call (.Name "range" p) [e, e2] [] pos) (evIt z.cf (.rng2 a a2)) := by
  refine PI.imp (pi_range2 b.g b.m (sa_cons hh ha (sa_one hh2 ha2)) (by rw [nonStar hh, nonStar hh2]; rfl) (nonStar hh2 [] X.env)) fun σ H Rr h => ?_
  obtain ⟨c, As, F, env, hK, hM, r, h⟩ := h
  simp only [evIt] at h
  refine ⟨c, As, F, env, hK, hM, r, ?_⟩
  simp only [evs]
  cases q : ev z.cf a env with
  | stuck => rw [q] at h; exact h.elim
  | exc y e' => rw [q] at h; exact h
  | ok d e' =>
    rw [q] at h
    have h : okI z W c tp F σ (bindR (ev z.cf a2 e') fun y e' => liftO (rng2D d y) e') Rr := h
    show okA z W c F σ (bindR (bindR (ev z.cf a2 e') fun d e => .ok [d] e) fun ds e' => .ok (d :: ds) e') _
    cases q2 : ev z.cf a2 e' with
    | stuck => rw [q2] at h; exact h.elim
    | exc y e' => rw [q2] at h; exact h
    | ok d2 e2 =>
      rw [q2] at h
      have h : okI z W c tp F σ (liftO (rng2D d d2) e2) Rr := h
      intro vs H' F' As' r' s' pr
      cases pr with
      | cons r1 rr =>
        cases rr with
        | cons r2 rr =>
          cases rr
          cases d with
          | int n =>
            cases d2 with
            | int m =>
              cases r1.intE
              cases r2.intE
              unfold rng2D at h
              simp only [] at h
              split at h
              · rename_i sm
                rw [Bool.and_eq_true] at sm
                obtain ⟨s1, s2⟩ := small_of sm.1
                obtain ⟨s3, s4⟩ := small_of sm.2
                exact ⟨n, m, rfl, ⟨s1, s2, s3, s4⟩, h _ _ _ _ r' s' (walk_rng n (m - n).toNat)⟩
              · exact h.elim
            | _ => exact h.elim
          | _ => exact h.elim
theorem si_enm {e : Expr} {a : E} {p pos tpos : Pos} {elts : List Expr} {kk : Nat} (x : XO X z W) (b : Bi X "enumerate" (.type "enumerate")) (hh : okHead e = true) (ha : SE X z M W .pure e (ev z.cf a)) :
    SI X z M W true (.Tuple elts kk tpos) (.Call (.Name "enumerate" p) [e] [] pos) (evIt z.cf (.enm a)) := by
  refine PI.imp (pi_enumA b.g b.m (sa_one hh ha) (nonStar hh [] X.env)) fun σ H Rr h => ?_
  obtain ⟨c, As, F, env, hK, hM, r, h⟩ := h
  simp only [evIt] at h
  have hXK : X.K = c.K := x.K.trans hK.symm
  refine ⟨c, As, F, env, hK, hM, r, ?_⟩
  rw [evs_one]
  cases q : ev z.cf a env with
  | stuck => rw [q] at h; exact h.elim
  | exc y e' => rw [q] at h; exact h
  | ok d e' =>
    rw [q] at h
    have h : okI z W c true F σ (liftO ((seqOf d).map enumL) e') Rr := h
    intro vs H' F' As' r' s' pr
    cases pr with
    | cons r1 rr =>
      cases rr
      cases d with
      | lst l =>
        obtain ⟨a', us, rfl, ha', hz, pr⟩ := r1.lstE
        exact ⟨a', us, rfl, .inl ⟨.inl (.inl (r'.sub _ _ ha')), h _ _ _ _ r' s' (by rw [hXK]; exact walk_enm r1)⟩⟩
      | tup l =>
        obtain ⟨a', us, rfl, ha', hz, pr⟩ := r1.tupE
        exact ⟨a', us, rfl, .inr ⟨hXK ▸ ((SubR.of r'.sub).st ha').sq, h _ _ _ _ r' s' (by rw [hXK]; exact walk_enmT r1)⟩⟩
      | _ => exact h.elim
theorem si_zip {e e2 : Expr} {a a2 : E} {p pos tpos : Pos} {elts : List Expr} {kk : Nat} (x : XO X z W) (b : Bi X "zip" (.type "zip")) (hh : okHead e = true) (hh2 : okHead e2 = true) (ha : SE X z M W .pure e (ev z.cf a)) (ha2 : SE X z M W .pure e2 (ev z.cf a2)) :
    SI X z M W true (.Tuple elts kk tpos) (.Call (.Name "zip" p) [e, e2] [] pos) (evIt z.cf (.zip a a2)) := by
  refine PI.imp (RZ.pi_zipA b.g b.m (sa_cons hh ha (sa_one hh2 ha2)) (nonStar hh [e2] X.env) (noStars (by simp [allHead, hh2]) pos X.env)) fun σ H Rr h => ?_
  obtain ⟨c, As, F, env, hK, hM, r, h⟩ := h
  simp only [evIt] at h
  have hXK : X.K = c.K := x.K.trans hK.symm
  refine ⟨c, As, F, env, hK, hM, r, ?_⟩
  simp only [evs]
  cases q : ev z.cf a env with
  | stuck => rw [q] at h; exact h.elim
  | exc y e' => rw [q] at h; exact h
  | ok d e' =>
    rw [q] at h
    have h : okI z W c true F σ (bindR (ev z.cf a2 e') fun y e' => liftO (zipD d y) e') Rr := h
    show okA z W c F σ (bindR (bindR (ev z.cf a2 e') fun d e => .ok [d] e) fun ds e' => .ok (d :: ds) e') _
    cases q2 : ev z.cf a2 e' with
    | stuck => rw [q2] at h; exact h.elim
    | exc y e' => rw [q2] at h; exact h
    | ok d2 e2 =>
      rw [q2] at h
      have h : okI z W c true F σ (liftO (zipD d d2) e2) Rr := h
      intro vs H' F' As' r' s' pr
      cases pr with
      | cons r1 rr =>
        cases rr with
        | cons r2 rr =>
          cases rr
          cases d with
          | lst l =>
            cases d2 with
            | lst m =>
              obtain ⟨a', us, rfl, ha', hz, pr⟩ := r1.lstE
              obtain ⟨b', us', rfl, hb', hz', pr'⟩ := r2.lstE
              exact ⟨a', b', us, us', rfl, .inl ⟨.inl (.inl (r'.sub _ _ ha')), .inl (.inl (r'.sub _ _ hb')), h _ _ _ _ r' s' (by rw [hXK]; exact walk_zip r1 r2)⟩⟩
            | _ => exact h.elim
          | tup l =>
            cases d2 with
            | tup m =>
              obtain ⟨a', us, rfl, ha', hz, pr⟩ := r1.tupE
              obtain ⟨b', us', rfl, hb', hz', pr'⟩ := r2.tupE
              exact ⟨a', b', us, us', rfl, .inr ⟨hXK ▸ ((SubR.of r'.sub).st ha').sq, hXK ▸ ((SubR.of r'.sub).st hb').sq, h _ _ _ _ r' s' (by rw [hXK]; exact walk_zipT r1 r2)⟩⟩
            | _ => exact h.elim
          | _ => exact h.elim
end
end Pv
set_option Elab.async false
set_option linter.all false
set_option maxRecDepth 100000
set_option maxHeartbeats 4000000
namespace Pv
open PySem PySem.Spec PyProof.Rows L2
def noP (c : Ctx) : Ctx := { c with P := fun _ => none }
section
variable {c : Ctx} {As : Nat → List Addr} {F H F' H' : Hp} {env env' : Dv} {σ σ' : L2.St}
theorem Rel.noP (r : Rel c As F env σ H) : Rel (Pv.noP c) As F env σ H := ⟨r.val, r.off, r.nw, r.dis, r.sub, r.old, r.frame, r.newF, r.len, fun _ _ h => nomatch h⟩
theorem Rel.reP {As' : Nat → List Addr} (r : Rel c As F env σ H) (r' : Rel (Pv.noP c) As' F' env' σ H') : Rel c As' F' env' σ H' := ⟨r'.val, r'.off, r'.nw, r'.dis, r'.sub, r'.old, r'.frame, r'.newF, r'.len, r.fix⟩
/-- a plain slot's new value -/
theorem Rel.setPure (hP : c.P = fun _ => none) (r : Rel c As F env σ H) {i : Nat} {v : V} {d : D} (hM : c.M i = .pure) (h : Rep c.K F v d) :
    Rel c (fun j => if j = i then [] else As j) F (env.set i (some d)) (σ.set i (some v)) H := by
  have get : ∀ {j e}, (env.set i (some d))[j]? = some (some e) → (j = i ∧ e = d ∧ i < env.length) ∨ (j ≠ i ∧ env[j]? = some (some e)) := fun {j e} q => by
    rw [List.getElem?_set] at q
    split at q
    · rename_i e1
      split at q
      · rename_i hl
        cases q; exact .inl ⟨e1.symm, rfl, hl⟩
      · cases q
    · rename_i e1
      exact .inr ⟨fun e2 => e1 e2.symm, q⟩
  refine ⟨fun j e q => ?_, fun j e q a ha => ?_, fun j e q a ha => ?_, fun j k e e' hn q q' a ha ha' => ?_, r.sub, r.old, r.frame, r.newF, by simp only [List.length_set]; exact r.len, fun i v h => by rw [hP] at h; cases h⟩
  · rcases get q with ⟨rfl, rfl, hl⟩ | ⟨hn, q⟩
    · refine ⟨v, by rw [List.getElem?_set, if_pos rfl, if_pos (by rw [← r.len]; exact hl)], ?_⟩
      rw [hM, if_pos rfl]
      exact ⟨rfl, h⟩
    · obtain ⟨w, h1, h2⟩ := r.val j e q
      refine ⟨w, by rw [List.getElem?_set, if_neg (Ne.symm hn)]; exact h1, ?_⟩
      rw [if_neg hn]
      exact h2
  · rcases get q with ⟨rfl, rfl, hl⟩ | ⟨hn, q⟩
    · simp at ha
    · simp only [if_neg hn] at ha
      exact r.off j e q a ha
  · rcases get q with ⟨rfl, rfl, hl⟩ | ⟨hn, q⟩
    · simp at ha
    · simp only [if_neg hn] at ha
      exact r.nw j e q a ha
  · rcases get q with ⟨rfl, rfl, hl⟩ | ⟨hj, q⟩
    · simp at ha
    · rcases get q' with ⟨rfl, rfl, hl⟩ | ⟨hk, q'⟩
      · simp at ha'
      · simp only [if_neg hj] at ha
        simp only [if_neg hk] at ha'
        exact r.dis j k e e' hn q q' a ha ha'
end
/-- other slots stay -/
structure Chg (ts : List Nat) (σ σ' : L2.St) : Prop where
  len : σ'.length = σ.length
  at_ : ∀ j, j ∉ ts → σ'[j]? = σ[j]?
theorem Chg.refl {ts : List Nat} {σ : L2.St} : Chg ts σ σ := ⟨rfl, fun _ _ => rfl⟩
theorem Chg.set {i : Nat} {σ : L2.St} {v : Option V} : Chg [i] σ (σ.set i v) := ⟨by simp, fun j hj => by rw [List.getElem?_set_ne (by simpa using Ne.symm (fun e : j = i => hj (by simp [e])))]⟩
theorem Chg.trans {ts us : List Nat} {σ σ' σ'' : L2.St} (a : Chg ts σ σ') (b : Chg us σ' σ'') : Chg (ts ++ us) σ σ'' :=
  ⟨b.len.trans a.len, fun j hj => by
    simp only [List.mem_append, not_or] at hj
    rw [b.at_ j hj.2, a.at_ j hj.1]⟩
theorem Chg.mono {ts us : List Nat} {σ σ' : L2.St} (a : Chg ts σ σ') (h : ∀ t ∈ ts, t ∈ us) : Chg us σ σ' := ⟨a.len, fun j hj => a.at_ j fun q => hj (h j q)⟩
def tgSlots : Tg → List Nat
  | .nm i => [i]
  | .tp ts => ts
  | .nst i j k => [i, j, k]
section
variable {X : Cx} {z : Z} {M : Nat → Sh} {W : WX} {σ : L2.St} {H : Hp} {tp : Bool}
def gBs (z : Z) (M : Nat → Sh) (ts : List Nat) : TGs := fun vs σ H Q => ∃ c As F env ds, c.K = z.K ∧ c.M = M ∧ (c.P = fun _ => none) ∧ Rel c As F env σ H ∧ Paired (Rep c.K F) vs ds ∧ ds.length = ts.length ∧ ∀ σ1 As1, Rel c As1 F (setAll ts ds env) σ1 H → Chg ts σ σ1 → Q σ1 H
def gB (z : Z) (M : Nat → Sh) (tp : Bool) (t : Tg) : TG := fun v σ H Q => ∃ c As F env d env1, c.K = z.K ∧ c.M = M ∧ (c.P = fun _ => none) ∧ Rel c As F env σ H ∧ ItemV c.K F H tp v d ∧ bindTg t d env = some env1 ∧ ∀ σ1 As1, Rel c As1 F env1 σ1 H → Chg (tgSlots t) σ σ1 → Q σ1 H
theorem PG.imp {tg : Expr} {t t' : TG} (h : PG X tg t) (k : ∀ v σ H Q, t' v σ H Q → t v σ H Q) : PG X tg t' := ⟨fun pins s σ H v u Q I r q => h.run pins s σ H v u Q I r (k v σ H Q q)⟩
theorem PG.or {tg : Expr} {t t' : TG} (h : PG X tg t) (h' : PG X tg t') : PG X tg (fun v σ H Q => t v σ H Q ∨ t' v σ H Q) := ⟨fun pins s σ H v u Q I r q => q.elim (h.run pins s σ H v u Q I r) (h'.run pins s σ H v u Q I r)⟩
theorem PGs.imp {tg : List Expr} {t t' : TGs} (h : PGs X tg t) (k : ∀ v σ H Q, t' v σ H Q → t v σ H Q) : PGs X tg t' := ⟨fun pins s σ H v u Q I r q => h.run pins s σ H v u Q I r (k v σ H Q q)⟩
/-- a name to store at -/
structure NmOk (X : Cx) (M : Nat → Sh) (i : Nat) (x : Str) : Prop where
  ix : X.N[i]? = some x
  loc : Loc X.env.scope x
  fn : X.fn x = true ∨ X.env.scope.names.lookup x = some .local
  pure : M i = .pure
theorem pg_nm {i : Nat} {x : Str} {pos : Pos} (xo : XO X z W) (n : NmOk X M i x) : PG X (.Name x pos) (gB z M false (.nm i)) := by
  refine PG.imp (pg_name xo.nd n.ix n.loc n.fn) fun v σ H Q h => ?_
  obtain ⟨c, As, F, env, d, env1, hK, hM, hP, r, it, hb, h⟩ := h
  cases hb
  rcases it with it | ⟨e, _⟩
  · exact h _ _ (r.setPure hP (by rw [hM]; exact n.pure) it) Chg.set
  · cases e
inductive NmsOk (X : Cx) (M : Nat → Sh) : List Expr → List Nat → Prop
  | nil : NmsOk X M [] []
  | cons {x p i es ts} : NmOk X M i x → NmsOk X M es ts → NmsOk X M (.Name x p :: es) (i :: ts)
theorem pgs_nms {es : List Expr} {ts : List Nat} (xo : XO X z W) (n : NmsOk X M es ts) : PGs X es (gBs z M ts) := by
  induction n with
  | nil =>
    refine PGs.imp pgs_nil fun v σ H Q h => ?_
    obtain ⟨c, As, F, env, ds, hK, hM, hP, r, pr, hl, h⟩ := h
    cases ds with
    | nil => cases pr; exact ⟨rfl, h _ _ r Chg.refl⟩
    | cons _ _ => simp at hl
  | @cons x p i es ts n _ ih =>
    refine PGs.imp (pgs_cons (pg_name (pos := p) xo.nd n.ix n.loc n.fn) ih (by rfl)) fun v σ H Q h => ?_
    obtain ⟨c, As, F, env, ds, hK, hM, hP, r, pr, hl, h⟩ := h
    cases ds with
    | nil => simp at hl
    | cons d ds =>
      cases pr with
      | cons r1 rr =>
        exact ⟨_, _, rfl, c, _, F, _, ds, hK, hM, hP, r.setPure hP (by rw [hM]; exact n.pure) r1, rr, by simpa using hl, fun σ1 As1 r1 ch => h σ1 As1 r1 ((Chg.set.trans ch).mono (by simp))⟩
theorem nms_len {es : List Expr} {ts : List Nat} (n : NmsOk X M es ts) : (assignEach es X.env).length = ts.length ∧ (assignEach es X.env).findIdx? (·.1) = none := by
  induction n with
  | nil => exact ⟨rfl, rfl⟩
  | @cons x p i es ts _ _ ih =>
    have e : assignEach (.Name x p :: es) X.env = (false, assign (.Name x p) X.env) :: assignEach es X.env := rfl
    rw [e]
    refine ⟨by simp [ih.1], ?_⟩
    rw [List.findIdx?_cons, ih.2]
    rfl
theorem pg_tp {es : List Expr} {ts : List Nat} {k : Nat} {pos : Pos} (xo : XO X z W) (n : NmsOk X M es ts) : PG X (.Tuple es k pos) (gB z M true (.tp ts)) := by
  have hs := pgs_nms xo n
  obtain ⟨l1, l2⟩ := nms_len n
  refine PG.imp (PG.or (pg_tup xo.calm hs l1 l2) (pg_unl xo.calm hs l1 l2)) fun v σ H Q h => ?_
  obtain ⟨c, As, F, env, d, env1, hK, hM, hP, r, it, hb, h⟩ := h
  have hXK : X.K = c.K := xo.K.trans hK.symm
  unfold bindTg at hb
  simp only [] at hb
  rcases it with it | ⟨_, T, vs, ds, rfl, rfl, hT, pr⟩
  · split at hb
    · rename_i l
      split at hb
      · rename_i hl
        cases hb
        obtain ⟨a, vs, rfl, ha, hz, pr⟩ := it.tupE
        exact .inl ⟨a, vs, rfl, hXK ▸ ((SubR.of r.sub).st ha).sq, by rw [paired_len pr, hl], c, As, F, env, l, hK, hM, hP, r, pr, hl, h⟩
      · cases hb
    · rename_i l
      split at hb
      · rename_i hl
        cases hb
        obtain ⟨a, vs, rfl, ha, hz, pr⟩ := it.lstE
        exact .inr ⟨a, vs, rfl, .inl (.inl (r.sub _ _ ha)), by rw [paired_len pr, hl], c, As, F, env, l, hK, hM, hP, r, pr, hl, h⟩
      · cases hb
    · cases hb
  · have hb : (if ds.length = ts.length then some (setAll ts ds env) else none) = some env1 := hb
    split at hb
    · rename_i hl
      cases hb
      exact .inl ⟨T, vs, rfl, .inl (.inl hT), by rw [paired_len pr, hl], c, As, F, env, _, hK, hM, hP, r, pr, hl, h⟩
    · cases hb
theorem pg_nst {e1 e2 e3 : Expr} {i j k : Nat} {k1 k2 : Nat} {p1 p2 : Pos} (xo : XO X z W) (n : NmsOk X M [e1, e2] [i, j]) (n3 : NmsOk X M [e3] [k]) : PG X (.Tuple [.Tuple [e1, e2] k1 p1, e3] k2 p2) (gB z M true (.nst i j k)) := by
  have hs := pgs_nms xo n
  have hs3 := pgs_nms xo n3
  obtain ⟨l1, l2⟩ := nms_len n
  obtain ⟨m1, m2⟩ := nms_len n3
  have e : assignEach (.Tuple [e1, e2] k1 p1 :: [e3]) X.env = (false, assign (.Tuple [e1, e2] k1 p1) X.env) :: assignEach [e3] X.env := rfl
  have q1 : (assignEach [.Tuple [e1, e2] k1 p1, e3] X.env).length = 2 := by rw [e, List.length_cons, m1]; rfl
  have q2 : (assignEach [.Tuple [e1, e2] k1 p1, e3] X.env).findIdx? (·.1) = none := by rw [e, List.findIdx?_cons, m2]; rfl
  refine PG.imp (pg_tup xo.calm (pgs_cons (pg_tup xo.calm hs l1 l2) hs3 (by rw [e]; rfl)) q1 q2) fun v σ H Q h => ?_
  obtain ⟨c, As, F, env, d, env1, hK, hM, hP, r, it, hb, h⟩ := h
  have hXK : X.K = c.K := xo.K.trans hK.symm
  unfold bindTg at hb
  simp only [] at hb
  split at hb
  · rename_i x y
    split at hb
    · rename_i u w
      cases hb
      have fin : ∀ {v1 v2 : V}, Rep c.K F v1 (.tup [u, w]) → Rep c.K F v2 y → (fun (vs : List V) (σ : L2.St) (H : Hp) (Q : L2.St → Hp → Prop) => ∃ (v : V) (vs' : List V), vs = v :: vs' ∧ ∃ a ws, v = .ref a ∧ SqT X.K H a ws ∧ ws.length = 2 ∧ gBs z M [i, j] ws σ H fun σ1 H1 => gBs z M [k] vs' σ1 H1 Q) [v1, v2] σ H Q := by
        intro v1 v2 r1 r2
        obtain ⟨a, ws, rfl, ha, hz, pr⟩ := r1.tupE
        refine ⟨_, _, rfl, a, ws, rfl, hXK ▸ ((SubR.of r.sub).st ha).sq, by rw [paired_len pr]; rfl, c, As, F, env, [u, w], hK, hM, hP, r, pr, rfl, fun σ1 As1 q1 ch => ?_⟩
        exact ⟨c, As1, F, _, [y], hK, hM, hP, q1, .cons r2 .nil, rfl, fun σ2 As2 q2 ch2 => h σ2 As2 q2 ((ch.trans ch2).mono (by simp [tgSlots]))⟩
      rcases it with it | ⟨_, T, vs, ds, rfl, e2, hT, pr⟩
      · obtain ⟨a, vs, rfl, ha, hz, pr⟩ := it.tupE
        cases pr with
        | cons r1 t =>
          cases t with
          | cons r2 t =>
            cases t
            exact ⟨a, _, rfl, hXK ▸ ((SubR.of r.sub).st ha).sq, rfl, fin r1 r2⟩
      · cases e2
        cases pr with
        | cons r1 t =>
          cases t with
          | cons r2 t =>
            cases t
            exact ⟨T, _, rfl, .inl (.inl hT), rfl, fin r1 r2⟩
    · cases hb
  · cases hb
/-- a target, its slots; tp: it unpacks -/
inductive TgOk (X : Cx) (M : Nat → Sh) : Expr → Tg → Bool → Prop
  | nm {x p i} : NmOk X M i x → TgOk X M (.Name x p) (.nm i) false
  | tp {es k p ts} : NmsOk X M es ts → TgOk X M (.Tuple es k p) (.tp ts) true
  | nst {e1 e2 e3 i j k k1 k2 p1 p2} : NmsOk X M [e1, e2] [i, j] → NmsOk X M [e3] [k] → TgOk X M (.Tuple [.Tuple [e1, e2] k1 p1, e3] k2 p2) (.nst i j k) true
theorem pg_tg {tg : Expr} {t : Tg} (xo : XO X z W) (n : TgOk X M tg t tp) : PG X tg (gB z M tp t) := by
  cases n with
  | nm n => exact pg_nm xo n
  | tp n => exact pg_tp xo n
  | nst n n3 => exact pg_nst xo n n3
theorem nms_pure {es : List Expr} {ts : List Nat} (n : NmsOk X M es ts) : ∀ i ∈ ts, M i = .pure := by
  induction n with
  | nil => intro i hi; simp at hi
  | cons n _ ih =>
    intro i hi
    rcases List.mem_cons.mp hi with rfl | hi
    · exact n.pure
    · exact ih i hi
theorem tg_pure {tg : Expr} {t : Tg} (n : TgOk X M tg t tp) : ∀ i ∈ tgSlots t, M i = .pure := by
  cases n with
  | @nm x p k n =>
    intro i hi
    have e : i = k := by simpa [tgSlots] using hi
    rw [e]; exact n.pure
  | tp n => exact nms_pure n
  | @nst _ _ _ a b c _ _ _ _ n n3 =>
    intro i hi
    have hi : i = a ∨ i = b ∨ i = c := by simpa [tgSlots] using hi
    rcases hi with rfl | rfl | rfl
    · exact nms_pure n _ (by simp)
    · exact nms_pure n _ (by simp)
    · exact nms_pure n3 _ (by simp)
theorem Walk.mono {K : PySem.W.Frag} {J : L2.It} {F F' : Hp} {items : List D} (w : Walk K J F tp items) (s : Sub F F') : Walk K J F' tp items :=
  ⟨fun i H q => w.go i H (s.trans q), fun H q => w.stop H (s.trans q), fun i H x H' d q hd y => by
    rcases w.yld i H x H' d (s.trans q) hd y with ⟨e, r⟩ | ⟨e, T, vs, ds, h1, h2, h3, h4, h5⟩
    · exact .inl ⟨e, s.rep r⟩
    · exact .inr ⟨e, T, vs, ds, h1, h2, h3, h4, s.reps h5⟩⟩
/-- an item of a walk, at the target -/
theorem walk_tg {J : L2.It} {F : Hp} {c : Ctx} {As : Nat → List Addr} {env env1 : Dv} {items : List D} {i : Nat} {d : D} {t : Tg} {x : V} {H' : Hp} {Q : L2.St → Hp → Prop} (hK : c.K = z.K) (hM : c.M = M) (hP : c.P = fun _ => none) (w : Walk c.K J F tp items)
    (r : Rel c As F env σ H) (hd : items[i]? = some d) (y : J.yld i H x H') (hb : bindTg t d env = some env1) (h : ∀ σ1 H1 As1, Rel c As1 F env1 σ1 H1 → Chg (tgSlots t) σ σ1 → Sub H H1 → Q σ1 H1) : gB z M tp t x σ H' Q := by
  rcases w.yld i H x H' d r.sub hd y with ⟨rfl, rp⟩ | ⟨htp, T, vs, ds, rfl, rfl, hT, rfl, pr⟩
  · exact ⟨c, As, F, env, d, env1, hK, hM, hP, r, .inl rp, hb, fun σ1 As1 r1 ch => h σ1 _ As1 r1 ch (Sub.refl _)⟩
  · exact ⟨c, As, F, env, _, env1, hK, hM, hP, rel_lay r hT, .inr ⟨htp, T, vs, ds, rfl, rfl, upd_same .., pr⟩, hb, fun σ1 As1 r1 ch => h σ1 _ As1 r1 ch (Sub.new hT)⟩
end
end Pv
set_option Elab.async false
set_option linter.all false
set_option maxRecDepth 100000
set_option maxHeartbeats 4000000
namespace Pv
open PySem PySem.Spec PyProof.Rows L2
theorem trip_nil {K : PySem.W.Frag} {F H : Hp} {vs : List V} {ds : List D} (pr : Paired (Rep K F) vs ds) : Trip (Own K F H .pure) vs ds (ds.map fun _ => []) := by
  induction pr with
  | nil => exact .nil
  | cons r _ ih => exact .cons ⟨rfl, r⟩ ih
theorem flat_nil : ∀ l : List D, (l.map fun _ => ([] : List Addr)).flatten = []
  | [] => rfl
  | _ :: l => by simp [flat_nil l]
theorem wipe_get {σ : L2.St} {j : Nat} : ∀ {vs : List Nat}, (wipe σ vs)[j]? = if j ∈ vs then (σ[j]?).map (fun _ => none) else σ[j]?
  | [] => by simp [wipe]
  | v :: vs => by
    unfold wipe
    rw [List.getElem?_set]
    by_cases h : v = j
    · subst h
      rw [if_pos rfl, if_pos List.mem_cons_self]
      by_cases hl : v < σ.length
      · rw [if_pos (by rw [wipe_length]; exact hl), List.getElem?_eq_getElem hl]; rfl
      · rw [if_neg (by rw [wipe_length]; exact hl), List.getElem?_eq_none (by omega)]; rfl
    · rw [if_neg h, wipe_get]
      by_cases hm : j ∈ vs
      · rw [if_pos hm, if_pos (List.mem_cons_of_mem _ hm)]
      · rw [if_neg hm, if_neg (by simp only [List.mem_cons, not_or]; exact ⟨Ne.symm h, hm⟩)]
theorem wipe_chg {σ σ1 : L2.St} {ts vs : List Nat} (h : Chg ts (wipe σ vs) σ1) (hs : ∀ t ∈ ts, t ∈ vs) : wipe σ1 vs = wipe σ vs := by
  refine List.ext_getElem? fun j => ?_
  rw [wipe_get, wipe_get]
  by_cases hm : j ∈ vs
  · rw [if_pos hm, if_pos hm]
    have hl : σ1.length = σ.length := by rw [h.len, wipe_length]
    by_cases q : j < σ.length
    · rw [List.getElem?_eq_getElem q, List.getElem?_eq_getElem (hl ▸ q)]; rfl
    · rw [List.getElem?_eq_none (by omega), List.getElem?_eq_none (by omega)]
  · rw [if_neg hm, if_neg hm, h.at_ j fun q => hm (hs j q), wipe_get, if_neg hm]
section
variable {c : Ctx} {As : Nat → List Addr} {F H : Hp} {env : Dv} {σ σ2 : L2.St}
theorem Rel.wiped {vs : List Nat} (hP : c.P = fun _ => none) (r : Rel c As F env σ2 H) (hl : (wipe σ vs).length = σ2.length) (h : ∀ j, j ∉ vs → σ2[j]? = (wipe σ vs)[j]?) : Rel c As F (wipeE env vs) (wipe σ vs) H := by
  refine ⟨fun i d q => ?_, fun i d q => r.off i d (wipeE_some q).1, fun i d q => r.nw i d (wipeE_some q).1, fun i j d e hn q q' => r.dis i j d e hn (wipeE_some q).1 (wipeE_some q').1, r.sub, r.old, r.frame, r.newF, by rw [wipeE_len, hl]; exact r.len, fun i v h => by rw [hP] at h; cases h⟩
  obtain ⟨q1, q2⟩ := wipeE_some q
  obtain ⟨v, h1, h2⟩ := r.val i d q1
  exact ⟨v, by rw [← h i q2]; exact h1, h2⟩
theorem Rel.aside {D : Addr} {o : HO} (r : Rel c As F env σ H) (h1 : F D = none) (h2 : D ∉ owned As env) (h3 : c.H0 D = none ∨ D ∈ c.A0) : Rel c As F env σ (upd H D o) := by
  have ne : ∀ {i d a}, env[i]? = some (some d) → a ∈ As i → a ≠ D := fun {i d a} q ha e => h2 (mem_owned.mpr ⟨i, d, q, e ▸ ha⟩)
  refine ⟨fun i d q => ?_, r.off, r.nw, r.dis, fun a u q => ?_, r.old, fun a u q n => ?_, r.newF, r.len, r.fix⟩
  · obtain ⟨v, q1, q2⟩ := r.val i d q
    exact ⟨v, q1, q2.mono (Sub.refl _) fun a ha u e => by rw [upd_ne (ne q ha)]; exact e⟩
  · have : a ≠ D := fun e => by rw [e, h1] at q; cases q
    rw [upd_ne this]; exact r.sub a u q
  · have : a ≠ D := fun e => by
      subst e
      rcases h3 with w | w
      · rw [w] at q; cases q
      · exact n w
    rw [upd_ne this]; exact r.frame a u q n
end
section
variable {X : Cx} {z : Z} {M : Nat → Sh} {W : WX} {σ : L2.St} {H : Hp} {Q : VK} {tp : Bool}
abbrev noW : WX := fun _ _ _ _ => False
def tCe (z : Z) (M : Nat → Sh) (W : WX) (c : Option E) : TT := fun σ H Q => ∃ c0 As F env, c0.K = z.K ∧ c0.M = M ∧ Rel c0 As F env σ H ∧ okT z W c0 F σ (evC z.cf c env) Q
theorem backE_at {e0 e1 : Dv} {vs : List Nat} {j : Nat} {d : D} (h : (backE e0 e1 vs)[j]? = some (some d)) : (j ∈ vs ∧ e0[j]? = some (some d)) ∨ (j ∉ vs ∧ e1[j]? = some (some d)) := by
  by_cases hj : j ∈ vs
  · exact .inl ⟨hj, backE_in hj h⟩
  · exact .inr ⟨hj, by rw [backE_out hj] at h; exact h⟩
theorem lc_of {own : List Nat} {t : Tg} {it : It} {c : Option E} {e : E} (hown : ∀ i ∈ own, M i = .pure) (hts : ∀ i ∈ tgSlots t, i ∈ own) (h : tF z M W (.lst .pure) (ev z.cf (.lc own t it c e)) σ H Q) :
    tLc (tI z M W tp (evIt z.cf it)) (gB z M tp t) (tCe z M noW c) (tF z M noW .pure (ev z.cf e)) own σ H Q := by
  obtain ⟨c0, As, F, env, hK, hM, r, h⟩ := h
  refine ⟨c0, As, F, env, hK, hM, r, ?_⟩
  simp only [ev] at h
  cases q : evIt z.cf it env with
  | stuck => rw [q] at h; exact h
  | exc x e' => rw [q] at h; exact h
  | ok l e1 =>
    rw [q] at h
    have h : okE z W c0 (.lst .pure) F σ (compRun own t (evC z.cf c) (ev z.cf e) l e1) Q := h
    intro J H1 F1 As1 r1 s1 w D hD
    unfold compRun at h
    cases q2 : compLoop own t (evC z.cf c) (ev z.cf e) l (wipeE e1 own) [] with
    | stuck => rw [q2] at h; exact h.elim
    | exc x e' => rw [q2] at h; exact h.elim
    | ok l' e' =>
      rw [q2] at h
      have hP : (noP c0).P = fun _ => none := rfl
      have hD0 : c0.H0 D = none ∨ D ∈ c0.A0 := r1.h0 hD
      have one : ∀ {p : Addr → Prop}, p D → ∀ a ∈ [D], p a := fun {p} hp a ha => by
        have e : a = D := by simpa using ha
        rw [e]; exact hp
      refine ⟨fun i m H => ∃ As F' env' acc av, i ≤ l.length ∧ m = l.length - i ∧ Rel (noP c0) As F' env' (wipe σ own) H ∧ Sub F1 F' ∧ H D = some (.lst av) ∧ F' D = none ∧ D ∉ owned As env' ∧ Paired (Rep c0.K F') av acc ∧ av.length ≤ sizeLine ∧ compLoop own t (evC z.cf c) (ev z.cf e) (l.drop i) env' acc = .ok l' e', ⟨l.length, ?_⟩, ?_⟩
      · have r2 : Rel (noP c0) As1 F1 (wipeE e1 own) (wipe σ own) (upd H1 D (.lst [])) := Rel.wiped hP (rel_lay r1.noP hD) (wipe_length _ _) fun j hj => by rw [wipe_get, if_neg hj]
        refine ⟨As1, F1, wipeE e1 own, [], [], Nat.zero_le _, rfl, r2, Sub.refl _, upd_same, r1.sub.back hD, fun hm => ?_, .nil, Nat.zero_le _, q2⟩
        obtain ⟨i, d, w1, w2⟩ := mem_owned.mp hm
        obtain ⟨v, _, w3⟩ := r1.val i d (wipeE_some w1).1
        obtain ⟨o, w4, _⟩ := w3.there D w2
        rw [hD] at w4; cases w4
      · rintro i m H2 ⟨As2, F2, env2, acc, av, hi, rfl, r2, s2, hDv, hDF, hDo, pr, hz, hc⟩
        have w2 := w.mono s2
        by_cases hlt : i < l.length
        · have hd : l[i]? = some l[i] := List.getElem?_eq_getElem hlt
          rw [List.drop_eq_getElem_cons hlt] at hc
          unfold compLoop at hc
          generalize hdd : l[i] = d at hc hd
          cases qb : bindTg t d env2 with
          | none => rw [qb] at hc; cases hc
          | some env3 =>
            rw [qb] at hc
            simp only [] at hc
            -- from here anew
            have rr : Rel ((noP c0).re As2 F2 H2 env2) As2 F2 env2 (wipe σ own) H2 := r2.re
            have as0 : Aside F2 H2 As2 env2 [D] := ⟨one ⟨_, hDv⟩, one hDF, one hDo⟩
            have keep : ∀ {As' F' env' σ' H'}, Rel ((noP c0).re As2 F2 H2 env2) As' F' env' σ' H' → H' D = some (.lst av) ∧ F' D = none ∧ D ∉ owned As' env' := fun {As' F' env' σ' H'} r' => by
              obtain ⟨k1, k2⟩ := as0.keep r'
              exact ⟨k2 D (by simp) _ hDv, k1.off D (by simp), k1.apart D (by simp)⟩
            refine .inr ⟨w2.go i H2 r2.sub hlt, _, fun H' nx => ⟨l.length - (i + 1), by omega, nx⟩, fun x H' y => ?_⟩
            refine walk_tg (c := (noP c0).re As2 F2 H2 env2) hK hM rfl w2 rr hd y qb fun σ1 Hb Asb rb ch _ => ⟨wipe_chg ch hts, (noP c0).re As2 F2 H2 env2, Asb, F2, env3, hK, hM, rb, ?_⟩
            -- the slots at the end of the turn
            have fin : ∀ {As4 F4 env4 H4}, Rel ((noP c0).re As2 F2 H2 env2) As4 F4 env4 σ1 H4 → Rel (noP c0) As4 F4 (wipeE env4 own) (wipe σ own) H4 ∧ Sub F2 F4 := fun {As4 F4 env4 H4} r4 =>
              ⟨Rel.wiped hP (r2.un r4) ch.len.symm fun j hj => ch.at_ j fun q => hj (hts j q), r4.old⟩
            cases qc : evC z.cf c env3 with
            | stuck => rw [qc] at hc; cases hc
            | exc x e4 => rw [qc] at hc; cases hc
            | ok k env4 =>
              rw [qc] at hc
              intro H3 F3 As3 r3 s3
              cases k with
              | false =>
                simp only [] at hc
                simp only [Bool.false_eq_true, if_false]
                obtain ⟨k1, k2, k3⟩ := keep r3
                obtain ⟨f1, f2⟩ := fin r3
                refine ⟨As3, F3, _, acc, av, hlt, trivial, f1, s2.trans f2, k1, k2, fun hm => k3 ?_, f2.reps pr, hz, hc⟩
                obtain ⟨j, d', w1, w3⟩ := mem_owned.mp hm
                exact mem_owned.mpr ⟨j, d', (wipeE_some w1).1, w3⟩
              | true =>
                simp only [] at hc
                simp only [if_true]
                refine ⟨(noP c0).re As2 F2 H2 env2, As3, F3, env4, hK, hM, r3, ?_⟩
                cases qe : ev z.cf e env4 with
                | stuck => rw [qe] at hc; cases hc
                | exc x e5 => rw [qe] at hc; cases hc
                | ok dx env5 =>
                  rw [qe] at hc
                  simp only [] at hc
                  split at hc
                  · rename_i hbig
                    intro y5 H5 F5 As5 A5 r5 s5 o5 n5
                    obtain ⟨k1, k2, k3⟩ := keep r5
                    obtain ⟨f1, f2⟩ := fin r5
                    have hav : av.length + 1 ≤ sizeLine := by
                      rw [paired_len pr]
                      exact big_size hbig
                    have k4 : D ∉ owned As5 (wipeE env5 own) := fun hm => by
                      obtain ⟨j, d', w1, w3⟩ := mem_owned.mp hm
                      exact k3 (mem_owned.mpr ⟨j, d', (wipeE_some w1).1, w3⟩)
                    refine ⟨av, k1, hav, As5, F5, _, acc ++ [dx], av ++ [y5], hlt, trivial, f1.aside k2 k4 hD0, s2.trans f2, upd_same, k2, k4, paired_append (f2.reps pr) (.cons o5.2 .nil), by simpa using hav, hc⟩
                  · cases hc
        · have hi' : i = l.length := by omega
          subst hi'
          rw [List.drop_length] at hc
          simp only [compLoop, R.ok.injEq] at hc
          obtain ⟨rfl, rfl⟩ := hc
          refine .inl ⟨w2.stop H2 r2.sub, ?_⟩
          have rz : Rel c0 (fun j => if j ∈ own then [] else As2 j) F2 (backE e1 env2 own) σ H2 := by
            refine ⟨fun i d w => ?_, fun i d w a ha => ?_, fun i d w a ha => ?_, fun i j d d' hn w w' a ha ha' => ?_, r2.sub, r2.old, r2.frame, r2.newF, by rw [backE_len, r2.len, wipe_length], r.fix⟩
            · rcases backE_at w with ⟨hj, w⟩ | ⟨hj, w⟩
              · obtain ⟨v, w1, w3⟩ := r1.val i d w
                refine ⟨v, w1, ?_⟩
                rw [hM, hown i hj] at w3 ⊢
                simp only [if_pos hj]
                exact ⟨rfl, s2.rep w3.2⟩
              · obtain ⟨v, w1, w3⟩ := r2.val i d w
                refine ⟨v, ?_, by simp only [if_neg hj]; exact w3⟩
                rw [wipe_get, if_neg hj] at w1
                exact w1
            · rcases backE_at w with ⟨hj, w⟩ | ⟨hj, w⟩
              · simp [hj] at ha
              · simp only [if_neg hj] at ha
                exact r2.off i d w a ha
            · rcases backE_at w with ⟨hj, w⟩ | ⟨hj, w⟩
              · simp [hj] at ha
              · simp only [if_neg hj] at ha
                exact r2.nw i d w a ha
            · rcases backE_at w with ⟨hj, w⟩ | ⟨hj, w⟩
              · simp [hj] at ha
              · rcases backE_at w' with ⟨hk, w'⟩ | ⟨hk, w'⟩
                · simp [hk] at ha'
                · simp only [if_neg hj] at ha
                  simp only [if_neg hk] at ha'
                  exact r2.dis i j d d' hn w w' a ha ha'
          have oz : Own c0.K F2 H2 (.lst .pure) (.ref D) (.lst acc) [D] := by
            exact ⟨D, av, acc, acc.map fun _ => [], rfl, rfl, hDv, hz, trip_nil pr, by rw [flat_nil], by simp⟩
          refine h (.ref D) H2 F2 _ [D] rz (s1.trans s2) oz ⟨⟨one ⟨_, hDv⟩, one hDF, one fun hm => ?_⟩, one hD0⟩
          obtain ⟨j, d', w1, w3⟩ := mem_owned.mp hm
          rcases backE_at w1 with ⟨hj, w1⟩ | ⟨hj, w1⟩
          · simp [hj] at w3
          · simp only [if_neg hj] at w3
            exact hDo (mem_owned.mpr ⟨j, d', w1, w3⟩)
theorem PTs.imp {ifs : List Expr} {t t' : TT} (h : PTs X ifs t) (k : ∀ σ H Q, t' σ H Q → t σ H Q) : PTs X ifs t' := ⟨fun pins s σ H Q I q => h.run pins s σ H Q I (k σ H Q q)⟩
theorem ts_nil : PTs X [] (tCe z M W none) := PTs.imp pts_nil fun σ H Q ⟨c, As, F, env, hK, hM, r, h⟩ => h H F As r (Sub.refl _)
theorem ts_one {e : Expr} {a : E} (h : ST X z M W e (ev z.cf a)) : PTs X [e] (tCe z M W (some a)) := PTs.imp (pts_one h) fun σ H Q ⟨c, As, F, env, hK, hM, r, h⟩ => ⟨c, As, F, env, hK, hM, r, h⟩
theorem xo_blk (xo : XO X z W) (s : Shared) (H : Hp) (scope : Scope) (cenv : PySem.Env) (fp : List Addr) : XO (X.blk s H scope cenv fp) z noW := ⟨xo.K, xo.calm, xo.nd, fun u s' h => by
  obtain ⟨_, _, _, _, _, _, _, _, _, _, _, _, _, _, _, _, w⟩ := h
  exact w, xo.hu, xo.gu⟩
theorem snd_lc {own : List (Str × Nat)} {t : Tg} {it : It} {c : Option E} {e : E} {tg iter elt : Expr} {ifs : List Expr} {scope : Scope} {pos : Pos} (xo : XO X z W) (hown : ∀ i ∈ own.map (·.2), M i = .pure) (hts : ∀ i ∈ tgSlots t, i ∈ own.map (·.2)) (hh : okHead iter = true)
    (hi : SI X z M W tp tg iter (evIt z.cf it)) (ok : BlkOk X.N X.env.scope scope own)
    (hg : ∀ (s : Shared) (H : Hp) (C : Addr) (cl : List (Str × Addr)) (fp : List Addr), TgOk (X.blk s H scope (compEnvC scope cl C X.env) fp) M tg t tp)
    (ht : ∀ (s : Shared) (H : Hp) (C : Addr) (cl : List (Str × Addr)) (fp : List Addr), PTs (X.blk s H scope (compEnvC scope cl C X.env) fp) ifs (tCe z M noW c))
    (he : ∀ (s : Shared) (H : Hp) (C : Addr) (cl : List (Str × Addr)) (fp : List Addr), SE (X.blk s H scope (compEnvC scope cl C X.env) fp) z M noW .pure elt (ev z.cf e)) :
    SE X z M W (.lst .pure) (.ListComp elt [⟨tg, iter, ifs, 0⟩] scope pos) (ev z.cf (.lc (own.map (·.2)) t it c e)) :=
  PE.imp (pe_lc xo.calm xo.nd hi ok (fun s H C cl fp => pg_tg (xo_blk xo s H scope _ fp) (hg s H C cl fp)) ht he (fun v => noFold hh X.env v)) fun σ H Q h => lc_of hown hts h
end
end Pv
set_option Elab.async false
set_option linter.all false
set_option maxRecDepth 100000
set_option maxHeartbeats 4000000
namespace Pv
open PySem PySem.Spec PyProof.Rows L2
/-- the changeable parameters' slots stay -/
def Kept (np : Nat) (M : Nat → Sh) (σ σ' : L2.St) : Prop := ∀ i, i < np → M i ≠ .pure → σ'[i]? = σ[i]?
theorem Kept.refl {np : Nat} {M : Nat → Sh} {σ : L2.St} : Kept np M σ σ := fun _ _ _ => rfl
theorem Kept.trans {np : Nat} {M : Nat → Sh} {σ σ' σ'' : L2.St} (a : Kept np M σ σ') (b : Kept np M σ' σ'') : Kept np M σ σ'' := fun i h1 h2 => (b i h1 h2).trans (a i h1 h2)
theorem Kept.chg {np : Nat} {M : Nat → Sh} {σ σ' : L2.St} {ts : List Nat} (c : Chg ts σ σ') (h : ∀ i ∈ ts, M i = .pure ∨ np ≤ i) : Kept np M σ σ' := fun i h1 h2 => c.at_ i fun q => by
  rcases h i q with e | e
  · exact h2 e
  · omega
theorem Kept.set1 {np : Nat} {M : Nat → Sh} {σ : L2.St} {i : Nat} {v : Option V} (h : M i = .pure ∨ np ≤ i) : Kept np M σ (σ.set i v) := Kept.chg Chg.set fun j hj => by
  have e : j = i := by simpa using hj
  rw [e]; exact h
structure XS (X : Cx) (z : Z) (W : WX) : Prop extends XO X z W where
  po : PassesOwn (model X.prog X.w) X.A X.env X.xe
section
variable {X : Cx} {z : Z} {M : Nat → Sh} {np : Nat} {W : WX} {rs : Sh} {σ σ1 : L2.St} {H : Hp} {D : Ends}
def okS (z : Z) (np : Nat) (W : WX) (c : Ctx) (rs : Sh) (F : Hp) (σ : L2.St) (o : O) (D : Ends) : Prop := match o with
  | .nx e => ∀ σ' H' F' As', Rel c As' F' e σ' H' → Sub F F' → Kept np c.M σ σ' → D.nx σ' H'
  | .bk e => ∀ σ' H' F' As', Rel c As' F' e σ' H' → Sub F F' → Kept np c.M σ σ' → D.bk σ' H'
  | .ct e => ∀ σ' H' F' As', Rel c As' F' e σ' H' → Sub F F' → Kept np c.M σ σ' → D.ct σ' H'
  | .rt d e => ∀ v σ' H' F' As' A, Rel c As' F' e σ' H' → Sub F F' → Kept np c.M σ σ' → Own c.K F' H' rs v d A → New c F' H' As' e A → D.rt v H'
  | .exc x e => ∀ cl da σ' H' F' As', Rel c As' F' e σ' H' → Sub F F' → Kept np c.M σ σ' → z.XR x cl da F' H' → W cl da σ' H'
  | .stuck => False
def tS (z : Z) (M : Nat → Sh) (np : Nat) (W : WX) (rs : Sh) (f : Dv → O) : TS := fun D σ H => ∃ c As F env, c.K = z.K ∧ c.M = M ∧ (c.P = fun _ => none) ∧ Rel c As F env σ H ∧ okS z np W c rs F σ (f env) D
abbrev SS (X : Cx) (z : Z) (M : Nat → Sh) (np : Nat) (W : WX) (rs : Sh) (st : Stmt) (f : Dv → O) : Prop := PS X st (tS z M np W rs f)
abbrev SSs (X : Cx) (z : Z) (M : Nat → Sh) (np : Nat) (W : WX) (rs : Sh) (st : List Stmt) (f : Dv → O) : Prop := PSs X st (tS z M np W rs f)
theorem PS.imp {st : Stmt} {t t' : TS} (h : PS X st t) (k : ∀ D σ H, t' D σ H → t D σ H) : PS X st t' := ⟨fun pins s σ H D I q => h.run pins s σ H D I (k D σ H q)⟩
theorem PSs.imp {st : List Stmt} {t t' : TS} (h : PSs X st t) (k : ∀ D σ H, t' D σ H → t D σ H) : PSs X st t' := ⟨fun pins s σ H D I q => h.run pins s σ H D I (k D σ H q)⟩
theorem okS.mono {c : Ctx} {F F1 : Hp} {o : O} (h : okS z np W c rs F σ o D) (s : Sub F F1) (k : Kept np c.M σ σ1) : okS z np W c rs F1 σ1 o D := by
  cases o with
  | nx e => exact fun σ' H' F' As' r s' k' => h σ' H' F' As' r (s.trans s') (k.trans k')
  | bk e => exact fun σ' H' F' As' r s' k' => h σ' H' F' As' r (s.trans s') (k.trans k')
  | ct e => exact fun σ' H' F' As' r s' k' => h σ' H' F' As' r (s.trans s') (k.trans k')
  | rt d e => exact fun v σ' H' F' As' A r s' k' => h v σ' H' F' As' A r (s.trans s') (k.trans k')
  | exc x e => exact fun cl da σ' H' F' As' r s' k' => h cl da σ' H' F' As' r (s.trans s') (k.trans k')
  | stuck => exact h
/-- other ends -/
theorem okS.ends {c : Ctx} {F : Hp} {o : O} {D' : Ends} (h : okS z np W c rs F σ o D) (h1 : ∀ e, o = .nx e → ∀ σ' H' F' As', Rel c As' F' e σ' H' → Sub F F' → Kept np c.M σ σ' → D'.nx σ' H') (h2 : ∀ e, o = .bk e → ∀ σ' H' F' As', Rel c As' F' e σ' H' → Sub F F' → Kept np c.M σ σ' → D'.bk σ' H')
    (h3 : ∀ e, o = .ct e → ∀ σ' H' F' As', Rel c As' F' e σ' H' → Sub F F' → Kept np c.M σ σ' → D'.ct σ' H') (h4 : ∀ v H, D.rt v H → D'.rt v H) : okS z np W c rs F σ o D' := by
  cases o with
  | nx e => exact h1 e rfl
  | bk e => exact h2 e rfl
  | ct e => exact h3 e rfl
  | rt d e => exact fun v σ' H' F' As' A r s' k' o n => h4 _ _ (h v σ' H' F' As' A r s' k' o n)
  | exc x e => exact h
  | stuck => exact h
theorem ss_nil (cf : Str → List Pv.D → CR) (wf : Nat) : SSs X z M np W rs [] (exs cf wf []) :=
  PSs.imp pss_nil fun D σ H ⟨c, As, F, env, hK, hM, hP, r, h⟩ => h σ H F As r (Sub.refl _) Kept.refl
theorem ss_cons {st : Stmt} {sts : List Stmt} {cf : Str → List Pv.D → CR} {wf : Nat} {a : S} {as : List S} (h1 : SS X z M np W rs st (exe cf wf a)) (h2 : SSs X z M np W rs sts (exs cf wf as)) : SSs X z M np W rs (st :: sts) (exs cf wf (a :: as)) := by
  refine PSs.imp (pss_cons h1 h2) fun D σ H ⟨c, As, F, env, hK, hM, hP, r, h⟩ => ⟨c, As, F, env, hK, hM, hP, r, ?_⟩
  simp only [exs] at h
  cases q : exe cf wf a env with
  | nx e =>
    rw [q] at h
    have h : okS z np W c rs F σ (exs cf wf as e) D := h
    exact fun σ' H' F' As' r' s' k' => ⟨c, As', F', e, hK, hM, hP, r', h.mono s' k'⟩
  | bk e => rw [q] at h; exact h
  | ct e => rw [q] at h; exact h
  | rt d e => rw [q] at h; exact h
  | exc x e => rw [q] at h; exact h
  | stuck => rw [q] at h; exact h
/-- a statement that does nothing ahead of the rest -/
theorem ss_skip {st : Stmt} {sts : List Stmt} {cf : Str → List Pv.D → CR} {wf : Nat} {as : List S} (h1 : PS X st tNext) (h2 : SSs X z M np W rs sts (exs cf wf as)) : SSs X z M np W rs (st :: sts) (exs cf wf as) :=
  PSs.imp (pss_cons h1 h2) fun D σ H h => h
theorem ss_pass {pos : Pos} {cf : Str → List Pv.D → CR} {wf : Nat} : SS X z M np W rs (.Pass pos) (exe cf wf .pass) := PS.imp ps_pass fun D σ H ⟨c, As, F, env, hK, hM, hP, r, h⟩ => h σ H F As r (Sub.refl _) Kept.refl
theorem ss_brk {pos : Pos} {cf : Str → List Pv.D → CR} {wf : Nat} : SS X z M np W rs (.Break pos) (exe cf wf .brk) := PS.imp ps_break fun D σ H ⟨c, As, F, env, hK, hM, hP, r, h⟩ => h σ H F As r (Sub.refl _) Kept.refl
theorem ss_cnt {pos : Pos} {cf : Str → List Pv.D → CR} {wf : Nat} : SS X z M np W rs (.Continue pos) (exe cf wf .cnt) := PS.imp ps_continue fun D σ H ⟨c, As, F, env, hK, hM, hP, r, h⟩ => h σ H F As r (Sub.refl _) Kept.refl
/-- an expression, then what is done with it -/
theorem okS.bind {c : Ctx} {As : Nat → List Addr} {F : Hp} {env : Dv} {sh : Sh} {r : R Pv.D} {f : Pv.D → Dv → O} {Q : VK} (h : okS z np W c rs F σ (bindO r f) D)
    (k : ∀ d e v H' F' As' A, r = .ok d e → okS z np W c rs F' σ (f d e) D → Rel c As' F' e σ H' → Sub F F' → Own c.K F' H' sh v d A → New c F' H' As' e A → Q v H') : okE z W c sh F σ r Q := by
  cases r with
  | ok d e => exact fun v H' F' As' A r s' o n => k d e v H' F' As' A rfl (okS.mono h s' Kept.refl) r s' o n
  | exc x e => exact fun cl da H' F' As' r s' q => h cl da σ H' F' As' r s' Kept.refl q
  | stuck => exact h
theorem ss_ret {e : Expr} {a : E} {pos : Pos} {wf : Nat} (he : SE X z M W rs e (ev z.cf a)) : SS X z M np W rs (.Return (some e) pos) (exe z.cf wf (.ret a)) := by
  refine PS.imp (ps_ret he) fun D σ H ⟨c, As, F, env, hK, hM, hP, r, h⟩ => ⟨c, As, F, env, hK, hM, r, ?_⟩
  simp only [exe] at h
  exact okS.bind (As := As) (env := env) h fun d e v H' F' As' A _ h r' s' o n => h v σ H' F' As' A r' (Sub.refl _) Kept.refl o n
theorem ss_retN {pos : Pos} {wf : Nat} : SS X z M np W .pure (.Return none pos) (exe z.cf wf (.ret (.cst .non))) :=
  PS.imp ps_retN fun D σ H ⟨c, As, F, env, hK, hM, hP, r, h⟩ => h .non σ H F As [] r (Sub.refl _) Kept.refl ⟨rfl, .non⟩ New.nil
def isComp : Expr → Bool
  | .ListComp .. => true
  | .SetComp .. => true
  | .DictComp .. => true
  | _ => false
theorem no_swap {e : Expr} (h : isComp e = false) (t : Option Expr) (l : Nat) (env : PySem.Env) : swapsWith e t l env = pure false := by
  cases e <;> first | rfl | simp [isComp] at h
theorem ss_ex {e : Expr} {a : E} {pos : Pos} {wf : Nat} {sh : Sh} (hc : isComp e = false) (he : SE X z M W sh e (ev z.cf a)) : SS X z M np W rs (.Expr e pos) (exe z.cf wf (.ex a)) := by
  refine PS.imp (ps_expr he (no_swap hc _ _ _)) fun D σ H ⟨c, As, F, env, hK, hM, hP, r, h⟩ => ⟨c, As, F, env, hK, hM, r, ?_⟩
  simp only [exe] at h
  exact okS.bind (As := As) (env := env) h fun d e v H' F' As' A _ h r' s' o n => h σ H' F' As' r' (Sub.refl _) Kept.refl
def isTup : Expr → Bool
  | .Tuple .. => true
  | _ => false
theorem no_store {tg e : Expr} (h : isTup e = false ∨ isTup tg = false ∧ ∀ ts p, tg ≠ .List ts p) (env : PySem.Env) : swappedStores [tg] e env = pure none := by
  rcases h with h | ⟨h, h'⟩
  · cases e <;> first | (simp [isTup] at h; done) | (cases tg <;> rfl)
  · cases tg <;> first | (simp [isTup] at h; done) | (exact absurd rfl (h' _ _)) | rfl
theorem tgt_each {tg : Expr} {t : Tg} {tp : Bool} (n : TgOk X M tg t tp) : (assignEach [tg] X.env).map (·.2) = [assign tg X.env] := by
  cases n with
  | nm _ => rfl
  | tp _ => rfl
  | nst _ _ => rfl
theorem tgt_nl {tg : Expr} {t : Tg} {tp : Bool} (n : TgOk X M tg t tp) : ∀ ts p, tg ≠ .List ts p := by
  cases n with
  | nm _ => exact fun ts p e => nomatch e
  | tp _ => exact fun ts p e => nomatch e
  | nst _ _ => exact fun ts p e => nomatch e
theorem asg_of {a : E} {t : Tg} {tp : Bool} {wf : Nat} (hn : ∀ i ∈ tgSlots t, M i = .pure) (h : tS z M np W rs (exe z.cf wf (.asg t a)) D σ H) : tAsg (tF z M W .pure (ev z.cf a)) (gB z M tp t) D σ H := by
  obtain ⟨c, As, F, env, hK, hM, hP, r, h⟩ := h
  simp only [exe] at h
  refine ⟨c, As, F, env, hK, hM, r, okS.bind (As := As) (env := env) h fun d e v H' F' As' A _ h r' s' o n => ?_⟩
  cases q : bindTg t d e with
  | none => rw [q] at h; exact h.elim
  | some env1 =>
    rw [q] at h
    exact ⟨c, As', F', e, d, env1, hK, hM, hP, r', .inl o.2, q, fun σ1 As1 r1 ch => h σ1 H' F' As1 r1 (Sub.refl _) (Kept.chg ch fun i hi => .inl (by rw [hM]; exact hn i hi))⟩
theorem ss_asg {tg e : Expr} {t : Tg} {tp : Bool} {a : E} {pos : Pos} {wf : Nat} (xo : XO X z W) (hc : isComp e = false) (ht : isTup e = false ∨ isTup tg = false) (n : TgOk X M tg t tp) (he : SE X z M W .pure e (ev z.cf a)) : SS X z M np W rs (.Assign [tg] e pos) (exe z.cf wf (.asg t a)) :=
  PS.imp (ps_asg he (pg_tg xo n) (no_swap hc _ _ _) (no_store (ht.imp id fun h => ⟨h, tgt_nl n⟩) X.env) (tgt_each n)) fun D σ H h => asg_of (tg_pure n) h
/-- name = [..] of one line -/
theorem ss_asgLc {i : Nat} {y : Str} {py : Pos} {own : List (Str × Nat)} {t : Tg} {tp : Bool} {it : It} {c : Option E} {e : E} {tg iter elt : Expr} {ifs : List Expr} {scope : Scope} {pos spos : Pos} {wf : Nat} (xo : XO X z W)
    (hy : X.N[i]? = some y) (hyl : X.env.scope.names.lookup y = some .local) (hyM : M i = .pure) (hsw : swapsWith (.ListComp elt [⟨tg, iter, ifs, 0⟩] scope pos) (some (.Name y py)) spos.line X.env = pure true)
    (hown : ∀ i ∈ own.map (·.2), M i = .pure) (hts : ∀ i ∈ tgSlots t, i ∈ own.map (·.2)) (hh : okHead iter = true)
    (hi : SI X z M W tp tg iter (evIt z.cf it)) (ok : BlkOk X.N X.env.scope scope own)
    (hg : ∀ (s : Shared) (H : Hp) (C : Addr) (cl : List (Str × Addr)) (fp : List Addr), TgOk (X.blk s H scope (compEnvC scope cl C X.env) fp) M tg t tp)
    (ht : ∀ (s : Shared) (H : Hp) (C : Addr) (cl : List (Str × Addr)) (fp : List Addr), PTs (X.blk s H scope (compEnvC scope cl C X.env) fp) ifs (tCe z M noW c))
    (he : ∀ (s : Shared) (H : Hp) (C : Addr) (cl : List (Str × Addr)) (fp : List Addr), SE (X.blk s H scope (compEnvC scope cl C X.env) fp) z M noW .pure elt (ev z.cf e)) :
    SS X z M np W rs (.Assign [.Name y py] (.ListComp elt [⟨tg, iter, ifs, 0⟩] scope pos) spos) (exe z.cf wf (.asg (.nm i) (.lc (own.map (·.2)) t it c e))) := by
  refine PS.imp (ps_setLc xo.calm xo.nd hy hyl hsw hi ok (fun s H C cl fp => pg_tg (xo_blk xo s H scope _ fp) (hg s H C cl fp)) ht he (fun v => noFold hh X.env v)) fun D σ H h => ?_
  obtain ⟨c0, As, F, env, hK, hM, hP, r, h⟩ := h
  simp only [exe] at h
  refine lc_of hown hts ⟨c0, As, F, env, hK, hM, r, okS.bind (As := As) (env := env) h fun d e v H' F' As' A _ h r' s' o n => ?_⟩
  obtain ⟨F2, r2, s2, q2⟩ := freeze r' o n
  exact h _ _ _ _ (r2.setPure hP (by rw [hM]; exact hyM) q2) s2 (Kept.set1 (.inl (by rw [hM]; exact hyM)))
end
/-- an owned slot's new value -/
theorem Rel.setOwn {c : Ctx} {As : Nat → List Addr} {F H : Hp} {env : Dv} {σ : L2.St} {i : Nat} {v : V} {d : D} {A : List Addr} (hP : c.P = fun _ => none) (r : Rel c As F env σ H) (o : Own c.K F H (c.M i) v d A) (n : New c F H As env A) :
    Rel c (fun j => if j = i then A else As j) F (env.set i (some d)) (σ.set i (some v)) H := by
  have get : ∀ {j e}, (env.set i (some d))[j]? = some (some e) → (j = i ∧ e = d ∧ i < env.length) ∨ (j ≠ i ∧ env[j]? = some (some e)) := fun {j e} q => by
    rw [List.getElem?_set] at q
    split at q
    · rename_i e1
      split at q
      · rename_i hl
        cases q; exact .inl ⟨e1.symm, rfl, hl⟩
      · cases q
    · rename_i e1
      exact .inr ⟨fun e2 => e1 e2.symm, q⟩
  refine ⟨fun j e q => ?_, fun j e q a ha => ?_, fun j e q a ha => ?_, fun j k e e' hn q q' a ha ha' => ?_, r.sub, r.old, r.frame, r.newF, by simp only [List.length_set]; exact r.len, fun i v h => by rw [hP] at h; cases h⟩
  · rcases get q with ⟨rfl, rfl, hl⟩ | ⟨hn, q⟩
    · refine ⟨v, by rw [List.getElem?_set, if_pos rfl, if_pos (by rw [← r.len]; exact hl)], ?_⟩
      rw [if_pos rfl]
      exact o
    · obtain ⟨w, h1, h2⟩ := r.val j e q
      refine ⟨w, by rw [List.getElem?_set, if_neg (Ne.symm hn)]; exact h1, ?_⟩
      rw [if_neg hn]
      exact h2
  · rcases get q with ⟨rfl, rfl, hl⟩ | ⟨hn, q⟩
    · simp only [if_true] at ha
      exact n.side.off a ha
    · simp only [if_neg hn] at ha
      exact r.off j e q a ha
  · rcases get q with ⟨rfl, rfl, hl⟩ | ⟨hn, q⟩
    · simp only [if_true] at ha
      exact n.nw a ha
    · simp only [if_neg hn] at ha
      exact r.nw j e q a ha
  · rcases get q with ⟨e1, _, hl⟩ | ⟨hj, q1⟩
    · simp only [if_pos e1] at ha
      rcases get q' with ⟨e2, _, hl⟩ | ⟨hk, q2⟩
      · exact hn (e1.trans e2.symm)
      · simp only [if_neg hk] at ha'
        exact n.side.apart a ha (mem_owned.mpr ⟨k, e', q2, ha'⟩)
    · simp only [if_neg hj] at ha
      rcases get q' with ⟨e2, _, hl⟩ | ⟨hk, q2⟩
      · simp only [if_pos e2] at ha'
        exact n.side.apart a ha' (mem_owned.mpr ⟨j, e, q1, ha⟩)
      · simp only [if_neg hk] at ha'
        exact r.dis j k e e' hn q1 q2 a ha ha'
section
variable {X : Cx} {z : Z} {M : Nat → Sh} {np : Nat} {W : WX} {rs : Sh} {σ σ1 : L2.St} {H : Hp} {D : Ends}
theorem ss_asgM {i : Nat} {x : Str} {e : Expr} {a : E} {pos px : Pos} {wf : Nat} (xo : XO X z W) (hc : isComp e = false) (hi : X.N[i]? = some x) (hx : Loc X.env.scope x) (hf : X.fn x = true ∨ X.env.scope.names.lookup x = some .local) (hn : np ≤ i) (he : SE X z M W (M i) e (ev z.cf a)) :
    SS X z M np W rs (.Assign [.Name x px] e pos) (exe z.cf wf (.asgM i a)) := by
  refine PS.imp (ps_set xo.nd hi hx he (no_swap hc _ _ _) hf) fun D σ H h => ?_
  obtain ⟨c0, As, F, env, hK, hM, hP, r, h⟩ := h
  simp only [exe] at h
  refine ⟨c0, As, F, env, hK, hM, r, okS.bind (As := As) (env := env) h fun d e v H' F' As' A _ h r' s' o n => ?_⟩
  exact h _ _ _ _ (r'.setOwn hP (by rw [hM]; exact o) n) (Sub.refl _) (Kept.set1 (.inr hn))
theorem ss_asgMLc {i : Nat} {y : Str} {py : Pos} {own : List (Str × Nat)} {t : Tg} {tp : Bool} {it : It} {c : Option E} {e : E} {tg iter elt : Expr} {ifs : List Expr} {scope : Scope} {pos spos : Pos} {wf : Nat} (xo : XO X z W)
    (hy : X.N[i]? = some y) (hyl : X.env.scope.names.lookup y = some .local) (hyM : M i = .lst .pure) (hn : np ≤ i) (hsw : swapsWith (.ListComp elt [⟨tg, iter, ifs, 0⟩] scope pos) (some (.Name y py)) spos.line X.env = pure true)
    (hown : ∀ i ∈ own.map (·.2), M i = .pure) (hts : ∀ i ∈ tgSlots t, i ∈ own.map (·.2)) (hh : okHead iter = true)
    (hi : SI X z M W tp tg iter (evIt z.cf it)) (ok : BlkOk X.N X.env.scope scope own)
    (hg : ∀ (s : Shared) (H : Hp) (C : Addr) (cl : List (Str × Addr)) (fp : List Addr), TgOk (X.blk s H scope (compEnvC scope cl C X.env) fp) M tg t tp)
    (ht : ∀ (s : Shared) (H : Hp) (C : Addr) (cl : List (Str × Addr)) (fp : List Addr), PTs (X.blk s H scope (compEnvC scope cl C X.env) fp) ifs (tCe z M noW c))
    (he : ∀ (s : Shared) (H : Hp) (C : Addr) (cl : List (Str × Addr)) (fp : List Addr), SE (X.blk s H scope (compEnvC scope cl C X.env) fp) z M noW .pure elt (ev z.cf e)) :
    SS X z M np W rs (.Assign [.Name y py] (.ListComp elt [⟨tg, iter, ifs, 0⟩] scope pos) spos) (exe z.cf wf (.asgM i (.lc (own.map (·.2)) t it c e))) := by
  refine PS.imp (ps_setLc xo.calm xo.nd hy hyl hsw hi ok (fun s H C cl fp => pg_tg (xo_blk xo s H scope _ fp) (hg s H C cl fp)) ht he (fun v => noFold hh X.env v)) fun D σ H h => ?_
  obtain ⟨c0, As, F, env, hK, hM, hP, r, h⟩ := h
  simp only [exe] at h
  refine lc_of hown hts ⟨c0, As, F, env, hK, hM, r, okS.bind (As := As) (env := env) h fun d e v H' F' As' A _ h r' s' o n => ?_⟩
  exact h _ _ _ _ (r'.setOwn hP (by rw [hM, hyM]; exact o) n) (Sub.refl _) (Kept.set1 (.inr hn))
theorem ss_ife {ec : Expr} {a b : List Stmt} {c : E} {as bs : List S} {pos : Pos} {wf : Nat} (hc : ST X z M W ec (ev z.cf c)) (ha : SSs X z M np W rs a (exs z.cf wf as)) (hb : SSs X z M np W rs b (exs z.cf wf bs)) : SS X z M np W rs (.If ec a b pos) (exe z.cf wf (.ife c as bs)) := by
  refine PS.imp (ps_if hc ha hb) fun D σ H h => ?_
  obtain ⟨c0, As, F, env, hK, hM, hP, r, h⟩ := h
  simp only [exe] at h
  refine ⟨c0, As, F, env, hK, hM, r, ?_⟩
  unfold truthR
  cases q : ev z.cf c env with
  | stuck => rw [q] at h; exact h
  | exc x e => rw [q] at h; exact fun cl da H' F' As' r s' q => h cl da σ H' F' As' r s' Kept.refl q
  | ok d e =>
    rw [q] at h
    have h : okS z np W c0 rs F σ (bindO (liftO d.truth e) fun k env => bif k then exs z.cf wf as env else exs z.cf wf bs env) D := h
    show okT z W c0 F σ (liftO d.truth e) _
    cases q2 : d.truth with
    | none => rw [q2] at h; exact h.elim
    | some k =>
      rw [q2] at h
      intro H' F' As' r' s'
      cases k with
      | true => exact ⟨c0, As', F', e, hK, hM, hP, r', okS.mono h s' Kept.refl⟩
      | false => exact ⟨c0, As', F', e, hK, hM, hP, r', okS.mono h s' Kept.refl⟩
end
end Pv
set_option Elab.async false
set_option linter.all false
set_option maxRecDepth 100000
set_option maxHeartbeats 4000000
namespace Pv
open PySem PySem.Spec PyProof.Rows L2
section
variable {X : Cx} {z : Z} {M : Nat → Sh} {np : Nat} {W : WX} {rs : Sh} {σ σ1 : L2.St} {H : Hp} {D : Ends}
theorem ss_fr {tg iter : Expr} {t : Tg} {tp : Bool} {it : It} {body : List Stmt} {bs : List S} {pos : Pos} {wf : Nat} (xs : XS X z W) (hh : okHead iter = true) (n : TgOk X M tg t tp) (hi : SI X z M W tp tg iter (evIt z.cf it)) (hb : SSs X z M np W rs body (exs z.cf wf bs)) :
    SS X z M np W rs (.For tg iter body [] pos) (exe z.cf wf (.fr t it bs)) := by
  refine PS.imp (ps_for xs.po xs.calm hi (pg_tg xs.toXO n) hb fun v => noFold hh X.env v) fun D σ H h => ?_
  obtain ⟨c, As, F, env, hK, hM, hP, r, h⟩ := h
  simp only [exe] at h
  refine ⟨c, As, F, env, hK, hM, r, ?_⟩
  cases q : evIt z.cf it env with
  | stuck => rw [q] at h; exact h
  | exc x e => rw [q] at h; exact fun cl da H' F' As' r s' q => h cl da σ H' F' As' r s' Kept.refl q
  | ok l e1 =>
    rw [q] at h
    have h : okS z np W c rs F σ (forLoop t (exs z.cf wf bs) l e1) D := h
    intro J H1 F1 As1 r1 s1 w
    refine ⟨fun i m σ' H' => ∃ As F' env', i ≤ l.length ∧ m = l.length - i ∧ Rel c As F' env' σ' H' ∧ Sub F1 F' ∧ okS z np W c rs F' σ' (forLoop t (exs z.cf wf bs) (l.drop i) env') D, ⟨l.length, As1, F1, e1, Nat.zero_le _, rfl, r1, Sub.refl _, okS.mono h s1 Kept.refl⟩, ?_⟩
    rintro i m σ2 H2 ⟨As2, F2, env2, hi, rfl, r2, s2, h2⟩
    have w2 := w.mono s2
    by_cases hlt : i < l.length
    · have hd : l[i]? = some l[i] := List.getElem?_eq_getElem hlt
      rw [List.drop_eq_getElem_cons hlt] at h2
      unfold forLoop at h2
      generalize hdd : l[i] = d at h2 hd
      cases qb : bindTg t d env2 with
      | none => rw [qb] at h2; exact h2.elim
      | some env3 =>
        rw [qb] at h2
        simp only [] at h2
        refine .inr ⟨w2.go i H2 r2.sub hlt, _, fun σ' H' nx => ⟨l.length - (i + 1), by omega, nx⟩, fun x H' y => ?_⟩
        refine walk_tg hK hM hP w2 r2 hd y qb fun σ1 Hb Asb rb ch _ => ⟨c, Asb, F2, env3, hK, hM, hP, rb, ?_⟩
        have k1 : Kept np c.M σ2 σ1 := Kept.chg ch fun i hi => .inl (by rw [hM]; exact tg_pure n i hi)
        cases qe : exs z.cf wf bs env3 with
        | nx e =>
          rw [qe] at h2
          exact fun σ' H' F' As' r' s' k' => ⟨As', F', e, hlt, rfl, r', s2.trans s', okS.mono h2 s' (k1.trans k')⟩
        | ct e =>
          rw [qe] at h2
          exact fun σ' H' F' As' r' s' k' => ⟨As', F', e, hlt, rfl, r', s2.trans s', okS.mono h2 s' (k1.trans k')⟩
        | bk e =>
          rw [qe] at h2
          exact fun σ' H' F' As' r' s' k' => h2 σ' H' F' As' r' s' (k1.trans k')
        | rt d e =>
          rw [qe] at h2
          exact fun v σ' H' F' As' A r' s' k' => h2 v σ' H' F' As' A r' s' (k1.trans k')
        | exc x e =>
          rw [qe] at h2
          exact fun cl da σ' H' F' As' r' s' k' => h2 cl da σ' H' F' As' r' s' (k1.trans k')
        | stuck => rw [qe] at h2; exact h2
    · have hi' : i = l.length := by omega
      subst hi'
      rw [List.drop_length] at h2
      exact .inl ⟨w2.stop H2 r2.sub, h2 σ2 H2 F2 As2 r2 (Sub.refl _) Kept.refl⟩
theorem ss_whl {ec : Expr} {c : E} {body : List Stmt} {bs : List S} {pos : Pos} (xs : XS X z W) (hc : ST X z M W ec (ev z.cf c)) (hb : SSs X z M np W rs body (exs z.cf z.wf bs)) :
    SS X z M np W rs (.While ec body [] pos) (exe z.cf z.wf (.whl c bs)) := by
  refine PS.imp (ps_while xs.po hc hb) fun D σ H h => ?_
  obtain ⟨c0, As, F, env, hK, hM, hP, r, h⟩ := h
  simp only [exe] at h
  refine ⟨fun m σ' H' => ∃ As F' env', Rel c0 As F' env' σ' H' ∧ okS z np W c0 rs F' σ' (whileLoop (evC z.cf (some c)) (exs z.cf z.wf bs) m env') D, ⟨z.wf, As, F, env, r, h⟩, ?_⟩
  rintro m σ2 H2 ⟨As2, F2, env2, r2, h2⟩
  cases m with
  | zero => exact h2.elim
  | succ m =>
    unfold whileLoop at h2
    refine ⟨c0, As2, F2, env2, hK, hM, r2, ?_⟩
    have e0 : truthR (ev z.cf c env2) = evC z.cf (some c) env2 := rfl
    rw [e0]
    cases q : evC z.cf (some c) env2 with
    | stuck => rw [q] at h2; exact h2
    | exc x e => rw [q] at h2; exact fun cl da H' F' As' r s' q => h2 cl da σ2 H' F' As' r s' Kept.refl q
    | ok k e =>
      rw [q] at h2
      intro H3 F3 As3 r3 s3
      cases k with
      | false =>
        simp only [Bool.false_eq_true, if_false]
        exact h2 σ2 H3 F3 As3 r3 s3 Kept.refl
      | true =>
        simp only [if_true]
        simp only [] at h2
        refine ⟨_, fun σ' H' nx => ⟨m, Nat.lt_succ_self m, nx⟩, c0, As3, F3, e, hK, hM, hP, r3, ?_⟩
        cases qe : exs z.cf z.wf bs e with
        | nx e =>
          rw [qe] at h2
          exact fun σ' H' F' As' r' s' k' => ⟨As', F', e, r', okS.mono h2 (s3.trans s') k'⟩
        | ct e =>
          rw [qe] at h2
          exact fun σ' H' F' As' r' s' k' => ⟨As', F', e, r', okS.mono h2 (s3.trans s') k'⟩
        | bk e =>
          rw [qe] at h2
          exact fun σ' H' F' As' r' s' k' => h2 σ' H' F' As' r' (s3.trans s') k'
        | rt d e =>
          rw [qe] at h2
          exact fun v σ' H' F' As' A r' s' k' => h2 v σ' H' F' As' A r' (s3.trans s') k'
        | exc x e =>
          rw [qe] at h2
          exact fun cl da σ' H' F' As' r' s' k' => h2 cl da σ' H' F' As' r' (s3.trans s') k'
        | stuck => rw [qe] at h2; exact h2
end
end Pv
set_option Elab.async false
set_option linter.all false
set_option maxRecDepth 100000
set_option maxHeartbeats 4000000
namespace Pv
open PySem PySem.Spec PyProof.Rows L2
theorem flat_all_nil : ∀ {l : List (List Addr)}, (∀ B ∈ l, B = []) → l.flatten = []
  | [], _ => rfl
  | B :: l, h => by
    rw [List.flatten_cons, h B List.mem_cons_self, flat_all_nil fun C hC => h C (List.mem_cons_of_mem _ hC)]
    rfl
section
variable {K : PySem.W.Frag} {F H : Hp} {v : V} {A : List Addr}
theorem own_lst {l : List D} (h : Own K F H (.lst .pure) v (.lst l) A) : ∃ a vs, v = .ref a ∧ H a = some (.lst vs) ∧ vs.length ≤ sizeLine ∧ Paired (Rep K F) vs l ∧ A = [a] := by
  obtain ⟨a, vs, ds, As, rfl, e, ha, hz, t, rfl, nd⟩ := h
  cases e
  refine ⟨a, vs, rfl, ha, hz, trip_pair t fun x y B _ r => r.2, ?_⟩
  rw [flat_all_nil fun B hB => ?_]
  obtain ⟨x, y, r⟩ := trip_each t hB
  exact r.1
theorem lst_own {l : List D} {a : Addr} {vs : List V} (ha : H a = some (.lst vs)) (hz : vs.length ≤ sizeLine) (pr : Paired (Rep K F) vs l) : Own K F H (.lst .pure) (.ref a) (.lst l) [a] :=
  ⟨a, vs, l, l.map fun _ => [], rfl, rfl, ha, hz, trip_nil pr, by rw [flat_nil], by simp⟩
def KVp (K : PySem.W.Frag) (F : Hp) (p : Key × V) (q : Key × D) : Prop := p.1 = q.1 ∧ Rep K F p.2 q.2
theorem own_dct {l : List (Key × D)} (h : Own K F H (.dct .pure) v (.dct l) A) : ∃ a kvs, v = .ref a ∧ H a = some (.dK kvs) ∧ kvs.length ≤ sizeLine ∧ KN (l.map (·.1)) ∧ Paired (KVp K F) kvs l ∧ A = [a] := by
  obtain ⟨a, kvs, ds, As, rfl, e, ha, hz, kn, t, rfl, nd⟩ := h
  cases e
  refine ⟨a, kvs, rfl, ha, hz, kn, trip_pair t fun x y B _ r => ⟨r.1, r.2.2⟩, ?_⟩
  rw [flat_all_nil fun B hB => ?_]
  obtain ⟨x, y, r⟩ := trip_each t hB
  exact r.2.1
theorem trip_nilD {kvs : List (Key × V)} {l : List (Key × D)} (pr : Paired (KVp K F) kvs l) : Trip (fun (p : Key × V) (q : Key × D) B => p.1 = q.1 ∧ Own K F H .pure p.2 q.2 B) kvs l (l.map fun _ => []) := by
  induction pr with
  | nil => exact .nil
  | cons r _ ih => exact .cons ⟨r.1, rfl, r.2⟩ ih
theorem flat_nilD : ∀ l : List (Key × D), (l.map fun _ => ([] : List Addr)).flatten = []
  | [] => rfl
  | _ :: l => by simp [flat_nilD l]
theorem dct_own {l : List (Key × D)} {a : Addr} {kvs : List (Key × V)} (ha : H a = some (.dK kvs)) (hz : kvs.length ≤ sizeLine) (kn : KN (l.map (·.1))) (pr : Paired (KVp K F) kvs l) : Own K F H (.dct .pure) (.ref a) (.dct l) [a] :=
  ⟨a, kvs, l, l.map fun _ => [], rfl, rfl, ha, hz, kn, trip_nilD pr, by rw [flat_nilD], by simp⟩
end
/-- an owned slot's objects are written -/
theorem Rel.rewriteE {c : Ctx} {As : Nat → List Addr} {F H H' : Hp} {env : Dv} {σ : L2.St} {i : Nat} {v : V} {d d' : D} {A : List Addr} (r : Rel c As F env σ H) (e : env[i]? = some (some d)) (hv : σ[i]? = some (some v)) (o : Own c.K F H' (c.M i) v d' A)
    (hA : ∀ a ∈ A, a ∈ As i ∨ H a = none) (hH : ∀ a u, H a = some u → a ∉ As i → H' a = some u) : Rel c (fun j => if j = i then A else As j) F (env.set i (some d')) σ H' := by
  have get : ∀ {j e}, (env.set i (some d'))[j]? = some (some e) → (j = i ∧ e = d') ∨ (j ≠ i ∧ env[j]? = some (some e)) := fun {j e} q => by
    rw [List.getElem?_set] at q
    split at q
    · rename_i e1
      split at q
      · cases q; exact .inl ⟨e1.symm, rfl⟩
      · cases q
    · rename_i e1
      exact .inr ⟨fun e2 => e1 e2.symm, q⟩
  have off : ∀ a ∈ A, F a = none := fun a ha => (hA a ha).elim (fun q => r.off i d e a q) fun q => r.sub.back q
  refine ⟨fun j w q => ?_, fun j w q a ha => ?_, fun j w q a ha => ?_, fun j k w w' hn q q' a ha ha' => ?_, fun a u q => ?_, r.old, fun a u q n => ?_, r.newF, by rw [List.length_set]; exact r.len, r.fix⟩
  · rcases get q with ⟨rfl, rfl⟩ | ⟨hn, q1⟩
    · exact ⟨v, hv, by rw [if_pos rfl]; exact o⟩
    · obtain ⟨x, h1, h2⟩ := r.val j w q1
      refine ⟨x, h1, ?_⟩
      rw [if_neg hn]
      exact h2.mono (Sub.refl _) fun a ha u q => hH a u q fun q2 => r.dis j i w d hn q1 e a ha q2
  · rcases get q with ⟨e1, _⟩ | ⟨hn, q1⟩
    · simp only [if_pos e1] at ha
      exact off a ha
    · simp only [if_neg hn] at ha
      exact r.off j w q1 a ha
  · rcases get q with ⟨e1, _⟩ | ⟨hn, q1⟩
    · simp only [if_pos e1] at ha
      exact (hA a ha).elim (fun q => r.nw i d e a q) fun q => r.h0 q
    · simp only [if_neg hn] at ha
      exact r.nw j w q1 a ha
  · have two : ∀ {k w}, k ≠ i → env[k]? = some (some w) → a ∈ A → a ∉ As k := fun {k w} hk q h1 h2 => by
      rcases hA a h1 with q1 | q1
      · exact r.dis k i w d hk q e a h2 q1
      · obtain ⟨x, _, h3⟩ := r.val k w q
        obtain ⟨u, hu, _⟩ := h3.there a h2
        rw [hu] at q1; cases q1
    rcases get q with ⟨e1, _⟩ | ⟨hj, q1⟩
    · simp only [if_pos e1] at ha
      rcases get q' with ⟨e2, _⟩ | ⟨hk, q2⟩
      · exact hn (e1.trans e2.symm)
      · simp only [if_neg hk] at ha'
        exact two hk q2 ha ha'
    · simp only [if_neg hj] at ha
      rcases get q' with ⟨e2, _⟩ | ⟨hk, q2⟩
      · simp only [if_pos e2] at ha'
        exact two hj q1 ha' ha
      · simp only [if_neg hk] at ha'
        exact r.dis j k w w' hn q1 q2 a ha ha'
  · exact hH a u (r.sub a u q) fun q2 => by rw [r.off i d e a q2] at q; cases q
  · refine hH a u (r.frame a u q n) fun q2 => ?_
    rcases r.nw i d e a q2 with w | w
    · rw [w] at q; cases q
    · exact n w
theorem Rel.rewrite {c : Ctx} {As : Nat → List Addr} {F H H' : Hp} {env : Dv} {σ : L2.St} {i : Nat} {v : V} {d d' : D} {A : List Addr} (hP : c.P = fun _ => none) (r : Rel c As F env σ H) (e : env[i]? = some (some d)) (hv : σ[i]? = some (some v)) (o : Own c.K F H' (c.M i) v d' A)
    (hA : ∀ a ∈ A, a ∈ As i ∨ H a = none) (hH : ∀ a u, H a = some u → a ∉ As i → H' a = some u) : Rel c (fun j => if j = i then A else As j) F (env.set i (some d')) σ H' := r.rewriteE e hv o hA hH
/-- one owned object alone -/
theorem Rel.write1 {c : Ctx} {As : Nat → List Addr} {F H : Hp} {env : Dv} {σ : L2.St} {i : Nat} {p : Addr} {d d' : D} {u : HO} (hP : c.P = fun _ => none) (r : Rel c As F env σ H) (e : env[i]? = some (some d)) (hv : σ[i]? = some (some (.ref p))) (hA : As i = [p]) (o : Own c.K F (upd H p u) (c.M i) (.ref p) d' [p]) :
    Rel c (fun j => if j = i then [p] else As j) F (env.set i (some d')) σ (upd H p u) :=
  r.rewrite hP e hv o (fun a ha => .inl (by rw [hA]; exact ha)) fun a w q n => by
    rw [hA] at n
    rw [upd_ne (by simpa using n)]
    exact q
theorem Rel.write1E {c : Ctx} {As : Nat → List Addr} {F H : Hp} {env : Dv} {σ : L2.St} {i : Nat} {p : Addr} {d d' : D} {u : HO} (r : Rel c As F env σ H) (e : env[i]? = some (some d)) (hv : σ[i]? = some (some (.ref p))) (hA : As i = [p]) (o : Own c.K F (upd H p u) (c.M i) (.ref p) d' [p]) :
    Rel c (fun j => if j = i then [p] else As j) F (env.set i (some d')) σ (upd H p u) :=
  r.rewriteE e hv o (fun a ha => .inl (by rw [hA]; exact ha)) fun a w q n => by
    rw [hA] at n
    rw [upd_ne (by simpa using n)]
    exact q
theorem lstAt_some {env : Dv} {i : Nat} {l : List D} (h : lstAt env i = some l) : env[i]? = some (some (.lst l)) := by
  unfold lstAt at h
  split at h
  · rename_i l' e; cases h; exact e
  · cases h
theorem dctAt_some {env : Dv} {i : Nat} {l : List (Key × D)} (h : dctAt env i = some l) : env[i]? = some (some (.dct l)) := by
  unfold dctAt at h
  split at h
  · rename_i l' e; cases h; exact e
  · cases h
section
variable {X : Cx} {z : Z} {M : Nat → Sh} {np : Nat} {W : WX} {rs : Sh} {σ σ1 : L2.St} {H : Hp} {D : Ends}
/-- the slot's list, as it stands -/
theorem slot_lst {c : Ctx} {As : Nat → List Addr} {F : Hp} {env : Dv} {i : Nat} {l : List Pv.D} (r : Rel c As F env σ H) (hM : c.M i = .lst .pure) (e : lstAt env i = some l) : ∃ p vs, σ[i]? = some (some (.ref p)) ∧ H p = some (.lst vs) ∧ vs.length ≤ sizeLine ∧ Paired (Rep c.K F) vs l ∧ As i = [p] := by
  obtain ⟨v, h1, h2⟩ := r.val i _ (lstAt_some e)
  rw [hM] at h2
  obtain ⟨p, vs, rfl, h3, h4, h5, h6⟩ := own_lst h2
  exact ⟨p, vs, h1, h3, h4, h5, h6⟩
theorem slot_dct {c : Ctx} {As : Nat → List Addr} {F : Hp} {env : Dv} {i : Nat} {l : List (Key × Pv.D)} (r : Rel c As F env σ H) (hM : c.M i = .dct .pure) (e : dctAt env i = some l) : ∃ p kvs, σ[i]? = some (some (.ref p)) ∧ H p = some (.dK kvs) ∧ kvs.length ≤ sizeLine ∧ KN (l.map (·.1)) ∧ Paired (KVp c.K F) kvs l ∧ As i = [p] := by
  obtain ⟨v, h1, h2⟩ := r.val i _ (dctAt_some e)
  rw [hM] at h2
  obtain ⟨p, vs, rfl, h3, h4, h5, h6, h7⟩ := own_dct h2
  exact ⟨p, vs, h1, h3, h4, h5, h6, h7⟩
/-- a name that is read -/
structure RdOk (X : Cx) (i : Nat) (x : Str) : Prop where
  ix : X.N[i]? = some x
  vis : Vis X.env.scope x
  db : (x == ("__debug__" : Str)) = false
  cd : (x == ("__classdict__" : Str)) = false
theorem ss_app {i : Nat} {x : Str} {ea : Expr} {a : E} {px ap cp pos : Pos} {wf : Nat} (xo : XO X z W) (n : RdOk X i x) (hMi : M i = .lst .pure) (hh : okHead ea = true) (hl : (ap.endLine == cp.line) = true) (ha : SE X z M W .pure ea (ev z.cf a)) :
    SS X z M np W rs (.Expr (.Call (.Attribute (.Name x px) "append" ap) [ea] [] cp) pos) (exe z.cf wf (.app i a)) := by
  have hd : allHead [ea] = true := by simp [allHead, hh]
  refine PS.imp (ps_expr (pe_bm PySem.F.plainAttrs_list PySem.F.slot_list_append PySem.F.type_list_append mt_append (pe_var n.ix n.vis n.db n.cd) (sa_one hh ha) rfl (fewOk hd (by simp) cp X.env) hl (nonStar hh [] X.env) rfl) (no_swap rfl _ _ _)) fun D σ H h => ?_
  obtain ⟨c, As, F, env, hK, hM, hP, r, h⟩ := h
  simp only [exe] at h
  cases q0 : lstAt env i with
  | none => rw [q0] at h; exact h.elim
  | some l0 =>
    rw [q0] at h
    have h : okS z np W c rs F σ (bindO (ev z.cf a env) fun d env => nxO (appE env i d)) D := h
    have hMc : c.M i = .lst .pure := by rw [hM]; exact hMi
    obtain ⟨p, vs, hv, hp, hz, pr, hA⟩ := slot_lst r hMc q0
    refine ⟨.ref p, hv, .inl ⟨rfl, vs, .inl (.inl hp)⟩, c, As, F, env, hK, hM, r, ?_⟩
    rw [evs_one]
    cases q : ev z.cf a env with
    | stuck => rw [q] at h; exact h
    | exc x e => rw [q] at h; exact fun cl da H' F' As' r s' q => h cl da σ H' F' As' r s' Kept.refl q
    | ok d e =>
      rw [q] at h
      have h : okS z np W c rs F σ (nxO (appE e i d)) D := h
      intro us H2 F2 As2 r2 s2 pr2
      cases pr2 with
      | @cons y _ _ _ ry rr =>
        cases rr
        unfold appE at h
        cases q1 : lstAt e i with
        | none => rw [q1] at h; exact h.elim
        | some l =>
          rw [q1] at h
          simp only [] at h
          split at h
          · rename_i hb
            obtain ⟨p', vs2, hv2, hp2, hz2, pr2, hA2⟩ := slot_lst r2 hMc q1
            rw [hv] at hv2
            cases hv2
            have hlen : vs2.length + 1 ≤ sizeLine := by rw [paired_len pr2]; exact big_size hb
            refine ⟨p, vs2, y, rfl, rfl, hp2, hlen, ?_⟩
            exact h σ _ F2 _ (r2.write1 hP (lstAt_some q1) hv hA2 (by rw [hMc]; exact lst_own upd_same (by simpa using hlen) (paired_append pr2 (.cons ry .nil)))) s2 Kept.refl
          · exact h.elim
theorem ss_ins {i : Nat} {x : Str} {ea eb : Expr} {a b : E} {px ap cp pos : Pos} {wf : Nat} (xo : XO X z W) (n : RdOk X i x) (hMi : M i = .lst .pure) (hh : okHead ea = true) (hh2 : okHead eb = true) (hl : (ap.endLine == cp.line) = true) (ha : SE X z M W .pure ea (ev z.cf a)) (hb : SE X z M W .pure eb (ev z.cf b)) :
    SS X z M np W rs (.Expr (.Call (.Attribute (.Name x px) "insert" ap) [ea, eb] [] cp) pos) (exe z.cf wf (.ins i a b)) := by
  have hd : allHead [ea, eb] = true := by simp [allHead, hh, hh2]
  refine PS.imp (ps_expr (pe_bm PySem.F.plainAttrs_list PySem.F.slot_list_insert PySem.F.type_list_insert mt_insert (pe_var n.ix n.vis n.db n.cd) (sa_cons hh ha (sa_one hh2 hb)) rfl (fewOk hd (by simp) cp X.env) hl (nonStar hh [eb] X.env) (noStars (by simp [allHead, hh2]) cp X.env)) (no_swap rfl _ _ _)) fun D σ H h => ?_
  obtain ⟨c, As, F, env, hK, hM, hP, r, h⟩ := h
  simp only [exe] at h
  cases q0 : lstAt env i with
  | none => rw [q0] at h; exact h.elim
  | some l0 =>
    rw [q0] at h
    have h : okS z np W c rs F σ (bindO (ev z.cf a env) fun k env => bindO (ev z.cf b env) fun d env => nxO (insE env i k d)) D := h
    have hMc : c.M i = .lst .pure := by rw [hM]; exact hMi
    obtain ⟨p, vs, hv, hp, hz, pr, hA⟩ := slot_lst r hMc q0
    refine ⟨.ref p, hv, .inl ⟨rfl, vs, .inl (.inl hp)⟩, c, As, F, env, hK, hM, r, ?_⟩
    simp only [evs]
    cases q : ev z.cf a env with
    | stuck => rw [q] at h; exact h
    | exc x e => rw [q] at h; exact fun cl da H' F' As' r s' q => h cl da σ H' F' As' r s' Kept.refl q
    | ok d e =>
      rw [q] at h
      have h : okS z np W c rs F σ (bindO (ev z.cf b e) fun d2 env => nxO (insE env i d d2)) D := h
      show okA z W c F σ (bindR (bindR (ev z.cf b e) fun d e => .ok [d] e) fun ds e' => .ok (d :: ds) e') _
      cases q2 : ev z.cf b e with
      | stuck => rw [q2] at h; exact h
      | exc x e => rw [q2] at h; exact fun cl da H' F' As' r s' q => h cl da σ H' F' As' r s' Kept.refl q
      | ok d2 e2 =>
        rw [q2] at h
        have h : okS z np W c rs F σ (nxO (insE e2 i d d2)) D := h
        intro us H2 F2 As2 r2 s2 pr2
        cases pr2 with
        | @cons y _ _ _ ry rr =>
          cases rr with
          | @cons y2 _ _ _ ry2 rr =>
            cases rr
            unfold insE at h
            cases q1 : lstAt e2 i with
            | none => rw [q1] at h; exact h.elim
            | some l =>
              rw [q1] at h
              cases d with
              | int k =>
                simp only [] at h
                split at h
                · rename_i hb
                  cases ry.intE
                  obtain ⟨p', vs2, hv2, hp2, hz2, pr2, hA2⟩ := slot_lst r2 hMc q1
                  rw [hv] at hv2
                  cases hv2
                  have hlen : vs2.length + 1 ≤ sizeLine := by rw [paired_len pr2]; exact big_size hb.1
                  refine ⟨p, vs2, k, y2, rfl, rfl, hp2, hlen, hb.2.1, hb.2.2, ?_⟩
                  have hl3 : (vs2.take k.toNat ++ [y2] ++ vs2.drop k.toNat).length ≤ sizeLine := by
                    simp only [List.length_append, List.length_take, List.length_drop, List.length_singleton]
                    omega
                  exact h σ _ F2 _ (r2.write1 hP (lstAt_some q1) hv hA2 (by rw [hMc]; exact lst_own upd_same hl3 (paired_append (paired_append (paired_take pr2 _) (.cons ry2 .nil)) (paired_drop pr2 _)))) s2 Kept.refl
                · exact h.elim
              | _ => exact h.elim
/-- x[k] = e, x a changeable list -/
theorem ss_setL {i : Nat} {x : Str} {ek ea : Expr} {k a : E} {px tp pos : Pos} {wf : Nat} (xo : XO X z W) (n : RdOk X i x) (hMi : M i = .lst .pure) (hc : isComp ea = false) (hs : ∀ v, assign (.Subscript (.Name x px) ek tp) X.env v = (do
      let ov ← holding [v] (eval (.Name x px) X.env)
      let iv ← holding [v, ov] (eval ek X.env)
      standAt tp
      holding [v, ov, iv] (setItem ov iv v)
      release [v, ov, iv] [])) (ha : SE X z M W .pure ea (ev z.cf a)) (hk : SE X z M W .pure ek (ev z.cf k)) :
    SS X z M np W rs (.Assign [.Subscript (.Name x px) ek tp] ea pos) (exe z.cf wf (.setL i k a)) := by
  have h1 : swapsWithSole [.Subscript (.Name x px) ek tp] ea pos.line X.env = pure false := by
    show swapsWith ea (some (.Subscript (.Name x px) ek tp)) pos.line X.env = pure false
    exact no_swap hc _ _ _
  have h2 : swappedStores [.Subscript (.Name x px) ek tp] ea X.env = pure none := no_store (tg := .Subscript (.Name x px) ek tp) (.inr ⟨rfl, fun ts p e => by cases e⟩) X.env
  refine PS.imp (ps_asg ha (pg_sub (pe_var n.ix n.vis n.db n.cd) hk set_list hs) h1 h2 rfl) fun D σ H h => ?_
  obtain ⟨c, As, F, env, hK, hM, hP, r, h⟩ := h
  simp only [exe] at h
  cases q0 : lstAt env i with
  | none => rw [q0] at h; exact h.elim
  | some l0 =>
    rw [q0] at h
    have h : okS z np W c rs F σ (bindO (ev z.cf a env) fun d env => bindO (ev z.cf k env) fun j env => nxO (setLE env i j d)) D := h
    have hMc : c.M i = .lst .pure := by rw [hM]; exact hMi
    obtain ⟨p, vs, hv, hp, hz, pr, hA⟩ := slot_lst r hMc q0
    refine ⟨c, As, F, env, hK, hM, r, okS.bind (As := As) (env := env) h fun d e v H' F' As' A _ h r' s' o nw => ?_⟩
    refine ⟨.ref p, hv, c, As', F', e, hK, hM, r', okS.bind (As := As') (env := e) h fun dj e2 vj H2 F2 As2 A2 _ h r2 s2 o2 n2 => ?_⟩
    unfold setLE at h
    cases q1 : lstAt e2 i with
    | none => rw [q1] at h; exact h.elim
    | some l =>
      rw [q1] at h
      cases dj with
      | int kk =>
        simp only [] at h
        cases q3 : ixN l.length kk with
        | none => rw [q3] at h; exact h.elim
        | some j =>
          rw [q3] at h
          obtain ⟨p', vs2, hv2, hp2, hz2, pr2, hA2⟩ := slot_lst r2 hMc q1
          rw [hv] at hv2
          cases hv2
          cases o2.2.intE
          refine ⟨p, vs2, kk, j, rfl, rfl, hp2, by rw [paired_len pr2]; exact q3, ?_⟩
          exact h σ _ F2 _ (r2.write1 hP (lstAt_some q1) hv hA2 (by rw [hMc]; exact lst_own upd_same (by simpa using hz2) (paired_set pr2 (s2.rep o.2) j))) (Sub.refl _) Kept.refl
      | _ => exact h.elim
end
end Pv
set_option Elab.async false
set_option linter.all false
set_option maxRecDepth 100000
set_option maxHeartbeats 4000000
namespace Pv
open PySem PySem.Spec PyProof.Rows L2
theorem swapped2 {x y : Str} {a b : Expr} {px py pt : Pos} {kt k2 pt2} {env : PySem.Env} (hk : env.scope.kind = .function) (hx : env.scope.names.lookup x = some .local) (hy : env.scope.names.lookup y = some .local) (hl : (py.line == px.line) = true) (hne : ([x, y].eraseDups.length == 2) = true)
    (ha : okHead a = true) (hb : okHead b = true) (hf : ([a, b].all (foldedForSure 8)) = false) (hc : ([a, b].all (constantsAlone 8)) = false) :
    swappedStores [.Tuple [.Name x px, .Name y py] kt pt] (.Tuple [a, b] k2 pt2) env = pure (some [x, y]) := by
  unfold swappedStores
  have e1 : env.blockKind = .function := by simp [Env.blockKind, hk]
  have e2 : env.kindOf x = some .local := hx
  have e3 : env.kindOf y = some .local := hy
  have e5 : (px.line == px.line) = true := beq_self_eq_true _
  have key : ∀ f : Expr → Bool, (∀ x, okHead x = true → f x = false) → [a, b].any f = false := fun f hf => by simp [hf a ha, hf b hb]
  have hne' : [x, y].eraseDups.length = 2 := by simpa using hne
  simp only [List.length_cons, List.length_nil, e1, e2, e3, hf, hc, List.head?_cons, Option.map_some, Option.getD_some, List.filterMap_cons, List.filterMap_nil, hl, e5, Expr.pos]
  rw [key _ fun x hx => by cases x <;> simp [okHead] at hx <;> rfl]
  simp [hne', Expr.pos, e2, e3]
theorem swapped3 {x y w : Str} {a b c : Expr} {px py pw pt : Pos} {kt k2 pt2} {env : PySem.Env} (hk : env.scope.kind = .function) (hx : env.scope.names.lookup x = some .local) (hy : env.scope.names.lookup y = some .local) (hw : env.scope.names.lookup w = some .local) (hl : (py.line == px.line) = true) (hl2 : (pw.line == px.line) = true) (hne : ([x, y, w].eraseDups.length == 3) = true)
    (ha : okHead a = true) (hb : okHead b = true) (hcc : okHead c = true) (hf : ([a, b, c].all (foldedForSure 8)) = false) (hc : ([a, b, c].all (constantsAlone 8)) = false) :
    swappedStores [.Tuple [.Name x px, .Name y py, .Name w pw] kt pt] (.Tuple [a, b, c] k2 pt2) env = pure (some [x, y, w]) := by
  unfold swappedStores
  have e1 : env.blockKind = .function := by simp [Env.blockKind, hk]
  have e2 : env.kindOf x = some .local := hx
  have e3 : env.kindOf y = some .local := hy
  have e4 : env.kindOf w = some .local := hw
  have e5 : (px.line == px.line) = true := beq_self_eq_true _
  have key : ∀ f : Expr → Bool, (∀ x, okHead x = true → f x = false) → [a, b, c].any f = false := fun f hf => by simp [hf a ha, hf b hb, hf c hcc]
  have hne' : [x, y, w].eraseDups.length = 3 := by simpa using hne
  simp only [List.length_cons, List.length_nil, e1, e2, e3, e4, hf, hc, List.head?_cons, Option.map_some, Option.getD_some, List.filterMap_cons, List.filterMap_nil, hl, hl2, e5, Expr.pos]
  rw [key _ fun x hx => by cases x <;> simp [okHead] at hx <;> rfl]
  simp [hne', Expr.pos, e2, e3, e4]
def setAllV : List Nat → List V → L2.St → L2.St
  | i :: is, v :: vs, σ => setAllV is vs (σ.set i (some v))
  | _, _, σ => σ
theorem setV_chg : ∀ (is : List Nat) (vs : List V) (σ : L2.St), Chg is σ (setAllV is vs σ)
  | [], _, _ => by simp only [setAllV]; exact Chg.refl
  | _ :: _, [], _ => by simp only [setAllV]; exact Chg.refl
  | i :: is, v :: vs, σ => by
    simp only [setAllV]
    exact (Chg.set.trans (setV_chg is vs (σ.set i (some v)))).mono (by simp)
section
variable {X : Cx} {z : Z} {M : Nat → Sh} {np : Nat} {W : WX} {rs : Sh} {H : Hp}
/-- the values in the air, each in its slot -/
theorem set_all {c : Ctx} {F : Hp} (hP : c.P = fun _ => none) {vs : List V} {as : List E} {shs : List Sh} {ds : List Pv.D} {qs : List (V × Air)} (al : AirAll M vs as shs ds qs) : ∀ {As : Nat → List Addr} {e : Dv} {σ σ0 : L2.St} {is : List Nat}, (∀ a ∈ as, isRef a = false) → shs = is.map c.M →
    Lim c F H As e σ0 qs → Rel c As F e σ H → ∃ As', Rel c As' F (setAll is ds e) (setAllV is vs σ) H := by
  induction al with
  | nil =>
    intro As e σ σ0 is _ hs l r
    cases is with
    | nil => exact ⟨As, r⟩
    | cons _ _ => simp at hs
  | ref _ _ _ =>
    intro As e σ σ0 is nr
    exact absurd (nr _ List.mem_cons_self) (by simp [isRef])
  | @val v a d A vs as sh shs ds qs _ _ ih =>
    intro As e σ σ0 is nr hs l r
    cases is with
    | nil => simp at hs
    | cons i is =>
      simp only [List.map_cons, List.cons.injEq] at hs
      obtain ⟨rfl, hs⟩ := hs
      have o := l.ok _ List.mem_cons_self
      have n : New c F H As e A := ⟨l.side _ List.mem_cons_self, l.nw _ List.mem_cons_self⟩
      have r1 := r.setOwn hP o n
      have dd := List.pairwise_cons.mp l.dis
      refine ih (fun a ha => nr a (List.mem_cons_of_mem _ ha)) hs ⟨fun p hp => l.ok p (List.mem_cons_of_mem _ hp), fun p hp => ?_, fun p hp => l.nw p (List.mem_cons_of_mem _ hp), dd.2⟩ r1
      have sd := l.side p (List.mem_cons_of_mem _ hp)
      refine ⟨sd.here, sd.off, fun b hb hm => ?_⟩
      obtain ⟨j, w, q1, q2⟩ := mem_owned.mp hm
      by_cases hj : j = i
      · simp only [if_pos hj] at q2
        exact dd.1 p hp b q2 hb
      · simp only [if_neg hj] at q2
        rw [List.getElem?_set_ne (Ne.symm hj)] at q1
        exact sd.apart b hb (mem_owned.mpr ⟨j, w, q1, q2⟩)
theorem par_of {is : List Nat} {as : List E} {wf : Nat} {D : Ends} {σ : L2.St} (hn : ∀ i ∈ is, M i = .pure ∨ np ≤ i) (nr : ∀ a ∈ as, isRef a = false) (h : tS z M np W rs (exe z.cf wf (.par is as)) D σ H) :
    tArg z M W as (is.map M) σ H fun vs H1 => vs.length = is.length ∧ D.nx (setAllV is vs σ) H1 := by
  obtain ⟨c, As, F, env, hK, hM, hP, r, h⟩ := h
  refine ⟨c, As, F, env, [], hK, hM, r, Lim.nil, ?_⟩
  simp only [exe] at h
  cases q : evs z.cf as env with
  | stuck => rw [q] at h; exact h
  | exc x e => rw [q] at h; exact fun cl da H' F' As' r s' q => h cl da σ H' F' As' r s' Kept.refl q
  | ok ds e =>
    rw [q] at h
    intro vs H' F' As' qs r' s' l al
    rw [List.nil_append] at l
    obtain ⟨As2, r2⟩ := set_all (is := is) hP al nr (by rw [hM]) l r'
    refine ⟨by rw [(air_len al).1, List.length_map], h _ _ _ _ r2 s' (Kept.chg (setV_chg is vs σ) fun i hi => ?_)⟩
    rw [hM]
    exact hn i hi
theorem ss_par2 {i j : Nat} {x y : Str} {a b : Expr} {as : List E} {px py pt pos : Pos} {kt k2 pt2} {wf : Nat} (xo : XO X z W) (hi : X.N[i]? = some x) (hj : X.N[j]? = some y) (hij : i ≠ j) (hx : X.env.scope.names.lookup x = some .local) (hy : X.env.scope.names.lookup y = some .local)
    (hn : ∀ k ∈ [i, j], M k = .pure ∨ np ≤ k) (nr : ∀ a ∈ as, isRef a = false) (hw : swappedStores [.Tuple [.Name x px, .Name y py] kt pt] (.Tuple [a, b] k2 pt2) X.env = pure (some [x, y])) (ha : L2.PA X [a, b] (tArg z M W as ([i, j].map M))) :
    SS X z M np W rs (.Assign [.Tuple [.Name x px, .Name y py] kt pt] (.Tuple [a, b] k2 pt2) pos) (exe z.cf wf (.par [i, j] as)) := by
  refine PS.imp (ps_par xo.calm xo.nd hi hj hij hx hy ha hw rfl) fun D σ H h => ?_
  obtain ⟨c, As, F, env, ps, hK, hM, r, l, h⟩ := par_of hn nr h
  refine ⟨c, As, F, env, ps, hK, hM, r, l, ?_⟩
  cases q : evs z.cf as env with
  | stuck => rw [q] at h; exact h
  | exc x e => rw [q] at h; exact h
  | ok ds e =>
    rw [q] at h
    intro vs H' F' As' qs r' s' l al
    obtain ⟨h1, h2⟩ := h vs H' F' As' qs r' s' l al
    match vs, h1, h2 with
    | [v, w], _, h2 => exact ⟨v, w, rfl, h2⟩
theorem ss_par3 {i j k : Nat} {x y w : Str} {a b c : Expr} {as : List E} {px py pw pt pos : Pos} {kt k2 pt2} {wf : Nat} (xo : XO X z W) (hi : X.N[i]? = some x) (hj : X.N[j]? = some y) (hk : X.N[k]? = some w) (hij : i ≠ j) (hik : i ≠ k) (hjk : j ≠ k)
    (hx : X.env.scope.names.lookup x = some .local) (hy : X.env.scope.names.lookup y = some .local) (hz : X.env.scope.names.lookup w = some .local)
    (hn : ∀ m ∈ [i, j, k], M m = .pure ∨ np ≤ m) (nr : ∀ a ∈ as, isRef a = false) (hw : swappedStores [.Tuple [.Name x px, .Name y py, .Name w pw] kt pt] (.Tuple [a, b, c] k2 pt2) X.env = pure (some [x, y, w])) (ha : L2.PA X [a, b, c] (tArg z M W as ([i, j, k].map M))) :
    SS X z M np W rs (.Assign [.Tuple [.Name x px, .Name y py, .Name w pw] kt pt] (.Tuple [a, b, c] k2 pt2) pos) (exe z.cf wf (.par [i, j, k] as)) := by
  refine PS.imp (ps_par3 xo.calm xo.nd hi hj hk hij hik hjk hx hy hz ha hw rfl) fun D σ H h => ?_
  obtain ⟨c, As, F, env, ps, hK, hM, r, l, h⟩ := par_of hn nr h
  refine ⟨c, As, F, env, ps, hK, hM, r, l, ?_⟩
  cases q : evs z.cf as env with
  | stuck => rw [q] at h; exact h
  | exc x e => rw [q] at h; exact h
  | ok ds e =>
    rw [q] at h
    intro vs H' F' As' qs r' s' l al
    obtain ⟨h1, h2⟩ := h vs H' F' As' qs r' s' l al
    match vs, h1, h2 with
    | [u, v, w], _, h2 => exact ⟨u, v, w, rfl, h2⟩
/-- names to store at, changeable ones among them -/
inductive NmsL (X : Cx) : List Expr → List Nat → Prop
  | nil : NmsL X [] []
  | cons {x p i es ts} : X.N[i]? = some x → Loc X.env.scope x → (X.fn x = true ∨ X.env.scope.names.lookup x = some .local) → NmsL X es ts → NmsL X (.Name x p :: es) (i :: ts)
theorem pgs_nmsL {es : List Expr} {is : List Nat} (xo : XO X z W) (n : NmsL X es is) : PGs X es (fun vs σ H Q => vs.length = is.length ∧ Q (setAllV is vs σ) H) := by
  induction n with
  | nil =>
    refine PGs.imp pgs_nil fun v σ H Q h => ?_
    cases v with
    | nil => exact ⟨rfl, h.2⟩
    | cons _ _ => exact absurd h.1 (by simp)
  | @cons x p i es ts h1 h2 h3 _ ih =>
    refine PGs.imp (pgs_cons (pg_name (pos := p) xo.nd h1 h2 h3) ih (by rfl)) fun v σ H Q h => ?_
    cases v with
    | nil => exact absurd h.1 (by simp)
    | cons v vs => exact ⟨v, vs, rfl, by simpa using h.1, h.2⟩
theorem nmsL_len {es : List Expr} {ts : List Nat} (n : NmsL X es ts) : (assignEach es X.env).length = ts.length ∧ (assignEach es X.env).findIdx? (·.1) = none := by
  induction n with
  | nil => exact ⟨rfl, rfl⟩
  | @cons x p i es ts _ _ _ _ ih =>
    have e : assignEach (.Name x p :: es) X.env = (false, assign (.Name x p) X.env) :: assignEach es X.env := rfl
    rw [e]
    refine ⟨by simp [ih.1], ?_⟩
    rw [List.findIdx?_cons, ih.2]
    rfl
/-- a, b, .. = x, y, .. stored from the left: some name is no plain local -/
def swNoneB (sc : Scope) (ts : List Expr) : Bool := !(ts.length == 2 || ts.length == 3) || ts.any fun
  | .Name x _ => !decide (sc.names.lookup x = some .local)
  | _ => true
theorem filter_lt {α β : Type} (f : α → Option β) : ∀ {l : List α}, (l.any fun a => (f a).isNone) = true → (l.filterMap f).length < l.length
  | [], h => by simp at h
  | a :: l, h => by
    rw [List.any_cons, Bool.or_eq_true] at h
    cases q : f a with
    | none =>
      rw [List.filterMap_cons_none q]
      have := List.length_filterMap_le f l
      simp only [List.length_cons]
      omega
    | some b =>
      rw [q] at h
      have := filter_lt f (h.resolve_left (by simp))
      rw [List.filterMap_cons_some q]
      simp only [List.length_cons]
      omega
theorem swap_none {ts es : List Expr} {k k2 : Nat} {p p2 : Pos} {env : PySem.Env} (h : swNoneB env.scope ts = true) : swappedStores [.Tuple ts k p] (.Tuple es k2 p2) env = pure none := by
  unfold swappedStores
  simp only []
  unfold swNoneB at h
  rw [Bool.or_eq_true] at h
  rcases h with h | h
  · rw [if_pos (by rw [h]; rfl)]
  · split
    · rfl
    · split
      · rfl
      · rw [if_pos]
        rw [Bool.or_eq_true]
        refine .inl ?_
        rw [bne_iff_ne]
        refine Nat.ne_of_lt (filter_lt _ ?_)
        rw [List.any_eq_true] at h ⊢
        obtain ⟨t, ht, h⟩ := h
        refine ⟨t, ht, ?_⟩
        cases t with
        | Name x px =>
          have h : ¬ env.scope.names.lookup x = some .local := by simpa using h
          have e : (env.kindOf x == some .local) = false := by
            rw [beq_eq_false_iff_ne]
            exact h
          simp [e]
        | _ => rfl
theorem ss_parT {is : List Nat} {ts es : List Expr} {as : List E} {k k2 : Nat} {p p2 pos : Pos} {wf : Nat} (xo : XO X z W) (n : NmsL X ts is) (hn : ∀ k ∈ is, M k = .pure ∨ np ≤ k) (nr : ∀ a ∈ as, isRef a = false) (hl : is.length ≤ 1000) (hw : swNoneB X.env.scope ts = true) (ha : L2.PA X es (tArg z M W as (is.map M))) :
    SS X z M np W rs (.Assign [.Tuple ts k p] (.Tuple es k2 p2) pos) (exe z.cf wf (.parT is as)) := by
  obtain ⟨l1, l2⟩ := nmsL_len n
  refine PS.imp (ps_asg (pe_tup ha) (pg_tup xo.calm (pgs_nmsL xo n) l1 l2) rfl (swap_none hw) rfl) fun D σ H h => ?_
  obtain ⟨c, As, F, env, ps, hK, hM, r, l, h⟩ := par_of (is := is) (as := as) (wf := wf) hn nr h
  refine ⟨c, As, F, env, ps, hK, hM, r, l, ?_⟩
  cases q : evs z.cf as env with
  | stuck => rw [q] at h; exact h
  | exc x e => rw [q] at h; exact h
  | ok ds e =>
    rw [q] at h
    intro vs H' F' As' qs r' s' l al
    have h0 := h vs H' F' As' qs r' s' l al
    refine ⟨Nat.le_trans (by rw [h0.1]; exact hl) (by decide), fun pt hpt => ?_⟩
    have r2 := rel_lay (o := .tup vs) r' hpt
    have al2 : Lim c F' (upd H' pt (.tup vs)) As' e σ (ps ++ qs) := by
      refine ⟨fun p hp => ?_, fun p hp => ?_, l.nw, l.dis⟩
      · have := l.ok p hp
        unfold AirOk at this ⊢
        split
        · rename_i i e'; rw [e'] at this; exact this
        · rename_i d sh A e'
          rw [e'] at this
          exact this.mono (Sub.refl _) fun a _ o q => Sub.new hpt a o q
      · have := l.side p hp
        exact ⟨fun a ha => let ⟨o, ho⟩ := this.here a ha; ⟨o, Sub.new hpt a o ho⟩, this.off, this.apart⟩
    obtain ⟨h1, h2⟩ := h vs _ F' As' qs r2 s' al2 al
    exact ⟨pt, vs, rfl, .inl (.inl upd_same), h1, h1, h2⟩
/-- stores into items are stored from the left -/
theorem swap_noneS {a b c d : Expr} {pa pb : Pos} {es : List Expr} {k k2 : Nat} {p p2 : Pos} {env : PySem.Env} : swappedStores [.Tuple [.Subscript a b pa, .Subscript c d pb] k p] (.Tuple es k2 p2) env = pure none := swap_none rfl
theorem swpE_some {env e : Dv} {i j : Nat} (h : swpE env i j = some e) : ∃ l k m, lstAt env i = some l ∧ env[j]? = some (some (.int k)) ∧ swpL l k = some m ∧ e = env.set i (some (.lst m)) := by
  unfold swpE at h
  split at h
  · rename_i l k h1 h2
    cases q : swpL l k with
    | none => rw [q] at h; cases h
    | some m => rw [q] at h; cases h; exact ⟨l, k, m, h1, h2, q, rfl⟩
  · cases h
/-- x[k], x[k + 1] = x[k + 1], x[k] -/
theorem ss_swp {i j : Nat} {x y : Str} {p1 p2 p3 p4 p5 p6 p7 p8 p9 p10 p11 p12 p13 p14 p15 p16 : Pos} {k1 k2 kt kt2} {pt pt2 pos : Pos} {wf : Nat} (xo : XO X z W) (n : RdOk X i x) (m : RdOk X j y) (hMi : M i = .lst .pure) (hMj : M j = .pure) :
    SS X z M np W rs (.Assign [.Tuple [.Subscript (.Name x p1) (.Name y p2) p3, .Subscript (.Name x p4) (.BinOp (.Name y p5) .Add (.Constant (.int 1) k1 p6) p7) p8] kt pt] (.Tuple [.Subscript (.Name x p9) (.BinOp (.Name y p10) .Add (.Constant (.int 1) k2 p11) p12) p13, .Subscript (.Name x p14) (.Name y p15) p16] kt2 pt2) pos) (exe z.cf wf (.swp i j)) := by
  have vx : ∀ {p : Pos}, PE X (.Name x p) (tVar i) := pe_var n.ix n.vis n.db n.cd
  have vy : ∀ {p : Pos}, PE X (.Name y p) (tVar j) := pe_var m.ix m.vis m.db m.cd
  refine PS.imp (ps_asg (pe_tup (pa_cons (pe_ix ix_list vx (pe_add vy pe_int) (fun _ _ => rfl)) (pa_cons (pe_ix ix_list vx vy (fun _ _ => rfl)) pa_nil rfl) rfl)) (pg_tup (n := 2) xo.calm (pgs_cons (pg_sub vx vy set_list) (pgs_cons (pg_sub vx (pe_add vy pe_int) set_list) pgs_nil)) rfl rfl) rfl (swap_noneS) rfl) fun D σ H h => ?_
  obtain ⟨c, As, F, env, hK, hM, hP, r, h⟩ := h
  simp only [exe] at h
  cases q0 : swpE env i j with
  | none => rw [q0] at h; exact h.elim
  | some e =>
    rw [q0] at h
    obtain ⟨l, k, mm, q1, q2, q3, rfl⟩ := swpE_some q0
    have hMc : c.M i = .lst .pure := by rw [hM]; exact hMi
    have hMj : c.M j = .pure := by rw [hM]; exact hMj
    obtain ⟨p, vs, hv, hp, hz, pr, hA⟩ := slot_lst r hMc q1
    obtain ⟨u, hu, ow⟩ := r.val j _ q2
    rw [hMj] at ow
    cases ow.2.intE
    unfold swpL at q3
    split at q3
    · rename_i d1 d0 h1 h0
      obtain ⟨v1, g1, r1⟩ := atI_paired pr h1
      obtain ⟨v0, g0, r0⟩ := atI_paired pr h0
      cases qa : ixN l.length k with
      | none => rw [qa] at q3; cases q3
      | some a =>
        cases qb : ixN l.length (k + 1) with
        | none => rw [qa, qb] at q3; cases q3
        | some b =>
          rw [qa, qb] at q3
          cases q3
          have ln := paired_len pr
          refine ⟨.ref p, hv, .int k, hu, k, 1, rfl, rfl, p, vs, k + 1, v1, rfl, rfl, .inl (.inl hp), g1, .ref p, hv, .int k, hu, p, vs, k, v0, rfl, rfl, .inl (.inl hp), g0, by show 2 ≤ sizeLine; decide, fun t ht => ?_⟩
          have tp : t ≠ p := fun e => by subst e; rw [hp] at ht; cases ht
          refine ⟨t, [v1, v0], rfl, .inl (.inl upd_same), rfl, v1, [v0], rfl, .ref p, hv, .int k, hu, p, vs, k, a, rfl, rfl, by rw [upd_ne (Ne.symm tp)]; exact hp, by rw [ln]; exact qa, v0, [], rfl, .ref p, hv, .int k, hu, k, 1, rfl, rfl, p, vs.set a v1, k + 1, b, rfl, rfl, upd_same, by rw [List.length_set, ln]; exact qb, rfl, ?_⟩
          rw [upd_upd]
          have r2 := rel_lay (o := .tup [v1, v0]) r ht
          exact h σ _ F _ (r2.write1 hP (lstAt_some q1) hv hA (by rw [hMc]; exact lst_own upd_same (by simpa using hz) (paired_set (paired_set pr r1 a) r0 b))) (Sub.refl _) Kept.refl
    · cases q3
end
end Pv
set_option Elab.async false
set_option linter.all false
set_option maxRecDepth 100000
set_option maxHeartbeats 4000000
namespace Pv
open PySem PySem.Spec PyProof.Rows L2
theorem asg_sub {o i : Expr} {pos : Pos} {env : PySem.Env} (h : okHead i = true) : ∀ v, assign (.Subscript o i pos) env v = (do
      let ov ← holding [v] (eval o env)
      let iv ← holding [v, ov] (eval i env)
      standAt pos
      holding [v, ov, iv] (setItem ov iv v)
      release [v, ov, iv] []) := by
  intro v
  cases i <;> first | rfl | simp [okHead] at h
theorem key_v {K : PySem.W.Frag} {F : Hp} {v : V} {d : D} {k : Key} (r : Rep K F v d) (h : keyOf d = some k) : v = kV k := by
  cases d <;> simp [keyOf] at h
  · subst h; exact r.intE
  · subst h; exact r.strE.1
section
variable {α : Type}
theorem dget_keys {l : List (Key × α)} {k : Key} : (dget l k).isSome = true ↔ k ∈ l.map (·.1) := by
  unfold dget
  rw [Option.isSome_map, List.find?_isSome]
  simp only [decide_eq_true_eq, List.mem_map]
end
theorem any_keys {kvs : List (Key × V)} {k : Key} : (kvs.any fun kv => decide (kv.1 = k)) = true ↔ k ∈ kvs.map (·.1) := by
  simp only [List.any_eq_true, decide_eq_true_eq, List.mem_map]
theorem valV_keys {kvs : List (Key × V)} {k : Key} : (valV kvs k).isSome = true ↔ k ∈ kvs.map (·.1) := by
  unfold valV
  rw [Option.isSome_map, List.find?_isSome]
  simp only [decide_eq_true_eq, List.mem_map]
section
variable {K : PySem.W.Frag} {F H : Hp} {k : Key} {v : V} {d : D}
theorem kvp_keys {kvs : List (Key × V)} {l : List (Key × D)} (pr : Paired (KVp K F) kvs l) : kvs.map (·.1) = l.map (·.1) := by
  induction pr with
  | nil => rfl
  | cons r _ ih => simp only [List.map_cons, ih, r.1]
theorem put_pair {kvs : List (Key × V)} {l : List (Key × D)} (pr : Paired (KVp K F) kvs l) (r : Rep K F v d) : Paired (KVp K F) (putK kvs k v) (putD l k d) := by
  have ke := kvp_keys pr
  unfold putK putD
  by_cases h : k ∈ l.map (·.1)
  · rw [if_pos (any_keys.mpr (by rw [ke]; exact h)), if_pos (dget_keys.mpr h)]
    refine paired_map pr fun x y q => ?_
    by_cases hx : x.1 = k
    · rw [if_pos hx, if_pos (q.1.symm.trans hx)]
      exact ⟨hx, r⟩
    · rw [if_neg hx, if_neg fun e => hx (q.1.trans e)]
      exact q
  · rw [if_neg fun e => h (by rw [← ke]; exact any_keys.mp e), if_neg fun e => h (dget_keys.mp e)]
    exact paired_append pr (.cons ⟨rfl, r⟩ .nil)
theorem put_nodup0 {l : List (Key × D)} (h : (l.map (·.1)).Nodup) : ((putD l k d).map (·.1)).Nodup := by
  unfold putD
  split
  · have e : (l.map fun p => if p.1 = k then (k, d) else p).map (·.1) = l.map (·.1) := by
      rw [List.map_map]
      refine List.map_congr_left fun p _ => ?_
      simp only [Function.comp]
      split
      · rename_i e; exact e.symm
      · rfl
    rw [e]; exact h
  · rename_i hn
    rw [List.map_append, List.nodup_append]
    refine ⟨h, by simp, fun a ha b hb e => ?_⟩
    have hb : b = k := by simpa using hb
    exact hn (dget_keys.mpr (by rw [← hb, ← e]; exact ha))
theorem put_nodup {l : List (Key × D)} (h : KN (l.map (·.1))) (hk : KeyOk k) : KN ((putD l k d).map (·.1)) := by
  refine ⟨put_nodup0 h.1, fun q hq => ?_⟩
  unfold putD at hq
  split at hq
  · obtain ⟨p, hp, rfl⟩ := List.mem_map.mp hq
    obtain ⟨p', hp', rfl⟩ := List.mem_map.mp hp
    split
    · exact hk
    · exact h.2 _ (List.mem_map_of_mem hp')
  · rw [List.map_append, List.mem_append] at hq
    rcases hq with hq | hq
    · exact h.2 q hq
    · have e : q = k := by simpa using hq
      rw [e]; exact hk
theorem key_ok {v : V} {d : D} (r : Rep K F v d) (h : keyOf d = some k) : KeyOk k := by
  cases d <;> simp [keyOf] at h
  · subst h; trivial
  · subst h; exact r.strE.2
theorem putK_len {kvs : List (Key × V)} : (putK kvs k v).length ≤ kvs.length + 1 := length_putK kvs k v
abbrev GD (K : PySem.W.Frag) (F H : Hp) : Key × V → Key × D → List Addr → Prop := fun p q B => p.1 = q.1 ∧ Own K F H (.dct .pure) p.2 q.2 B
theorem trip_keys {kvs : List (Key × V)} {m : List (Key × D)} {As : List (List Addr)} (t : Trip (GD K F H) kvs m As) : kvs.map (·.1) = m.map (·.1) := by
  induction t with
  | nil => rfl
  | cons r _ ih => simp only [List.map_cons, ih, r.1]
theorem map_id_of {m : List (Key × D)} {x : D} (h : k ∉ m.map (·.1)) : (m.map fun p => if p.1 = k then (k, x) else p) = m := by
  have : ∀ p ∈ m, (if p.1 = k then (k, x) else p) = p := fun p hp => by
    rw [if_neg fun e => h (by rw [← e]; exact List.mem_map_of_mem hp)]
  exact (List.map_congr_left this).trans (List.map_id m)
/-- the inner dict of a key, written -/
theorem dd_upd {kvs : List (Key × V)} {m : List (Key × D)} {As : List (List Addr)} (t : Trip (GD K F H) kvs m As) : KN (m.map (·.1)) → As.flatten.Nodup → ∀ {w : V}, valV kvs k = some w →
    ∃ b ukvs n, w = .ref b ∧ b ∈ As.flatten ∧ H b = some (.dK ukvs) ∧ ukvs.length ≤ sizeLine ∧ dget m k = some (.dct n) ∧ KN (n.map (·.1)) ∧ Paired (KVp K F) ukvs n ∧
      ∀ ukvs' n', Paired (KVp K F) ukvs' n' → ukvs'.length ≤ sizeLine → KN (n'.map (·.1)) → ∀ H' : Hp, H' b = some (.dK ukvs') → (∀ a ∈ As.flatten, a ≠ b → ∀ o, H a = some o → H' a = some o) → Trip (GD K F H') kvs (m.map fun p => if p.1 = k then (k, .dct n') else p) As := by
  induction t with
  | nil => intro _ _ w h; cases h
  | @cons x y B kvs m As r t ih =>
    intro kn nd w hw
    have kn0 : y.1 ∉ m.map (·.1) ∧ (m.map (·.1)).Nodup := by simpa using List.nodup_cons.mp (show (y.1 :: m.map (·.1)).Nodup from kn.1)
    have kn' : y.1 ∉ m.map (·.1) ∧ KN (m.map (·.1)) := ⟨kn0.1, kn0.2, fun q hq => kn.2 q (List.mem_cons_of_mem _ hq)⟩
    rw [List.flatten_cons, List.nodup_append] at nd
    obtain ⟨nd1, nd2, nd3⟩ := nd
    by_cases hx : x.1 = k
    · have e : valV (x :: kvs) k = some x.2 := by unfold valV; rw [List.find?_cons_of_pos (by simpa using hx)]; rfl
      rw [e] at hw
      cases hw
      obtain ⟨r1, r2⟩ := r
      have hy : ∃ l, y.2 = .dct l := by
        obtain ⟨a, kvs, l, As, _, e, _⟩ := r2
        exact ⟨l, e⟩
      obtain ⟨l, hl⟩ := hy
      rw [hl] at r2
      obtain ⟨b, ukvs, e1, h1, h2, h3, h4, rfl⟩ := own_dct r2
      have hyk : y.1 = k := r1.symm.trans hx
      refine ⟨b, ukvs, l, e1, by simp, h1, h2, by unfold dget; rw [List.find?_cons_of_pos (by simpa using hyk)]; simp [hl], h3, h4, fun ukvs' n' p1 p2 p3 H' p4 p5 => ?_⟩
      rw [List.map_cons, if_pos hyk, map_id_of (by rw [← hyk]; exact kn'.1)]
      refine .cons ⟨hx, by rw [e1]; exact dct_own p4 p2 p3 p1⟩ (trip_mono t fun a c B' hB' q => ⟨q.1, q.2.mono (Sub.refl _) fun a' ha' o ho => p5 a' (by simp only [List.flatten_cons, List.mem_append]; exact .inr (List.mem_flatten.mpr ⟨B', hB', ha'⟩)) (fun e => ?_) o ho⟩)
      exact nd3 b (by simp) a' (List.mem_flatten.mpr ⟨B', hB', ha'⟩) e.symm
    · have e : valV (x :: kvs) k = valV kvs k := by unfold valV; rw [List.find?_cons_of_neg (by simpa using hx)]
      rw [e] at hw
      have hyk : y.1 ≠ k := fun q => hx (r.1.trans q)
      obtain ⟨b, ukvs, n, e1, hb, h1, h2, h3, h4, h5, h6⟩ := ih kn'.2 nd2 hw
      refine ⟨b, ukvs, n, e1, by simp only [List.flatten_cons, List.mem_append]; exact .inr hb, h1, h2, by unfold dget at h3 ⊢; rw [List.find?_cons_of_neg (by simpa using hyk)]; exact h3, h4, h5, fun ukvs' n' p1 p2 p3 H' p4 p5 => ?_⟩
      rw [List.map_cons, if_neg hyk]
      refine .cons ⟨r.1, r.2.mono (Sub.refl _) fun a' ha' o ho => p5 a' (by simp only [List.flatten_cons, List.mem_append]; exact .inl ha') (fun e => nd3 a' ha' b hb e) o ho⟩ (h6 ukvs' n' p1 p2 p3 H' p4 fun a ha => p5 a (by simp only [List.flatten_cons, List.mem_append]; exact .inr ha))
theorem trip_append {α β γ : Type} {G : α → β → γ → Prop} {l l' : List α} {m m' : List β} {n n' : List γ} (h : Trip G l m n) (h' : Trip G l' m' n') : Trip G (l ++ l') (m ++ m') (n ++ n') := by
  induction h with
  | nil => exact h'
  | cons r _ ih => exact .cons r ih
end
section
variable {X : Cx} {z : Z} {M : Nat → Sh} {np : Nat} {W : WX} {rs : Sh} {σ σ1 : L2.St} {H : Hp} {D : Ends}
/-- x[k] = e, x a changeable dict of plain things -/
theorem ss_setD {i : Nat} {x : Str} {ek ea : Expr} {k a : E} {px tp pos : Pos} {wf : Nat} (xo : XO X z W) (n : RdOk X i x) (hMi : M i = .dct .pure) (hc : isComp ea = false) (ha : SE X z M W .pure ea (ev z.cf a)) (hk : SE X z M W .pure ek (ev z.cf k)) :
    SS X z M np W rs (.Assign [.Subscript (.Name x px) ek tp] ea pos) (exe z.cf wf (.setD i k a)) := by
  have hu := xo.hu
  refine PS.imp (ps_dput (by omega) (pe_var n.ix n.vis n.db n.cd) hk ha (no_swap hc _ _ _)) fun D σ H h => ?_
  obtain ⟨c, As, F, env, hK, hM, hP, r, h⟩ := h
  simp only [exe] at h
  cases q0 : dctAt env i with
  | none => rw [q0] at h; exact h.elim
  | some l0 =>
    rw [q0] at h
    have h : okS z np W c rs F σ (bindO (ev z.cf a env) fun d env => bindO (ev z.cf k env) fun j env => nxO (setDE env i j d)) D := h
    have hMc : c.M i = .dct .pure := by rw [hM]; exact hMi
    obtain ⟨p, vs, hv, hp, hz, kn, pr, hA⟩ := slot_dct r hMc q0
    refine ⟨c, As, F, env, hK, hM, r, okS.bind (As := As) (env := env) h fun d e v H' F' As' A _ h r' s' o nw => ?_⟩
    refine ⟨.ref p, hv, c, As', F', e, hK, hM, r', okS.bind (As := As') (env := e) h fun dj e2 vj H2 F2 As2 A2 _ h r2 s2 o2 n2 => ?_⟩
    unfold setDE at h
    cases q1 : dctAt e2 i with
    | none => rw [q1] at h; exact h.elim
    | some l =>
      rw [q1] at h
      cases q2 : keyOf dj with
      | none => rw [q2] at h; exact h.elim
      | some kk =>
        rw [q2] at h
        simp only [] at h
        split at h
        · rename_i hb
          obtain ⟨p', vs2, hv2, hp2, hz2, kn2, pr2, hA2⟩ := slot_dct r2 hMc q1
          rw [hv] at hv2
          cases hv2
          have hlen : vs2.length + 1 ≤ sizeLine := by rw [paired_len pr2]; exact big_size hb
          rw [key_v o2.2 q2]
          refine ⟨p, _, rfl, DPut.k hp2 hlen, ?_⟩
          exact h σ _ F2 _ (r2.write1 hP (dctAt_some q1) hv hA2 (by rw [hMc]; exact dct_own upd_same (Nat.le_trans putK_len hlen) (put_nodup kn2 (key_ok o2.2 q2)) (put_pair pr2 (s2.rep o.2)))) (Sub.refl _) Kept.refl
        · exact h.elim
/-- x.setdefault(k, {})[l] = e -/
theorem ss_sdd {i j : Nat} {x y : Str} {ek ea : Expr} {k a : E} {px py ap cp pd tp pos : Pos} {wf : Nat} (xo : XO X z W) (n : RdOk X i x) (nl : RdOk X j y) (hMi : M i = .dct (.dct .pure)) (hMj : M j = .pure) (hc : isComp ea = false) (hh : okHead ek = true) (hln : (ap.endLine == cp.line) = true)
    (ha : SE X z M W .pure ea (ev z.cf a)) (hk : SE X z M W .pure ek (ev z.cf k)) :
    SS X z M np W rs (.Assign [.Subscript (.Call (.Attribute (.Name x px) "setdefault" ap) [ek, .Dict [] [] pd] [] cp) (.Name y py) tp] ea pos) (exe z.cf wf (.sdd i k (.var j) a)) := by
  have hu := xo.hu
  have h1 : swapsWithSole [.Subscript (.Call (.Attribute (.Name x px) "setdefault" ap) [ek, .Dict [] [] pd] [] cp) (.Name y py) tp] ea pos.line X.env = pure false := by
    show swapsWith ea (some (.Subscript (.Call (.Attribute (.Name x px) "setdefault" ap) [ek, .Dict [] [] pd] [] cp) (.Name y py) tp)) pos.line X.env = pure false
    exact no_swap hc _ _ _
  have h2 : swappedStores [.Subscript (.Call (.Attribute (.Name x px) "setdefault" ap) [ek, .Dict [] [] pd] [] cp) (.Name y py) tp] ea X.env = pure none := no_store (tg := .Subscript (.Call (.Attribute (.Name x px) "setdefault" ap) [ek, .Dict [] [] pd] [] cp) (.Name y py) tp) (.inr ⟨rfl, fun ts p e => by cases e⟩) X.env
  refine PS.imp (ps_asg ha (pg_sub (pe_dsetd (pe_var n.ix n.vis n.db n.cd) hk pe_dnewK (m2Ok rfl hh rfl hln)) (pe_var nl.ix nl.vis nl.db nl.cd) (set_dict (by omega)) (asg_sub rfl)) h1 h2 rfl) fun D σ H h => ?_
  obtain ⟨c, As, F, env, hK, hM, hP, r, h⟩ := h
  simp only [exe] at h
  have hMc : c.M i = .dct (.dct .pure) := by rw [hM]; exact hMi
  refine ⟨c, As, F, env, hK, hM, r, okS.bind (As := As) (env := env) h fun d e v H1 F1 As1 A _ h r1 s1 o nw => ?_⟩
  cases q0 : dctAt e i with
  | none => rw [q0] at h; exact h.elim
  | some m0 =>
    rw [q0] at h
    have h : okS z np W c rs F1 σ (bindO (ev z.cf k e) fun a env => bindO (ev z.cf (.var j) env) fun b env => nxO (sddE env i a b d)) D := h
    obtain ⟨v0, hv, ho⟩ := r1.val i _ (dctAt_some q0)
    rw [hMc] at ho
    obtain ⟨p, kvs0, l0, B0, rfl, _, hp0, _⟩ := ho
    refine ⟨.ref p, hv, p, rfl, .inl ⟨kvs0, .inl hp0⟩, c, As1, F1, e, hK, hM, r1, okS.bind (As := As1) (env := e) h fun dk e2 vk H2 F2 As2 A2 _ h r2 s2 o2 n2 => ?_⟩
    simp only [ev] at h
    cases qj : e2[j]? with
    | none => rw [qj] at h; exact h.elim
    | some oj =>
      cases oj with
      | none => rw [qj] at h; exact h.elim
      | some dl =>
        rw [qj] at h
        have h : okS z np W c rs F2 σ (nxO (sddE e2 i dk dl d)) D := h
        obtain ⟨vl, hvl, hol⟩ := r2.val j dl qj
        rw [hM, hMj] at hol
        unfold sddE at h
        cases q1 : dctAt e2 i with
        | none => rw [q1] at h; exact h.elim
        | some m =>
          cases q2 : keyOf dk with
          | none => rw [q1, q2] at h; exact h.elim
          | some kk =>
            cases q3 : keyOf dl with
            | none => rw [q1, q2, q3] at h; exact h.elim
            | some ll =>
              rw [q1, q2, q3] at h
              simp only [] at h
              obtain ⟨v2, hv2, ho2⟩ := r2.val i _ (dctAt_some q1)
              rw [hv] at hv2
              cases hv2
              rw [hMc] at ho2
              obtain ⟨p', kvs, m', Bs, e1, e2', hp, hz, kn, t, hA, nd⟩ := ho2
              cases e1
              cases e2'
              have ke : kvs.map (·.1) = m.map (·.1) := trip_keys t
              have ndf : p ∉ Bs.flatten ∧ Bs.flatten.Nodup := by rw [hA] at nd; exact List.nodup_cons.mp nd
              intro q hq
              have hpq : p ≠ q := fun e => by rw [e, hq] at hp; cases hp
              have hlen : kvs.length = m.length := by simpa using congrArg List.length ke
              rw [key_v o2.2 q2]
              cases qg : dget m kk with
              | some din =>
                have hin : kk ∈ kvs.map (·.1) := by rw [ke]; exact dget_keys.mp (by rw [qg]; rfl)
                obtain ⟨w, hw⟩ := Option.isSome_iff_exists.mp (valV_keys.mpr hin)
                obtain ⟨b, ukvs, nn, rfl, hb, hb1, hb2, hb3, hb4, hb5, hb6⟩ := dd_upd t kn ndf.2 hw
                rw [qg] at hb3
                cases hb3
                rw [qg] at h
                simp only [Option.getD_some] at h
                split at h
                · rename_i hbig
                  have hbq : b ≠ q := fun e => by rw [e, hq] at hb1; cases hb1
                  have hbp : b ≠ p := fun e => ndf.1 (e ▸ hb)
                  have hu1 : ukvs.length + 1 ≤ sizeLine := by rw [paired_len hb5]; exact big_size hbig.2
                  refine ⟨kvs, kk, by rw [upd_ne hpq]; exact hp, rfl, ?_, fun w2 hw2 => ?_, fun hn => by rw [hw] at hn; cases hn⟩
                  · rw [hlen]; exact big_size hbig.1
                  · rw [hw] at hw2
                    cases hw2
                    refine ⟨vl, hvl, b, upd (upd H2 q (.dK [])) b (.dK (putK ukvs ll v)), rfl, ?_, ?_⟩
                    · rw [key_v hol.2 q3]
                      exact DPut.k (by rw [upd_ne hbq]; exact hb1) hu1
                    · have pp := put_pair (k := ll) hb5 (s2.rep o.2)
                      have tt := hb6 _ _ pp (Nat.le_trans putK_len hu1) (put_nodup hb4 (key_ok hol.2 q3)) (upd (upd H2 q (.dK [])) b (.dK (putK ukvs ll v))) upd_same fun a' ha' hne o' ho' => by
                        rw [upd_ne hne, upd_ne (fun e => by rw [e, hq] at ho'; cases ho')]; exact ho'
                      have eput : putD m kk (.dct (putD nn ll d)) = m.map fun p => if p.1 = kk then (kk, .dct (putD nn ll d)) else p := by
                        unfold putD
                        rw [if_pos (by rw [qg]; rfl)]
                      rw [eput] at h
                      refine h σ _ F2 _ (r2.rewrite (A := p :: Bs.flatten) hP (dctAt_some q1) hv ?_ (fun a' ha' => .inl (by rw [hA]; exact ha')) fun a' u ha' hn => ?_) (Sub.refl _) Kept.refl
                      · rw [hMc]
                        refine ⟨p, kvs, _, Bs, rfl, rfl, by rw [upd_ne (Ne.symm hbp), upd_ne hpq]; exact hp, hz, ?_, tt, rfl, by rw [← hA]; exact hA ▸ nd⟩
                        have := put_nodup (k := kk) (d := .dct (putD nn ll d)) kn (key_ok o2.2 q2)
                        rw [eput] at this
                        exact this
                      · rw [upd_ne (fun e => hn (by rw [hA, e]; exact List.mem_cons_of_mem _ hb)), upd_ne (fun e => by rw [e, hq] at ha'; cases ha')]
                        exact ha'
                · exact h.elim
              | none =>
                have hnk : kk ∉ kvs.map (·.1) := fun hm => by
                  rw [ke] at hm
                  have := dget_keys.mpr hm
                  rw [qg] at this; cases this
                have hw : valV kvs kk = none := by
                  cases qv : valV kvs kk with
                  | none => rfl
                  | some w => exact absurd (valV_keys.mp (by rw [qv]; rfl)) hnk
                rw [qg] at h
                simp only [Option.getD_none] at h
                split at h
                · rename_i hbig
                  have hk1 : kvs.length + 1 ≤ sizeLine := by rw [hlen]; exact big_size hbig.1
                  refine ⟨kvs, kk, by rw [upd_ne hpq]; exact hp, rfl, hk1, (fun w2 hw2 => by rw [hw] at hw2; cases hw2), fun _ => ?_⟩
                  have hput : putK kvs kk (.ref q) = kvs ++ [(kk, .ref q)] := by
                    unfold putK
                    rw [if_neg fun e => hnk (any_keys.mp e)]
                  have eput : putD m kk (.dct (putD [] ll d)) = m ++ [(kk, .dct (putD [] ll d))] := by
                    unfold putD
                    rw [if_neg (by rw [qg]; simp)]
                  rw [eput] at h
                  rw [hput]
                  refine ⟨vl, hvl, q, upd (upd (upd H2 q (.dK [])) p (.dK (kvs ++ [(kk, .ref q)]))) q (.dK (putK [] ll v)), rfl, ?_, ?_⟩
                  · rw [key_v hol.2 q3]
                    exact DPut.k (by rw [upd_ne (Ne.symm hpq), upd_same]) (by show 0 < sizeLine; decide)
                  · have hq' : ∀ a' ∈ Bs.flatten, a' ≠ q := fun a' ha' e => by
                      subst e
                      obtain ⟨B', hB', hm⟩ := List.mem_flatten.mp ha'
                      obtain ⟨x', y', g⟩ := trip_each t hB'
                      obtain ⟨u, hu', _⟩ := g.2.there _ hm
                      rw [hq] at hu'; cases hu'
                    have hp' : ∀ a' ∈ Bs.flatten, a' ≠ p := fun a' ha' e => ndf.1 (e ▸ ha')
                    refine h σ _ F2 _ (r2.rewrite (A := p :: (Bs ++ [[q]]).flatten) hP (dctAt_some q1) hv ?_ (fun a' ha' => ?_) fun a' u ha' hn => ?_) (Sub.refl _) Kept.refl
                    · rw [hMc]
                      have pp : Paired (KVp c.K F2) (putK [] ll v) (putD [] ll d) := put_pair .nil (s2.rep o.2)
                      have ownq : Own c.K F2 (upd (upd (upd H2 q (.dK [])) p (.dK (kvs ++ [(kk, .ref q)]))) q (.dK (putK [] ll v))) (.dct .pure) (.ref q) (.dct (putD [] ll d)) [q] :=
                        dct_own upd_same (Nat.le_trans putK_len (by show 1 ≤ sizeLine; decide)) (put_nodup KN.nil (key_ok hol.2 q3)) pp
                      refine ⟨p, kvs ++ [(kk, .ref q)], _, Bs ++ [[q]], rfl, rfl, by rw [upd_ne hpq, upd_same], by simpa using hk1, ?_, trip_append (trip_mono t fun a'' b'' B' hB' g => ⟨g.1, g.2.mono (Sub.refl _) fun a' ha' o' ho' => ?_⟩) (.cons ⟨rfl, ownq⟩ .nil), rfl, ?_⟩
                      · have := put_nodup (k := kk) (d := .dct (putD [] ll d)) kn (key_ok o2.2 q2)
                        rw [eput] at this
                        exact this
                      · have hm : a' ∈ Bs.flatten := List.mem_flatten.mpr ⟨B', hB', ha'⟩
                        rw [upd_ne (hq' a' hm), upd_ne (hp' a' hm), upd_ne (hq' a' hm)]
                        exact ho'
                      · rw [List.flatten_append]
                        simp only [List.flatten_cons, List.flatten_nil, List.append_nil]
                        rw [List.nodup_cons, List.nodup_append]
                        refine ⟨fun hm => ?_, ndf.2, by simp, fun a' ha' b' hb' e => ?_⟩
                        · rcases List.mem_append.mp hm with hm | hm
                          · exact ndf.1 hm
                          · exact hpq (by simpa using hm)
                        · have : b' = q := by simpa using hb'
                          exact hq' a' ha' (e.trans this)
                    · rcases List.mem_cons.mp ha' with e | ha'
                      · exact .inl (by rw [hA, e]; exact List.mem_cons_self)
                      · rw [List.flatten_append] at ha'
                        rcases List.mem_append.mp ha' with ha' | ha'
                        · exact .inl (by rw [hA]; exact List.mem_cons_of_mem _ ha')
                        · have : a' = q := by simpa using ha'
                          exact .inr (by rw [this]; exact hq)
                    · have e1 : a' ≠ q := fun e => by rw [e, hq] at ha'; cases ha'
                      have e2 : a' ≠ p := fun e => hn (by rw [hA, e]; exact List.mem_cons_self)
                      rw [upd_ne e1, upd_ne e2, upd_ne e1]
                      exact ha'
                · exact h.elim
end
end Pv
set_option Elab.async false
set_option linter.all false
set_option maxRecDepth 100000
set_option maxHeartbeats 4000000
namespace Pv
open PySem PySem.Spec PyProof.Rows L2
theorem Own.nodup {K : PySem.W.Frag} {Hf H : Hp} {s : Sh} {v : V} {d : D} {A : List Addr} (h : Own K Hf H s v d A) : A.Nodup := by
  cases s with
  | pure => rw [h.1]; simp
  | lst s => obtain ⟨_, _, _, _, _, _, _, _, _, _, nd⟩ := h; exact nd
  | dct s => obtain ⟨_, _, _, _, _, _, _, _, _, _, _, nd⟩ := h; exact nd
  | pair s t => obtain ⟨_, _, _, _, _, _, _, _, _, _, _, _, _, nd⟩ := h; exact nd
  | obj c =>
    obtain ⟨a, dx, fs, l, As, g, rfl, rfl, ha, fo, t, n1, n2, rfl⟩ := h
    rw [List.nodup_cons]
    refine ⟨fun hm => ?_, ?_⟩
    · obtain ⟨k, d, e, hb⟩ := mem_owned.mp hm
      exact n1 k d e hb
    · unfold owned List.Nodup
      rw [List.pairwise_flatMap]
      refine ⟨fun k hk => ?_, ?_⟩
      · split
        · rename_i q
          rw [List.mem_range] at hk
          rw [List.getElem?_eq_getElem hk] at q
          simp only [Option.getD_some] at q
          obtain ⟨d, hd⟩ := Option.isSome_iff_exists.mp q
          obtain ⟨f, s, _, _, o⟩ := t k d (by rw [List.getElem?_eq_getElem hk, hd])
          cases s with
          | pure => rw [o.1]; exact .nil
          | lst => obtain ⟨_, _, _, _, _, _, _, _, e⟩ := o; rw [e]; exact List.pairwise_singleton _ _
          | dct => obtain ⟨_, _, _, _, _, _, _, _, _, e⟩ := o; rw [e]; exact List.pairwise_singleton _ _
        · exact .nil
      · refine List.Pairwise.imp_of_mem (R := fun (i j : Nat) => i ≠ j) ?_ (List.nodup_range)
        intro i j hi hj hn x hx y hy
        rw [List.mem_range] at hi hj
        have live : ∀ {i : Nat} {x : Addr} (hi : i < l.length), x ∈ (if (l[i]?.getD none).isSome = true then As i else []) → ∃ d, l[i]? = some (some d) ∧ x ∈ As i := fun {i x} hi hx => by
          split at hx
          · rename_i q
            rw [List.getElem?_eq_getElem hi] at q
            simp only [Option.getD_some] at q
            obtain ⟨d, hd⟩ := Option.isSome_iff_exists.mp q
            exact ⟨d, by rw [List.getElem?_eq_getElem hi, hd], hx⟩
          · simp at hx
        obtain ⟨d, e1, hx⟩ := live hi hx
        obtain ⟨d', e2, hy⟩ := live hj hy
        exact fun e => n2 i j d d' hn e1 e2 x hx (e ▸ hy)
theorem New.sub {c : Ctx} {F H : Hp} {As : Nat → List Addr} {env : Dv} {A B : List Addr} (n : New c F H As env A) (h : ∀ a ∈ B, a ∈ A) : New c F H As env B :=
  ⟨⟨fun a ha => n.side.here a (h a ha), fun a ha => n.side.off a (h a ha), fun a ha => n.side.apart a (h a ha)⟩, fun a ha => n.nw a (h a ha)⟩
section
variable {X : Cx} {z : Z} {M : Nat → Sh} {W : WX} {np : Nat} {rs : Sh}
/-- (a, b), each of its shape -/
theorem snd_pair {ea eb : Expr} {a b : E} {s t : Sh} {x1} {pos : Pos} (ra : isRef a = false) (rb : isRef b = false) (ha : L2.PA X [ea, eb] (tArg z M W [a, b] [s, t])) : SE X z M W (.pair s t) (.Tuple [ea, eb] x1 pos) (ev z.cf (.tup [a, b])) := by
  refine PE.imp (pe_tupG ha) fun σ H Q h => ?_
  obtain ⟨c, As, F, env, hK, hM, r, h⟩ := h
  refine ⟨c, As, F, env, [], hK, hM, r, Lim.nil, ?_⟩
  have h' : okE z W c (.pair s t) F σ (bindR (evs z.cf [a, b] env) fun ds e => .ok (.tup ds) e) Q := h
  cases q : evs z.cf [a, b] env with
  | stuck => rw [q] at h'; exact h'
  | exc x e => rw [q] at h'; exact h'
  | ok ds e =>
    rw [q] at h'
    intro vs H' F' As' qs r' s' l al
    rw [List.nil_append] at l
    cases al with
    | ref _ _ => simp [isRef] at ra
    | @val u _ x A vs _ _ _ ds qs _ al =>
      cases al with
      | ref _ _ => simp [isRef] at rb
      | @val w _ y B vs _ _ _ ds qs _ al =>
        cases al
        refine ⟨by show 2 ≤ sizeLine; decide, fun p ob hd hp => ?_⟩
        have o1 : Own c.K F' H' s u x A := l.ok _ List.mem_cons_self
        have o2 : Own c.K F' H' t w y B := l.ok _ (List.mem_cons_of_mem _ List.mem_cons_self)
        have d1 := (List.pairwise_cons.mp l.dis).1 _ List.mem_cons_self
        have sa := l.side _ List.mem_cons_self
        have sb := l.side _ (List.mem_cons_of_mem _ List.mem_cons_self)
        have na := l.nw _ List.mem_cons_self
        have nb := l.nw _ (List.mem_cons_of_mem _ List.mem_cons_self)
        have g : Grow F' H' (upd F' p (.frz ob (.tup [u, w]))) (upd H' p (.frz ob (.tup [u, w]))) := Grow.new r'.sub hp
        have pA : ∀ a ∈ A ++ B, a ≠ p := fun a ha e => by
          subst e
          rcases List.mem_append.mp ha with ha | ha
          · obtain ⟨o, ho⟩ := sa.here a ha
            rw [hp] at ho; cases ho
          · obtain ⟨o, ho⟩ := sb.here a ha
            rw [hp] at ho; cases ho
        refine h' (.ref p) _ _ As' (A ++ B) (r'.grow g) (s'.trans g.f) ⟨p, u, w, x, y, A, B, rfl, rfl, .inl ⟨ob, upd_same, hd⟩, o1.mono g.f fun b _ o hb => g.h b o hb, o2.mono g.f fun b _ o hb => g.h b o hb, rfl, ?_⟩ ⟨⟨fun b hb => ?_, fun b hb => ?_, fun b hb => ?_⟩, fun b hb => ?_⟩
        · rw [List.nodup_append]
          exact ⟨o1.nodup, o2.nodup, fun b hb b' hb' e => d1 b hb (e ▸ hb')⟩
        · rcases List.mem_append.mp hb with hb | hb
          · obtain ⟨o, ho⟩ := sa.here b hb
            exact ⟨o, g.h b o ho⟩
          · obtain ⟨o, ho⟩ := sb.here b hb
            exact ⟨o, g.h b o ho⟩
        · rw [upd_ne (pA b hb)]
          rcases List.mem_append.mp hb with hb | hb
          · exact sa.off b hb
          · exact sb.off b hb
        · rcases List.mem_append.mp hb with hb | hb
          · exact sa.apart b hb
          · exact sb.apart b hb
        · rcases List.mem_append.mp hb with hb | hb
          · exact na b hb
          · exact nb b hb
def pairSh : Nat → Sh → Sh → Sh
  | 0, s, o => .pair s o
  | _, s, o => .pair o s
theorem snd_pick {ea eb : Expr} {a : E} {k : Nat} {o sh : Sh} {pos : Pos} (xo : XO X z W) (hk : k = 0 ∨ k = 1) (hb : PE X eb (tC (.int k))) (hs : PlainIx eb) (ha : SE X z M W (pairSh k sh o) ea (ev z.cf a)) : SE X z M W sh (.Subscript ea eb pos) (ev z.cf (.pick k o a)) := by
  refine PE.imp (pe_ix ix_seq ha hb hs) fun σ H Q h => ?_
  obtain ⟨c, As, F, env, hK, hM, r, h⟩ := h
  have h' : okE z W c sh F σ (bindR (ev z.cf a env) fun x e => liftO (pickD k x) e) Q := h
  refine ⟨c, As, F, env, hK, hM, r, ?_⟩
  cases q : ev z.cf a env with
  | stuck => rw [q] at h'; exact h'
  | exc x e => rw [q] at h'; exact h'
  | ok d e =>
    rw [q] at h'
    intro v H' F' As' A r' s' ow n
    have kK : X.K = c.K := by rw [xo.K, hK]
    rcases hk with rfl | rfl
    · obtain ⟨p, u, w, x, y, B, C, rfl, rfl, ht, h1, h2, rfl, nd⟩ := ow
      have h2 : okE z W c sh F σ (.ok x e) Q := h'
      refine .inr (.inl ⟨p, [u, w], 0, u, rfl, rfl, ?_, rfl, h2 u H' F' As' B r' s' h1 (n.sub fun b hb => List.mem_append_left _ hb)⟩)
      rw [kK]
      exact Rep.sub_st r'.sub ht
    · obtain ⟨p, u, w, x, y, B, C, rfl, rfl, ht, h1, h2, rfl, nd⟩ := ow
      have h3 : okE z W c sh F σ (.ok y e) Q := h'
      refine .inr (.inl ⟨p, [u, w], 1, w, rfl, rfl, ?_, rfl, h3 w H' F' As' C r' s' h2 (n.sub fun b hb => List.mem_append_right _ hb)⟩)
      rw [kK]
      exact Rep.sub_st r'.sub ht
/-- x, y = an owned pair -/
theorem ss_asgP {i j : Nat} {ts : List Expr} {e : Expr} {a : E} {k : Nat} {p pos : Pos} {wf : Nat} (xo : XO X z W) (hc : isComp e = false) (ht : isTup e = false) (n : NmsL X ts [i, j]) (hij : i ≠ j) (hn : ∀ k ∈ [i, j], M k = .pure ∨ np ≤ k) (he : SE X z M W (.pair (M i) (M j)) e (ev z.cf a)) :
    SS X z M np W rs (.Assign [.Tuple ts k p] e pos) (exe z.cf wf (.asgP i j a)) := by
  obtain ⟨l1, l2⟩ := nmsL_len n
  refine PS.imp (ps_asg he (pg_tup xo.calm (pgs_nmsL xo n) l1 l2) (by cases e <;> first | rfl | (simp [isComp] at hc)) (no_store (.inl ht) X.env) rfl) fun D σ H h => ?_
  obtain ⟨c, As, F, env, hK, hM, hP, r, h⟩ := h
  simp only [exe] at h
  refine ⟨c, As, F, env, hK, hM, r, okS.bind (As := As) (env := env) h fun d e v H' F' As' A _ h r' s' ow nw => ?_⟩
  obtain ⟨p, u, w, x, y, B, C, rfl, rfl, htp, h1, h2, rfl, nd⟩ := ow
  have kK : X.K = c.K := by rw [xo.K, hK]
  have nB := nw.sub (B := B) fun b hb => List.mem_append_left _ hb
  have nC := nw.sub (B := C) fun b hb => List.mem_append_right _ hb
  have h1 : Own c.K F' H' (c.M i) u x B := by rw [hM]; exact h1
  have h2 : Own c.K F' H' (c.M j) w y C := by rw [hM]; exact h2
  have r1 := r'.setOwn hP h1 nB
  rw [List.nodup_append] at nd
  have nC1 : New c F' H' (fun k => if k = i then B else As' k) (e.set i (some x)) C := by
    refine ⟨⟨nC.side.here, nC.side.off, fun b hb hm => ?_⟩, nC.nw⟩
    obtain ⟨m, g, q1, q2⟩ := mem_owned.mp hm
    by_cases hmi : m = i
    · simp only [if_pos hmi] at q2
      exact nd.2.2 b q2 b hb rfl
    · simp only [if_neg hmi] at q2
      rw [List.getElem?_set_ne (Ne.symm hmi)] at q1
      exact nC.side.apart b hb (mem_owned.mpr ⟨m, g, q1, q2⟩)
  have r2 := r1.setOwn hP h2 nC1
  refine ⟨p, [u, w], rfl, by rw [kK]; exact Rep.sub_st r'.sub htp, rfl, rfl, h _ _ _ _ r2 (Sub.refl _) (Kept.chg (setV_chg [i, j] [u, w] σ) fun m hm => ?_)⟩
  rw [hM]
  exact hn m hm
theorem appPV_some {x : Str} {o : Option (Option D)} {d : D} (h : appPV x o = some d) : ∃ a l, o = some (some (.tup [a, .lst l])) ∧ l.length < BIG ∧ d = .tup [a, .lst (l ++ [.str x])] := by
  unfold appPV at h
  split at h
  · split at h
    · cases h; exact ⟨_, _, rfl, by assumption, rfl⟩
    · cases h
  · cases h
/-- x[1].append(a text) -/
theorem ss_appP {i : Nat} {x v : Str} {eb ea : Expr} {px sp ap cp pos : Pos} {wf : Nat} (xo : XO X z W) (n : RdOk X i x) (hMi : M i = .pair .pure (.lst .pure)) (hb : PE X eb (tC (.int (1 : Nat)))) (hs : PlainIx eb) (ha : PE X ea (tC (.str v))) (hvl : v.length ≤ sizeLine) (hvo : PyData.strOk v = true) (hh : okHead ea = true) (hl : (ap.endLine == cp.line) = true) :
    SS X z M np W rs (.Expr (.Call (.Attribute (.Subscript (.Name x px) eb sp) "append" ap) [ea] [] cp) pos) (exe z.cf wf (.appP i v)) := by
  have hd : allHead [ea] = true := by simp [allHead, hh]
  refine PS.imp (ps_expr (pe_bm PySem.F.plainAttrs_list PySem.F.slot_list_append PySem.F.type_list_append mt_append (pe_ix ix_seq (pe_var n.ix n.vis n.db n.cd) hb hs) (pa_cons ha pa_nil (nonStar hh [] X.env)) rfl (fewOk hd (by simp) cp X.env) hl (nonStar hh [] X.env) rfl) (no_swap rfl _ _ _)) fun D σ H h => ?_
  obtain ⟨c, As, F, env, hK, hM, hP, r, h⟩ := h
  simp only [exe] at h
  cases q0 : appPV v env[i]? with
  | none => rw [q0] at h; exact h.elim
  | some d =>
    rw [q0] at h
    obtain ⟨a, l, q1, hbig, rfl⟩ := appPV_some q0
    have hMc : c.M i = .pair .pure (.lst .pure) := by rw [hM]; exact hMi
    obtain ⟨u, hv, ow⟩ := r.val i _ q1
    rw [hMc] at ow
    obtain ⟨p, u1, w1, x1, y1, B, C, rfl, e1, ht, h1, h2, hA, nd⟩ := ow
    cases e1
    obtain ⟨b, vs, rfl, hbb, hz, pr, rfl⟩ := own_lst h2
    have hB : B = [] := h1.1
    subst hB
    have kK : X.K = c.K := by rw [xo.K, hK]
    have hlen : vs.length + 1 ≤ sizeLine := by rw [paired_len pr]; exact big_size hbig
    refine ⟨.ref p, hv, .inr (.inl ⟨p, [u1, .ref b], 1, .ref b, rfl, rfl, ?_, rfl, ?_⟩)⟩
    · rw [kK]
      exact Rep.sub_st r.sub ht
    · refine ⟨.inl ⟨rfl, vs, .inl (.inl hbb)⟩, b, vs, .str v, rfl, rfl, hbb, hlen, ?_⟩
      refine h σ _ F _ (r.rewrite (A := [b]) hP q1 hv (by
        rw [hMc]
        exact ⟨p, u1, .ref b, a, .lst (l ++ [.str v]), [], [b], rfl, rfl, ht, ⟨rfl, h1.2⟩, lst_own upd_same (by simpa using hlen) (paired_append pr (.cons (.str v hvl hvo) .nil)), rfl, by simp⟩) (fun y hy => .inl (by rw [hA]; simpa using hy)) fun y w q nn => ?_) (Sub.refl _) Kept.refl
      rw [hA] at nn
      rw [upd_ne (by simpa using nn)]
      exact q
end
end Pv
set_option Elab.async false
set_option linter.all false
set_option maxRecDepth 100000
set_option maxHeartbeats 4000000
namespace Pv
open PySem PySem.Spec PyProof.Rows L2
theorem kvp_sub {K : PySem.W.Frag} {F F' : Hp} {kvs : List (Key × V)} {l : List (Key × D)} (s : Sub F F') (h : Paired (KVp K F) kvs l) : Paired (KVp K F') kvs l := paired_mono h fun _ _ r => ⟨r.1, s.rep r.2⟩
theorem trip_kv {K : PySem.W.Frag} {F H : Hp} {kvs : List (Key × V)} {l : List (Key × D)} (pr : Paired (KVp K F) kvs l) : Trip (fun (p : Key × V) (q : Key × D) B => p.1 = q.1 ∧ Own K F H .pure p.2 q.2 B) kvs l (l.map fun _ => []) := by
  induction pr with
  | nil => exact .nil
  | cons r _ ih => exact .cons ⟨r.1, rfl, r.2⟩ ih
theorem flat_nilK : ∀ l : List (Key × D), (l.map fun _ => ([] : List Addr)).flatten = []
  | [] => rfl
  | _ :: l => by simp [flat_nilK l]
section
variable {X : Cx} {z : Z} {M : Nat → Sh} {W : WX} {σ : L2.St} {H : Hp} {Q : VK} {tp : Bool}
theorem dc_of {own : List Nat} {t : Tg} {it : It} {c : Option E} {kx vx : E} (hown : ∀ i ∈ own, M i = .pure) (hts : ∀ i ∈ tgSlots t, i ∈ own) (h : tF z M W (.dct .pure) (ev z.cf (.dc own t it c kx vx)) σ H Q) :
    tDc (tI z M W tp (evIt z.cf it)) (gB z M tp t) (tCe z M noW c) (tF z M noW .pure (ev z.cf kx)) (tF z M noW .pure (ev z.cf vx)) own σ H Q := by
  obtain ⟨c0, As, F, env, hK, hM, r, h⟩ := h
  refine ⟨c0, As, F, env, hK, hM, r, ?_⟩
  simp only [ev] at h
  cases q : evIt z.cf it env with
  | stuck => rw [q] at h; exact h
  | exc x e' => rw [q] at h; exact h
  | ok l e1 =>
    rw [q] at h
    have h : okE z W c0 (.dct .pure) F σ (compRunD own t (evC z.cf c) (ev z.cf kx) (ev z.cf vx) l e1) Q := h
    intro J H1 F1 As1 r1 s1 w D hD
    unfold compRunD at h
    cases q2 : compLoopD own t (evC z.cf c) (ev z.cf kx) (ev z.cf vx) l (wipeE e1 own) [] with
    | stuck => rw [q2] at h; exact h.elim
    | exc x e' => rw [q2] at h; exact h.elim
    | ok l' e' =>
      rw [q2] at h
      have hP : (noP c0).P = fun _ => none := rfl
      have hD0 : c0.H0 D = none ∨ D ∈ c0.A0 := r1.h0 hD
      have one : ∀ {p : Addr → Prop}, p D → ∀ a ∈ [D], p a := fun {p} hp a ha => by
        have e : a = D := by simpa using ha
        rw [e]; exact hp
      refine ⟨fun i m H => ∃ As F' env' acc av, i ≤ l.length ∧ m = l.length - i ∧ Rel (noP c0) As F' env' (wipe σ own) H ∧ Sub F1 F' ∧ H D = some (.dK av) ∧ F' D = none ∧ D ∉ owned As env' ∧ Paired (KVp c0.K F') av acc ∧ KN (acc.map (·.1)) ∧ av.length ≤ sizeLine ∧ compLoopD own t (evC z.cf c) (ev z.cf kx) (ev z.cf vx) (l.drop i) env' acc = .ok l' e', ⟨l.length, ?_⟩, ?_⟩
      · have r2 : Rel (noP c0) As1 F1 (wipeE e1 own) (wipe σ own) (upd H1 D (.dK [])) := Rel.wiped hP (rel_lay r1.noP hD) (wipe_length _ _) fun j hj => by rw [wipe_get, if_neg hj]
        refine ⟨As1, F1, wipeE e1 own, [], [], Nat.zero_le _, rfl, r2, Sub.refl _, upd_same, r1.sub.back hD, fun hm => ?_, .nil, KN.nil, Nat.zero_le _, q2⟩
        obtain ⟨i, d, w1, w2⟩ := mem_owned.mp hm
        obtain ⟨v, _, w3⟩ := r1.val i d (wipeE_some w1).1
        obtain ⟨o, w4, _⟩ := w3.there D w2
        rw [hD] at w4; cases w4
      · rintro i m H2 ⟨As2, F2, env2, acc, av, hi, rfl, r2, s2, hDv, hDF, hDo, pr, knd, hz, hc⟩
        have w2 := w.mono s2
        by_cases hlt : i < l.length
        · have hd : l[i]? = some l[i] := List.getElem?_eq_getElem hlt
          rw [List.drop_eq_getElem_cons hlt] at hc
          unfold compLoopD at hc
          generalize hdd : l[i] = d at hc hd
          cases qb : bindTg t d env2 with
          | none => rw [qb] at hc; cases hc
          | some env3 =>
            rw [qb] at hc
            simp only [] at hc
            -- from here anew
            have rr : Rel ((noP c0).re As2 F2 H2 env2) As2 F2 env2 (wipe σ own) H2 := r2.re
            have as0 : Aside F2 H2 As2 env2 [D] := ⟨one ⟨_, hDv⟩, one hDF, one hDo⟩
            have keep : ∀ {As' F' env' σ' H'}, Rel ((noP c0).re As2 F2 H2 env2) As' F' env' σ' H' → H' D = some (.dK av) ∧ F' D = none ∧ D ∉ owned As' env' := fun {As' F' env' σ' H'} r' => by
              obtain ⟨k1, k2⟩ := as0.keep r'
              exact ⟨k2 D (by simp) _ hDv, k1.off D (by simp), k1.apart D (by simp)⟩
            refine .inr ⟨w2.go i H2 r2.sub hlt, _, fun H' nx => ⟨l.length - (i + 1), by omega, nx⟩, fun x H' y => ?_⟩
            refine walk_tg (c := (noP c0).re As2 F2 H2 env2) hK hM rfl w2 rr hd y qb fun σ1 Hb Asb rb ch _ => ⟨wipe_chg ch hts, (noP c0).re As2 F2 H2 env2, Asb, F2, env3, hK, hM, rb, ?_⟩
            -- the slots at the end of the turn
            have fin : ∀ {As4 F4 env4 H4}, Rel ((noP c0).re As2 F2 H2 env2) As4 F4 env4 σ1 H4 → Rel (noP c0) As4 F4 (wipeE env4 own) (wipe σ own) H4 ∧ Sub F2 F4 := fun {As4 F4 env4 H4} r4 =>
              ⟨Rel.wiped hP (r2.un r4) ch.len.symm fun j hj => ch.at_ j fun q => hj (hts j q), r4.old⟩
            cases qc : evC z.cf c env3 with
            | stuck => rw [qc] at hc; cases hc
            | exc x e4 => rw [qc] at hc; cases hc
            | ok k env4 =>
              rw [qc] at hc
              intro H3 F3 As3 r3 s3
              cases k with
              | false =>
                simp only [] at hc
                simp only [Bool.false_eq_true, if_false]
                obtain ⟨k1, k2, k3⟩ := keep r3
                obtain ⟨f1, f2⟩ := fin r3
                refine ⟨As3, F3, _, acc, av, hlt, trivial, f1, s2.trans f2, k1, k2, fun hm => k3 ?_, kvp_sub f2 pr, knd, hz, hc⟩
                obtain ⟨j, d', w1, w3⟩ := mem_owned.mp hm
                exact mem_owned.mpr ⟨j, d', (wipeE_some w1).1, w3⟩
              | true =>
                simp only [] at hc
                simp only [if_true]
                refine ⟨(noP c0).re As2 F2 H2 env2, As3, F3, env4, hK, hM, r3, ?_⟩
                cases qe : ev z.cf kx env4 with
                | stuck => rw [qe] at hc; cases hc
                | exc x e5 => rw [qe] at hc; cases hc
                | ok dk env5 =>
                  rw [qe] at hc
                  simp only [] at hc
                  intro y5 H5 F5 As5 A5 r5 s5 o5 n5
                  refine ⟨(noP c0).re As2 F2 H2 env2, As5, F5, env5, hK, hM, r5, ?_⟩
                  cases qv : ev z.cf vx env5 with
                  | stuck => rw [qv] at hc; cases hc
                  | exc x e6 => rw [qv] at hc; cases hc
                  | ok dx env6 =>
                    rw [qv] at hc
                    simp only [] at hc
                    cases qk : keyOf dk with
                    | none => rw [qk] at hc; cases hc
                    | some k =>
                      rw [qk] at hc
                      simp only [] at hc
                      split at hc
                      · rename_i hbig
                        intro y6 H6 F6 As6 A6 r6 s6 o6 n6
                        obtain ⟨k1, k2, k3⟩ := keep r6
                        obtain ⟨f1, f2⟩ := fin r6
                        have hav : av.length + 1 ≤ sizeLine := by
                          rw [paired_len pr]
                          exact big_size hbig
                        have k4 : D ∉ owned As6 (wipeE env6 own) := fun hm => by
                          obtain ⟨j, d', w1, w3⟩ := mem_owned.mp hm
                          exact k3 (mem_owned.mpr ⟨j, d', (wipeE_some w1).1, w3⟩)
                        have ey : y5 = kV k := key_v o5.2 qk
                        exact ⟨av, k, ey, k1, hav, As6, F6, _, putD acc k dx, putK av k y6, hlt, trivial, f1.aside k2 k4 hD0, s2.trans f2, upd_same, k2, k4, put_pair (kvp_sub f2 pr) o6.2, put_nodup knd (key_ok o5.2 qk), Nat.le_trans putK_len hav, hc⟩
                      · cases hc
        · have hi' : i = l.length := by omega
          subst hi'
          rw [List.drop_length] at hc
          simp only [compLoopD, R.ok.injEq] at hc
          obtain ⟨rfl, rfl⟩ := hc
          refine .inl ⟨w2.stop H2 r2.sub, ?_⟩
          have rz : Rel c0 (fun j => if j ∈ own then [] else As2 j) F2 (backE e1 env2 own) σ H2 := by
            refine ⟨fun i d w => ?_, fun i d w a ha => ?_, fun i d w a ha => ?_, fun i j d d' hn w w' a ha ha' => ?_, r2.sub, r2.old, r2.frame, r2.newF, by rw [backE_len, r2.len, wipe_length], r.fix⟩
            · rcases backE_at w with ⟨hj, w⟩ | ⟨hj, w⟩
              · obtain ⟨v, w1, w3⟩ := r1.val i d w
                refine ⟨v, w1, ?_⟩
                rw [hM, hown i hj] at w3 ⊢
                simp only [if_pos hj]
                exact ⟨rfl, s2.rep w3.2⟩
              · obtain ⟨v, w1, w3⟩ := r2.val i d w
                refine ⟨v, ?_, by simp only [if_neg hj]; exact w3⟩
                rw [wipe_get, if_neg hj] at w1
                exact w1
            · rcases backE_at w with ⟨hj, w⟩ | ⟨hj, w⟩
              · simp [hj] at ha
              · simp only [if_neg hj] at ha
                exact r2.off i d w a ha
            · rcases backE_at w with ⟨hj, w⟩ | ⟨hj, w⟩
              · simp [hj] at ha
              · simp only [if_neg hj] at ha
                exact r2.nw i d w a ha
            · rcases backE_at w with ⟨hj, w⟩ | ⟨hj, w⟩
              · simp [hj] at ha
              · rcases backE_at w' with ⟨hk, w'⟩ | ⟨hk, w'⟩
                · simp [hk] at ha'
                · simp only [if_neg hj] at ha
                  simp only [if_neg hk] at ha'
                  exact r2.dis i j d d' hn w w' a ha ha'
          have oz : Own c0.K F2 H2 (.dct .pure) (.ref D) (.dct acc) [D] := by
            exact ⟨D, av, acc, acc.map fun _ => [], rfl, rfl, hDv, hz, knd, trip_kv pr, by rw [flat_nilK], by simp⟩
          refine h (.ref D) H2 F2 _ [D] rz (s1.trans s2) oz ⟨⟨one ⟨_, hDv⟩, one hDF, one fun hm => ?_⟩, one hD0⟩
          obtain ⟨j, d', w1, w3⟩ := mem_owned.mp hm
          rcases backE_at w1 with ⟨hj, w1⟩ | ⟨hj, w1⟩
          · simp [hj] at w3
          · simp only [if_neg hj] at w3
            exact hDo (mem_owned.mpr ⟨j, d', w1, w3⟩)
theorem snd_dc {own : List (Str × Nat)} {t : Tg} {it : It} {c : Option E} {k v : E} {tg iter kx vx : Expr} {ifs : List Expr} {scope : Scope} {pos : Pos} (xo : XO X z W) (hown : ∀ i ∈ own.map (·.2), M i = .pure) (hts : ∀ i ∈ tgSlots t, i ∈ own.map (·.2)) (hh : okHead iter = true)
    (hi : SI X z M W tp tg iter (evIt z.cf it)) (ok : BlkOk X.N X.env.scope scope own)
    (hg : ∀ (s : Shared) (H : Hp) (C : Addr) (cl : List (Str × Addr)) (fp : List Addr), TgOk (X.blk s H scope (compEnvC scope cl C X.env) fp) M tg t tp)
    (ht : ∀ (s : Shared) (H : Hp) (C : Addr) (cl : List (Str × Addr)) (fp : List Addr), PTs (X.blk s H scope (compEnvC scope cl C X.env) fp) ifs (tCe z M noW c))
    (hk : ∀ (s : Shared) (H : Hp) (C : Addr) (cl : List (Str × Addr)) (fp : List Addr), SE (X.blk s H scope (compEnvC scope cl C X.env) fp) z M noW .pure kx (ev z.cf k))
    (he : ∀ (s : Shared) (H : Hp) (C : Addr) (cl : List (Str × Addr)) (fp : List Addr), SE (X.blk s H scope (compEnvC scope cl C X.env) fp) z M noW .pure vx (ev z.cf v)) :
    SE X z M W (.dct .pure) (.DictComp kx vx [⟨tg, iter, ifs, 0⟩] scope pos) (ev z.cf (.dc (own.map (·.2)) t it c k v)) :=
  PE.imp (pe_dc xo.calm xo.nd hi ok (fun s H C cl fp => pg_tg (xo_blk xo s H scope _ fp) (hg s H C cl fp)) ht hk he (fun v => noFold hh X.env v)) fun σ H Q h => dc_of hown hts h
theorem ps_setDc {i : Nat} {y : Str} {py : Pos} {kx vx tg iter : Expr} {ifs : List Expr} {scope : Scope} {own : List (Str × Nat)} {pos spos : Pos} {wi : TI} {g : TG} {tt : TT} {tk tv : TE} (hc : X.calm = true) (hN : X.N.Nodup) (hy : X.N[i]? = some y) (hyl : X.env.scope.names.lookup y = some .local)
    (hsw : swapsWith (.DictComp kx vx [⟨tg, iter, ifs, 0⟩] scope pos) (some (.Name y py)) spos.line X.env = pure true) (hi : PI X tg iter wi) (ok : BlkOk X.N X.env.scope scope own)
    (hg : ∀ (s : Shared) (H : Hp) (C : Addr) (cl : List (Str × Addr)) (fp : List Addr), PG (X.blk s H scope (compEnvC scope cl C X.env) fp) tg g) (ht : ∀ (s : Shared) (H : Hp) (C : Addr) (cl : List (Str × Addr)) (fp : List Addr), PTs (X.blk s H scope (compEnvC scope cl C X.env) fp) ifs tt)
    (hk : ∀ (s : Shared) (H : Hp) (C : Addr) (cl : List (Str × Addr)) (fp : List Addr), PE (X.blk s H scope (compEnvC scope cl C X.env) fp) kx tk) (he : ∀ (s : Shared) (H : Hp) (C : Addr) (cl : List (Str × Addr)) (fp : List Addr), PE (X.blk s H scope (compEnvC scope cl C X.env) fp) vx tv) (hs : ∀ x, foldedSetIterable iter X.env x = pure x) :
    PS X (.Assign [.Name y py] (.DictComp kx vx [⟨tg, iter, ifs, 0⟩] scope pos) spos) (tAsg (tDc wi g tt tk tv (own.map (·.2))) (gName i)) := by
  constructor
  intro pins s σ H D I h
  have h : tDc wi g tt tk tv (own.map (·.2)) σ H (fun x H1 => gName i x σ H1 D.nx) := h
  have run := dc_core (pos := pos) (Qf := fun _ s' => SP X pins D .next s') (pos' := firstIterPos [⟨tg, iter, ifs, 0⟩] pos) (use := some (assign (.Name y py) X.env)) hc hN I hi ok hg ht hk he hs h (fun L C s' m H' I' q hn f => by
    obtain ⟨f0, f1, f2, f3, f4, f5⟩ := f
    refine wpAny_assign_Name (store_ok2 (v := V.ref L) I' hN hy (.inl hyl) rfl (fun s2 I2 w => ?_) (.inr hyl))
    obtain ⟨a, sb, ha⟩ := w
    have haC : C ≠ a := ha.elim (fun z => z ▸ f1) fun z e => f4 y a z e.symm
    exact ⟨m, hn.sameBut sb haC, fun h3 sb3 => ⟨_, H', I2.turned (t' := s2.toks) (fun b o hb e => (sb3.2 b hb).trans e) f0 f1 f3 f4 f5, q⟩⟩)
  rw [exec_Assign_Name_used _ _ _ _ hsw]
  exact wpAny_bind (wpAny_standAt (wpAny_bind (wpAny_bind (thn run fun _ s' hq => wpAny_pure (wpAny_pure hq)))))
/-- name = {..} of one line, a local name, of the shape s (plain, or changeable) -/
theorem ss_asgDc {np : Nat} {rs : Sh} {i : Nat} {y : Str} {py : Pos} {own : List (Str × Nat)} {t : Tg} {it : It} {c : Option E} {k v : E} {tg iter kx vx : Expr} {ifs : List Expr} {scope : Scope} {pos spos : Pos} {wf : Nat} (xo : XO X z W)
    (hy : X.N[i]? = some y) (hyl : X.env.scope.names.lookup y = some .local) (hyM : M i = .pure) (hsw : swapsWith (.DictComp kx vx [⟨tg, iter, ifs, 0⟩] scope pos) (some (.Name y py)) spos.line X.env = pure true)
    (hown : ∀ i ∈ own.map (·.2), M i = .pure) (hts : ∀ i ∈ tgSlots t, i ∈ own.map (·.2)) (hh : okHead iter = true) (hi : SI X z M W tp tg iter (evIt z.cf it)) (ok : BlkOk X.N X.env.scope scope own)
    (hg : ∀ (s : Shared) (H : Hp) (C : Addr) (cl : List (Str × Addr)) (fp : List Addr), TgOk (X.blk s H scope (compEnvC scope cl C X.env) fp) M tg t tp)
    (ht : ∀ (s : Shared) (H : Hp) (C : Addr) (cl : List (Str × Addr)) (fp : List Addr), PTs (X.blk s H scope (compEnvC scope cl C X.env) fp) ifs (tCe z M noW c))
    (hk : ∀ (s : Shared) (H : Hp) (C : Addr) (cl : List (Str × Addr)) (fp : List Addr), SE (X.blk s H scope (compEnvC scope cl C X.env) fp) z M noW .pure kx (ev z.cf k))
    (he : ∀ (s : Shared) (H : Hp) (C : Addr) (cl : List (Str × Addr)) (fp : List Addr), SE (X.blk s H scope (compEnvC scope cl C X.env) fp) z M noW .pure vx (ev z.cf v)) :
    SS X z M np W rs (.Assign [.Name y py] (.DictComp kx vx [⟨tg, iter, ifs, 0⟩] scope pos) spos) (exe z.cf wf (.asg (.nm i) (.dc (own.map (·.2)) t it c k v))) := by
  refine PS.imp (ps_setDc xo.calm xo.nd hy hyl hsw hi ok (fun s H C cl fp => pg_tg (xo_blk xo s H scope _ fp) (hg s H C cl fp)) ht hk he (fun v => noFold hh X.env v)) fun D σ H h => ?_
  obtain ⟨c0, As, F, env, hK, hM, hP, r, h⟩ := h
  simp only [exe] at h
  refine dc_of hown hts ⟨c0, As, F, env, hK, hM, r, okS.bind (As := As) (env := env) h fun d e v H' F' As' A _ h r' s' o n => ?_⟩
  obtain ⟨F2, r2, s2, q2⟩ := freeze r' o n
  exact h _ _ _ _ (r2.setPure hP (by rw [hM]; exact hyM) q2) s2 (Kept.set1 (.inl (by rw [hM]; exact hyM)))
end
end Pv
set_option Elab.async false
set_option linter.all false
set_option maxRecDepth 100000
set_option maxHeartbeats 4000000
namespace Pv
open PySem PySem.Spec PyProof.Rows L2
/-! ### fields -/
theorem nodup_le : ∀ {l m : List Str}, l.Nodup → (∀ x ∈ l, x ∈ m) → l.length ≤ m.length
  | [], _, _, _ => Nat.zero_le _
  | x :: l, m, nd, h => by
    rw [List.nodup_cons] at nd
    have hx := h x List.mem_cons_self
    have ih := nodup_le (m := m.erase x) nd.2 fun y hy => (List.mem_erase_of_ne fun (e : y = x) => nd.1 (e ▸ hy)).mpr (h y (List.mem_cons_of_mem _ hy))
    have hl := List.length_erase_of_mem hx
    have : 0 < m.length := List.length_pos_of_mem hx
    rw [List.length_cons]
    omega
theorem FldOk.len {c : Str} {fs : List (Str × V)} (h : FldOk c fs) : fs.length ≤ 6 := by
  have h1 := nodup_le h.nd h.cl
  have h2 := clsF_len c
  simp only [List.length_map] at h1
  omega
theorem putF_keys (f : Str) (v : V) : ∀ (fs : List (Str × V)) (g : Str), g ∈ (putF f v fs).map (·.1) → g = f ∨ g ∈ fs.map (·.1)
  | [], g, h => by simpa [putF] using h
  | (k, x) :: r, g, h => by
    unfold putF at h
    split at h
    · rename_i e
      simp only [List.map_cons, List.mem_cons] at h ⊢
      exact h.elim (fun q => .inl (q.trans e)) fun q => .inr (.inr q)
    · simp only [List.map_cons, List.mem_cons] at h ⊢
      rcases h with h | h
      · exact .inr (.inl h)
      · exact (putF_keys f v r g h).elim .inl fun q => .inr (.inr q)
theorem putF_nd (f : Str) (v : V) : ∀ (fs : List (Str × V)), (fs.map (·.1)).Nodup → ((putF f v fs).map (·.1)).Nodup
  | [], _ => by simp [putF]
  | (k, x) :: r, h => by
    unfold putF
    split
    · exact h
    · rename_i hn
      simp only [List.map_cons, List.nodup_cons] at h ⊢
      exact ⟨fun q => (putF_keys f v r k q).elim (fun e => hn e) h.1, putF_nd f v r h.2⟩
theorem FldOk.put {c f : Str} {fs : List (Str × V)} {v : V} (h : FldOk c fs) (hf : f ∈ (clsF c).map (·.1)) : FldOk c (putF f v fs) :=
  ⟨putF_nd f v fs h.nd, fun g hg => (putF_keys f v fs g hg).elim (fun e => e ▸ hf) (h.cl g)⟩
theorem putF_same {f : Str} {v : V} : ∀ {fs : List (Str × V)}, fs.lookup f = some v → putF f v fs = fs
  | [], h => by cases h
  | (k, x) :: r, h => by
    rw [List.lookup_cons] at h
    unfold putF
    by_cases e : k = f
    · subst e
      simp at h
      rw [if_pos rfl, h]
    · have : (f == k) = false := by simpa using Ne.symm e
      rw [this] at h
      rw [if_neg e, putF_same h]
theorem FldOk.none {c m : Str} {fs : List (Str × V)} (h : FldOk c fs) (hm : m ∉ (clsF c).map (·.1)) : fs.lookup m = none := by
  cases q : fs.lookup m with
  | none => rfl
  | some v =>
    have : ∀ {l : List (Str × V)}, l.lookup m = some v → m ∈ l.map (·.1) := fun {l} => by
      induction l with
      | nil => intro h; cases h
      | cons p l ih =>
        intro h
        obtain ⟨k, x⟩ := p
        rw [List.lookup_cons] at h
        by_cases e : m = k
        · simp [e]
        · have e' : (m == k) = false := by simpa using e
          rw [e'] at h
          simp only [List.map_cons, List.mem_cons]
          exact .inr (ih h)
    exact absurd (h.cl m (this q)) hm
theorem clsF_nd (c : Str) : ((clsF c).map (·.1)).Nodup := by
  unfold clsF
  split
  · decide +kernel
  · split
    · decide +kernel
    · split
      · decide +kernel
      · split
        · decide +kernel
        · split
          · decide +kernel
          · exact List.nodup_nil
theorem clsF_inj {c : Str} {j k : Nat} {f : Str} {s t : FS} (h1 : (clsF c)[j]? = some (f, s)) (h2 : (clsF c)[k]? = some (f, t)) : j = k := by
  have nd := clsF_nd c
  have e1 : ((clsF c).map (·.1))[j]? = some f := by rw [List.getElem?_map, h1]; rfl
  have e2 : ((clsF c).map (·.1))[k]? = some f := by rw [List.getElem?_map, h2]; rfl
  obtain ⟨l1, q1⟩ := List.getElem?_eq_some_iff.mp e1
  obtain ⟨l2, q2⟩ := List.getElem?_eq_some_iff.mp e2
  have pw := List.pairwise_iff_getElem.mp nd
  rcases Nat.lt_trichotomy j k with h | h | h
  · exact absurd (q1.trans q2.symm) (pw j k l1 l2 h)
  · exact h
  · exact absurd (q2.trans q1.symm) (pw k j l2 l1 h)
theorem setP_at : ∀ {l : List (Option D)} {k j : Nat} {d e : D}, (setP l k d)[j]? = some (some e) → (j = k ∧ e = d) ∨ (j ≠ k ∧ l[j]? = some (some e))
  | [], 0, j, d, e, h => by
    cases j with
    | zero => simp [setP] at h; exact .inl ⟨rfl, h.symm⟩
    | succ j => simp [setP] at h
  | [], k + 1, j, d, e, h => by
    cases j with
    | zero => simp [setP] at h
    | succ j =>
      have h : (setP [] k d)[j]? = some (some e) := by simpa [setP] using h
      rcases setP_at h with ⟨h1, h2⟩ | ⟨_, h2⟩
      · exact .inl ⟨by omega, h2⟩
      · simp at h2
  | o :: l, 0, j, d, e, h => by
    cases j with
    | zero => simp [setP] at h; exact .inl ⟨rfl, h.symm⟩
    | succ j => exact .inr ⟨by omega, by simpa [setP] using h⟩
  | o :: l, k + 1, j, d, e, h => by
    cases j with
    | zero => exact .inr ⟨by omega, by simpa [setP] using h⟩
    | succ j =>
      have h : (setP l k d)[j]? = some (some e) := by simpa [setP] using h
      rcases setP_at h with ⟨h1, h2⟩ | ⟨h1, h2⟩
      · exact .inl ⟨by omega, h2⟩
      · exact .inr ⟨by omega, by simpa using h2⟩
def shF : FS → Sh
  | .pure => .pure
  | .lst => .lst .pure
  | .dct => .dct .pure
section
variable {K : PySem.W.Frag} {F H : Hp} {v : V} {d : D} {A : List Addr} {c : Str}
theorem ownF_of {s : FS} (h : Own K F H (shF s) v d A) : OwnF K F H s v d A := by
  cases s with
  | pure => exact h
  | lst =>
    have hd : ∃ l, d = .lst l := by obtain ⟨_, _, l, _, _, e, _⟩ := h; exact ⟨l, e⟩
    obtain ⟨l, rfl⟩ := hd
    obtain ⟨a, vs, rfl, h1, h2, h3, h4⟩ := own_lst h
    exact ⟨a, vs, l, rfl, rfl, h1, h2, h3, h4⟩
  | dct =>
    have hd : ∃ l, d = .dct l := by obtain ⟨_, _, l, _, _, e, _⟩ := h; exact ⟨l, e⟩
    obtain ⟨l, rfl⟩ := hd
    obtain ⟨a, kvs, rfl, h1, h2, h3, h4, h5⟩ := own_dct h
    exact ⟨a, kvs, l, rfl, rfl, h1, h2, h3, h4, h5⟩
/-- a field is written -/
theorem obj_put {a dx : Addr} {fs : List (Str × V)} {l : List (Option D)} {As : Nat → List Addr} {g : Nat → V} (fo : FldOk c fs)
    (t : ∀ (k : Nat) (d : D), l[k]? = some (some d) → ∃ f s, (clsF c)[k]? = some (f, s) ∧ fs.lookup f = some (g k) ∧ OwnF K F H s (g k) d (As k))
    (n1 : ∀ (k : Nat) (d : D), l[k]? = some (some d) → a ∉ As k) (n2 : ∀ (j k : Nat) (d e : D), j ≠ k → l[j]? = some (some d) → l[k]? = some (some e) → ∀ b ∈ As j, b ∉ As k)
    {k : Nat} {f : Str} {s : FS} (hk : (clsF c)[k]? = some (f, s)) {w : V} {d' : D} {B : List Addr} {F' H' : Hp} (sf : Sub F F') (ha : H' a = some (.ins (He.ga K c) dx (putF f w fs))) (o : OwnF K F' H' s w d' B) (hB : a ∉ B)
    (keep : ∀ (j : Nat) (d : D), j ≠ k → l[j]? = some (some d) → ∀ b ∈ As j, (∀ u, H b = some u → H' b = some u) ∧ b ∉ B) :
    Own K F' H' (.obj c) (.ref a) (.obj c (setP l k d')) (a :: owned (fun j => if j = k then B else As j) (setP l k d')) := by
  refine ⟨a, dx, putF f w fs, setP l k d', fun j => if j = k then B else As j, fun j => if j = k then w else g j, rfl, rfl, ha, fo.put (List.mem_map.mpr ⟨_, List.mem_of_getElem? hk, rfl⟩), fun j e h => ?_, fun j e h => ?_, fun i j e e' hn h h' b hb => ?_, rfl⟩
  · rcases setP_at h with ⟨rfl, rfl⟩ | ⟨hj, h⟩
    · exact ⟨f, s, hk, by rw [lookup_putF, if_pos rfl]; simp, by simp only [if_true]; exact o⟩
    · obtain ⟨f', s', q1, q2, q3⟩ := t j e h
      refine ⟨f', s', q1, ?_, ?_⟩
      · rw [lookup_putF, if_neg fun (e : f' = f) => hj (clsF_inj (e ▸ q1) hk)]
        simp only [if_neg hj]
        exact q2
      · simp only [if_neg hj]
        exact q3.mono sf fun b hb u q => (keep j e hj h b hb).1 u q
  · rcases setP_at h with ⟨rfl, rfl⟩ | ⟨hj, h⟩
    · simp only [if_true]; exact hB
    · simp only [if_neg hj]; exact n1 j e h
  · rcases setP_at h with ⟨e1, _⟩ | ⟨hi, h⟩
    · rcases setP_at h' with ⟨e2, _⟩ | ⟨hj, h'⟩
      · exact absurd (e1.trans e2.symm) hn
      · simp only [if_pos e1] at hb
        simp only [if_neg hj]
        exact fun q => (keep j e' hj h' b q).2 hb
    · simp only [if_neg hi] at hb
      rcases setP_at h' with ⟨e2, _⟩ | ⟨hj, h'⟩
      · simp only [if_pos e2]
        exact (keep i e hi h b hb).2
      · simp only [if_neg hj]
        exact n2 i j e e' hn h h' b hb
end
/-- an owned slot's objects are written, some are new -/
theorem Rel.rewriteN {c : Ctx} {As : Nat → List Addr} {F H H' : Hp} {env : Dv} {σ : L2.St} {i : Nat} {v : V} {d d' : D} {A B : List Addr} (hP : c.P = fun _ => none) (r : Rel c As F env σ H) (e : env[i]? = some (some d)) (hv : σ[i]? = some (some v)) (o : Own c.K F H' (c.M i) v d' A)
    (n : New c F H As env B) (hA : ∀ a ∈ A, a ∈ As i ∨ a ∈ B) (hH : ∀ a u, H a = some u → a ∉ As i → H' a = some u) : Rel c (fun j => if j = i then A else As j) F (env.set i (some d')) σ H' := by
  have get : ∀ {j e}, (env.set i (some d'))[j]? = some (some e) → (j = i ∧ e = d') ∨ (j ≠ i ∧ env[j]? = some (some e)) := fun {j e} q => by
    rw [List.getElem?_set] at q
    split at q
    · rename_i e1
      split at q
      · cases q; exact .inl ⟨e1.symm, rfl⟩
      · cases q
    · rename_i e1
      exact .inr ⟨fun e2 => e1 e2.symm, q⟩
  have off : ∀ a ∈ A, F a = none := fun a ha => (hA a ha).elim (fun q => r.off i d e a q) fun q => n.side.off a q
  refine ⟨fun j w q => ?_, fun j w q a ha => ?_, fun j w q a ha => ?_, fun j k w w' hn q q' a ha ha' => ?_, fun a u q => ?_, r.old, fun a u q n => ?_, r.newF, by rw [List.length_set]; exact r.len, fun i v h => by rw [hP] at h; cases h⟩
  · rcases get q with ⟨rfl, rfl⟩ | ⟨hn, q1⟩
    · exact ⟨v, hv, by rw [if_pos rfl]; exact o⟩
    · obtain ⟨x, h1, h2⟩ := r.val j w q1
      refine ⟨x, h1, ?_⟩
      rw [if_neg hn]
      exact h2.mono (Sub.refl _) fun a ha u q => hH a u q fun q2 => r.dis j i w d hn q1 e a ha q2
  · rcases get q with ⟨e1, _⟩ | ⟨hn, q1⟩
    · simp only [if_pos e1] at ha
      exact off a ha
    · simp only [if_neg hn] at ha
      exact r.off j w q1 a ha
  · rcases get q with ⟨e1, _⟩ | ⟨hn, q1⟩
    · simp only [if_pos e1] at ha
      exact (hA a ha).elim (fun q => r.nw i d e a q) fun q => n.nw a q
    · simp only [if_neg hn] at ha
      exact r.nw j w q1 a ha
  · have two : ∀ {k w}, k ≠ i → env[k]? = some (some w) → a ∈ A → a ∉ As k := fun {k w} hk q h1 h2 => by
      rcases hA a h1 with q1 | q1
      · exact r.dis k i w d hk q e a h2 q1
      · exact n.side.apart a q1 (mem_owned.mpr ⟨k, w, q, h2⟩)
    rcases get q with ⟨e1, _⟩ | ⟨hj, q1⟩
    · simp only [if_pos e1] at ha
      rcases get q' with ⟨e2, _⟩ | ⟨hk, q2⟩
      · exact hn (e1.trans e2.symm)
      · simp only [if_neg hk] at ha'
        exact two hk q2 ha ha'
    · simp only [if_neg hj] at ha
      rcases get q' with ⟨e2, _⟩ | ⟨hk, q2⟩
      · simp only [if_pos e2] at ha'
        exact two hj q1 ha' ha
      · simp only [if_neg hk] at ha'
        exact r.dis j k w w' hn q1 q2 a ha ha'
  · exact hH a u (r.sub a u q) fun q2 => by rw [r.off i d e a q2] at q; cases q
  · refine hH a u (r.frame a u q n) fun q2 => ?_
    rcases r.nw i d e a q2 with w | w
    · rw [w] at q; cases q
    · exact n w
theorem objAt_some {env : Dv} {i : Nat} {c : Str} {l : List (Option D)} (h : objAt env i = some (c, l)) : env[i]? = some (some (.obj c l)) := by
  unfold objAt at h
  split at h
  · rename_i c' l' e; cases h; exact e
  · cases h
/-- a class of the program, its fields' names free -/
structure ClsOk (X : Cx) (c : Str) : Prop where
  cls : Cls X.K (He.ga X.K c)
  na : ∀ f ∈ (clsF c).map (·.1), NoAttr X.K (He.ga X.K c) f
theorem ClsOk.fld {X : Cx} {c : Str} (h : ClsOk X c) {k : Nat} {f : Str} {s : FS} (hk : (clsF c)[k]? = some (f, s)) : NoAttr X.K (He.ga X.K c) f := h.na f (List.mem_map.mpr ⟨_, List.mem_of_getElem? hk, rfl⟩)
section
variable {X : Cx} {z : Z} {M : Nat → Sh} {np : Nat} {W : WX} {rs : Sh} {σ σ1 : L2.St} {H : Hp} {D : Ends} {Q : VK}
/-- a plain field of a changeable object -/
theorem snd_fldM {i k : Nat} {cn x f : Str} {px pos : Pos} (xo : XO X z W) (co : ClsOk X cn) (n : RdOk X i x) (hMi : M i = .obj cn) (hk : (clsF cn)[k]? = some (f, .pure)) : SE X z M W .pure (.Attribute (.Name x px) f pos) (ev z.cf (.fldM i k)) := by
  refine PE.imp (pe_fld (pe_var n.ix n.vis n.db n.cd) (baseOk rfl _ _ _)) fun σ H Q h => ?_
  obtain ⟨c, As, F, env, hK, hM, r, h⟩ := h
  simp only [ev] at h
  unfold fldE at h
  split at h
  · rename_i c' l e
    cases q : (l[k]?).getD none with
    | none => rw [q] at h; exact h.elim
    | some d =>
      rw [q] at h
      obtain ⟨v, h1, h2⟩ := r.val i _ e
      rw [hM, hMi] at h2
      obtain ⟨a, dx, fs, l', As', g, rfl, e2, ha, fo, t, n1, n2, _⟩ := h2
      cases e2
      have hl : l[k]? = some (some d) := by
        cases w : l[k]? with
        | none => rw [w] at q; cases q
        | some o => rw [w] at q; simp at q; rw [q]
      obtain ⟨f', s', q1, q2, q3⟩ := t k d hl
      rw [hk] at q1
      cases q1
      have kk := xo.K.trans hK.symm
      exact ⟨_, h1, a, _, dx, fs, g k, rfl, by rw [kk]; exact ha, co.cls, co.fld hk, q2, okE.ret h r (Sub.refl _) q3.2⟩
  · exact h.elim
/-- a field of a plain object -/
theorem snd_fld {k : Nat} {cn f : Str} {s : FS} {o : Expr} {a : E} {pos : Pos} (xo : XO X z W) (co : ClsOk X cn) (hr : recvOk o = true) (hk : (clsF cn)[k]? = some (f, s)) (ho : SE X z M W .pure o (ev z.cf a)) : SE X z M W .pure (.Attribute o f pos) (ev z.cf (.fld cn k a)) := by
  refine PE.imp (pe_fld ho (baseOk hr _ _ _)) fun σ H Q h => ?_
  obtain ⟨c, As, F, env, hK, hM, r, h⟩ := h
  have h' : okE z W c .pure F σ (bindR (ev z.cf a env) fun x e => liftO (fldD cn k x) e) Q := h
  refine ⟨c, As, F, env, hK, hM, r, (okE.bind h').imp ?_⟩
  rintro v H1 ⟨d, e, F1, As1, _, r1, s1, p1, h1⟩
  unfold fldD at h1
  split at h1
  · rename_i c' l hq
    split at h1
    · rename_i hc
      subst hc
      cases q : (l[k]?).getD none with
      | none => rw [q] at h1; exact h1.elim
      | some d =>
        rw [q] at h1
        have hl : l[k]? = some (some d) := by
          cases w : l[k]? with
          | none => rw [w] at q; cases q
          | some o => rw [w] at q; simp at q; rw [q]
        have kk := xo.K.trans hK.symm
        cases p1 with
        | @obj a' dx _ fs _ g ha fo t1 t2 =>
          obtain ⟨f', s', q1, q2⟩ := t1 k d hl
          rw [hk] at q1
          cases q1
          exact ⟨a', _, dx, fs, g k, rfl, by rw [kk]; exact r1.sub _ _ ha, co.cls, co.fld hk, q2, okE.ret h1 r1 (Sub.refl _) (t2 k d hl)⟩
    · exact h1.elim
  · exact h1.elim
theorem no_swapF {e o : Expr} {f : Str} {p : Pos} (l : Nat) (env : PySem.Env) : swapsWith e (some (.Attribute o f p)) l env = pure false := by
  cases e <;> rfl
/-- the object of a slot -/
theorem slot_obj {c : Ctx} {As : Nat → List Addr} {F : Hp} {env : Dv} {i : Nat} {cn c' : Str} {l : List (Option Pv.D)} (r : Rel c As F env σ H) (hM : c.M i = .obj cn) (e : objAt env i = some (c', l)) : c' = cn ∧ ∃ (a dx : Addr) (fs : List (Str × V)) (Bs : Nat → List Addr) (g : Nat → V), σ[i]? = some (some (.ref a)) ∧ H a = some (.ins (He.ga c.K cn) dx fs) ∧ FldOk cn fs ∧
    (∀ (k : Nat) (d : Pv.D), l[k]? = some (some d) → ∃ f s, (clsF cn)[k]? = some (f, s) ∧ fs.lookup f = some (g k) ∧ OwnF c.K F H s (g k) d (Bs k)) ∧ (∀ (k : Nat) (d : Pv.D), l[k]? = some (some d) → a ∉ Bs k) ∧
    (∀ (j k : Nat) (d e : Pv.D), j ≠ k → l[j]? = some (some d) → l[k]? = some (some e) → ∀ b ∈ Bs j, b ∉ Bs k) ∧ As i = a :: owned Bs l := by
  obtain ⟨v, h1, h2⟩ := r.val i _ (objAt_some e)
  rw [hM] at h2
  obtain ⟨a, dx, fs, l', Bs, g, rfl, e2, ha, fo, t, n1, n2, hA⟩ := h2
  cases e2
  exact ⟨rfl, a, dx, fs, Bs, g, h1, ha, fo, t, n1, n2, hA⟩
theorem putFE_some {env env' : Dv} {i k : Nat} {f : Option Pv.D → Option Pv.D} (h : putFE env i k f = some env') : ∃ c l d, objAt env i = some (c, l) ∧ f ((l[k]?).getD none) = some d ∧ env' = env.set i (some (.obj c (setP l k d))) := by
  unfold putFE at h
  split at h
  · rename_i c l e
    cases q : f ((l[k]?).getD none) with
    | none => rw [q] at h; cases h
    | some d => rw [q] at h; cases h; exact ⟨c, l, d, e, q, rfl⟩
  · cases h
/-- x.f = e -/
theorem ss_setF {i k : Nat} {cn x f : Str} {s : FS} {e : Expr} {a : E} {px tp pos : Pos} {wf : Nat} (xo : XO X z W) (co : ClsOk X cn) (n : RdOk X i x) (hMi : M i = .obj cn) (hk : (clsF cn)[k]? = some (f, s)) (he : SE X z M W (shF s) e (ev z.cf a)) :
    SS X z M np W rs (.Assign [.Attribute (.Name x px) f tp] e pos) (exe z.cf wf (.setF i k a)) := by
  refine PS.imp (ps_fld (pe_var n.ix n.vis n.db n.cd) he (no_swapF _ _)) fun D σ H h => ?_
  obtain ⟨c, As, F, env, hK, hM, hP, r, h⟩ := h
  simp only [exe] at h
  refine ⟨c, As, F, env, hK, hM, r, okS.bind (As := As) (env := env) h fun d e v H' F' As' A _ h r' s' o nw => ?_⟩
  cases q : putFE e i k fun _ => some d with
  | none => rw [q] at h; exact h.elim
  | some env' =>
    rw [q] at h
    obtain ⟨c', l, d', q1, q2, rfl⟩ := putFE_some q
    cases q2
    obtain ⟨rfl, p, dx, fs, Bs, g, hv, hp, fo, t, n1, n2, hA⟩ := slot_obj r' (by rw [hM]; exact hMi) q1
    have kk := xo.K.trans hK.symm
    have hl := fo.len
    refine ⟨.ref p, hv, p, _, dx, fs, rfl, by rw [kk]; exact hp, co.cls, co.fld hk, by omega, ?_⟩
    have hpA : p ∈ As' i := by rw [hA]; exact List.mem_cons_self
    have live := objAt_some q1
    have ap : ∀ b ∈ A, b ∉ As' i := fun b hb q => nw.side.apart b hb (mem_owned.mpr ⟨i, _, live, q⟩)
    have ow := obj_put (H' := upd H' p (.ins (He.ga c.K c') dx (putF f v fs))) (dx := dx) fo t n1 n2 hk (Sub.refl F') upd_same (((ownF_of o).mono (Sub.refl _) fun b hb u q => by rw [upd_ne fun (e : b = p) => ap b hb (e ▸ hpA)]; exact q)) (fun q => ap p q hpA)
      fun j d hj w b hb => ⟨fun u q => by rw [upd_ne fun (e : b = p) => n1 j d w (e ▸ hb)]; exact q, fun q => ap b q (by rw [hA]; exact List.mem_cons_of_mem _ (mem_owned.mpr ⟨j, d, w, hb⟩))⟩
    rw [kk]
    refine h σ _ F' _ (r'.rewriteN hP live hv (by rw [hM, hMi]; exact ow) nw (fun b hb => ?_) fun b u q n => ?_) (Sub.refl _) Kept.refl
    · rcases List.mem_cons.mp hb with rfl | hb
      · exact .inl hpA
      · obtain ⟨j, d', w, hb⟩ := mem_owned.mp hb
        rcases setP_at w with ⟨rfl, _⟩ | ⟨hj, w⟩
        · simp only [if_true] at hb; exact .inr hb
        · simp only [if_neg hj] at hb
          exact .inl (by rw [hA]; exact List.mem_cons_of_mem _ (mem_owned.mpr ⟨j, d', w, hb⟩))
    · rw [upd_ne fun (e : b = p) => n (e ▸ hpA)]; exact q
end
end Pv
set_option Elab.async false
set_option linter.all false
set_option maxRecDepth 100000
set_option maxHeartbeats 4000000
namespace Pv
open PySem PySem.Spec PyProof.Rows L2
section
variable {X : Cx} {z : Z} {M : Nat → Sh} {np : Nat} {W : WX} {rs : Sh} {σ σ1 : L2.St} {H : Hp} {D : Ends} {Q : VK}
/-- what is lent stays as it is -/
def tLK (z : Z) (M : Nat → Sh) (i : Nat) (f : Dv → R Pv.D) : TE := fun σ H Q => ∃ c As F env, c.K = z.K ∧ c.M = M ∧ Rel c As F env σ H ∧ match f env with
  | .ok d e' => ∀ v H' F' As', Rel c As' F' e' σ H' → Sub F F' → Rep c.K F' v d → e'[i]? = env[i]? → (∀ d0, env[i]? = some (some d0) → ∀ b ∈ As i, ∀ o, H b = some o → H' b = some o) → Q v H'
  | _ => False
theorem lend_keep {e : Expr} {a : E} {i : Nat} {ls hs ms : List Nat} (lo : LendOk M ls hs ms) (hi : i ∉ ms) (ha : SE X z (lentM M ls) W .pure e (ev z.cf a)) : PE X e (tLK z M i (ev z.cf (.lend ls hs ms a))) := by
  refine PE.imp ha fun σ H Q h => ?_
  obtain ⟨c, As, F, env, hK, hM, r, h⟩ := h
  obtain ⟨cx, Ax, Fs, k1, k2, rx, _, core⟩ := lend_core lo hM r
  refine ⟨cx, Ax, Fs, wipeE env hs, k1.trans hK, k2, rx, ?_⟩
  have e0 : ev z.cf (.lend ls hs ms a) env = (match ev z.cf a (wipeE env hs) with | .ok d e => bif flat 40 d && flatAt e ms then .ok d (backE e env ms) else .stuck | _ => .stuck) := rfl
  rw [e0] at h
  cases q : ev z.cf a (wipeE env hs) with
  | exc x e' => rw [q] at h; exact h.elim
  | stuck => rw [q] at h; exact h.elim
  | ok d e' =>
    rw [q] at h
    simp only [] at h
    intro v H' F' As' A R' s' o n
    cases hfl : (flat 40 d && flatAt e' ms) with
    | false => rw [hfl] at h; exact h.elim
    | true =>
      rw [hfl] at h
      rw [Bool.and_eq_true] at hfl
      obtain ⟨Fn, As2, rn, sn, a1, a2, kp, tk, _⟩ := core e' H' F' As' R' hfl.2
      refine h v H' Fn As2 rn sn (flat_rep (by rw [← k1]; exact o.2) tk hfl.1) (backE_out hi) fun d0 w b hb o hH => ?_
      exact kp b o hH fun j d1 hj w1 hb1 => r.dis i j d0 d1 (fun e => hi (e ▸ hj)) w w1 b hb hb1
/-- the object of a slot, whole -/
structure SlotO (c : Ctx) (As : Nat → List Addr) (F H : Hp) (σ : L2.St) (i : Nat) (cn : Str) (l : List (Option Pv.D)) (p dx : Addr) (fs : List (Str × V)) (Bs : Nat → List Addr) (g : Nat → V) : Prop where
  hv : σ[i]? = some (some (.ref p))
  hp : H p = some (.ins (He.ga c.K cn) dx fs)
  fo : FldOk cn fs
  t : ∀ (k : Nat) (d : Pv.D), l[k]? = some (some d) → ∃ f s, (clsF cn)[k]? = some (f, s) ∧ fs.lookup f = some (g k) ∧ OwnF c.K F H s (g k) d (Bs k)
  n1 : ∀ (k : Nat) (d : Pv.D), l[k]? = some (some d) → p ∉ Bs k
  n2 : ∀ (j k : Nat) (d e : Pv.D), j ≠ k → l[j]? = some (some d) → l[k]? = some (some e) → ∀ b ∈ Bs j, b ∉ Bs k
  hA : As i = p :: owned Bs l
theorem slot_of {c : Ctx} {As : Nat → List Addr} {F : Hp} {env : Dv} {i : Nat} {cn c' : Str} {l : List (Option Pv.D)} (r : Rel c As F env σ H) (hM : c.M i = .obj cn) (e : objAt env i = some (c', l)) : c' = cn ∧ ∃ p dx fs Bs g, SlotO c As F H σ i cn l p dx fs Bs g := by
  obtain ⟨e1, a, dx, fs, Bs, g, h1, h2, h3, h4, h5, h6, h7⟩ := slot_obj r hM e
  exact ⟨e1, a, dx, fs, Bs, g, h1, h2, h3, h4, h5, h6, h7⟩
/-- a changeable field's object is written -/
theorem fld_write {c : Ctx} {As : Nat → List Addr} {F : Hp} {env : Dv} {i k : Nat} {cn f : Str} {s : FS} {l : List (Option Pv.D)} {p dx b : Addr} {fs : List (Str × V)} {Bs : Nat → List Addr} {g : Nat → V} {d0 d' : Pv.D} {u : HO} (hP : c.P = fun _ => none) (r : Rel c As F env σ H) (hM : c.M i = .obj cn)
    (e : objAt env i = some (cn, l)) (so : SlotO c As F H σ i cn l p dx fs Bs g) (hk : (clsF cn)[k]? = some (f, s)) (hl : l[k]? = some (some d0)) (hg : g k = .ref b) (hB : Bs k = [b]) (o : OwnF c.K F (upd H b u) s (.ref b) d' [b]) :
    Rel c (fun j => if j = i then p :: owned (fun j => if j = k then [b] else Bs j) (setP l k d') else As j) F (env.set i (some (.obj cn (setP l k d')))) σ (upd H b u) := by
  have hpA : p ∈ As i := by rw [so.hA]; exact List.mem_cons_self
  have hbA : b ∈ As i := by rw [so.hA]; exact List.mem_cons_of_mem _ (mem_owned.mpr ⟨k, d0, hl, by rw [hB]; simp⟩)
  have hbp : p ≠ b := fun q => so.n1 k d0 hl (by rw [hB, q]; simp)
  obtain ⟨f', s', q1, q2, q3⟩ := so.t k d0 hl
  rw [hk] at q1
  cases q1
  rw [hg] at q2
  have ow := obj_put (H' := upd H b u) (w := .ref b) (d' := d') (B := [b]) so.fo so.t so.n1 so.n2 hk (Sub.refl F) (by rw [upd_ne hbp, putF_same q2]; exact so.hp) o (by simpa using hbp)
    fun j d hj w b' hb' => by
      have hn : b' ≠ b := fun q => so.n2 j k d d0 hj w hl b' hb' (by rw [hB, q]; simp)
      exact ⟨fun o q => by rw [upd_ne hn]; exact q, by simpa using hn⟩
  refine r.rewriteN (B := []) hP (objAt_some e) so.hv (by rw [hM]; exact ow) New.nil (fun b' hb' => .inl ?_) fun b' o q n => ?_
  · rcases List.mem_cons.mp hb' with rfl | hb'
    · exact hpA
    · obtain ⟨j, d, w, hb'⟩ := mem_owned.mp hb'
      rcases setP_at w with ⟨rfl, _⟩ | ⟨hj, w⟩
      · simp only [if_true, List.mem_singleton] at hb'
        rw [hb']; exact hbA
      · simp only [if_neg hj] at hb'
        rw [so.hA]; exact List.mem_cons_of_mem _ (mem_owned.mpr ⟨j, d, w, hb'⟩)
  · rw [upd_ne fun (q : b' = b) => n (q ▸ hbA)]; exact q
theorem fldE_some {env : Dv} {i k : Nat} {d : Pv.D} (h : fldE i k env = some d) : ∃ c l, objAt env i = some (c, l) ∧ l[k]? = some (some d) := by
  unfold fldE at h
  split at h
  · rename_i c l e
    refine ⟨c, l, by unfold objAt; rw [e], ?_⟩
    cases w : l[k]? with
    | none => rw [w] at h; cases h
    | some o => rw [w] at h; simp at h; rw [h]
  · cases h
theorem getD_at {l : List (Option Pv.D)} {k : Nat} {d : Pv.D} (h : (l[k]?).getD none = some d) : l[k]? = some (some d) := by
  cases w : l[k]? with
  | none => rw [w] at h; cases h
  | some o => rw [w] at h; simp at h; rw [h]
/-- the same object, a moment later -/
theorem SlotO.same {c : Ctx} {As As' : Nat → List Addr} {F F' H' : Hp} {i k : Nat} {cn : Str} {l l' : List (Option Pv.D)} {p dx p' dx' : Addr} {fs fs' : List (Str × V)} {Bs Bs' : Nat → List Addr} {g g' : Nat → V} {d d' : Pv.D} (so : SlotO c As F H σ i cn l p dx fs Bs g) (so' : SlotO c As' F' H' σ i cn l' p' dx' fs' Bs' g')
    (kp : ∀ b ∈ As i, ∀ o, H b = some o → H' b = some o) (h : l[k]? = some (some d)) (h' : l'[k]? = some (some d')) : g' k = g k := by
  have e1 := so.hv.symm.trans so'.hv
  cases e1
  have e2 := (kp p (by rw [so.hA]; exact List.mem_cons_self) _ so.hp).symm.trans so'.hp
  cases e2
  obtain ⟨f1, s1, a1, a2, _⟩ := so.t k d h
  obtain ⟨f2, s2, b1, b2, _⟩ := so'.t k d' h'
  rw [a1] at b1
  cases b1
  rw [a2] at b2
  exact (Option.some.inj b2).symm
/-- x.f, its value -/
theorem fld_read {c : Ctx} {As : Nat → List Addr} {F : Hp} {i k : Nat} {cn f : Str} {s : FS} {l : List (Option Pv.D)} {p dx : Addr} {fs : List (Str × V)} {Bs : Nat → List Addr} {g : Nat → V} {d : Pv.D} (kk : X.K = c.K) (co : ClsOk X cn) (so : SlotO c As F H σ i cn l p dx fs Bs g) (hk : (clsF cn)[k]? = some (f, s)) (hl : l[k]? = some (some d)) (q : Q (g k) H) : tFld X.K (tVar i) f σ H Q := by
  obtain ⟨f', s', q1, q2, _⟩ := so.t k d hl
  rw [hk] at q1
  cases q1
  exact ⟨_, so.hv, p, _, dx, fs, g k, rfl, by rw [kk]; exact so.hp, co.cls, co.fld hk, q2, q⟩
theorem fld_own {c : Ctx} {As : Nat → List Addr} {F : Hp} {i k : Nat} {cn f : Str} {s : FS} {l : List (Option Pv.D)} {p dx : Addr} {fs : List (Str × V)} {Bs : Nat → List Addr} {g : Nat → V} {d : Pv.D} (so : SlotO c As F H σ i cn l p dx fs Bs g) (hk : (clsF cn)[k]? = some (f, s)) (hl : l[k]? = some (some d)) : OwnF c.K F H s (g k) d (Bs k) := by
  obtain ⟨f', s', q1, q2, q3⟩ := so.t k d hl
  rw [hk] at q1
  cases q1
  exact q3
/-- x.f.append(e) -/
theorem ss_appF {i k : Nat} {cn x f : Str} {ea : Expr} {a : E} {ls hs ms : List Nat} {px fp ap cp pos : Pos} {wf : Nat} (xo : XO X z W) (co : ClsOk X cn) (n : RdOk X i x) (hMi : M i = .obj cn) (hk : (clsF cn)[k]? = some (f, .lst)) (lo : LendOk M ls hs ms) (him : i ∉ ms) (hh : okHead ea = true) (hl : (ap.endLine == cp.line) = true)
    (ha : SE X z (lentM M ls) W .pure ea (ev z.cf a)) : SS X z M np W rs (.Expr (.Call (.Attribute (.Attribute (.Name x px) f fp) "append" ap) [ea] [] cp) pos) (exe z.cf wf (.appF i k (.lend ls hs ms a))) := by
  have hd : allHead [ea] = true := by simp [allHead, hh]
  refine PS.imp (ps_expr (pe_bm PySem.F.plainAttrs_list PySem.F.slot_list_append PySem.F.type_list_append mt_append (pe_fld (pe_var n.ix n.vis n.db n.cd) (baseOk rfl _ _ _)) (pa_cons (lend_keep lo him ha) pa_nil (nonStar hh [] X.env)) rfl (fewOk hd (by simp) cp X.env) hl (nonStar hh [] X.env) rfl) (no_swap rfl _ _ _)) fun D σ H h => ?_
  obtain ⟨c, As, F, env, hK, hM, hP, r, h⟩ := h
  simp only [exe] at h
  cases q0 : fldE i k env with
  | none => rw [q0] at h; exact h.elim
  | some d0 =>
    rw [q0] at h
    have h : okS z np W c rs F σ (bindO (ev z.cf (.lend ls hs ms a) env) fun d env => nxO (putFE env i k (appV d))) D := h
    have hMc : c.M i = .obj cn := by rw [hM]; exact hMi
    have kk := xo.K.trans hK.symm
    obtain ⟨c', l, q1, q2⟩ := fldE_some q0
    obtain ⟨rfl, p, dx, fs, Bs, g, so⟩ := slot_of r hMc q1
    obtain ⟨b, vs, ds, e1, rfl, hb, hz, pr, hB⟩ := fld_own so hk q2
    unfold tDrop tBM
    refine fld_read kk co so hk q2 ?_
    rw [e1]
    refine ⟨.inl ⟨rfl, vs, .inl (.inl hb)⟩, c, As, F, env, hK, hM, r, ?_⟩
    · cases q : ev z.cf (.lend ls hs ms a) env with
      | stuck => rw [q] at h; exact h
      | exc x e =>
        exfalso
        rw [ev] at q
        split at q
        · cases w : (flat 40 _ && flatAt _ ms) <;> rw [w] at q <;> cases q
        · cases q
      | ok d e =>
        rw [q] at h
        have h : okS z np W c rs F σ (nxO (putFE e i k (appV d))) D := h
        intro v H2 F2 As2 r2 s2 rp e2 kp
        cases q3 : putFE e i k (appV d) with
        | none => rw [q3] at h; exact h.elim
        | some env' =>
          rw [q3] at h
          obtain ⟨c2, l2, d2, q4, q5, rfl⟩ := putFE_some q3
          obtain ⟨rfl, p2, dx2, fs2, Bs2, g2, so2⟩ := slot_of r2 hMc q4
          unfold appV at q5
          split at q5
          · rename_i l3 q6
            split at q5
            · rename_i hbig
              cases q5
              have q6 := getD_at q6
              have hs := so.same so2 (kp _ (objAt_some q1)) q2 q6
              obtain ⟨b2, vs2, ds2, e3, e4, hb2, hz2, pr2, hB2⟩ := fld_own so2 hk q6
              cases e4
              have e5 : b2 = b := by rw [hs, e1] at e3; cases e3; rfl
              subst e5
              have hlen : vs2.length + 1 ≤ sizeLine := by rw [paired_len pr2]; exact big_size hbig
              refine ⟨b2, vs2, v, rfl, rfl, hb2, hlen, ?_⟩
              exact h σ _ F2 _ (fld_write hP r2 hMc q4 so2 hk q6 e3 hB2 ⟨b2, vs2 ++ [v], _, rfl, rfl, upd_same, by simpa using hlen, paired_append pr2 (.cons rp .nil), rfl⟩) s2 Kept.refl
            · cases q5
          · cases q5
theorem lend_exc {cf : Str → List Pv.D → CR} {ls hs ms : List Nat} {a : E} {env e : Dv} {x : Exn} (q : ev cf (.lend ls hs ms a) env = .exc x e) : False := by
  rw [ev] at q
  split at q
  · cases w : (flat 40 _ && flatAt _ ms) <;> rw [w] at q <;> cases q
  · cases q
/-- x.f[j] = e -/
theorem ss_setDF {i k : Nat} {cn x f : Str} {ej ea : Expr} {j a : E} {ls hs ms : List Nat} {px fp tp pos : Pos} {wf : Nat} (xo : XO X z W) (co : ClsOk X cn) (n : RdOk X i x) (hMi : M i = .obj cn) (hk : (clsF cn)[k]? = some (f, .dct)) (lo : LendOk M ls hs ms) (him : i ∉ ms)
    (ha : SE X z M W .pure ea (ev z.cf a)) (hj : SE X z (lentM M ls) W .pure ej (ev z.cf j)) : SS X z M np W rs (.Assign [.Subscript (.Attribute (.Name x px) f fp) ej tp] ea pos) (exe z.cf wf (.setDF i k (.lend ls hs ms j) a)) := by
  have hu := xo.hu
  refine PS.imp (ps_dput (by omega) (pe_fld (pe_var n.ix n.vis n.db n.cd) (baseOk rfl _ _ _)) (lend_keep lo him hj) ha (by cases ea <;> rfl)) fun D σ H h => ?_
  obtain ⟨c, As, F, env, hK, hM, hP, r, h⟩ := h
  simp only [exe] at h
  have hMc : c.M i = .obj cn := by rw [hM]; exact hMi
  have kk := xo.K.trans hK.symm
  refine ⟨c, As, F, env, hK, hM, r, okS.bind (As := As) (env := env) h fun d e v H' F' As' A _ h r' s' o nw => ?_⟩
  cases q0 : fldE i k e with
  | none => rw [q0] at h; exact h.elim
  | some d0 =>
    rw [q0] at h
    have h : okS z np W c rs F' σ (bindO (ev z.cf (.lend ls hs ms j) e) fun y env => nxO (putFE env i k (setV y d))) D := h
    obtain ⟨c', l, q1, q2⟩ := fldE_some q0
    obtain ⟨rfl, p, dx, fs, Bs, g, so⟩ := slot_of r' hMc q1
    obtain ⟨b, kvs, ds, e1, rfl, hb, hz, nd, pr, hB⟩ := fld_own so hk q2
    refine fld_read kk co so hk q2 ?_
    rw [e1]
    refine ⟨c, As', F', e, hK, hM, r', ?_⟩
    cases q : ev z.cf (.lend ls hs ms j) e with
    | stuck => rw [q] at h; exact h
    | exc x e => exact (lend_exc q).elim
    | ok y e2 =>
      rw [q] at h
      have h : okS z np W c rs F' σ (nxO (putFE e2 i k (setV y d))) D := h
      intro vy H2 F2 As2 r2 s2 rp e3 kp
      cases q3 : putFE e2 i k (setV y d) with
      | none => rw [q3] at h; exact h.elim
      | some env' =>
        rw [q3] at h
        obtain ⟨c2, l2, d2, q4, q5, rfl⟩ := putFE_some q3
        obtain ⟨rfl, p2, dx2, fs2, Bs2, g2, so2⟩ := slot_of r2 hMc q4
        unfold setV at q5
        split at q5
        · rename_i l3 q6
          cases q7 : keyOf y with
          | none => rw [q7] at q5; cases q5
          | some kk2 =>
            rw [q7] at q5
            simp only [] at q5
            split at q5
            · rename_i hbig
              cases q5
              have q6 := getD_at q6
              have hs := so.same so2 (kp _ (objAt_some q1)) q2 q6
              obtain ⟨b2, vs2, ds2, e4, e5, hb2, hz2, nd2, pr2, hB2⟩ := fld_own so2 hk q6
              cases e5
              have e6 : b2 = b := by rw [hs, e1] at e4; cases e4; rfl
              subst e6
              have ek := key_v rp q7
              have hlen : vs2.length + 1 ≤ sizeLine := by rw [paired_len pr2]; exact big_size hbig
              rw [ek]
              refine ⟨b2, _, rfl, DPut.k hb2 hlen, ?_⟩
              exact h σ _ F2 _ (fld_write hP r2 hMc q4 so2 hk q6 e4 hB2 ⟨b2, _, _, rfl, rfl, upd_same, Nat.le_trans putK_len hlen, put_nodup nd2 (key_ok rp q7), put_pair pr2 (s2.rep o.2), rfl⟩) s2 Kept.refl
            · cases q5
        · cases q5
theorem drop_pair {K : PySem.W.Frag} {F : Hp} {kk : Key} {kvs : List (Key × V)} {l : List (Key × Pv.D)} (pr : Paired (KVp K F) kvs l) : Paired (KVp K F) (dropK kvs kk) (dropD l kk) := by
  induction pr with
  | nil => exact .nil
  | @cons x y xs ys r t ih =>
    unfold dropK dropD at ih ⊢
    rw [List.filter_cons, List.filter_cons]
    by_cases h : x.1 = kk
    · rw [if_neg (by simpa using h), if_neg (by simpa using r.1.symm.trans h)]
      exact ih
    · rw [if_pos (by simpa using h), if_pos (by simpa using fun e => h (r.1.trans e))]
      exact .cons r ih
theorem drop_len {kk : Key} {kvs : List (Key × V)} : (dropK kvs kk).length ≤ kvs.length := List.length_filter_le _ _
theorem drop_nodup {kk : Key} {l : List (Key × Pv.D)} (h : KN (l.map (·.1))) : KN ((dropD l kk).map (·.1)) := ⟨(List.filter_sublist.map _).nodup h.1, fun q hq => h.2 q ((List.filter_sublist.map _).subset hq)⟩
/-- del x.f[j] -/
theorem ss_delDF {i k : Nat} {cn x f : Str} {ej : Expr} {j : E} {ls hs ms : List Nat} {px fp tp pos : Pos} {wf : Nat} (xo : XO X z W) (co : ClsOk X cn) (n : RdOk X i x) (hMi : M i = .obj cn) (hk : (clsF cn)[k]? = some (f, .dct)) (lo : LendOk M ls hs ms) (him : i ∉ ms)
    (hj : SE X z (lentM M ls) W .pure ej (ev z.cf j)) : SS X z M np W rs (.Delete [.Subscript (.Attribute (.Name x px) f fp) ej tp] pos) (exe z.cf wf (.delDF i k (.lend ls hs ms j))) := by
  refine PS.imp (ps_ddel (pe_fld (pe_var n.ix n.vis n.db n.cd) (baseOk rfl _ _ _)) (lend_keep lo him hj)) fun D σ H h => ?_
  obtain ⟨c, As, F, env, hK, hM, hP, r, h⟩ := h
  simp only [exe] at h
  have hMc : c.M i = .obj cn := by rw [hM]; exact hMi
  have kk := xo.K.trans hK.symm
  cases q0 : fldE i k env with
  | none => rw [q0] at h; exact h.elim
  | some d0 =>
    rw [q0] at h
    have h : okS z np W c rs F σ (bindO (ev z.cf (.lend ls hs ms j) env) fun y env => nxO (putFE env i k (delV y))) D := h
    obtain ⟨c', l, q1, q2⟩ := fldE_some q0
    obtain ⟨rfl, p, dx, fs, Bs, g, so⟩ := slot_of r hMc q1
    obtain ⟨b, kvs, ds, e1, rfl, hb, hz, nd, pr, hB⟩ := fld_own so hk q2
    unfold sDDel
    refine fld_read kk co so hk q2 ?_
    rw [e1]
    refine ⟨c, As, F, env, hK, hM, r, ?_⟩
    cases q : ev z.cf (.lend ls hs ms j) env with
    | stuck => rw [q] at h; exact h
    | exc x e => exact (lend_exc q).elim
    | ok y e2 =>
      rw [q] at h
      have h : okS z np W c rs F σ (nxO (putFE e2 i k (delV y))) D := h
      intro vy H2 F2 As2 r2 s2 rp e3 kp
      cases q3 : putFE e2 i k (delV y) with
      | none => rw [q3] at h; exact h.elim
      | some env' =>
        rw [q3] at h
        obtain ⟨c2, l2, d2, q4, q5, rfl⟩ := putFE_some q3
        obtain ⟨rfl, p2, dx2, fs2, Bs2, g2, so2⟩ := slot_of r2 hMc q4
        unfold delV at q5
        split at q5
        · rename_i l3 q6
          cases q7 : keyOf y with
          | none => rw [q7] at q5; cases q5
          | some kk2 =>
            rw [q7] at q5
            simp only [] at q5
            split at q5
            · rename_i hin
              cases q5
              have q6 := getD_at q6
              have hs := so.same so2 (kp _ (objAt_some q1)) q2 q6
              obtain ⟨b2, vs2, ds2, e4, e5, hb2, hz2, nd2, pr2, hB2⟩ := fld_own so2 hk q6
              cases e5
              have e6 : b2 = b := by rw [hs, e1] at e4; cases e4; rfl
              subst e6
              have ek := key_v rp q7
              have hv : (valV vs2 kk2).isSome = true := by
                rw [valV_keys, kvp_keys pr2]
                exact dget_keys.mp hin
              refine ⟨b2, vs2, kk2, rfl, hb2, ek, hv, ?_⟩
              exact h σ _ F2 _ (fld_write hP r2 hMc q4 so2 hk q6 e4 hB2 ⟨b2, _, _, rfl, rfl, upd_same, Nat.le_trans drop_len hz2, drop_nodup nd2, drop_pair pr2, rfl⟩) s2 Kept.refl
            · cases q5
        · cases q5
/-- x.f -= e, ints -/
theorem ss_augF {i k : Nat} {cn x f : Str} {e : Expr} {a : E} {px tp pos : Pos} {wf : Nat} (xo : XO X z W) (co : ClsOk X cn) (n : RdOk X i x) (hMi : M i = .obj cn) (hk : (clsF cn)[k]? = some (f, .pure)) (ha : SE X z M W .pure e (ev z.cf a)) :
    SS X z M np W rs (.AugAssign (.Attribute (.Name x px) f tp) .Sub e pos) (exe z.cf wf (.augF i k .sub a)) := by
  refine PS.imp (ps_fldaug (pe_var n.ix n.vis n.db n.cd) ha in_sub) fun D σ H h => ?_
  obtain ⟨c, As, F, env, hK, hM, hP, r, h⟩ := h
  simp only [exe] at h
  have hMc : c.M i = .obj cn := by rw [hM]; exact hMi
  have kk := xo.K.trans hK.symm
  cases q0 : fldE i k env with
  | none => rw [q0] at h; exact h.elim
  | some d0 =>
    rw [q0] at h
    have h : okS z np W c rs F σ (bindO (ev z.cf a env) fun d env => nxO (putFE env i k fun _ => op2 .sub d0 d)) D := h
    obtain ⟨c', l, q1, q2⟩ := fldE_some q0
    obtain ⟨rfl, p, dx, fs, Bs, g, so⟩ := slot_of r hMc q1
    obtain ⟨f', s', w1, w2, w3⟩ := so.t k d0 q2
    rw [hk] at w1
    cases w1
    refine ⟨_, so.hv, p, _, dx, fs, g k, rfl, by rw [kk]; exact so.hp, co.cls, co.fld hk, w2, c, As, F, env, hK, hM, r, okS.bind (As := As) (env := env) h fun d e v H' F' As' A _ h r' s' o nw => ?_⟩
    cases q3 : putFE e i k fun _ => op2 .sub d0 d with
    | none => rw [q3] at h; exact h.elim
    | some env' =>
      rw [q3] at h
      obtain ⟨c2, l2, d2, q4, q5, rfl⟩ := putFE_some q3
      obtain ⟨rfl, p2, dx2, fs2, Bs2, g2, so2⟩ := slot_of r' hMc q4
      have e1 := so.hv.symm.trans so2.hv
      cases e1
      have q5 : subD d0 d = some d2 := q5
      have hq : ∃ s t, d0 = .int s ∧ d = .int t ∧ d2 = .int (s - t) := by
        unfold subD at q5
        split at q5
        · cases q5; exact ⟨_, _, rfl, rfl, rfl⟩
        · cases q5
      obtain ⟨s, t, rfl, rfl, rfl⟩ := hq
      · skip
        have hl := so2.fo.len
        refine ⟨s, t, w3.2.intE, o.2.intE, dx2, fs2, by rw [kk]; exact so2.hp, by omega, ?_⟩
        have hpA : p ∈ As' i := by rw [so2.hA]; exact List.mem_cons_self
        have ow := obj_put (H' := upd H' p (.ins (He.ga c.K c2) dx2 (putF f (.int (s - t)) fs2))) (w := .int (s - t)) (d' := .int (s - t)) (B := []) (dx := dx2) so2.fo so2.t so2.n1 so2.n2 hk (Sub.refl F') upd_same ⟨rfl, .int _⟩ (by simp)
          fun j d hj w b hb => ⟨fun u q => by rw [upd_ne fun (e : b = p) => so2.n1 j d w (e ▸ hb)]; exact q, by simp⟩
        rw [kk]
        refine h σ _ F' _ (r'.rewriteN (B := []) hP (objAt_some q4) so2.hv (by rw [hMc]; exact ow) New.nil (fun b hb => .inl ?_) fun b u q n => ?_) (Sub.refl _) Kept.refl
        · rcases List.mem_cons.mp hb with rfl | hb
          · exact hpA
          · obtain ⟨j, d', w, hb⟩ := mem_owned.mp hb
            rcases setP_at w with ⟨rfl, _⟩ | ⟨hj, w⟩
            · simp at hb
            · simp only [if_neg hj] at hb
              rw [so2.hA]; exact List.mem_cons_of_mem _ (mem_owned.mpr ⟨j, d', w, hb⟩)
        · rw [upd_ne fun (e : b = p) => n (e ▸ hpA)]; exact q
end
end Pv
set_option Elab.async false
set_option linter.all false
set_option maxRecDepth 100000
set_option maxHeartbeats 4000000
namespace Pv
open PySem PySem.Spec PyProof.Rows L2
/-! ### o.m(..) -/
/-- how a method's call is read -/
theorem meth_eq {o : Expr} {m : Str} {apos pos : Pos} {es : List Expr} {env : PySem.Env} (hb : attributeBase o m env (eval o env) = eval o env) (hf : methodCallForm (es.length + ([] : List Keyword).length) (backTo pos (starEach es env)) (backToKw pos (keywordEach [] env)) = true) (hl : (apos.endLine == pos.line) = true) :
    eval (.Call (.Attribute o m apos) es [] pos) env = (eval o env >>= fun ov => standAt apos.atName >>= fun _ => holding [ov] (getMethod ov m (do return (← importBound o env).getD true)) >>= fun p => callWith pos p.1 p.2 (backTo pos (starEach es env)) (backToKw pos (keywordEach [] env))) := by
  rw [arm_eval_Call, hb]
  unfold methodCall calleeOf methodCallPos
  rw [hf]
  simp only [hl, Bool.not_true, Bool.false_or, if_true]
  rfl
def tMethS (C : Addr) (m : Str) (sp : Sp) (E : L2.St → XK) (ta : TE) (t : TA) : TE := fun σ H Q => ta σ H fun x H1 => ∃ a dx fs, x = .ref a ∧ H1 a = some (.ins C dx fs) ∧ fs.lookup m = none ∧ t σ H1 fun vs H2 => sp (x :: vs) H2 Q (E σ)
def tMakeS (C : Addr) (sp : Sp) (E : L2.St → XK) (t : TA) : TE := fun σ H Q => t σ H fun vs H1 => ∀ x dx, H1 x = none → H1 dx = none → dx ≠ x → sp (.ref x :: vs) (upd (upd H1 dx (.own x)) x (.ins C dx [])) (fun v H2 => v = .non ∧ Q (.ref x) H2) (E σ)
section
variable {X : Cx} {CXt : CXT} {k : Nat} {f C : Addr} {fd : FuncData} {ps : List Str} {sp : Sp} {E : L2.St → XK} {x m : Str} {p pos apos : Pos} {e o : Expr} {es : List Expr} {ta : TE} {t : TA}
theorem pm_args (he : PE X o ta) (c : Cls X.K C) (hm : Meth X.K C m f) (F : FnG X.prog X.w X.K X.mg X.base CXt k f fd ps sp) (hr : Room k X.A) (hgu : X.A.guards = some []) (hb : Binds X.K fd ps []) (hx : ∀ σ, PassesAt CXt X σ (E σ)) (ha : PA X (e :: es) t)
    (hbs : attributeBase o m X.env (eval o X.env) = eval o X.env) (hh : okHead e = true) (hh2 : allHead es = true) (hn : es.length < 29) (hl : (apos.endLine == pos.line) = true) : PE X (.Call (.Attribute o m apos) (e :: es) [] pos) (tMethS C m sp E ta t) := by
  refine ⟨fun pins s σ H Q I h => ?_⟩
  have hf : allHead (e :: es) = true := by unfold allHead at hh2 ⊢; rw [List.all_cons, hh, hh2]; rfl
  refine PySem.W.methodCall_KW (thn (he.run pins s σ H _ I h) fun u s1 ⟨x, H1, I1, rx, a, dx, fs, ex, ea, l, q⟩ => ?_) (meth_eq hbs (fewOk hf (by simp; omega) pos X.env) hl)
  subst ex
  obtain rfl : u = Value.ref a := rx
  refine getmeth_ok I1 ea c hm l ?_
  refine PySem.W.callWith_K (first := [.ref a]) (h₀ := X.base) I.ok.mod.kin hm.kp (thn (ha.run pos pins s1 σ H1 _ I1 q) fun us s2 ⟨vs, H2, I2, rv, q2⟩ => ⟨I2.kIn, ?_⟩) (nonStar hh es X.env) (noStars hh2 pos X.env)
  exact F.plain (us := .ref a :: us) (vs := .ref a :: vs) hr hgu hb (hx σ) I2 (.cons rfl rv) q2
theorem pm_args0 (he : PE X o ta) (c : Cls X.K C) (hm : Meth X.K C m f) (F : FnG X.prog X.w X.K X.mg X.base CXt k f fd ps sp) (hr : Room k X.A) (hgu : X.A.guards = some []) (hb : Binds X.K fd ps []) (hx : ∀ σ, PassesAt CXt X σ (E σ))
    (hbs : attributeBase o m X.env (eval o X.env) = eval o X.env) (hl : (apos.endLine == pos.line) = true) : PE X (.Call (.Attribute o m apos) [] [] pos) (tMethS C m sp E ta tNil) := by
  refine ⟨fun pins s σ H Q I h => ?_⟩
  refine PySem.W.methodCall_KW (thn (he.run pins s σ H _ I h) fun u s1 ⟨x, H1, I1, rx, a, dx, fs, ex, ea, l, q⟩ => ?_) (meth_eq hbs rfl hl)
  subst ex
  obtain rfl : u = Value.ref a := rx
  refine getmeth_ok I1 ea c hm l ?_
  refine PySem.W.callWith_K0 I1.kIn hm.kp ?_
  exact F.plain (us := [.ref a]) (vs := [.ref a]) hr hgu hb (hx σ) I1 (.cons rfl .nil) q
/-- a new object, what is raised is wished for at the caller's slots -/
theorem mk_run {pins : List (Addr × Obj)} {σ : L2.St} {H : Hp} {s : Shared} {Q : VK} {us : List Value} {vs : List V} (M : Mk X.K C f) (F : FnG X.prog X.w X.K X.mg X.base CXt k f fd ps sp) (hr : Room (k + 1) X.A) (hgu : X.A.guards = some []) (hb : Binds X.K fd ps []) (hx : ∀ σ, PassesAt CXt X σ (E σ)) (I : Inv X pins σ H s) (rv : Vals vs us)
    (h : ∀ x dx, H x = none → H dx = none → dx ≠ x → sp (.ref x :: vs) (upd (upd H dx (.own x)) x (.ins C dx [])) (fun v H2 => v = .non ∧ Q (.ref x) H2) (E σ)) : wpAny (model X.prog X.w) X.A (call (.ref C) us) (EP X pins σ Q) X.xe s := by
  have hq := h (s.heap.objs.size + 1) s.heap.objs.size (I.hok.fresh (Nat.le_succ _)) (I.hok.fresh (Nat.le_refl _)) (Nat.ne_of_lt (Nat.lt_succ_self _))
  have J := Inv.made (C := C) I
  have r2 : Vals (V.ref (s.heap.objs.size + 1) :: vs) (Value.ref (s.heap.objs.size + 1) :: us) := .cons rfl rv
  have hl : (Value.ref (s.heap.objs.size + 1) :: us ++ []).length = ps.length := by
    rw [List.append_nil, ← r2.length]
    exact F.len _ _ _ _ hq
  have bb := hb _ (Value.ref (s.heap.objs.size + 1) :: us) J.kIn hl
  rw [List.append_nil] at bb
  refine wpAny_call (make_map (f := f) I.kIn M.makes M.init (beq_iff_eq.mp M.fn) (codeAny_mono (F.go (hr.make C us []) (guards_make hgu) (J.env0.make C us []) bb r2 hq) fun rr s' hq' => ?_))
  cases rr with
  | error e => exact hx σ pins _ _ e s' J hq'
  | ok fl =>
    cases fl with
    | ret u =>
      obtain ⟨v, H', I3, w, ew, q3⟩ := J.after hq'
      subst ew
      exact ⟨w, V.ref (s.heap.objs.size + 1), H', I3, rfl, q3⟩
    | next => exact hq'.elim
    | brk => exact hq'.elim
    | cont => exact hq'.elim
theorem mk_args (M : Mk X.K C f) (F : FnG X.prog X.w X.K X.mg X.base CXt k f fd ps sp) (hr : Room (k + 1) X.A) (hgu : X.A.guards = some []) (hg : Gl X x) (hm : X.mg x = some (.ref C)) (hb : Binds X.K fd ps []) (hx : ∀ σ, PassesAt CXt X σ (E σ)) (ha : PA X (e :: es) t) (hdb : (x == ("__debug__" : Str)) = false) (hh : okHead e = true) (hh2 : allHead es = true) :
    PE X (.Call (.Name x p) (e :: es) [] pos) (tMakeS C sp E t) := by
  refine ⟨fun pins s σ H Q I h => ?_⟩
  refine wpAny_Call_Name_kw (ld_glob I hg hm ?_ hdb)
  exact PySem.W.callWith_K (h₀ := X.base) I.ok.mod.kin M.kp (thn (ha.run pos pins s σ H _ I h) fun us s1 ⟨vs, H1, J, rv, q⟩ => ⟨J.kIn, mk_run M F hr hgu hb hx J rv q⟩) (nonStar hh es X.env) (noStars hh2 pos X.env)
theorem mk_args0 (M : Mk X.K C f) (F : FnG X.prog X.w X.K X.mg X.base CXt k f fd ps sp) (hr : Room (k + 1) X.A) (hgu : X.A.guards = some []) (hg : Gl X x) (hm : X.mg x = some (.ref C)) (hb : Binds X.K fd ps []) (hx : ∀ σ, PassesAt CXt X σ (E σ)) (hdb : (x == ("__debug__" : Str)) = false) : PE X (.Call (.Name x p) [] [] pos) (tMakeS C sp E tNil) := by
  refine ⟨fun pins s σ H Q I h => ?_⟩
  refine wpAny_Call_Name_kw (ld_glob I hg hm ?_ hdb)
  exact PySem.W.callWith_K0 I.kIn M.kp (mk_run (us := []) M F hr hgu hb hx I .nil h)
end
section
variable {X : Cx} {z : Z} {M : Nat → Sh} {np : Nat} {W : WX} {rs : Sh} {σ σ1 : L2.St} {H : Hp} {Q : VK}
theorem isCls_obj {cn : Str} {d : Pv.D} (h : isCls cn d = true) : ∃ l, d = .obj cn l := by
  cases d with
  | obj c l => simp [isCls] at h; subst h; exact ⟨l, rfl⟩
  | _ => simp [isCls] at h
/-- the receiver, known as an object of the class -/
theorem recv_at {K : PySem.W.Frag} {F H : Hp} {cn m : Str} {sh : Sh} {v : V} {d : Pv.D} {A : List Addr} (sf : Sub F H) (hs : sh = .obj cn ∨ (sh = .pure ∧ isCls cn d = true)) (hn : m ∉ (clsF cn).map (·.1)) (o : Own K F H sh v d A) : ∃ a dx fs, v = .ref a ∧ H a = some (.ins (He.ga K cn) dx fs) ∧ fs.lookup m = none := by
  rcases hs with rfl | ⟨rfl, hc⟩
  · obtain ⟨a, dx, fs, l, As, g, rfl, rfl, ha, fo, _⟩ := o
    exact ⟨a, dx, fs, rfl, ha, fo.none hn⟩
  · obtain ⟨l, rfl⟩ := isCls_obj hc
    have p := o.2
    cases p with
    | obj ha fo _ _ => exact ⟨_, _, _, rfl, sf _ _ ha, fo.none hn⟩
theorem callR_eq {as : List E} {e : Dv} {r : CR} : callR as e r = (match r with | .ok d ds'' => .ok d (writeBack as ds'' e) | .exc x ds'' => .exc x (writeBack as ds'' e) | .stuck => .stuck) := by cases r <;> rfl
theorem mcall_pre {f cn m : Str} {ret sh0 : Sh} {r : E} {as : List E} {shs : List Sh} {o : Expr} (kk : X.K = z.K) (nd : RefNd (r :: as)) (hs : sh0 = .obj cn ∨ (sh0 = .pure ∧ isRf r = false)) (hn : m ∉ (clsF cn).map (·.1)) (ho : ArgK X z M W o r sh0) {t : TA} (ht : ∀ σ H Q, tArg z M W as shs σ H Q → t σ H Q) :
    ∃ ta, PE X o ta ∧ ∀ σ H Q, tF z M W ret (ev z.cf (.mcall cn f r as)) σ H Q → tMethS (He.ga X.K cn) m (spS z (sh0 :: shs) ret (z.cf f)) (WE W) ta t σ H Q := by
  -- the arguments, then the call
  have rest : ∀ {c : Ctx} {As1 : Nat → List Addr} {F F1 H1 : Hp} {e : Dv} {v : V} {x : Pv.D} {ai : Air} {σ : L2.St} {Q : VK}, c.K = z.K → c.M = M → Rel c As1 F1 e σ H1 → Sub F F1 → Lim c F1 H1 As1 e σ [(v, ai)] → (∀ vs ds qs, AirAll M vs as shs ds qs → AirAll M (v :: vs) (r :: as) (sh0 :: shs) (x :: ds) ((v, ai) :: qs)) →
      okE z W c ret F σ (bindR (evs z.cf as e) fun ds e => bindR (liftO (resolve (r :: as) (x :: ds) e) e) fun ds' e => callR (r :: as) e (z.cf f ds')) Q → t σ H1 fun vs H2 => spS z (sh0 :: shs) ret (z.cf f) (v :: vs) H2 Q (WE W σ) := by
    intro c As1 F F1 H1 e v x ai σ Q hK hM r1 s1 l1 al1 h
    refine ht _ _ _ ⟨c, As1, F1, e, _, hK, hM, r1, l1, ?_⟩
    cases q : evs z.cf as e with
    | stuck => rw [q] at h; exact h
    | exc y e' => rw [q] at h; exact fun cl da H' F' As' r s' q => h cl da H' F' As' r (s1.trans s') q
    | ok ds e' =>
      rw [q] at h
      intro vs H' F' As' qs r' s' l' al
      have h : okE z W c ret F σ (bindR (liftO (resolve (r :: as) (x :: ds) e') e') fun ds' e => callR (r :: as) e (z.cf f ds')) Q := h
      cases q2 : resolve (r :: as) (x :: ds) e' with
      | none => rw [q2] at h; exact h.elim
      | some ds' =>
        rw [q2] at h
        have h : okE z W c ret F σ (callR (r :: as) e' (z.cf f ds')) Q := h
        rw [callR_eq] at h
        exact call_core hK hM nd r' l' (al1 vs ds qs al) q2 (okE.mono h (s1.trans s'))
  have val : ∀ {g : Dv → R Pv.D}, (∀ env, ev z.cf r env = g env) → isRef r = false → (sh0 = .obj cn ∨ (sh0 = .pure ∧ isRf r = false)) → ∀ σ H Q, tF z M W ret (ev z.cf (.mcall cn f r as)) σ H Q → tMethS (He.ga X.K cn) m (spS z (sh0 :: shs) ret (z.cf f)) (WE W) (tF z M W sh0 g) t σ H Q := by
    intro g hg hr hs σ H Q h
    obtain ⟨c, As, F, env, hK, hM, r0, h⟩ := h
    have h : okE z W c ret F σ (bindR (ev z.cf r env) fun x e => bif isRf r || isCls cn x then bindR (evs z.cf as e) fun ds e => bindR (liftO (resolve (r :: as) (x :: ds) e) e) fun ds' e => callR (r :: as) e (z.cf f ds') else .stuck) Q := h
    refine ⟨c.re As F H env, As, F, env, hK, hM, r0.re, ?_⟩
    rw [hg] at h
    cases q : g env with
    | stuck => rw [q] at h; exact h
    | exc x e => rw [q] at h; exact fun cl da H' F' As' r1 s' q => h cl da H' F' As' (r0.un r1) s' q
    | ok d e =>
      rw [q] at h
      intro v H1 F1 As1 A r1 s1 ow nw
      obtain ⟨hk, h⟩ := okE.bif h
      have hrf : isRf r = false := by cases r <;> first | rfl | simp [isRef] at hr
      have hc : isCls cn d = true := by rw [hrf] at hk; simpa using hk
      obtain ⟨a, dx, fs, e1, e2, e3⟩ := recv_at r1.sub (hs.imp id fun q => ⟨q.1, hc⟩) hn ow
      have nn : New c F1 H1 As1 e A := ⟨nw.side, fun b hb => by
        rcases nw.nw b hb with q1 | q1
        · exact r0.h0 q1
        · exact r0.own0 q1⟩
      refine ⟨a, dx, fs, e1, by rw [kk, ← hK]; exact e2, e3, rest hK hM (r0.un r1) s1 (Lim.add Lim.nil ow nn (by simp)) (fun vs ds qs al => .val hr al) h⟩
  cases ho with
  | pure hr hse => exact ⟨_, hse, val (fun _ => rfl) hr hs⟩
  | @own _ a' _ hse => exact ⟨_, hse, val (g := ev z.cf a') (fun _ => rfl) rfl (hs.imp id fun q => ⟨q.1, rfl⟩)⟩
  | @ref x i pos _ h1 h2 h3 h4 h5 =>
    refine ⟨_, pe_var h1 h2 h3 h4, fun σ H Q h => ?_⟩
    obtain ⟨c, As, F, env, hK, hM, r0, h⟩ := h
    have h : okE z W c ret F σ (bindR (ev z.cf (.mref i) env) fun x e => bif isRf (.mref i) || isCls cn x then bindR (evs z.cf as e) fun ds e => bindR (liftO (resolve (.mref i :: as) (x :: ds) e) e) fun ds' e => callR (.mref i :: as) e (z.cf f ds') else .stuck) Q := h
    rcases hs with hs | ⟨_, hs⟩
    · cases q : env[i]? with
      | none => simp only [ev, q] at h; exact h.elim
      | some o' =>
        cases o' with
        | none => simp only [ev, q] at h; exact h.elim
        | some d =>
          simp only [ev, q] at h
          obtain ⟨v, hv, ow⟩ := r0.val i d q
          rw [hM, h5] at ow
          obtain ⟨a, dx, fs, e1, e2, e3⟩ := recv_at (m := m) r0.sub (.inl hs) hn ow
          exact ⟨v, hv, a, dx, fs, e1, by rw [kk, ← hK]; exact e2, e3, rest hK hM r0 (Sub.refl _) (Lim.addRef Lim.nil hv) (fun vs ds qs al => .ref h5 al) h⟩
    · simp [isRf] at hs
theorem tArg_nil {σ : L2.St} {H : Hp} {Q : List V → Hp → Prop} (h : tArg z M W [] [] σ H Q) : tNil σ H Q := by
  obtain ⟨c, As, F, env, ps, hK, hM, r, l, h⟩ := h
  exact h [] H F As [] r (Sub.refl _) (by rw [List.append_nil]; exact l) .nil
theorem snd_mcall {g cn m : Str} {ret sh0 : Sh} {r : E} {as : List E} {shs : List Sh} {k : Nat} {f : Addr} {fd : FuncData} {ps : List Str} {o : Expr} {es : List Expr} {apos pos : Pos} (xo : XO X z W) (co : Cls X.K (He.ga X.K cn)) (hm : Meth X.K (He.ga X.K cn) m f)
    (F : FnG X.prog X.w X.K X.mg X.base (L2.CX X.prog X.w) k f fd ps (spS z (sh0 :: shs) ret (z.cf g))) (hr : Room k X.A) (hb : Binds X.K fd ps []) (nd : RefNd (r :: as)) (hs : sh0 = .obj cn ∨ (sh0 = .pure ∧ isRf r = false)) (hn : m ∉ (clsF cn).map (·.1)) (hrv : recvOk o = true) (hh : allHead es = true) (hl : es.length < 29) (hln : (apos.endLine == pos.line) = true)
    (ho : ArgK X z M W o r sh0) (ha : L2.PA X es (tArg z M W as shs)) (hnil : es = [] → as = [] ∧ shs = []) : SE X z M W ret (.Call (.Attribute o m apos) es [] pos) (ev z.cf (.mcall cn g r as)) := by
  cases es with
  | nil =>
    obtain ⟨rfl, rfl⟩ := hnil rfl
    obtain ⟨ta, pe, pre⟩ := mcall_pre (f := g) (ret := ret) (as := []) (shs := []) xo.K nd hs hn ho (fun σ H Q => tArg_nil)
    exact PE.imp (pm_args0 (E := WE W) pe co hm F hr xo.gu hb (passAt xo.tk) (baseOk hrv _ _ _) hln) pre
  | cons e es =>
    obtain ⟨ta, pe, pre⟩ := mcall_pre (f := g) (ret := ret) (as := as) (shs := shs) xo.K nd hs hn ho (fun σ H Q h => h)
    unfold allHead at hh
    rw [List.all_cons, Bool.and_eq_true] at hh
    exact PE.imp (pm_args (E := WE W) pe co hm F hr xo.gu hb (passAt xo.tk) ha (baseOk hrv _ _ _) hh.1 hh.2 (by simp at hl; omega) hln) pre
/-- the fields of a new object -/
theorem new_obj {K : PySem.W.Frag} {F H : Hp} {cn : Str} {a dx : Addr} (ha : H a = some (.ins (He.ga K cn) dx [])) : Own K F H (.obj cn) (.ref a) (.obj cn []) [a] :=
  ⟨a, dx, [], [], fun _ => [], fun _ => .non, rfl, rfl, ha, ⟨by simp, by simp⟩, fun k d h => by simp at h, fun k d h => by simp at h, fun j k d e _ h => by simp at h, rfl⟩
theorem new_pre {f cn : Str} {as : List E} {shs : List Sh} (kk : X.K = z.K) (hp : allPure shs) (hln : shs.length = as.length) {t : TA} (ht : ∀ σ H Q, tAs z M W (evs z.cf as) σ H Q → t σ H Q) :
    ∀ σ H Q, tF z M W (.obj cn) (ev z.cf (.new cn f as)) σ H Q → tMakeS (He.ga X.K cn) (spS z (.obj cn :: shs) .pure (z.cf f)) (WE W) t σ H Q := by
  intro σ H Q h
  obtain ⟨c, As, F, env, hK, hM, r, h⟩ := h
  have h : okE z W c (.obj cn) F σ (bindR (evs z.cf as env) fun ds e => newR e (z.cf f (.obj cn [] :: ds))) Q := h
  refine ht _ _ _ ⟨c, As, F, env, hK, hM, r, ?_⟩
  cases q : evs z.cf as env with
  | stuck => rw [q] at h; exact h
  | exc y e => rw [q] at h; exact h
  | ok ds e =>
    rw [q] at h
    have h : okE z W c (.obj cn) F σ (newR e (z.cf f (.obj cn [] :: ds))) Q := h
    intro vs H1 F1 As1 r1 s1 pr x dx hx hdx hne
    have lds := evs_len z.cf as q
    have lvs := paired_len pr
    obtain ⟨H2, hH2⟩ : ∃ H2 : Hp, H2 = upd (upd H1 dx (.own x)) x (.ins (He.ga X.K cn) dx []) := ⟨_, rfl⟩
    have up : ∀ a o, H1 a = some o → H2 a = some o := fun a o e => by
      rw [hH2, upd_ne (ne_of_none e hx), upd_ne (ne_of_none e hdx)]; exact e
    have dn : ∀ a, H2 a = none → H1 a = none := fun a e => by
      cases q1 : H1 a with
      | none => rfl
      | some o => rw [up a o q1] at e; cases e
    have hx2 : H2 x = some (.ins (He.ga z.K cn) dx []) := by rw [hH2, ← kk]; exact upd_same
    rw [← hH2]
    obtain ⟨A1, hA1⟩ : ∃ A1 : Nat → List Addr, ∀ j, A1 j = if j = 0 then [x] else [] := ⟨_, fun _ => rfl⟩
    have ow : ∀ a, a ∈ owned A1 ((.obj cn [] :: ds).map some) → a = x := fun a ha => by
      obtain ⟨j, d, _, hb⟩ := mem_owned.mp ha
      rw [hA1] at hb
      split at hb
      · simpa using hb
      · simp at hb
    have pM : ∀ j, parM (.obj cn :: shs) (j + 1) = .pure := fun j => by
      unfold parM
      rw [List.getElem?_cons_succ]
      cases w : shs[j]? with
      | none => rfl
      | some s => exact hp s (List.mem_of_getElem? w)
    have r0 : Rel (callC z.K (.obj cn :: shs) H2 F1 A1 (.obj cn [] :: ds)) A1 F1 ((.obj cn [] :: ds).map some) ((V.ref x :: vs).map some) H2 := by
      refine ⟨fun j d w => ?_, fun j d w a ha => ?_, fun j d w a ha => .inr (mem_owned.mpr ⟨j, d, w, ha⟩), fun j k d d' hn w w' a ha ha' => ?_, r1.sub.trans up, Sub.refl _, fun _ _ h _ => h, fun _ _ h => .inl h, by simp [lvs], fun i v h => nomatch h⟩
      · have w := map_some_get w
        cases j with
        | zero =>
          have e1 : D.obj cn [] = d := by simpa using w
          subst e1
          refine ⟨.ref x, rfl, ?_⟩
          show Own z.K F1 H2 (.obj cn) _ _ _
          rw [hA1, if_pos rfl]
          exact new_obj hx2
        | succ j =>
          have w : ds[j]? = some d := by simpa using w
          obtain ⟨v, q1, q2⟩ := paired_get' pr w
          refine ⟨v, by simpa using q1, ?_⟩
          show Own z.K F1 H2 (parM (.obj cn :: shs) (j + 1)) _ _ _
          rw [pM, hA1, if_neg (Nat.succ_ne_zero j)]
          exact ⟨rfl, hK ▸ q2⟩
      · rw [hA1] at ha
        split at ha
        · have e1 : a = x := by simpa using ha
          rw [e1]; exact r1.sub.back hx
        · simp at ha
      · rw [hA1] at ha ha'
        split at ha
        · rename_i e1
          split at ha'
          · rename_i e2; exact hn (e1.trans e2.symm)
          · simp at ha'
        · simp at ha
    -- the way back
    have grow : ∀ {ds' : List Pv.D} {H' F' : Hp} {As' : Nat → List Addr}, Rel (callC z.K (.obj cn :: shs) H2 F1 A1 (.obj cn [] :: ds)) As' F' (ds'.map some) ((V.ref x :: vs).map some) H' → Grow F1 H1 F' H' := fun {ds' H' F' As'} r' => by
      have fr : ∀ a o, H1 a = some o → H' a = some o := fun a o e => r'.frame a o (up a o e) fun hm => by
        rw [ow a hm, hx] at e; cases e
      refine ⟨fr, r'.old, r'.sub, fun a o e => ?_⟩
      rcases r'.newF a o e with w | w | w
      · exact .inl w
      · exact .inr (dn a w)
      · rw [ow a w]; exact .inr hx
    refine ⟨F1, A1, .obj cn [] :: ds, by simp; omega, by simp; omega, r0, ?_⟩
    cases q2 : z.cf f (.obj cn [] :: ds) with
    | stuck => rw [q2] at h; exact h
    | exc y ds' =>
      rw [q2] at h
      intro cl da H' F' As' r' s' hx'
      have g := grow r'
      exact h cl da H' F' As1 (r1.grow g) (s1.trans g.f) hx'
    | ok d ds' =>
      rw [q2] at h
      intro v H' F' As' A r' s' o n
      have ll : ds'.length = vs.length + 1 := by simpa using r'.len
      cases ds' with
      | nil => simp at ll
      | cons s ds' =>
        cases d with
        | non =>
          have h : okE z W c (.obj cn) F σ (.ok s e) Q := h
          refine ⟨o.2.noneE, ?_⟩
          have g := grow r'
          obtain ⟨v0, w1, w2⟩ := r'.val 0 s rfl
          have e0 : v0 = .ref x := by simpa using w1.symm
          subst e0
          have w2 : Own z.K F' H' (.obj cn) (.ref x) s (As' 0) := w2
          have nw0 : ∀ a ∈ As' 0, H1 a = none := fun a ha => by
            rcases r'.nw 0 s rfl a ha with w | w
            · exact dn a w
            · rw [ow a w]; exact hx
          refine h (.ref x) H' F' As1 (As' 0) (r1.grow g) (s1.trans g.f) (by rw [hK]; exact w2) ⟨⟨fun a ha => ?_, fun a ha => r'.off 0 s rfl a ha, fun a ha hm => ?_⟩, fun a ha => r1.h0 (nw0 a ha)⟩
          · obtain ⟨u, hu, _⟩ := w2.there a ha
            exact ⟨u, hu⟩
          · obtain ⟨j, d, w3, w4⟩ := mem_owned.mp hm
            obtain ⟨v', _, w5⟩ := r1.val j d w3
            obtain ⟨u, hu, _⟩ := w5.there a w4
            rw [nw0 a ha] at hu; cases hu
        | _ => exact h.elim
theorem tAs_nil {σ : L2.St} {H : Hp} {Q : List V → Hp → Prop} (h : tAs z M W (evs z.cf []) σ H Q) : tNil σ H Q := by
  obtain ⟨c, As, F, env, hK, hM, r, h⟩ := h
  exact h [] H F As r (Sub.refl _) .nil
/-- a new object -/
theorem snd_new {g cn : Str} {as : List E} {shs : List Sh} {k : Nat} {f : Addr} {fd : FuncData} {ps : List Str} {es : List Expr} {p pos : Pos} (xo : XO X z W) (mk : Mk X.K (He.ga X.K cn) f) (F : FnG X.prog X.w X.K X.mg X.base (L2.CX X.prog X.w) k f fd ps (spS z (.obj cn :: shs) .pure (z.cf g))) (hr : Room (k + 1) X.A) (hg : Gl X cn) (hm : X.mg cn = some (.ref (He.ga X.K cn)))
    (hb : Binds X.K fd ps []) (hp : allPure shs) (hln : shs.length = as.length) (hdb : (cn == ("__debug__" : Str)) = false) (hh : allHead es = true) (ha : SA X z M W es (evs z.cf as)) (hnil : es = [] → as = []) : SE X z M W (.obj cn) (.Call (.Name cn p) es [] pos) (ev z.cf (.new cn g as)) := by
  cases es with
  | nil =>
    have e := hnil rfl
    subst e
    exact PE.imp (mk_args0 (E := WE W) mk F hr xo.gu hg hm hb (passAt xo.tk) hdb) (new_pre xo.K hp hln fun σ H Q => tAs_nil)
  | cons e es =>
    unfold allHead at hh
    rw [List.all_cons, Bool.and_eq_true] at hh
    exact PE.imp (mk_args (E := WE W) mk F hr xo.gu hg hm hb (passAt xo.tk) ha hdb hh.1 hh.2) (new_pre xo.K hp hln fun σ H Q h => h)
end
end Pv
set_option Elab.async false
set_option linter.all false
set_option maxRecDepth 100000
set_option maxHeartbeats 4000000
namespace Pv
open PySem PySem.Spec PyProof.Rows L2
section
variable {X : Cx} {z : Z} {M : Nat → Sh} {np : Nat} {W : WX} {rs : Sh} {σ σ1 : L2.St} {H : Hp} {Q : VK} {tp : Bool}
/-- what stands somewhere is locked behind the expression -/
theorem PE.lock {e : Expr} {t : TE} (h : PE X e t) : PE X e (fun σ H Q => t σ H fun v H1 => ∃ d u, H1 d = some u ∧ Mut (some u) ∧ ∀ od, Q v (upd H1 d (.frz od u))) := by
  refine ⟨fun pins s σ H Q I q => thn (h.run pins s σ H _ I q) fun u s1 ⟨x, H1, J, rx, d, w, h1, h2, h3⟩ => ?_⟩
  obtain ⟨od, J2⟩ := J.lock h1 h2
  exact ⟨x, _, J2, rx, h3 od⟩
/-- a new dict is locked -/
theorem lock_core {c : Ctx} {As1 : Nat → List Addr} {F1 H1 : Hp} {e : Dv} {v : V} {d : Pv.D} {A : List Addr} (r1 : Rel c As1 F1 e σ H1) (o : Own c.K F1 H1 (.dct .pure) v d A) (n : New c F1 H1 As1 e A) :
    ∃ p kvs l, d = .dct l ∧ H1 p = some (.dK kvs) ∧ ∀ od, ∃ F2, Rel c As1 F2 e σ (upd H1 p (.frz od (.dK kvs))) ∧ Sub F1 F2 ∧ Rep c.K F2 v (.dctL l) := by
  have hd : ∃ l, d = .dct l := by obtain ⟨_, _, l, _, _, e, _⟩ := o; exact ⟨l, e⟩
  obtain ⟨l, rfl⟩ := hd
  obtain ⟨p, kvs, rfl, hp, hz, nd, pr, rfl⟩ := own_dct o
  refine ⟨p, kvs, l, rfl, hp, fun od => ?_⟩
  have offp : F1 p = none := n.side.off p (by simp)
  have s2 : Sub F1 (upd F1 p (.frz od (.dK kvs))) := Sub.new offp
  have apart : ∀ {i d a}, e[i]? = some (some d) → a ∈ As1 i → a ≠ p := fun {i d a} w ha q => n.side.apart p (by simp) (mem_owned.mpr ⟨i, d, w, q ▸ ha⟩)
  refine ⟨upd F1 p (.frz od (.dK kvs)), ⟨fun i d w => ?_, fun i d w a ha => ?_, r1.nw, r1.dis, fun a u w => ?_, r1.old.trans s2, fun a u w m => ?_, fun a u w => ?_, r1.len, r1.fix⟩, s2, .dctL (upd_same ..) hz (kvp_keys pr) nd fun i x y hx hy => s2.rep (paired_at pr i x y hx hy).2⟩
  · obtain ⟨x, w1, w2⟩ := r1.val i d w
    exact ⟨x, w1, w2.mono s2 fun a ha u q => by rw [upd_ne (apart w ha)]; exact q⟩
  · rw [upd_ne (apart w ha)]; exact r1.off i d w a ha
  · by_cases e : a = p
    · subst e; rw [upd_same] at w ⊢; exact w
    · rw [upd_ne e] at w ⊢; exact r1.sub a u w
  · have e : a ≠ p := fun e => by
      subst e
      rcases n.nw a (by simp) with w1 | w1
      · rw [w1] at w; cases w
      · exact m w1
    rw [upd_ne e]; exact r1.frame a u w m
  · by_cases e : a = p
    · subst e; exact .inr (n.nw a (by simp))
    · rw [upd_ne e] at w; exact r1.newF a u w
theorem snd_lock {e : Expr} {a : E} (ha : SE X z M W (.dct .pure) e (ev z.cf a)) : SE X z M W .pure e (ev z.cf (.lock a)) := by
  refine PE.imp (PE.lock ha) fun σ H Q h => ?_
  obtain ⟨c, As, F, env, hK, hM, r, h⟩ := h
  have h : okE z W c .pure F σ (bindR (ev z.cf a env) fun x e => liftO (lockD x) e) Q := h
  refine ⟨c, As, F, env, hK, hM, r, ?_⟩
  cases q : ev z.cf a env with
  | stuck => rw [q] at h; exact h
  | exc x e => rw [q] at h; exact h
  | ok d e =>
    rw [q] at h
    intro v H1 F1 As1 A r1 s1 o n
    obtain ⟨p, kvs, l, rfl, hp, k⟩ := lock_core r1 o n
    refine ⟨p, _, hp, True.intro, fun od => ?_⟩
    obtain ⟨F2, r2, s2, p2⟩ := k od
    exact okE.ret (show okE z W c .pure F σ (.ok (.dctL l) e) Q from h) r2 (s1.trans s2) p2
theorem PS.lock {st : Stmt} {t : TS} (h : PS X st t) : PS X st (fun D σ H => t ⟨fun σ' H' => ∃ d u, H' d = some u ∧ Mut (some u) ∧ ∀ od, D.nx σ' (upd H' d (.frz od u)), D.rt, D.bk, D.ct⟩ σ H) := by
  refine ⟨fun pins s σ H D I q => thn (h.run pins s σ H _ I q) fun fl s1 w => ?_⟩
  cases fl with
  | next =>
    obtain ⟨σ', H', J, d, u, h1, h2, h3⟩ := w
    obtain ⟨od, J2⟩ := J.lock h1 h2
    exact ⟨σ', _, J2, h3 od⟩
  | ret u => exact w
  | brk => exact w
  | cont => exact w
/-- name = {..} of one line, a local name, locked -/
theorem ss_asgDcL {np : Nat} {rs : Sh} {i : Nat} {y : Str} {py : Pos} {own : List (Str × Nat)} {t : Tg} {it : It} {c : Option E} {k v : E} {tg iter kx vx : Expr} {ifs : List Expr} {scope : Scope} {pos spos : Pos} {wf : Nat} (xo : XO X z W)
    (hy : X.N[i]? = some y) (hyl : X.env.scope.names.lookup y = some .local) (hyM : M i = .pure) (hsw : swapsWith (.DictComp kx vx [⟨tg, iter, ifs, 0⟩] scope pos) (some (.Name y py)) spos.line X.env = pure true)
    (hown : ∀ i ∈ own.map (·.2), M i = .pure) (hts : ∀ i ∈ tgSlots t, i ∈ own.map (·.2)) (hh : okHead iter = true) (hi : SI X z M W tp tg iter (evIt z.cf it)) (ok : BlkOk X.N X.env.scope scope own)
    (hg : ∀ (s : Shared) (H : Hp) (C : Addr) (cl : List (Str × Addr)) (fp : List Addr), TgOk (X.blk s H scope (compEnvC scope cl C X.env) fp) M tg t tp)
    (ht : ∀ (s : Shared) (H : Hp) (C : Addr) (cl : List (Str × Addr)) (fp : List Addr), PTs (X.blk s H scope (compEnvC scope cl C X.env) fp) ifs (tCe z M noW c))
    (hk : ∀ (s : Shared) (H : Hp) (C : Addr) (cl : List (Str × Addr)) (fp : List Addr), SE (X.blk s H scope (compEnvC scope cl C X.env) fp) z M noW .pure kx (ev z.cf k))
    (he : ∀ (s : Shared) (H : Hp) (C : Addr) (cl : List (Str × Addr)) (fp : List Addr), SE (X.blk s H scope (compEnvC scope cl C X.env) fp) z M noW .pure vx (ev z.cf v)) :
    SS X z M np W rs (.Assign [.Name y py] (.DictComp kx vx [⟨tg, iter, ifs, 0⟩] scope pos) spos) (exe z.cf wf (.asg (.nm i) (.lock (.dc (own.map (·.2)) t it c k v)))) := by
  refine PS.imp (PS.lock (ps_setDc xo.calm xo.nd hy hyl hsw hi ok (fun s H C cl fp => pg_tg (xo_blk xo s H scope _ fp) (hg s H C cl fp)) ht hk he (fun v => noFold hh X.env v))) fun D σ H h => ?_
  obtain ⟨c0, As, F, env, hK, hM, hP, r, h⟩ := h
  simp only [exe] at h
  have e0 : ev z.cf (.lock (.dc (own.map (·.2)) t it c k v)) env = bindR (ev z.cf (.dc (own.map (·.2)) t it c k v) env) fun x e => liftO (lockD x) e := rfl
  rw [e0] at h
  refine dc_of hown hts ⟨c0, As, F, env, hK, hM, r, ?_⟩
  cases q : ev z.cf (.dc (own.map (·.2)) t it c k v) env with
  | stuck => rw [q] at h; exact h
  | exc x e => rw [q] at h; exact fun cl da H' F' As' r s' q => h cl da σ H' F' As' r s' Kept.refl q
  | ok d e =>
    rw [q] at h
    intro v H1 F1 As1 A r1 s1 o n
    obtain ⟨p, kvs, l, rfl, hp, kc⟩ := lock_core r1 o n
    refine ⟨p, _, hp, True.intro, fun od => ?_⟩
    obtain ⟨F2, r2, s2, p2⟩ := kc od
    have h : okS z np W c0 rs F σ (.nx (e.set i (some (.dctL l)))) D := h
    exact h _ _ _ _ (r2.setPure hP (by rw [hM]; exact hyM) p2) (s1.trans s2) (Kept.set1 (.inl (by rw [hM]; exact hyM)))
/-- a[::-1], a list -/
theorem snd_rev {e : Expr} {a : E} {k : Nat} {p1 p2 p3 pos : Pos} (xo : XO X z W) (ha : SE X z M W .pure e (ev z.cf a)) : SE X z M W (.lst .pure) (.Subscript e (.Slice none none (some (.UnaryOp .USub (.Constant (.int 1) k p1) p2)) p3) pos) (ev z.cf (.rev a)) := by
  refine PE.imp (pe_revL ha) fun σ H Q h => ?_
  obtain ⟨c, As, F, env, hK, hM, r, h⟩ := h
  have h : okE z W c (.lst .pure) F σ (bindR (ev z.cf a env) fun x e => liftO (revD x) e) Q := h
  refine ⟨c, As, F, env, hK, hM, r, (okE.bind h).imp ?_⟩
  rintro v H1 ⟨d, e, F1, As1, _, r1, s1, p1, h1⟩
  cases d with
  | lst l =>
    obtain ⟨p, vs, rfl, hp, hz, pr⟩ := p1.lstE
    refine ⟨p, vs, rfl, SqL.of (r1.sub _ _ hp), fun q hq => ?_⟩
    have h1 : okE z W c (.lst .pure) F1 σ (.ok (.lst l.reverse) e) Q := h1
    obtain ⟨o, n⟩ := new_list r1 hq (by rw [List.length_reverse]; exact hz) (paired_reverse pr)
    exact h1 _ _ F1 As1 [q] (rel_lay r1 hq) (Sub.refl _) o n
  | _ => exact h1.elim
theorem dctE_some {env : Dv} {i : Nat} {l : List (Key × Pv.D)} (h : dctE env i = some l) : env[i]? = some (some (.dct l)) := by
  unfold dctE at h
  split at h
  · rename_i l' e
    cases h
    exact e
  · cases h
/-- d[k], d a changeable dict of plain things -/
theorem snd_ixM {i : Nat} {x : Str} {eb : Expr} {b : E} {px pos : Pos} (xo : XO X z W) (n : RdOk X i x) (hMi : M i = .dct .pure) (hn : NoSl eb) (hb : SE X z M W .pure eb (ev z.cf b)) : SE X z M W .pure (.Subscript (.Name x px) eb pos) (ev z.cf (.ixM i b)) := by
  refine PE.imp (pe_dget (by have := xo.hu; omega) (pe_var n.ix n.vis n.db n.cd) hb hn) fun σ H Q h => ?_
  obtain ⟨c, As, F, env, hK, hM, r, h⟩ := h
  have h : okE z W c .pure F σ (bif isDctE env i then bindR (ev z.cf b env) fun k e => liftO (ixE e i k) e else .stuck) Q := h
  cases q0 : dctE env i with
  | none =>
    have : isDctE env i = false := by unfold isDctE; rw [q0]; rfl
    rw [this] at h
    exact h.elim
  | some l0 =>
    have : isDctE env i = true := by unfold isDctE; rw [q0]; rfl
    rw [this] at h
    have h : okE z W c .pure F σ (bindR (ev z.cf b env) fun k e => liftO (ixE e i k) e) Q := h
    obtain ⟨v, e1, _⟩ := r.val i _ (dctE_some q0)
    refine ⟨v, e1, c, As, F, env, hK, hM, r, (okE.bind h).imp ?_⟩
    rintro u H2 ⟨d2, e2, F2, As2, _, r2, s2, p2, h2⟩
    cases q1 : ixE e2 i d2 with
    | none => rw [q1] at h2; exact h2.elim
    | some g =>
      rw [q1] at h2
      unfold ixE at q1
      split at q1
      · rename_i l k ql qk
        obtain ⟨v', e3, own⟩ := r2.val i _ (dctE_some ql)
        rw [e1] at e3
        cases e3
        rw [hM, hMi] at own
        obtain ⟨a, kvs, l', Bs, rfl, e4, ha, _, _, tr, _, _⟩ := own
        cases e4
        have pd : Paired (RepKV c.K F2) kvs l := trip_pair tr fun p q B _ w => ⟨w.1, w.2.2⟩
        have ey := p2.key qk
        subst ey
        rcases kv_get pd k with ⟨_, w2⟩ | ⟨w, dd, w1, w2, w3⟩
        · rw [w2] at q1; cases q1
        · rw [w2] at q1
          cases q1
          exact ⟨a, w, rfl, .inl ⟨kvs, k, .inl ha, rfl, w1.symm⟩, okE.ret h2 r2 (Sub.refl _) w3⟩
      · cases q1
/-- a + b, lists -/
theorem snd_addL {ea eb : Expr} {a b : E} {pos : Pos} (xo : XO X z W) (ha : SE X z M W .pure ea (ev z.cf a)) (hb : SE X z M W .pure eb (ev z.cf b)) : SE X z M W (.lst .pure) (.BinOp ea .Add eb pos) (ev z.cf (.addL a b)) := by
  refine PE.imp (pe_op op_cat ha hb) fun σ H Q h => ?_
  obtain ⟨c, As, F, env, hK, hM, r, h⟩ := h
  have h : okE z W c (.lst .pure) F σ (bindR (ev z.cf a env) fun x e => bindR (ev z.cf b e) fun y e' => liftO (catD x y) e') Q := h
  refine ⟨c, As, F, env, hK, hM, r, (okE.bind h).imp ?_⟩
  rintro v H1 ⟨d, e, F1, As1, _, r1, s1, p1, h1⟩
  refine ⟨c, As1, F1, e, hK, hM, r1, (okE.bind h1).imp ?_⟩
  rintro u H2 ⟨d2, e2, F2, As2, _, r2, s2, p2, h2⟩
  unfold catD at h2
  split at h2
  · rename_i l m
    split at h2
    · rename_i hz
      have p1 := s2.rep p1
      obtain ⟨p, vs, rfl, hp, z1, pr1⟩ := p1.lstE
      obtain ⟨q, ws, rfl, hq, z2, pr2⟩ := p2.lstE
      have l1 := paired_len pr1
      have l2 := paired_len pr2
      have hz' := big_size hz
      have hlen : (vs ++ ws).length ≤ sizeLine := by rw [List.length_append]; omega
      refine ⟨p, q, vs, ws, rfl, rfl, r2.sub _ _ hp, r2.sub _ _ hq, by omega, fun t ht => ?_⟩
      obtain ⟨o, n⟩ := new_list r2 ht hlen (paired_append pr1 pr2)
      exact h2 _ _ F2 As2 [t] (rel_lay r2 ht) (Sub.refl _) o n
    · exact h2.elim
  · exact h2.elim
/-- x.reverse() -/
theorem ss_revL {i : Nat} {x : Str} {px ap cp pos : Pos} {wf : Nat} (xo : XO X z W) (n : RdOk X i x) (hMi : M i = .lst .pure) (hl : (ap.endLine == cp.line) = true) :
    SS X z M np W rs (.Expr (.Call (.Attribute (.Name x px) "reverse" ap) [] [] cp) pos) (exe z.cf wf (.revL i)) := by
  refine PS.imp (ps_expr (pe_bm0 PySem.F.plainAttrs_list PySem.F.slot_list_reverse PySem.F.type_list_reverse mt_reverse (pe_var n.ix n.vis n.db n.cd) rfl hl) (no_swap rfl _ _ _)) fun D σ H h => ?_
  obtain ⟨c, As, F, env, hK, hM, hP, r, h⟩ := h
  simp only [exe] at h
  cases q0 : lstAt env i with
  | none => rw [q0] at h; exact h.elim
  | some l =>
    rw [q0] at h
    have hMc : c.M i = .lst .pure := by rw [hM]; exact hMi
    obtain ⟨p, vs, hv, hp, hz, pr, hA⟩ := slot_lst r hMc q0
    refine ⟨.ref p, hv, .inl ⟨rfl, vs, .inl (.inl hp)⟩, p, vs, rfl, rfl, hp, ?_⟩
    exact h σ _ F _ (r.write1 hP (lstAt_some q0) hv hA (by rw [hMc]; exact lst_own upd_same (by rw [List.length_reverse]; exact hz) (paired_reverse pr))) (Sub.refl _) Kept.refl
/-- x.pop() -/
theorem snd_pop {i : Nat} {x : Str} {px ap cp : Pos} (xo : XO X z W) (n : RdOk X i x) (hMi : M i = .lst .pure) (hl : (ap.endLine == cp.line) = true) : SE X z M W .pure (.Call (.Attribute (.Name x px) "pop" ap) [] [] cp) (ev z.cf (.pop i none)) := by
  refine PE.imp (pe_bm0 PySem.F.plainAttrs_list PySem.F.slot_list_pop PySem.F.type_list_pop mt_pop (pe_var n.ix n.vis n.db n.cd) rfl hl) fun σ H Q h => ?_
  obtain ⟨c, As, F, env, hK, hM, r, h⟩ := h
  simp only [ev] at h
  unfold popE at h
  split at h
  · rename_i l e
    have q0 : lstAt env i = some l := by unfold lstAt; rw [e]
    have hMc : c.M i = .lst .pure := by rw [hM]; exact hMi
    obtain ⟨p, vs, hv, hp, hz, pr, hA⟩ := slot_lst r hMc q0
    simp only [popK] at h
    by_cases h0 : l.length = 0
    · rw [if_pos h0] at h; exact h.elim
    · rw [if_neg h0] at h
      simp only [] at h
      cases q1 : l[l.length - 1]? with
      | none => rw [q1] at h; exact h.elim
      | some d =>
        rw [q1] at h
        have hlen := paired_len pr
        obtain ⟨y, w1, w2⟩ := paired_get' pr q1
        rw [← hlen] at w1
        refine ⟨.ref p, hv, .inl ⟨rfl, vs, .inl (.inl hp)⟩, p, vs, y, rfl, rfl, hp, w1, ?_⟩
        have e1 : l.eraseIdx (l.length - 1) = l.dropLast := List.eraseIdx_length_sub_one
        rw [e1] at h
        have pr2 : Paired (Rep c.K F) vs.dropLast l.dropLast := by
          rw [List.dropLast_eq_take, List.dropLast_eq_take, hlen]
          exact paired_take pr _
        exact okE.ret h (r.write1E e hv hA (by rw [hMc]; exact lst_own upd_same (by rw [List.length_dropLast]; omega) pr2)) (Sub.refl _) w2
  · exact h.elim
theorem paired_erase {α β : Type} {R : α → β → Prop} {xs : List α} {ys : List β} (h : Paired R xs ys) : ∀ n, Paired R (xs.eraseIdx n) (ys.eraseIdx n) := by
  induction h with
  | nil => intro n; exact .nil
  | cons r t ih =>
    intro n
    cases n with
    | zero => exact t
    | succ n => exact .cons r (ih n)
/-- x.pop(a) -/
theorem snd_popA {i : Nat} {x : Str} {ea : Expr} {a : E} {px ap cp : Pos} (xo : XO X z W) (n : RdOk X i x) (hMi : M i = .lst .pure) (hh : okHead ea = true) (hl : (ap.endLine == cp.line) = true) (ha : SE X z M W .pure ea (ev z.cf a)) : SE X z M W .pure (.Call (.Attribute (.Name x px) "pop" ap) [ea] [] cp) (ev z.cf (.pop i (some a))) := by
  have hd : allHead [ea] = true := by simp [allHead, hh]
  refine PE.imp (pe_bm PySem.F.plainAttrs_list PySem.F.slot_list_pop PySem.F.type_list_pop mt_popAt (pe_var n.ix n.vis n.db n.cd) (sa_one hh ha) rfl (fewOk hd (by simp) cp X.env) hl (nonStar hh [] X.env) rfl) fun σ H Q h => ?_
  obtain ⟨c, As, F, env, hK, hM, r, h⟩ := h
  have h : okE z W c .pure F σ (bif isLst i env then bindR (ev z.cf a env) fun x e => popE i (some x) e else .stuck) Q := h
  obtain ⟨h0, h⟩ := okE.bif h
  have hMc : c.M i = .lst .pure := by rw [hM]; exact hMi
  have ex : ∃ l0, lstAt env i = some l0 := by
    unfold isLst at h0
    split at h0
    · rename_i l e; exact ⟨l, by unfold lstAt; rw [e]⟩
    · cases h0
  obtain ⟨l0, q0⟩ := ex
  obtain ⟨p, vs, hv, hp, hz, pr, hA⟩ := slot_lst r hMc q0
  refine ⟨.ref p, hv, .inl ⟨rfl, vs, .inl (.inl hp)⟩, c, As, F, env, hK, hM, r, ?_⟩
  rw [evs_one]
  cases q : ev z.cf a env with
  | stuck => rw [q] at h; exact h
  | exc x e => rw [q] at h; exact h
  | ok d e =>
    rw [q] at h
    have h : okE z W c .pure F σ (popE i (some d) e) Q := h
    intro us H2 F2 As2 r2 s2 pr2
    cases pr2 with
    | @cons y _ _ _ ry rr =>
      cases rr
      unfold popE at h
      split at h
      · rename_i l e1
        have q1 : lstAt e i = some l := by unfold lstAt; rw [e1]
        obtain ⟨p', vs2, hv2, hp2, hz2, pr2, hA2⟩ := slot_lst r2 hMc q1
        rw [hv] at hv2
        cases hv2
        cases d with
        | int j =>
          have ey := ry.intE
          subst ey
          have hlen := paired_len pr2
          have h : okE z W c .pure F σ (match ixN l.length j with | some k => (match l[k]? with | some d => .ok d (e.set i (some (.lst (l.eraseIdx k)))) | none => .stuck) | none => .stuck) Q := h
          cases q2 : ixN l.length j with
          | none => rw [q2] at h; exact h.elim
          | some k =>
            rw [q2] at h
            simp only [] at h
            cases q3 : l[k]? with
            | none => rw [q3] at h; exact h.elim
            | some d =>
              rw [q3] at h
              obtain ⟨w, w1, w2⟩ := paired_get' pr2 q3
              obtain ⟨g3, _, g1, g2⟩ := ixN_seq q2
              have hsz : l.length ≤ sizeLine := Nat.le_trans (Nat.le_of_eq hlen.symm) hz2
              have hsl : (sizeLine : Int) < 2 ^ 63 := by decide
              refine ⟨p, vs2, j, k, w, rfl, rfl, hp2, by omega, by omega, by rw [hlen]; exact g3, w1, ?_⟩
              exact okE.ret h (r2.write1E e1 hv hA2 (by rw [hMc]; exact lst_own upd_same (Nat.le_trans (by rw [List.length_eraseIdx]; split <;> omega) hz2) (paired_erase pr2 k))) s2 w2
        | _ => exact h.elim
      · exact h.elim
def kD : Key → Pv.D
  | .inl i => .int i
  | .inr x => .str x
theorem kD_rep {K : PySem.W.Frag} {F : Hp} {k : Key} (h : KeyOk k) : Rep K F (kV k) (kD k) := by
  cases k with
  | inl i => exact .int i
  | inr x => exact .str x h.1 h.2
theorem keysD_eq {l : List (Key × Pv.D)} : keysD (.dctL l) = some (l.map fun p => kD p.1) := by
  unfold keysD
  simp only [Option.some.injEq]
  refine List.map_congr_left fun p _ => ?_
  cases p.1 <;> rfl
theorem itemsD_eq {l : List (Key × Pv.D)} : itemsD (.dctL l) = some (l.map fun p => .tup [kD p.1, p.2]) := by
  unfold itemsD
  simp only [Option.some.injEq]
  refine List.map_congr_left fun p _ => ?_
  cases p.1 <;> rfl
theorem walk_keysD {K : PySem.W.Frag} {F : Hp} {a : Addr} {o : Obj} {kvs : List (Key × V)} {l : List (Key × Pv.D)} (ha : F a = some (.frz o (.dK kvs))) (pr : Paired (RepKV K F) kvs l) (kn : KN (l.map (·.1))) : Walk K (Itk a o kvs) F tp (l.map fun p => kD p.1) := by
  have hl := paired_len pr
  refine ⟨fun i H s hi => ⟨s _ _ ha, by rw [hl]; simpa using hi⟩, fun H s => ⟨s _ _ ha, by rw [hl]; simp⟩, fun i H x H' d s hd y => ?_⟩
  obtain ⟨rfl, k, v, q1, rfl⟩ := y
  refine .inl ⟨rfl, ?_⟩
  obtain ⟨p, q2, q3⟩ := paired_get pr q1
  rw [List.getElem?_map, q2] at hd
  cases hd
  have e : k = p.1 := q3.1
  rw [e]
  exact kD_rep (kn.2 _ (List.mem_map_of_mem (List.mem_of_getElem? q2)))
theorem walk_itemsD {K : PySem.W.Frag} {F : Hp} {a : Addr} {o : Obj} {kvs : List (Key × V)} {l : List (Key × Pv.D)} (ha : F a = some (.frz o (.dK kvs))) (pr : Paired (RepKV K F) kvs l) (kn : KN (l.map (·.1))) : Walk K (Iti a o kvs) F true (l.map fun p => .tup [kD p.1, p.2]) := by
  have hl := paired_len pr
  refine ⟨fun i H s hi => ⟨s _ _ ha, by rw [hl]; simpa using hi⟩, fun H s => ⟨s _ _ ha, by rw [hl]; simp⟩, fun i H x H' d s hd y => ?_⟩
  obtain ⟨T, k, v, q1, rfl, hT, rfl⟩ := y
  obtain ⟨p, q2, q3⟩ := paired_get pr q1
  rw [List.getElem?_map, q2] at hd
  cases hd
  have e : k = p.1 := q3.1
  exact .inr ⟨rfl, T, _, _, rfl, rfl, hT, rfl, .cons (by rw [e]; exact kD_rep (kn.2 _ (List.mem_map_of_mem (List.mem_of_getElem? q2)))) (.cons q3.2 .nil)⟩
theorem si_keys {tg e : Expr} {a : E} (x : XO X z W) (ha : SE X z M W .pure e (ev z.cf a)) : SI X z M W tp tg e (evIt z.cf (.keys a)) := by
  refine PI.imp (pi_keys ha) fun σ H Rr h => ?_
  obtain ⟨c, As, F, env, hK, hM, r, h⟩ := h
  have h : okI z W c tp F σ (bindR (ev z.cf a env) fun x e => liftO (keysD x) e) Rr := h
  refine ⟨c, As, F, env, hK, hM, r, (okI.bind h).imp ?_⟩
  rintro v H1 ⟨d, e, F1, As1, _, r1, s1, p1, h1⟩
  cases d with
  | dctL l =>
    rw [keysD_eq] at h1
    obtain ⟨p, o, kvs, rfl, hp, hz, kn, pr⟩ := p1.dctLE
    exact ⟨p, o, rfl, .inl ⟨kvs, r1.sub _ _ hp, h1 _ _ F1 As1 r1 (Sub.refl _) (walk_keysD hp pr kn)⟩⟩
  | _ => exact h1.elim
theorem si_items {elts : List Expr} {kk : Nat} {tpos ap cp : Pos} {e : Expr} {a : E} (x : XO X z W) (hr : recvOk e = true) (hl : (ap.endLine == cp.line) = true) (ha : SE X z M W .pure e (ev z.cf a)) : SI X z M W true (.Tuple elts kk tpos) (.Call (.Attribute e "items" ap) [] [] cp) (evIt z.cf (.items a)) := by
  refine PI.imp (pi_items ha (baseOk hr _ _ _) hl) fun σ H Rr h => ?_
  obtain ⟨c, As, F, env, hK, hM, r, h⟩ := h
  have h : okI z W c true F σ (bindR (ev z.cf a env) fun x e => liftO (itemsD x) e) Rr := h
  refine ⟨c, As, F, env, hK, hM, r, (okI.bind h).imp ?_⟩
  rintro v H1 ⟨d, e, F1, As1, _, r1, s1, p1, h1⟩
  cases d with
  | dctL l =>
    rw [itemsD_eq] at h1
    obtain ⟨p, o, kvs, rfl, hp, hz, kn, pr⟩ := p1.dctLE
    exact ⟨p, o, kvs, rfl, r1.sub _ _ hp, h1 _ _ F1 As1 r1 (Sub.refl _) (walk_itemsD hp pr kn)⟩
  | _ => exact h1.elim
end
end Pv
set_option Elab.async false
set_option linter.all false
set_option maxRecDepth 100000
set_option maxHeartbeats 4000000
namespace Pv
open PySem PySem.Spec PyProof.Rows L2
/-! ### len(set(..)) of texts -/
theorem nub_mem {x : Str} : ∀ {l : List Str}, x ∈ nubS l ↔ x ∈ l
  | [] => Iff.rfl
  | y :: l => by
    unfold nubS
    split
    · rename_i h
      rw [nub_mem, List.mem_cons]
      exact ⟨.inr, fun q => q.elim (fun e => e ▸ h) id⟩
    · rw [List.mem_cons, List.mem_cons, nub_mem]
theorem nub_snoc (x : Str) : ∀ l : List Str, (nubS (l ++ [x])).length = if x ∈ l then (nubS l).length else (nubS l).length + 1
  | [] => by simp [nubS]
  | y :: l => by
    have ih := nub_snoc x l
    rw [List.cons_append]
    unfold nubS
    by_cases hy : y ∈ l
    · rw [if_pos (List.mem_append_left _ hy), if_pos hy, ih]
      by_cases hx : x ∈ l
      · rw [if_pos hx, if_pos (List.mem_cons_of_mem _ hx)]
      · rw [if_neg hx, if_neg]
        rw [List.mem_cons, not_or]
        exact ⟨fun e => hx (e ▸ hy), hx⟩
    · by_cases e : y = x
      · subst e
        rw [if_pos (List.mem_append_right _ List.mem_cons_self), if_neg hy, ih, if_neg hy, if_pos List.mem_cons_self, List.length_cons]
      · have h1 : y ∉ l ++ [x] := by
          rw [List.mem_append, List.mem_singleton, not_or]
          exact ⟨hy, e⟩
        rw [if_neg h1, if_neg hy, List.length_cons, List.length_cons, ih]
        by_cases hx : x ∈ l
        · rw [if_pos hx, if_pos (List.mem_cons_of_mem _ hx)]
        · rw [if_neg hx, if_neg (by rw [List.mem_cons, not_or]; exact ⟨Ne.symm e, hx⟩)]
theorem nub_le : ∀ l : List Str, (nubS l).length ≤ l.length
  | [] => Nat.le_refl _
  | y :: l => by
    have ih := nub_le l
    unfold nubS
    split <;> simp only [List.length_cons] <;> omega
section
variable {prog : Program} {w : World} {A : Around} {Rz : PySem.Result → Shared → Prop} {it D : Addr} {fp wr : List Addr} {n : Nat} {P : Nat → Value → Prop} {St : Nat → Heap → Prop}
/-- the texts of a walk, put into a set -/
theorem set_fill (W : Walks prog w A.in1 it fp wr n P St) (hD : D ∉ fp) (xs : List Str) (hx : xs.length = n) (hb : n + 1 < scanBound) (hv : ∀ i v, P i v → ∃ t, v = .str (xs.getD i Str.empty) t) :
    ∀ (m i : Nat) (s : Shared), i + m = n → St i s.heap → s.heap.SetOf (strKind prog w) D (fun k => decide (k ∈ xs.take i)) (nubS (xs.take i)).length →
      (∀ s', Moved (D :: wr) (fun a b => b = a) s s' → s'.heap.SetOf (strKind prog w) D (fun k => decide (k ∈ xs)) (nubS xs).length → Rz (.ok (.ret .none)) s') → codeAny (model prog w) A (.builtin "set.update.loop" ⟨[.ref D, .ref it], []⟩) Rz s := by
  have WS := W.toS
  have hw : D ∉ wr := fun q => hD (WS.sub _ q)
  have more : ∀ b ∈ wr, b ∈ D :: wr := fun b q => List.mem_cons_of_mem _ q
  have kept : ∀ {s s' : Shared} {S : Str → Bool} {c : Nat}, Moved wr (fun a b => b = a) s s' → s.heap.SetOf (strKind prog w) D S c → s'.heap.SetOf (strKind prog w) D S c := fun {s s' S c} mv q => by
    obtain ⟨o, es, ep, t, ho, z⟩ := q
    exact ⟨o, es, ep, t, mv.heap D _ hw ho, z⟩
  intro m
  induction m with
  | zero =>
    intro i s hi st q k
    have e : i = n := by omega
    subst e
    refine codeAny_builtin PyProof.Rows.F.entry_set_update_loop ?_
    rw [Around.under_plainId PyProof.Rows.F.plain_set_update_loop _]
    refine wpAny_bind (m := pyNext (.ref it)) (WS.done s _ _ st fun s' mv => ?_)
    have q' := kept mv q
    rw [List.take_of_length_le (by omega)] at q'
    exact wpAny_pure (k s' (mv.mono more) q')
  | succ m ih =>
    intro i s hi st q k
    have hlt : i < n := by omega
    have hg : xs.getD i Str.empty = xs[i]'(by omega) := by rw [List.getD_eq_getElem?_getD, List.getElem?_eq_getElem (by omega)]; rfl
    have ht : xs.take (i + 1) = xs.take i ++ [xs.getD i Str.empty] := by rw [hg, List.take_append_getElem]
    refine codeAny_builtin PyProof.Rows.F.entry_set_update_loop ?_
    rw [Around.under_plainId PyProof.Rows.F.plain_set_update_loop _]
    refine wpAny_bind (m := pyNext (.ref it)) (WS.item i s _ _ hlt st fun v s' pv st' mv => ?_)
    obtain ⟨t, rfl⟩ := hv i v pv
    have q' := kept mv q
    refine wpAny_bind (m := holding [Value.str (xs.getD i Str.empty) t] (setAdd D (.str (xs.getD i Str.empty) t))) (wpAny_holding ?_)
    unfold setAdd
    refine wpAny_holding (wpAny_bind ((strKind prog w).pyHash (k := xs.getD i Str.empty) (strKind_is _ _ _ _) ?_))
    have room : (nubS (xs.take i)).length + 1 < scanBound := by
      have := nub_le (xs.take i)
      rw [List.length_take] at this
      omega
    refine wpAny_setAddHashed_of (knd := strKind prog w) (s := { s' with toks := s'.toks + 1 }) (strKind_is _ _ _ _) rfl q' room fun h2 sb q2 => ?_
    have q3 : h2.SetOf (strKind prog w) D (fun k => decide (k ∈ xs.take (i + 1))) (nubS (xs.take (i + 1))).length := by
      refine PyProof.Rows.SetOf_congr q2 (fun j => ?_) ?_
      · rw [ht]
        simp only [List.mem_append, List.mem_singleton, Bool.decide_or]
      · rw [ht, nub_snoc]
        by_cases h : xs.getD i Str.empty ∈ xs.take i
        · rw [if_pos h, if_pos (by simpa using h)]
        · rw [if_neg h, if_neg (by simpa using h)]
    refine wpAny_pure ⟨plainId_quiet PyProof.Rows.F.plain_set_update_loop _, ih (i + 1) _ (by omega) (WS.frame _ s' _ _ st' (Nat.le_succ _) fun b hb o e => ?_) q3 fun s3 mv3 q4 => ?_⟩
    · rw [sb.2 b fun h => hD (h ▸ hb)]; exact e
    · refine k s3 (Moved.trans WS.gtrans ((mv.mono more).then_heap (Nat.le_succ _) fun b o hb e => ?_) mv3) q4
      rw [sb.2 b fun h => hb (h ▸ List.mem_cons_self)]; exact e
end
section
variable {prog : Program} {w : World} {A : Around} {E : Value → Shared → Prop} {s : Shared}
abbrev freshSet (led : Bool) : Obj := { cls := .type "set", dict := none, data := .set #[] 0 (.fresh 0 0 led) }
/-- set(x): a bare set, then its __init__ -/
theorem set_call {x : Value} {Q : Value → Shared → Prop}
    (hi : ∀ led, wpAny (model prog w) A.in1.in1 (Builtin.«set.__init__» ⟨[.ref s.heap.objs.size, x], []⟩)
      (fun fin s' => match fin with | .done f => wants (fun r s₂ => r = .none ∧ Q (.ref s.heap.objs.size) s₂) E (.ok f) s' | .again c' => c'.quiet = true ∧ codeAny (model prog w) A.in1 c' (wants (fun r s₂ => r = .none ∧ Q (.ref s.heap.objs.size) s₂) E) s')
      (fun e s' => wants (fun r s₂ => r = .none ∧ Q (.ref s.heap.objs.size) s₂) E (.error e) s') { s with heap := s.heap.push (freshSet led) }) : wpAny (model prog w) A (call (.type "set") [x]) Q E s := by
  have ft := PySem.F.called_set
  obtain ⟨c, tl, q1⟩ := ft.mro
  have q2 := ft.made
  have q3 := ft.sub
  have q4 := ft.notType
  have q5 := ft.canCreate
  have q6 := PySem.F.typeCall_set_1 x
  refine wpAny_call (codeAny_of_tree ?_)
  show wpAny (model prog w) _ (callAny (.type "set") ⟨[x], []⟩) _ _ s
  refine wpAny_pure ⟨Code.quiet_builtin _ (by decide +kernel), codeAny_builtin PySem.F.entry_type_call ?_⟩ <;> skip
  rw [Around.under_plain (weight_type_call_type "set" [x] []) rfl]
  repeat (any_goals (first | assumption | wp_step))
  refine codeAny_mono (code_set_new_1 x (E := E) (Q₁ := fun ob s₁ => ∃ led, ob = .ref s.heap.objs.size ∧ s₁ = { s with heap := s.heap.push (freshSet led) }) fun led => ⟨led, rfl, rfl⟩) fun r s₁ hr => ?_
  cases r with
  | error e => exact hr
  | ok fl =>
    cases fl with
    | ret ob =>
      obtain ⟨led, rfl, rfl⟩ := hr
      have hT : Shared.TypeIs { s with heap := s.heap.push (freshSet led) } (.ref s.heap.objs.size) "set" := ⟨_, Heap.get?_push_size _ rfl, rfl⟩
      have q7 := ft.init.lookup
      have q8 := ft.init.bind (.ref s.heap.objs.size)
      repeat (any_goals (first | assumption | wp_step))
      refine codeAny_mono (codeAny_call_builtin ft.init.plain PySem.F.entry_set_init (check_set_init_1 hT (hi led))) fun r₂ s₂ hr₂ => ?_
      cases r₂ with
      | error e => exact hr₂
      | ok f2 =>
        cases f2 with
        | ret v =>
          obtain ⟨rfl, hq⟩ := hr₂
          repeat (any_goals (first | assumption | wp_step))
        | next => exact hr₂
        | brk => exact hr₂
        | cont => exact hr₂
    | next => exact hr
    | brk => exact hr
    | cont => exact hr
/-- the texts of a list or a tuple, as a set -/
theorem set_texts {l : Addr} {T : String} {o : Obj} {Hl : Heap → Prop} {items : Array Value} {St : Addr → Nat → Heap → Prop} {xs : List Str} {Q : Value → Shared → Prop} (hT : T = "list" ∨ T = "tuple") (B : Begins (.ref l) o Hl) (hl : Hl s.heap) (hty : ∀ h, Hl h → ∃ ob, h.get? l = some ob ∧ ob.cls = .type T)
    (W : ∀ I, l ≠ I → Walks prog w A.in1.in1.in1 I [I, l] [I] items.size (fun i v => items[i]? = some v) (St I)) (st0 : ∀ I h, h.get? I = some o → Hl h → St I 0 h) (hv : ∀ (i : Nat) (v : Value), items[i]? = some v → ∃ t, v = Value.str (xs.getD i Str.empty) t) (hx : xs.length = items.size) (hb : items.size + 1 < scanBound)
    (h : ∀ (h' : Heap) (tk : Nat), h'.SetOf (strKind prog w) s.heap.objs.size (fun k => decide (k ∈ xs)) (nubS xs).length → (∀ b o, b < s.heap.objs.size → s.heap.get? b = some o → h'.get? b = some o) → Q (.ref s.heap.objs.size) { s with heap := h', toks := tk }) :
    wpAny (model prog w) A (call (.type "set") [.ref l]) Q E s := by
  refine set_call fun led => ?_
  obtain ⟨ob, ho, hcl⟩ := hty _ hl
  have lt : l < s.heap.objs.size := Heap.lt_size ho
  have hl1 : Hl (s.heap.push (freshSet led)) := B.keeps _ _ hl fun b o' e => Heap.get?_push_of_some _ e
  have ho1 : (s.heap.push (freshSet led)).get? l = some ob := Heap.get?_push_of_some _ ho
  have hS1 : (s.heap.push (freshSet led)).get? s.heap.objs.size = some (freshSet led) := Heap.get?_push_size _ rfl
  obtain ⟨ocl, odi, oda, osl⟩ := ob
  simp only at hcl
  subst hcl
  have s1 : isSubtype (.type T) (.type "set") = pure false := by rcases hT with rfl | rfl; exact PySem.F.sub_list_set; exact PySem.F.sub_tuple_set
  have s2 : isSubtype (.type T) (.type "frozenset") = pure false := by rcases hT with rfl | rfl; exact PySem.F.sub_list_frozenset; exact PySem.F.sub_tuple_frozenset
  have s3 : (Value.type T == Value.type "dict") = false := by rcases hT with rfl | rfl <;> decide
  unfold Builtin.«set.__init__» noKeywords Builtin.Frozenset.updateFrom
  generalize hPI : pyIter = PI
  wp_walk
  subst hPI
  refine B.iter prog w _ _ _ _ hl1 ?_
  refine wpAny_bind (wpAny_runValue ?_)
  have e1 : (s.heap.push (freshSet led)).objs.size = s.heap.objs.size + 1 := Heap.size_push _ _
  have ne1 : l ≠ (s.heap.push (freshSet led)).objs.size := by rw [e1]; exact Nat.ne_of_lt (Nat.lt_succ_of_lt lt)
  refine set_fill (W _ ne1) (D := s.heap.objs.size) ?_ xs hx hb hv items.size 0 _ (Nat.zero_add _) (st0 _ _ (Heap.get?_push_size _ B.free) (B.keeps _ _ hl1 fun b o' e => Heap.get?_push_of_some _ e)) ?_ ?_
  · rw [e1]
    simp only [List.mem_cons, List.not_mem_nil, or_false, not_or]
    exact ⟨Nat.ne_of_lt (Nat.lt_succ_self _), Nat.ne_of_gt lt⟩
  · exact PyProof.Rows.SetOf_congr ((PyProof.Rows.setObjOf_fresh (knd := strKind prog w) led).setOf (Heap.get?_push_of_some _ hS1) (by unfold scanBound; omega)) (fun _ => by simp) rfl
  · intro s' mv q
    obtain ⟨h', g', d', tk', os'⟩ := s'
    have x1 : g' = s.gens := mv.gens
    have x2 : d' = s.drawn := mv.drawn
    have x3 : os' = s.os := mv.os
    subst x1 x2 x3
    refine wpAny_pure ?_
    refine wpAny_pure ⟨rfl, h h' tk' q fun b o' hb e => mv.heap b o' ?_ (Heap.get?_push_of_some _ (Heap.get?_push_of_some _ e))⟩
    rw [e1]
    simp only [List.mem_cons, List.not_mem_nil, or_false, not_or]
    exact ⟨Nat.ne_of_lt hb, Nat.ne_of_lt (Nat.lt_succ_of_lt hb)⟩
end
section
variable {X : Cx} {z : Z} {M : Nat → Sh} {W : WX} {σ : L2.St} {H : Hp} {Q : VK}
theorem texts_at : ∀ {xs : List Str} {us : List Value}, Vals (xs.map V.str) us → ∀ (i : Nat) (v : Value), us[i]? = some v → ∃ t, v = Value.str (xs.getD i Str.empty) t
  | [], _, .nil, i, v, h => by simp at h
  | x :: xs, _ :: us, .cons r t, i, v, h => by
    cases i with
    | zero =>
      obtain ⟨k, rfl⟩ := (show ∃ k, _ = Value.str x k from r)
      have e : Value.str x k = v := by simpa using h
      exact ⟨k, by rw [← e]; rfl⟩
    | succ i =>
      obtain ⟨k, e⟩ := texts_at t i v (by simpa using h)
      exact ⟨k, by rw [e]; rfl⟩
def tLenSetT (K : PySem.W.Frag) (ta : TE) : TE := fun σ H Q => ta σ H fun x H1 => ∃ (l : Addr) (xs : List Str), x = .ref l ∧ (SqL K H1 l (xs.map V.str) ∨ SqT K H1 l (xs.map V.str)) ∧ xs.length ≤ 1000 ∧ Q (.int (nubS xs).length) H1
theorem pe_lenSetT {a : Expr} {ta : TE} {p p2 q pos : Pos} (hc : X.calm = true) (hg : Gl X "len") (hm : X.mg "len" = none) (hg2 : Gl X "set") (hm2 : X.mg "set" = none) (ha : PE X a ta) (na : starEach [a] X.env = (false, eval a X.env) :: starEach [] X.env) :
    PE X (.Call (.Name "len" p) [.Call (.Name "set" p2) [a] [] q] [] pos) (tLenSetT X.K ta) := by
  refine ⟨fun pins s σ H Q I h => Call_ (ld_blt I hg hm PySem.boot_len (PyProof.Rows.callWith_builtin1 (PyProof.Rows.args_cons ?_ rfl) rfl rfl))⟩
  refine Call_ (ld_blt I hg2 hm2 PyProof.Rows.boot_set (PyProof.Rows.callWith_type1 (PyProof.Rows.args_cons (thn (ha.run pins s σ H _ I h) fun v s1 w => PyProof.Rows.args_nil ?_) na) na rfl))
  obtain ⟨x, H1, J, rx, l, xs, rfl, hq, hz, q1⟩ := w
  cases rx
  -- the length of the set
  have fin : ∀ (h' : Heap) (tk : Nat), h'.SetOf (strKind X.prog X.w) s1.heap.objs.size (fun k => decide (k ∈ xs)) (nubS xs).length → (∀ b o, b < s1.heap.objs.size → s1.heap.get? b = some o → h'.get? b = some o) →
      wpAny (model X.prog X.w) X.A (spliced (backTo pos (starEach [] X.env))) (fun vs s₂ => wpAny (model X.prog X.w) X.A (call (.builtin "len") (Value.ref s1.heap.objs.size :: vs)) (EP X pins σ Q) X.xe s₂) X.xe { s1 with heap := h', toks := tk } := by
    intro h' tk hS hk
    refine PyProof.Rows.args_nil ?_
    obtain ⟨o, es, ep, t, ho, hex, hd, _, _, _, hf, hn⟩ := hS
    have nb := nub_le xs
    have J2 : Inv X pins σ H1 { s1 with heap := h', toks := tk } := J.kept fun b o e => hk b o (Heap.lt_size e) e
    exact call_len_set ho hex hd hf (by rw [hn]; omega) ⟨.int (nubS xs).length, H1, J2.tok _, ⟨_, by rw [hn]⟩, q1⟩
  have hh : X.A.in1.in1.in1.handled = none := J.ok.hd hc
  rcases hq with hq | hq
  · obtain ⟨its, r, pl, hz2⟩ := J.list hq
    have len : xs.length = its.toArray.size := by rw [List.size_toArray, ← r.length, List.length_map]
    exact set_texts (.inl rfl) (begins_list l its.toArray) pl.isList (fun h hl => by obtain ⟨ob, e1, e2, _⟩ := hl; exact ⟨ob, e1, e2⟩) (fun I hn => Walks.list hh I l hn its.toArray) (fun I h e hl => ⟨⟨_, e, rfl, rfl⟩, hl⟩) (fun i v e => texts_at r i v (by simpa using e)) len (by rw [← len]; unfold scanBound; omega) fin
  · obtain ⟨its, r, pl, hz2⟩ := J.tuple hq
    have len : xs.length = its.toArray.size := by rw [List.size_toArray, ← r.length, List.length_map]
    exact set_texts (.inr rfl) (begins_tuple l its.toArray) pl (fun h hl => by obtain ⟨ob, e1, e2, _⟩ := hl; exact ⟨ob, e1, e2⟩) (fun I hn => Walks.tuple hh I l hn its.toArray) (fun I h e hl => ⟨⟨_, e, rfl, rfl⟩, hl⟩) (fun i v e => texts_at r i v (by simpa using e)) len (by rw [← len]; unfold scanBound; omega) fin
theorem allS_map {K : PySem.W.Frag} {F : Hp} {vs : List V} {l : List D} {xs : List Str} (p : Paired (Rep K F) vs l) (h : allO isS l = some xs) : vs = xs.map V.str ∧ xs.length = l.length := by
  have e := allO_map (g := V.str) (fun h r => isS_rep h r) p h
  refine ⟨e, ?_⟩
  have := paired_len p
  rw [e, List.length_map] at this
  exact this
theorem snd_lenset {ea : Expr} {a : E} {p p2 q pos : Pos} (xo : XO X z W) (b : Bi X "len" (.builtin "len")) (hg2 : Gl X "set") (hm2 : X.mg "set" = none) (hh : okHead ea = true) (ha : SE X z M W .pure ea (ev z.cf a)) : SE X z M W .pure (.Call (.Name "len" p) [.Call (.Name "set" p2) [ea] [] q] [] pos) (ev z.cf (.op1 .lenset a)) := by
  refine PE.imp (pe_lenSetT xo.calm b.g b.m hg2 hm2 ha (nonStar hh [] X.env)) fun σ H Q h => ?_
  obtain ⟨c, As, F, env, hK, hM, r, h⟩ := h
  have h : okE z W c .pure F σ (bindR (ev z.cf a env) fun x e => liftO (op1 .lenset x) e) Q := h
  refine ⟨c, As, F, env, hK, hM, r, (okE.bind h).imp ?_⟩
  rintro v H1 ⟨d, e, F1, As1, _, r1, s1, p1, h1⟩
  have kk := xo.K.trans hK.symm
  have h1 : okE z W c .pure F1 σ (liftO (lensetD d) e) Q := h1
  cases d with
  | lst l =>
    have h1 : okE z W c .pure F1 σ (liftO (if l.length ≤ 1000 then (allO isS l).map fun xs => .int (nubS xs).length else none) e) Q := h1
    split at h1
    · rename_i hl
      cases hx : allO isS l with
      | none => rw [hx] at h1; exact h1.elim
      | some xs =>
        rw [hx] at h1
        obtain ⟨pa, vs, rfl, hp, hz, pr⟩ := p1.lstE
        obtain ⟨e1, e2⟩ := allS_map pr hx
        subst e1
        exact ⟨pa, xs, rfl, .inl (SqL.of (r1.sub _ _ hp)), by omega, okE.ret h1 r1 (Sub.refl _) (.int _)⟩
    · exact h1.elim
  | tup l =>
    have h1 : okE z W c .pure F1 σ (liftO (if l.length ≤ 1000 then (allO isS l).map fun xs => .int (nubS xs).length else none) e) Q := h1
    split at h1
    · rename_i hl
      cases hx : allO isS l with
      | none => rw [hx] at h1; exact h1.elim
      | some xs =>
        rw [hx] at h1
        obtain ⟨pa, vs, rfl, hp, hz, pr⟩ := p1.tupE
        obtain ⟨e1, e2⟩ := allS_map pr hx
        subst e1
        exact ⟨pa, xs, rfl, .inr (by rw [kk]; exact ((SubR.of r1.sub).st hp).sq), by omega, okE.ret h1 r1 (Sub.refl _) (.int _)⟩
    · exact h1.elim
  | _ => exact h1.elim
end
end Pv
set_option Elab.async false
set_option linter.all false
set_option maxRecDepth 100000
set_option maxHeartbeats 4000000
namespace Pv
open PySem PySem.Spec PyProof.Rows L2
/-! ### what is looked at -/
structure Sig where
  shs : List Sh
  ret : Sh
  pats : List (Nat × List Str × List Par)
  py : Str
  kwo : Bool
  cls : Option Str
structure MC where
  N : List Str
  sc : Scope
  fn : Str → Bool
  mu : List (Nat × Sh)
  G : Str → Option Sig
  C : List (Str × D)
  cls : List Str
def MC.M (c : MC) (i : Nat) : Sh := (c.mu.lookup i).getD .pure
def bltNames : List Str := ["abs", "int", "len", "list", "tuple", "sum", "all", "any", "sorted", "isinstance", "range", "enumerate", "zip", "min", "max", "str", "bool", "set", "repr"]
def visB (sc : Scope) (x : Str) : Bool := match sc.names.lookup x with
  | some .local => true
  | some .cell => true
  | some .free => true
  | _ => false
def locB (sc : Scope) (x : Str) : Bool := match sc.names.lookup x with
  | some .local => true
  | some .cell => true
  | _ => false
def glB (sc : Scope) (x : Str) : Bool := decide (sc.names.lookup x = some .globalImplicit)
def rdC (c : MC) (i : Nat) (x : Str) : Bool := decide (c.N[i]? = some x) && visB c.sc x && !(x == ("__debug__" : Str)) && !(x == ("__classdict__" : Str))
def nmC (c : MC) (i : Nat) (x : Str) : Bool := decide (c.N[i]? = some x) && locB c.sc x && (c.fn x || decide (c.sc.names.lookup x = some .local)) && decide (c.M i = .pure)
def nmsC (c : MC) : List Expr → List Nat → Bool
  | [], [] => true
  | .Name x _ :: es, i :: ts => nmC c i x && nmsC c es ts
  | _, _ => false
def nmsLC (c : MC) : List Expr → List Nat → Bool
  | [], [] => true
  | .Name x _ :: es, i :: ts => decide (c.N[i]? = some x) && locB c.sc x && (c.fn x || decide (c.sc.names.lookup x = some .local)) && nmsLC c es ts
  | _, _ => false
def tgC (c : MC) : Expr → Tg → Bool
  | .Name x _, .nm i => nmC c i x
  | .Tuple es _ _, .tp ts => nmsC c es ts
  | .Tuple [.Tuple [e1, e2] _ _, e3] _ _, .nst i j k => nmsC c [e1, e2] [i, j] && nmsC c [e3] [k]
  | _, _ => false
def tpOf : Tg → Bool
  | .nm _ => false
  | .tp _ => true
  | .nst _ _ _ => true
def cstB : D → Expr → Bool
  | .non, .Constant .none _ _ => true
  | .bl b, .Constant (.bool b') _ _ => b == b'
  | .int i, .Constant (.int i') _ _ => decide (i = i')
  | .str x, .Constant (.str x') _ _ => decide (x = x') && decide (x.length ≤ sizeLine) && PyData.strOk x
  | _, _ => false
def gcB : Option D → D → Bool
  | some (.int i), .int j => decide (i = j)
  | some (.str x), .str y => decide (x = y) && decide (x.length ≤ sizeLine) && PyData.strOk x
  | _, _ => false
def okSh (sh s0 : Sh) : Bool := decide (sh = s0) || decide (sh = .pure)
def dctSh : Sh → Bool
  | .dct _ => true
  | .pure => true
  | _ => false
/-- a built-in of one argument, its name -/
def b1B (o : Op1) (f : Str) : Bool := match o with
  | .len => decide (f = ("len" : Str))
  | .abs => decide (f = ("abs" : Str))
  | .int => decide (f = ("int" : Str))
  | .list => decide (f = ("list" : Str))
  | .tuple => decide (f = ("tuple" : Str))
  | .sorted => decide (f = ("sorted" : Str))
  | .sum => decide (f = ("sum" : Str))
  | .all => decide (f = ("all" : Str))
  | .any => decide (f = ("any" : Str))
  | .repr => decide (f = ("repr" : Str))
  | _ => false
def ret1 : Op1 → Sh
  | .list => .lst .pure
  | .sorted => .lst .pure
  | _ => .pure
def tysB (sc : Scope) (ets : List Expr) : Bool := ets.all fun
  | .Name x _ => glB sc x
  | _ => false
def isiB (sc : Scope) (ts : List String) : Expr → Bool
  | .Tuple ets _ _ => decide (tyExprs ets = some ts) && tysB sc ets && decide (ts.length ≤ 1000)
  | .Name x p => decide ((tyExpr (.Name x p)).map (fun t => [t]) = some ts) && tysB sc [.Name x p]
  | _ => false
def refsIx : List E → List Nat
  | [] => []
  | .mref i :: as => i :: refsIx as
  | _ :: as => refsIx as
def parEq : Par → Par → Bool
  | .arg i, .arg j => decide (i = j)
  | .dfl .non, .dfl .non => true
  | .dfl (.bl a), .dfl (.bl b) => a == b
  | .dfl (.int a), .dfl (.int b) => decide (a = b)
  | .dfl (.str a), .dfl (.str b) => decide (a = b)
  | .dfl (.tup []), .dfl (.tup []) => true
  | _, _ => false
def parsEq : List Par → List Par → Bool
  | [], [] => true
  | p :: ps, q :: qs => parEq p q && parsEq ps qs
  | _, _ => false
def patB (s : Sig) (np : Nat) (ks : List Str) (pm : List Par) : Bool := s.pats.any fun p => decide (p.1 = np) && decide (p.2.1 = ks) && parsEq p.2.2 pm
def lentL (mu : List (Nat × Sh)) (ls : List Nat) : List (Nat × Sh) := mu.map fun p => if p.1 ∈ ls then (p.1, .pure) else p
def lendB (c : MC) (ls hs ms : List Nat) : Bool := (c.mu.all fun p => decide (c.M p.1 = .pure) || ls.contains p.1 || hs.contains p.1 || ms.contains p.1) && ms.all fun i => decide (c.M i = .lst .pure) && !ls.contains i
def relS (scope sc : Scope) : Scope := { scope with names := scope.names.map fun (n, k) => if (k == .free && sc.kind == .function && sc.names.lookup n == some .cell) then (n, .cell) else (n, k) }
def MC.blk (c : MC) (scope : Scope) : MC := { c with sc := relS scope c.sc, fn := fun x => scope.names.lookup x == some .cell }
/-- the block's own names with their slots -/
def ownNm (N : List Str) (own : List Nat) : List (Str × Nat) := own.map fun i => ((N[i]?).getD "", i)
def blkB (c : MC) (scope : Scope) (own : List Nat) : Bool :=
  decide (scope.kind = .function) && (scope.names.all fun y => decide (scope.names.lookup y.1 = some y.2)) && (own.all fun i => (c.N[i]?).isSome && decide (c.M i = .pure)) &&
  (scope.names.all fun y => !(decide (y.2 = .free)) || decide (c.sc.names.lookup y.1 = some .cell) || decide (c.sc.names.lookup y.1 = some .free)) &&
  (scope.names.all fun y => !(decide (y.2 = .local) || decide (y.2 = .cell)) || (ownNm c.N own).any (fun p => decide (p.1 = y.1)) || !c.N.contains y.1)
/-- a test's head that has no road of its own -/
def plainT : Expr → Bool
  | .UnaryOp .Not _ _ => false
  | .BoolOp .. => false
  | .IfExp .. => false
  | .Compare .. => false
  | _ => true
def isOwn : E → Bool
  | .own _ => true
  | _ => false
def refC (c : MC) (a : E) (sh : Sh) (e : Expr) : Bool := match a, e with
  | .mref i, .Name x _ => rdC c i x && decide (c.M i = sh)
  | _, _ => false
def initN : Str := "__init__"
def fldB (cn : Str) (k : Nat) (f : Str) : Bool := decide (((clsF cn)[k]?).map (·.1) = some f)
def objSh : Sh → Option Str
  | .obj cn => some cn
  | _ => none
/-- a method of the class, as it is called -/
def methB (s : Sig) (cn m : Str) : Bool := !s.kwo && decide (s.cls = some cn) && decide (s.py = m) && decide (m ≠ initN) && !((clsF cn).map (·.1)).contains m
def newB (s : Sig) (cn g : Str) (n : Nat) : Bool := !s.kwo && decide (g = cn) && decide (s.cls = some cn) && decide (s.py = initN) && decide (s.ret = .pure) && (match s.shs with
  | sh0 :: shs => decide (sh0 = .obj cn) && (shs.all fun x => decide (x = .pure)) && decide (shs.length = n)
  | [] => false)
mutual
/-- e is what a says; t: as a test -/
def mx (c : MC) (t : Bool) : E → Sh → Expr → Bool
  | .var i, sh, e => match e with
    | .Name x _ => decide (sh = .pure) && rdC c i x && decide (c.M i = .pure)
    | _ => false
  | .mv i, sh, e => match e with
    | .Name x _ => !t && okSh sh (c.M i) && rdC c i x
    | _ => false
  | .mref _, _, _ => false
  | .own a, sh, e => !t && mx c false a sh e
  | .dead, _, _ => true
  | .dc own tg it q k v, sh, e => match e with
    | .DictComp kx vx [⟨tge, iter, ifs, 0⟩] scope _ => !t && okSh sh (.dct .pure) && blkB c scope own && (tgSlots tg).all (fun i => own.contains i) && okHead iter && mxI c (tpOf tg) it iter && tgC (c.blk scope) tge tg && mxC (c.blk scope) q ifs && mx (c.blk scope) false k .pure kx && mx (c.blk scope) false v .pure vx
    | _ => false
  | .pick k o a, sh, e => match e with
    | .Subscript l (.Constant (.int i) _ _) _ => !t && (decide (k = 0) || decide (k = 1)) && decide (i = (k : Int)) && mx c false a (pairSh k sh o) l
    | _ => false
  | .glb x d, sh, e => match e with
    | .Name y _ => decide (y = x) && decide (sh = .pure) && glB c.sc x && !(x == ("__debug__" : Str)) && gcB (c.C.lookup x) d
    | _ => false
  | .cst d, sh, e => decide (sh = .pure) && cstB d e
  | .dnew, sh, e => match e with
    | .Dict [] [] _ => !t && dctSh sh
    | _ => false
  | .tup as, sh, e => match e with
    | .Tuple es _ _ => !t && (match sh with
      | .pair s1 s2 => (as.all fun a => !isRef a) && allHead es && mxA c as [s1, s2] es
      | _ => decide (sh = .pure) && decide (as.length ≤ 1000) && allHead es && mxs c as es)
    | _ => false
  | .lst as, sh, e => match e with
    | .List es _ => !t && okSh sh (.lst .pure) && decide (as.length ≤ 1000) && allHead es && mxs c as es
    | _ => false
  | .op1 o a, sh, e => match e with
    | .UnaryOp .USub ea _ => decide (o = .neg) && decide (sh = .pure) && mx c false a .pure ea
    | .Call (.Name f _) [.Call (.Name g p2) [eb] [] p3] [] _ => if o = .lenset then decide (f = ("len" : Str)) && decide (g = ("set" : Str)) && glB c.sc f && glB c.sc g && okHead eb && decide (sh = .pure) && mx c false a .pure eb else glB c.sc f && b1B o f && okSh sh (ret1 o) && mx c false a .pure (.Call (.Name g p2) [eb] [] p3)
    | .Call (.Name f _) [ea] [] _ => glB c.sc f && okHead ea && b1B o f && okSh sh (ret1 o) && mx c false a .pure ea
    | .Call (.Name f _) [ea, et] [] _ => match o with
      | .isinst ts => glB c.sc f && okHead ea && decide (f = ("isinstance" : Str)) && decide (sh = .pure) && isiB c.sc ts et && mx c false a .pure ea
      | _ => false
    | _ => false
  | .op2 o a b, sh, e => match e with
    | .BinOp l op r _ => decide (binOf op = some o) && decide (sh = .pure) && mx c false a .pure l && mx c false b .pure r
    | .Compare l [op] [r] _ => decide (cmpOf op = some o) && decide (sh = .pure) && okHead r && mx c false a .pure l && mx c false b .pure r
    | .Subscript l r _ => decide (o = .ix) && decide (sh = .pure) && okHead r && mx c false a .pure l && mx c false b .pure r
    | .Call (.Name f _) [l, r] [] _ => glB c.sc f && ((decide (o = .min) && decide (f = ("min" : Str))) || (decide (o = .max) && decide (f = ("max" : Str)))) && decide (sh = .pure) && okHead l && okHead r && mx c false a .pure l && mx c false b .pure r
    | _ => false
  | .slc a lo hi, sh, e => match e with
    | .Subscript l (.Slice el eh none _) _ => !t && decide (sh = .pure) && mx c false a .pure l && mxO c lo el && mxO c hi eh
    | _ => false
  | .get a b d, sh, e => match e with
    | .Call (.Attribute o m ap) [ea, eb] [] pos => decide (m = ("get" : Str)) && decide (sh = .pure) && recvOk o && okHead ea && okHead eb && (ap.endLine == pos.line) && mx c false a .pure o && mx c false b .pure ea && mx c false d .pure eb
    | _ => false
  | .meth o a b, sh, e => match e with
    | .Call (.Attribute r m ap) [ea] [] pos => ((decide (o = .join) && decide (m = ("join" : Str))) || (decide (o = .index) && decide (m = ("index" : Str)))) && decide (sh = .pure) && recvOk r && okHead ea && (ap.endLine == pos.line) && mx c false a .pure r && mx c false b .pure ea
    | _ => false
  | .and a b, sh, e => match e with
    | .BoolOp .And [ea, eb] _ => decide (sh = .pure) && mx c t a .pure ea && mx c t b .pure eb
    | .BoolOp .And (ea :: eb :: e3 :: rest) p => decide (sh = .pure) && mx c t a .pure ea && mx c t b .pure (.BoolOp .And (eb :: e3 :: rest) p)
    | _ => false
  | .or a b, sh, e => match e with
    | .BoolOp .Or [ea, eb] _ => (decide (sh = .pure) || (!t && decide (sh = .lst .pure))) && mx c t a sh ea && mx c t b sh eb
    | .BoolOp .Or (ea :: eb :: e3 :: rest) p => decide (sh = .pure) && mx c t a .pure ea && mx c t b .pure (.BoolOp .Or (eb :: e3 :: rest) p)
    | _ => false
  | .nt a, sh, e => match e with
    | .UnaryOp .Not ea _ => decide (sh = .pure) && mx c t a .pure ea
    | _ => false
  | .ite q a b, sh, e => match e with
    | .IfExp eq ea eb _ => !t && mx c true q .pure eq && mx c false a sh ea && mx c false b sh eb
    | _ => false
  | .chain o p a b d, sh, e => match e with
    | .Compare ea [op, op'] [eb, ed] _ => decide (cmpOf op = some o) && decide (cmpOf op' = some p) && decide (sh = .pure) && okHead ed && mx c false a .pure ea && mx c false b .pure eb && mx c false d .pure ed
    | _ => false
  | .call f as, sh, e => match e with
    | .Call (.Name g _) (e0 :: es) [] _ => match c.G f with
      | some s => decide (s.cls = none) && !s.kwo && decide (g = s.py) && glB c.sc g && !(g == ("__debug__" : Str)) && okSh sh s.ret && okHead e0 && allHead es && decide ((refsIx as).Nodup) && mxA c as s.shs (e0 :: es)
      | none => false
    | _ => false
  | .callK f np ks pm as, sh, e => match e with
    | .Call (.Name g _) es kws _ => match c.G f with
      | some s => decide (s.cls = none) && decide (g = s.py) && glB c.sc g && !(g == ("__debug__" : Str)) && okSh sh s.ret && allHead es && decide (es.length = np) && decide (kwNames kws = some ks) && decide (kws.length = ks.length) && (s.shs.all fun x => decide (x = .pure)) && pmOk pm && decide (pm.length = s.shs.length) && patB s np ks pm && mxs c as (es ++ kws.map (·.value))
      | none => false
    | _ => false
  | .lend ls hs ms a, sh, e => decide (sh = .pure) && lendB c ls hs ms && mx { c with mu := lentL c.mu ls } t a .pure e
  | .lc own tg it q b, sh, e => match e with
    | .ListComp elt [⟨tge, iter, ifs, 0⟩] scope _ => !t && okSh sh (.lst .pure) && blkB c scope own && (tgSlots tg).all (fun i => own.contains i) && okHead iter && mxI c (tpOf tg) it iter && tgC (c.blk scope) tge tg && mxC (c.blk scope) q ifs && mx (c.blk scope) false b .pure elt
    | _ => false
  | .fld cn k a, sh, e => match e with
    | .Attribute o f _ => decide (sh = .pure) && c.cls.contains cn && recvOk o && fldB cn k f && mx c false a .pure o
    | _ => false
  | .fldM i k, sh, e => match e with
    | .Attribute (.Name x _) f _ => match objSh (c.M i) with
      | some cn => decide (sh = .pure) && c.cls.contains cn && rdC c i x && decide ((clsF cn)[k]? = some (f, .pure))
      | none => false
    | _ => false
  | .mcall cn f r as, sh, e => match e with
    | .Call (.Attribute o m ap) es [] pos => match c.G f with
      | some s => methB s cn m && c.cls.contains cn && okSh sh s.ret && recvOk o && allHead es && decide (es.length < 29) && (ap.endLine == pos.line) && decide ((refsIx (r :: as)).Nodup) && (match s.shs with
        | sh0 :: shs => (decide (sh0 = .obj cn) || (decide (sh0 = .pure) && !isRf r)) && (refC c r sh0 o || ((isOwn r || decide (sh0 = .pure)) && mx c false r sh0 o)) && mxA c as shs es
        | [] => false)
      | none => false
    | _ => false
  | .new cn f as, sh, e => match e with
    | .Call (.Name g _) es [] _ => match c.G f with
      | some s => !t && newB s cn g as.length && glB c.sc g && !(g == ("__debug__" : Str)) && okSh sh (.obj cn) && allHead es && mxs c as es
      | none => false
    | _ => false
  | .lendL ls hs ms a, sh, e => !t && okSh sh (.lst .pure) && lendB c ls hs ms && mx { c with mu := lentL c.mu ls } false a (.lst .pure) e
  | .rev a, sh, e => match e with
    | .Subscript l (.Slice none none (some (.UnaryOp .USub (.Constant (.int 1) _ _) _)) _) _ => !t && okSh sh (.lst .pure) && mx c false a .pure l
    | _ => false
  | .addL a b, sh, e => match e with
    | .BinOp l .Add r _ => !t && okSh sh (.lst .pure) && mx c false a .pure l && mx c false b .pure r
    | _ => false
  | .ixM i a, sh, e => match e with
    | .Subscript (.Name x _) r _ => decide (sh = .pure) && rdC c i x && decide (c.M i = .dct .pure) && okHead r && mx c false a .pure r
    | _ => false
  | .lock a, sh, e => !t && decide (sh = .pure) && mx c false a (.dct .pure) e
  | .pop i none, sh, e => match e with
    | .Call (.Attribute (.Name x _) m ap) [] [] cp => decide (m = ("pop" : Str)) && decide (sh = .pure) && rdC c i x && decide (c.M i = .lst .pure) && (ap.endLine == cp.line)
    | _ => false
  | .pop i (some a), sh, e => match e with
    | .Call (.Attribute (.Name x _) m ap) [ea] [] cp => decide (m = ("pop" : Str)) && decide (sh = .pure) && rdC c i x && decide (c.M i = .lst .pure) && okHead ea && (ap.endLine == cp.line) && mx c false a .pure ea
    | _ => false
def mxO (c : MC) : Option E → Option Expr → Bool
  | none, none => true
  | some a, some e => mx c false a .pure e
  | _, _ => false
def mxC (c : MC) : Option E → List Expr → Bool
  | none, [] => true
  | some a, [e] => mx c true a .pure e
  | _, _ => false
def mxI (c : MC) (tp : Bool) : It → Expr → Bool
  | .seq a, e => mx c false a .pure e
  | .rng a, e => match e with
    | .Call (.Name f _) [ea] [] _ => decide (f = ("range" : Str)) && glB c.sc f && okHead ea && mx c false a .pure ea
    | _ => false
  | .rng2 a b, e => match e with
    | .Call (.Name f _) [ea, eb] [] _ => decide (f = ("range" : Str)) && glB c.sc f && okHead ea && okHead eb && mx c false a .pure ea && mx c false b .pure eb
    | _ => false
  | .enm a, e => match e with
    | .Call (.Name f _) [ea] [] _ => tp && decide (f = ("enumerate" : Str)) && glB c.sc f && okHead ea && mx c false a .pure ea
    | _ => false
  | .zip a b, e => match e with
    | .Call (.Name f _) [ea, eb] [] _ => tp && decide (f = ("zip" : Str)) && glB c.sc f && okHead ea && okHead eb && mx c false a .pure ea && mx c false b .pure eb
    | _ => false
  | .keys a, e => mx c false a .pure e
  | .items a, e => match e with
    | .Call (.Attribute o m ap) [] [] cp => tp && decide (m = ("items" : Str)) && recvOk o && (ap.endLine == cp.line) && mx c false a .pure o
    | _ => false
def mxs (c : MC) : List E → List Expr → Bool
  | [], [] => true
  | a :: as, e :: es => mx c false a .pure e && mxs c as es
  | _, _ => false
def mxA (c : MC) : List E → List Sh → List Expr → Bool
  | [], [], [] => true
  | a :: as, sh :: shs, e :: es => (refC c a sh e || ((isOwn a || decide (sh = .pure)) && mx c false a sh e)) && mxA c as shs es
  | _, _, _ => false
end
end Pv
set_option Elab.async false
set_option linter.all false
set_option maxRecDepth 100000
set_option maxHeartbeats 4000000
namespace Pv
open PySem PySem.Spec PyProof.Rows L2
/-- where a def stands -/
def FnAt (K : PySem.W.Frag) (mg : Str → Option Value) (cls : Option Str) (py : Str) (f : Addr) : Prop := match cls with
  | none => mg py = some (.ref f)
  | some cn => (py = initN → Mk K (He.ga K cn) f ∧ mg cn = some (.ref (He.ga K cn))) ∧ (py ≠ initN → Meth K (He.ga K cn) py f)
/-- what is known of a def that is called -/
def FnF (X : Cx) (z : Z) (g : Str) (s : Sig) : Prop := ∃ k f fd ps, FnG X.prog X.w X.K X.mg X.base (L2.CX X.prog X.w) k f fd ps (spS z s.shs s.ret (z.cf g)) ∧ Room (k + 1) X.A ∧ FnAt X.K X.mg s.cls s.py f ∧ PySem.W.keepIn X.K (.ref f) = true ∧ (s.kwo = false → Binds X.K fd ps []) ∧ ∀ p ∈ s.pats, PatOk X.K fd ps p.1 p.2.1 p.2.2
/-- a constant of the top -/
def GcOk (X : Cx) (x : Str) (d : D) : Prop := match d with
  | .int i => ∃ u, X.mg x = some u ∧ RelV (.int i) u
  | .str y => ∃ u, X.mg x = some u ∧ RelV (.str y) u
  | _ => True
structure XI (X : Cx) (c : MC) (z : Z) (W : WX) : Prop where
  xo : XO X z W
  N : X.N = c.N
  sc : X.env.scope = c.sc
  fn : X.fn = c.fn
  kd : c.sc.kind = .function
  bl : ∀ x ∈ bltNames, X.mg x = none
  fs : ∀ g s, c.G g = some s → FnF X z g s
  cs : ∀ x d, c.C.lookup x = some d → GcOk X x d
  oc : ∀ cn ∈ c.cls, ClsOk X cn
section
variable {X : Cx} {c : MC} {z : Z} {W : WX}
theorem vis_of {sc : Scope} {x : Str} (h : visB sc x = true) : Vis sc x := by
  unfold visB at h
  split at h
  · rename_i e; exact .inl e
  · rename_i e; exact .inr (.inl e)
  · rename_i e; exact .inr (.inr e)
  · cases h
theorem loc_of {sc : Scope} {x : Str} (h : locB sc x = true) : Loc sc x := by
  unfold locB at h
  split at h
  · rename_i e; exact .inl e
  · rename_i e; exact .inr e
  · cases h
theorem XI.gl (xi : XI X c z W) {x : Str} (h : glB c.sc x = true) : Gl X x := by
  show X.env.scope.names.lookup x = _
  rw [xi.sc]
  simpa [glB] using h
theorem XI.rd (xi : XI X c z W) {i : Nat} {x : Str} (h : rdC c i x = true) : RdOk X i x := by
  unfold rdC at h
  simp only [Bool.and_eq_true, decide_eq_true_eq, Bool.not_eq_true'] at h
  exact ⟨by rw [xi.N]; exact h.1.1.1, by rw [xi.sc]; exact vis_of h.1.1.2, h.1.2, h.2⟩
theorem XI.nm (xi : XI X c z W) {i : Nat} {x : Str} (h : nmC c i x = true) : NmOk X c.M i x := by
  unfold nmC at h
  simp only [Bool.and_eq_true, decide_eq_true_eq, Bool.or_eq_true] at h
  exact ⟨by rw [xi.N]; exact h.1.1.1, by rw [xi.sc]; exact loc_of h.1.1.2, by rw [xi.sc, xi.fn]; exact h.1.2, h.2⟩
theorem XI.nms (xi : XI X c z W) : ∀ {es : List Expr} {ts : List Nat}, nmsC c es ts = true → NmsOk X c.M es ts
  | [], [], _ => .nil
  | [], _ :: _, h => by simp [nmsC] at h
  | e :: es, [], h => by cases e <;> simp [nmsC] at h
  | e :: es, i :: ts, h => by
    cases e with
    | Name x p =>
      simp only [nmsC, Bool.and_eq_true] at h
      exact .cons (xi.nm h.1) (xi.nms h.2)
    | _ => simp [nmsC] at h
theorem XI.nmsL (xi : XI X c z W) : ∀ {es : List Expr} {ts : List Nat}, nmsLC c es ts = true → NmsL X es ts
  | [], [], _ => .nil
  | [], _ :: _, h => by simp [nmsLC] at h
  | e :: es, [], h => by cases e <;> simp [nmsLC] at h
  | e :: es, i :: ts, h => by
    cases e with
    | Name x p =>
      simp only [nmsLC, Bool.and_eq_true, decide_eq_true_eq, Bool.or_eq_true] at h
      exact .cons (by rw [xi.N]; exact h.1.1.1) (by rw [xi.sc]; exact loc_of h.1.1.2) (by rw [xi.sc, xi.fn]; exact h.1.2) (xi.nmsL h.2)
    | _ => simp [nmsLC] at h
theorem XI.tg (xi : XI X c z W) {e : Expr} {t : Tg} (h : tgC c e t = true) : TgOk X c.M e t (tpOf t) := by
  cases e with
  | Name x p =>
    cases t with
    | nm i => exact .nm (xi.nm h)
    | tp ts => simp [tgC] at h
    | nst _ _ _ => simp [tgC] at h
  | Tuple es k p =>
    cases t with
    | nm i => simp [tgC] at h
    | tp ts => exact .tp (xi.nms h)
    | nst i j k =>
      unfold tgC at h
      split at h
      · rename_i e1 e2; cases e2
      · rename_i e1 e2; cases e2
      · rename_i e1 e2
        cases e1
        cases e2
        rw [Bool.and_eq_true] at h
        exact .nst (xi.nms h.1) (xi.nms h.2)
      · cases h
  | _ => cases t <;> simp [tgC] at h
theorem XI.bi (xi : XI X c z W) {x : Str} {u : Value} (h : glB c.sc x = true) (hm : x ∈ bltNames) (hv : bootBuiltins x = some u) (hn : x ≠ "__name__") (hd : (x == ("__debug__" : Str)) = false) : Bi X x u := ⟨xi.gl h, xi.bl x hm, hv, hn, hd⟩
theorem FnF.blk {g : Str} {s : Sig} (h : FnF X z g s) (sh : Shared) (H : Hp) (scope : Scope) (env : PySem.Env) (fp : List Addr) : FnF (X.blk sh H scope env fp) z g s := h
theorem XI.blk (xi : XI X c z W) {scope : Scope} (hk : scope.kind = .function) (s : Shared) (H : Hp) (C : Addr) (cl : List (Str × Addr)) (fp : List Addr) : XI (X.blk s H scope (compEnvC scope cl C X.env) fp) (c.blk scope) z noW :=
  ⟨xo_blk xi.xo s H scope _ fp, xi.N, by
    show relabel scope X.env = relS scope c.sc
    unfold relabel relS Env.kindOf
    rw [xi.sc], rfl, hk, xi.bl, fun g sg h => (xi.fs g sg h).blk s H scope _ fp, xi.cs, fun cn h => ⟨(xi.oc cn h).cls, (xi.oc cn h).na⟩⟩
theorem XI.mu (xi : XI X c z W) (mu : List (Nat × Sh)) : XI X { c with mu := mu } z W := ⟨xi.xo, xi.N, xi.sc, xi.fn, xi.kd, xi.bl, xi.fs, xi.cs, xi.oc⟩
/-- as a value, as a test -/
def SX (X : Cx) (c : MC) (z : Z) (W : WX) (t : Bool) (a : E) (sh : Sh) (e : Expr) : Prop := (t = false → SE X z c.M W sh e (ev z.cf a)) ∧ (t = true → ST X z c.M W e (ev z.cf a))
theorem plain_true {e : Expr} (h : plainT e = true) (env : PySem.Env) : ∀ whole, isTrue e env whole = (do let v ← whole; standAt e.pos; holding [v] (truthy v)) := by
  intro whole
  cases e with
  | UnaryOp op x p => cases op <;> first | rfl | simp [plainT] at h
  | BoolOp => simp [plainT] at h
  | IfExp => simp [plainT] at h
  | Compare => simp [plainT] at h
  | _ => rfl
theorem SX.plain {t : Bool} {a : E} {sh : Sh} {e : Expr} (xi : XI X c z W) (hp : plainT e = true) (hs : t = true → sh = .pure) (h : SE X z c.M W sh e (ev z.cf a)) : SX X c z W t a sh e :=
  ⟨fun _ => h, fun ht => st_plain xi.xo (by rw [hs ht] at h; exact h) (plain_true hp X.env)⟩
theorem SX.val {t : Bool} {a : E} {sh : Sh} {e : Expr} (ht : t = false) (h : SE X z c.M W sh e (ev z.cf a)) : SX X c z W t a sh e := ⟨fun _ => h, fun h' => by rw [ht] at h'; cases h'⟩
theorem sh_frz {sh s0 : Sh} {e : Expr} {f : Dv → R D} (ho : okSh sh s0 = true) (h : SE X z c.M W s0 e f) : SE X z c.M W sh e f := by
  unfold okSh at ho
  rw [Bool.or_eq_true, decide_eq_true_eq, decide_eq_true_eq] at ho
  rcases ho with rfl | rfl
  · exact h
  · exact PE.frz h
theorem glb_of {x : Str} {d : D} {p : Pos} (xi : XI X c z W) (hg : glB c.sc x = true) (hd : (x == ("__debug__" : Str)) = false) (h : gcB (c.C.lookup x) d = true) : SE X z c.M W .pure (.Name x p) (ev z.cf (.glb x d)) := by
  cases q : c.C.lookup x with
  | none => rw [q] at h; cases h
  | some d' =>
    rw [q] at h
    have k := xi.cs x d' q
    cases d' with
    | int i =>
      cases d <;> simp [gcB] at h
      subst h
      obtain ⟨u, hm, r⟩ := k
      exact snd_c (pe_glob (xi.gl hg) hm r hd) fun _ _ => .int _
    | str y =>
      cases d <;> simp [gcB] at h
      obtain ⟨⟨rfl, h1⟩, h2⟩ := h
      obtain ⟨u, hm, r⟩ := k
      exact snd_c (pe_glob (xi.gl hg) hm r hd) fun _ _ => .str _ h1 h2
    | _ => simp [gcB] at h
theorem cst_of {d : D} {e : Expr} (h : cstB d e = true) : plainT e = true ∧ SE X z c.M W .pure e (ev z.cf (.cst d)) := by
  cases e with
  | Constant k j p =>
    refine ⟨rfl, ?_⟩
    cases d with
    | non =>
      cases k <;> simp [cstB] at h
      exact snd_c pe_non fun _ _ => .non
    | bl b =>
      cases k <;> simp [cstB] at h
      subst h
      exact snd_c pe_bl fun _ _ => .bl _
    | int i =>
      cases k <;> simp [cstB] at h
      subst h
      exact snd_c pe_int fun _ _ => .int _
    | str x =>
      cases k <;> simp [cstB] at h
      obtain ⟨⟨rfl, h1⟩, h2⟩ := h
      exact snd_c pe_str fun _ _ => .str _ h1 h2
    | _ => simp [cstB] at h
  | _ => cases d <;> simp [cstB] at h
theorem dnew_of {sh : Sh} {p : Pos} (h : dctSh sh = true) : SE X z c.M W sh (.Dict [] [] p) (ev z.cf .dnew) := by
  cases sh with
  | dct s => exact snd_dnew pe_dnewK
  | pure => exact PE.frz (sh := .dct .pure) (snd_dnew pe_dnewK)
  | lst s => simp [dctSh] at h
  | pair s t => simp [dctSh] at h
  | obj c => simp [dctSh] at h
theorem list_res {o : Op1} (ho : o = .list ∨ o = .sorted) : ∀ d g, op1 o d = some g → ∃ l, g = .lst l := by
  intro d g h
  rcases ho with rfl | rfl
  · cases d <;> simp [op1, listD] at h
    · exact ⟨_, h.symm⟩
    · exact ⟨_, h.symm⟩
  · have h : sortedD d = some g := h
    unfold sortedD at h
    split at h
    · cases q : sortD _ with
      | none => rw [q] at h; cases h
      | some m => rw [q] at h; cases h; exact ⟨m, rfl⟩
    · split at h
      · split at h
        · cases h; exact ⟨_, rfl⟩
        · cases h
      · cases h
    · cases h
theorem b1_of {o : Op1} {f : Str} {a : E} {ea : Expr} {p pos : Pos} (xi : XI X c z W) (hb : b1B o f = true) (hg : glB c.sc f = true) (hh : okHead ea = true) (ha : SE X z c.M W .pure ea (ev z.cf a)) : SE X z c.M W (ret1 o) (.Call (.Name f p) [ea] [] pos) (ev z.cf (.op1 o a)) := by
  cases o <;> simp only [b1B, decide_eq_true_eq, Bool.false_eq_true] at hb
  · subst hb; exact snd_b1 xi.xo (xi.bi hg (by decide +kernel) (by decide +kernel) (by decide) (by decide)) p1_len hh ha
  · subst hb; exact snd_b1 xi.xo (xi.bi hg (by decide +kernel) (by decide +kernel) (by decide) (by decide)) p1_abs hh ha
  · subst hb; exact snd_t1 xi.xo (xi.bi hg (by decide +kernel) (by decide +kernel) (by decide) (by decide)) p1_int hh ha
  · subst hb; exact snd_tF xi.xo (xi.bi hg (by decide +kernel) (by decide +kernel) (by decide) (by decide)) f1_list (list_res (.inl rfl)) hh ha
  · subst hb; exact snd_t1 xi.xo (xi.bi hg (by decide +kernel) (by decide +kernel) (by decide) (by decide)) p1_tuple hh ha
  · subst hb; exact snd_bF xi.xo (xi.bi hg (by decide +kernel) (by decide +kernel) (by decide) (by decide)) (f1_sorted xi.xo.calm) (list_res (.inr rfl)) hh ha
  · subst hb; exact snd_b1 xi.xo (xi.bi hg (by decide +kernel) (by decide +kernel) (by decide) (by decide)) (p1_sum xi.xo.calm) hh ha
  · subst hb; exact snd_b1 xi.xo (xi.bi hg (by decide +kernel) (by decide +kernel) (by decide) (by decide)) (p1_all xi.xo.calm) hh ha
  · subst hb; exact snd_b1 xi.xo (xi.bi hg (by decide +kernel) (by decide +kernel) (by decide) (by decide)) (p1_any xi.xo.calm) hh ha
  · subst hb; exact snd_b1 xi.xo (xi.bi hg (by decide +kernel) (by decide +kernel) (by decide) (by decide)) (p1_repr xi.xo.gu xi.xo.hu) hh ha
theorem tys_m (xi : XI X c z W) : ∀ x ∈ (["int", "str", "list", "tuple", "bool"] : List Str), X.mg x = none := fun x hx => xi.bl x (by
  simp only [List.mem_cons, List.not_mem_nil, or_false] at hx
  rcases hx with rfl | rfl | rfl | rfl | rfl <;> decide +kernel)
theorem tys_gl (xi : XI X c z W) {ets : List Expr} (h : tysB c.sc ets = true) : ∀ e ∈ ets, ∀ x p, e = .Name x p → Gl X x := fun e he x p hx => by
  have := List.all_eq_true.mp h e he
  subst hx
  exact xi.gl this
theorem isi_of {ts : List String} {f : Str} {a : E} {ea et : Expr} {p pos : Pos} (xi : XI X c z W) (hf : f = ("isinstance" : Str)) (hg : glB c.sc f = true) (hh : okHead ea = true) (hi : isiB c.sc ts et = true) (ha : SE X z c.M W .pure ea (ev z.cf a)) :
    SE X z c.M W .pure (.Call (.Name f p) [ea, et] [] pos) (ev z.cf (.op1 (.isinst ts) a)) := by
  subst hf
  have b : Bi X "isinstance" (.builtin "isinstance") := xi.bi hg (by decide +kernel) (by decide +kernel) (by decide) (by decide)
  cases et with
  | Tuple ets k pt =>
    simp only [isiB, Bool.and_eq_true, decide_eq_true_eq] at hi
    exact snd_isiT xi.xo b (tys_m xi) (tys_gl xi hi.1.2) hi.1.1 hi.2 hh ha
  | Name x px =>
    simp only [isiB, Bool.and_eq_true, decide_eq_true_eq] at hi
    cases q : tyExpr (.Name x px) with
    | none => rw [q] at hi; exact absurd hi.1 (by simp)
    | some t =>
      rw [q] at hi
      have e : [t] = ts := by simpa using hi.1
      subst e
      exact snd_isi xi.xo b (tys_m xi) (fun y p hx => tys_gl xi hi.2 _ (List.mem_singleton.mpr rfl) y p hx) q hh ha
  | _ => simp [isiB] at hi
theorem ref_nd : ∀ {as : List E}, (refsIx as).Nodup → RefNd as
  | [], _ => fun j k i h _ => by simp at h
  | a :: as, h => by
    have mem : ∀ {as : List E} {j i : Nat}, as[j]? = some (E.mref i) → i ∈ refsIx as := fun {as} => by
      induction as with
      | nil => intro j i h; simp at h
      | cons a as ih =>
        intro j i h
        cases j with
        | zero => simp at h; subst h; simp [refsIx]
        | succ j =>
          have := ih (j := j) (i := i) (by simpa using h)
          cases a <;> simp [refsIx, this]
    have tl : (refsIx as).Nodup := by
      cases a with
      | mref i => simp only [refsIx, List.nodup_cons] at h; exact h.2
      | _ => simpa [refsIx] using h
    intro j k i hj hk
    cases j with
    | zero =>
      cases k with
      | zero => rfl
      | succ k =>
        simp at hj
        subst hj
        simp only [refsIx, List.nodup_cons] at h
        exact absurd (mem (j := k) (by simpa using hk)) h.1
    | succ j =>
      cases k with
      | zero =>
        simp at hk
        subst hk
        simp only [refsIx, List.nodup_cons] at h
        exact absurd (mem (j := j) (by simpa using hj)) h.1
      | succ k => rw [ref_nd tl j k i (by simpa using hj) (by simpa using hk)]
theorem par_eq : ∀ {p q : Par}, parEq p q = true → p = q := by
  intro p q h
  cases p with
  | arg i =>
    cases q with
    | arg j => simp [parEq] at h; rw [h]
    | dfl d => simp [parEq] at h
  | dfl d =>
    cases q with
    | arg j => simp [parEq] at h
    | dfl e =>
      cases d with
      | tup l =>
        cases e with
        | tup m => cases l <;> cases m <;> first | rfl | (simp [parEq] at h)
        | _ => cases l <;> simp [parEq] at h
      | _ => cases e <;> simp [parEq] at h <;> first | rfl | rw [h]
theorem pars_eq : ∀ {p q : List Par}, parsEq p q = true → p = q
  | [], [], _ => rfl
  | [], _ :: _, h => by simp [parsEq] at h
  | _ :: _, [], h => by simp [parsEq] at h
  | p :: ps, q :: qs, h => by
    simp only [parsEq, Bool.and_eq_true] at h
    rw [par_eq h.1, pars_eq h.2]
theorem pat_of {s : Sig} {np : Nat} {ks : List Str} {pm : List Par} (h : patB s np ks pm = true) : (np, ks, pm) ∈ s.pats := by
  unfold patB at h
  obtain ⟨p, hp, h⟩ := List.any_eq_true.mp h
  simp only [Bool.and_eq_true, decide_eq_true_eq] at h
  obtain ⟨p1, p2, p3⟩ := p
  simp only [] at h
  rw [← h.1.1, ← h.1.2, ← pars_eq h.2]
  exact hp
theorem lookup_lent (ls : List Nat) (i : Nat) : ∀ mu : List (Nat × Sh), ((lentL mu ls).lookup i).getD .pure = if i ∈ ls then .pure else (mu.lookup i).getD .pure
  | [] => by simp [lentL]
  | (j, s) :: mu => by
    have ih := lookup_lent ls i mu
    unfold lentL at ih ⊢
    rw [List.map_cons]
    by_cases hj : j ∈ ls
    · rw [if_pos hj]
      by_cases e : i = j
      · subst e; simp [List.lookup_cons, hj]
      · have e' : (i == j) = false := by simpa using e
        rw [List.lookup_cons, e', List.lookup_cons, e']
        exact ih
    · rw [if_neg hj]
      by_cases e : i = j
      · subst e; simp [List.lookup_cons, hj]
      · have e' : (i == j) = false := by simpa using e
        rw [List.lookup_cons, e', List.lookup_cons, e']
        exact ih
theorem lent_M (c : MC) (ls : List Nat) : MC.M { c with mu := lentL c.mu ls } = lentM c.M ls := by
  funext i
  unfold MC.M lentM
  exact lookup_lent ls i c.mu
theorem lend_of {ls hs ms : List Nat} (h : lendB c ls hs ms = true) : LendOk c.M ls hs ms := by
  unfold lendB at h
  rw [Bool.and_eq_true] at h
  refine ⟨fun i hi => ?_, fun i hi => ?_⟩
  · have : ∃ p ∈ c.mu, p.1 = i := by
      unfold MC.M at hi
      cases q : c.mu.lookup i with
      | none => rw [q] at hi; exact absurd rfl hi
      | some s =>
        have : ∀ {mu : List (Nat × Sh)} {s}, mu.lookup i = some s → ∃ p ∈ mu, p.1 = i := fun {mu} => by
          induction mu with
          | nil => intro s h; cases h
          | cons p mu ih =>
            intro s h
            by_cases e : i = p.1
            · exact ⟨p, List.mem_cons_self, e.symm⟩
            · have e' : (i == p.1) = false := by simpa using e
              rw [List.lookup_cons, e'] at h
              obtain ⟨p', h1, h2⟩ := ih h
              exact ⟨p', List.mem_cons_of_mem _ h1, h2⟩
        exact this q
    obtain ⟨p, hp, rfl⟩ := this
    have := List.all_eq_true.mp h.1 p hp
    simp only [Bool.or_eq_true, decide_eq_true_eq, List.contains_iff_mem] at this
    rcases this with ((e | e) | e) | e
    · exact absurd e hi
    · exact .inl e
    · exact .inr (.inl e)
    · exact .inr (.inr e)
  · have := List.all_eq_true.mp h.2 i hi
    simp only [Bool.and_eq_true, decide_eq_true_eq, Bool.not_eq_true'] at this
    exact ⟨this.1, fun e => by
      have e' : ls.contains i = true := List.contains_iff_mem.mpr e
      rw [this.2] at e'; cases e'⟩
theorem own_ix (N : List Str) (own : List Nat) : (ownNm N own).map (·.2) = own := by
  unfold ownNm
  rw [List.map_map]
  exact (List.map_congr_left fun _ _ => rfl).trans (List.map_id own)
theorem blk_of {scope : Scope} {own : List Nat} (xi : XI X c z W) (h : blkB c scope own = true) : scope.kind = .function ∧ BlkOk X.N X.env.scope scope (ownNm c.N own) ∧ ∀ i ∈ own, c.M i = .pure := by
  unfold blkB at h
  simp only [Bool.and_eq_true, decide_eq_true_eq] at h
  obtain ⟨⟨⟨⟨h1, h2⟩, h3⟩, h4⟩, h5⟩ := h
  refine ⟨h1, ⟨h1, fun y hy => by simpa using List.all_eq_true.mp h2 y hy, fun p hp => ?_, fun y hy e => ?_, fun y hy e => ?_⟩, fun i hi => ?_⟩
  · unfold ownNm at hp
    obtain ⟨i, hi, rfl⟩ := List.mem_map.mp hp
    have := List.all_eq_true.mp h3 i hi
    simp only [Bool.and_eq_true] at this
    obtain ⟨x, hx⟩ := Option.isSome_iff_exists.mp this.1
    rw [xi.N, hx]
    rfl
  · have := List.all_eq_true.mp h4 y hy
    simp only [Bool.or_eq_true, Bool.not_eq_true', decide_eq_false_iff_not, decide_eq_true_eq] at this
    rw [xi.sc]
    rcases this with (q | q) | q
    · exact absurd e q
    · exact .inl q
    · exact .inr q
  · have := List.all_eq_true.mp h5 y hy
    simp only [Bool.or_eq_true, Bool.not_eq_true', Bool.or_eq_false_iff, decide_eq_false_iff_not] at this
    rcases this with (q | q) | q
    · exact absurd e (by rintro (e | e); exact q.1 e; exact q.2 e)
    · obtain ⟨p, hp, e'⟩ := List.any_eq_true.mp q
      exact .inl (List.mem_map.mpr ⟨p, hp, by simpa using e'⟩)
    · refine .inr fun hm => ?_
      rw [xi.N] at hm
      have e' : c.N.contains y.1 = true := List.contains_iff_mem.mpr hm
      rw [q] at e'; cases e'
  · have := List.all_eq_true.mp h3 i hi
    simp only [Bool.and_eq_true, decide_eq_true_eq] at this
    exact this.2
end
end Pv
set_option Elab.async false
set_option linter.all false
set_option maxRecDepth 100000
set_option maxHeartbeats 4000000
namespace Pv
open PySem PySem.Spec PyProof.Rows L2
section
variable {X : Cx} {z : Z} {M : Nat → Sh} {W : WX} {sh : Sh} {σ : L2.St} {H : Hp} {Q : VK}
theorem boolop1 {op : BoolOp} {e : Expr} {p : Pos} {env : PySem.Env} : eval (.BoolOp op [e] p) env = eval e env := rfl
theorem se_bool1 {op : BoolOp} {e : Expr} {p : Pos} {f : Dv → R D} (h : SE X z M W sh e f) : SE X z M W sh (.BoolOp op [e] p) f := ⟨fun pins s σ H Q I q => by rw [boolop1]; exact h.run pins s σ H Q I q⟩
/-- a or b, new lists -/
theorem snd_orM {ea eb : Expr} {a b : E} {pos : Pos} (x : XO X z W) (ha : SE X z M W (.lst .pure) ea (ev z.cf a)) (hb : SE X z M W (.lst .pure) eb (ev z.cf b)) : SE X z M W (.lst .pure) (.BoolOp .Or [ea, eb] pos) (ev z.cf (.or a b)) := by
  refine PE.imp (pe_orT ha (se_bool1 hb)) fun σ H Q h => ?_
  obtain ⟨c, As, F, env, hK, hM, r, h⟩ := h
  have h' : okE z W c (.lst .pure) F σ (bindR (ev z.cf a env) fun x e => bindR (liftO x.truth e) fun k e => bif k then .ok x e else ev z.cf b e) Q := h
  refine ⟨c, As, F, env, hK, hM, r, ?_⟩
  cases q : ev z.cf a env with
  | stuck => rw [q] at h'; exact h'
  | exc x e => rw [q] at h'; exact h'
  | ok d e =>
    rw [q] at h'
    have h' : okE z W c (.lst .pure) F σ (bindR (liftO d.truth e) fun k e => bif k then .ok d e else ev z.cf b e) Q := h'
    intro v H' F' As' A r' s' o n
    obtain ⟨p, vs, ds, As2, rfl, rfl, hp, hz, t, _, _⟩ := id o
    have h' : okE z W c (.lst .pure) F σ (bif !ds.isEmpty then .ok (.lst ds) e else ev z.cf b e) Q := h'
    have hl : vs.isEmpty = ds.isEmpty := by cases t <;> rfl
    refine ⟨!vs.isEmpty, .inl ⟨vs, SqL.of hp, rfl⟩, ?_⟩
    rw [hl]
    cases hd : ds.isEmpty with
    | true =>
      rw [hd] at h'
      simp only [Bool.not_true, Bool.false_eq_true, if_false]
      exact ⟨c, As', F', e, hK, hM, r', okE.mono h' s'⟩
    | false =>
      rw [hd] at h'
      simp only [Bool.not_false, if_true]
      exact h' _ _ _ _ _ r' s' o n
end
/-- values that stand for data, one by one -/
abbrev SEs (X : Cx) (z : Z) (M : Nat → Sh) (W : WX) (es : List Expr) (as : List E) : Prop := Paired (fun (e : Expr) (a : E) => isRef a = false ∧ SE X z M W .pure e (ev z.cf a)) es as
section
variable {X : Cx} {z : Z} {M : Nat → Sh} {W : WX} {c : MC}
theorem ses_sa {es : List Expr} {as : List E} (h : SEs X z M W es as) : allHead es = true → SA X z M W es (evs z.cf as) := by
  induction h with
  | nil => intro _; exact sa_nil
  | cons r _ ih =>
    intro hh
    unfold allHead at hh
    rw [List.all_cons, Bool.and_eq_true] at hh
    exact sa_cons hh.1 r.2 (ih hh.2)
theorem ses_arg {es : List Expr} {as : List E} (h : SEs X z M W es as) : allHead es = true → L2.PA X es (tArg z M W as (as.map fun _ => .pure)) := by
  induction h with
  | nil => intro _; exact pArg_nil
  | cons r _ ih =>
    intro hh
    unfold allHead at hh
    rw [List.all_cons, Bool.and_eq_true] at hh
    exact pArg_cons hh.1 (.pure r.1 r.2) (ih hh.2)
theorem ses_kw : ∀ {kws : List Keyword} {as : List E}, SEs X z M W (kws.map (·.value)) as → L2.PK X kws (tArg z M W as (as.map fun _ => .pure))
  | [], [], _ => kArg_nil
  | [], _ :: _, h => by cases h
  | k :: kws, [], h => by cases h
  | ⟨n, v, kp⟩ :: kws, a :: as, h => by
    cases h with
    | cons r t => exact kArg_cons (.pure r.1 r.2) (ses_kw t)
theorem all_pure_map (as : List E) : allPure (as.map fun _ => Sh.pure) := fun s hs => by
  obtain ⟨_, _, rfl⟩ := List.mem_map.mp hs
  rfl
theorem ses_ref {es : List Expr} {as : List E} (h : SEs X z M W es as) : ∀ a ∈ as, isRef a = false := by
  induction h with
  | nil => intro a ha; simp at ha
  | cons r _ ih =>
    intro a ha
    rcases List.mem_cons.mp ha with rfl | ha
    · exact r.1
    · exact ih a ha
theorem callK_of {f : Str} {np : Nat} {ks : List Str} {pm : List Par} {as : List E} {s : Sig} {g : Str} {es : List Expr} {kws : List Keyword} {p pos : Pos} (xi : XI X c z W) (hs : c.G f = some s) (hcl : s.cls = none) (hy : g = s.py) (hg : glB c.sc g = true) (hd : (g == ("__debug__" : Str)) = false) (hh : allHead es = true) (hn : es.length = np) (hk : kwNames kws = some ks) (hkl : kws.length = ks.length)
    (hp : (s.shs.all fun x => decide (x = .pure)) = true) (hpm : pmOk pm = true) (hpl : pm.length = s.shs.length) (hpat : patB s np ks pm = true) (h : SEs X z c.M W (es ++ kws.map (·.value)) as) : SE X z c.M W s.ret (.Call (.Name g p) es kws pos) (ev z.cf (.callK f np ks pm as)) := by
  subst hy
  obtain ⟨k, fa, fd, ps, F, hr, hm, hke, hb, hpt⟩ := xi.fs f s hs
  have hr := hr.mono (Nat.le_succ k)
  rw [hcl] at hm
  have hm : X.mg s.py = some (.ref fa) := hm
  have hlen := paired_len h
  rw [List.length_append, List.length_map] at hlen
  have h1 : SEs X z c.M W es (as.take np) := by
    have := paired_take h np
    rwa [← hn, List.take_left, hn] at this
  have h2 : SEs X z c.M W (kws.map (·.value)) (as.drop np) := by
    have := paired_drop h np
    rwa [← hn, List.drop_left, hn] at this
  have l1 : (as.take np).length = np := by rw [List.length_take]; omega
  have l2 : (as.drop np).length = ks.length := by rw [List.length_drop]; omega
  have hp' : allPure s.shs := fun x hx => by simpa using List.all_eq_true.mp hp x hx
  have := snd_callK (g := f) (as := as.take np) (bs := as.drop np) (s1 := (as.take np).map fun _ => .pure) (s2 := (as.drop np).map fun _ => .pure) (p := p) (pos := pos) xi.xo F hr (xi.gl hg) hm hke (by rw [l1]; exact hpt _ (pat_of hpat)) hd hh hk l2 (by rw [l1]; exact hn) (by simp) hp' (all_pure_map _) (all_pure_map _) (ses_ref h1) (ses_ref h2) hpm hpl (ses_arg h1 hh) (ses_kw h2)
  rw [List.take_append_drop] at this
  exact this
theorem mx_noref {t : Bool} {a : E} {sh : Sh} {e : Expr} (h : mx c t a sh e = true) : isRef a = false := by
  cases a <;> first | rfl | simp [mx] at h
/-- arguments in shapes -/
inductive ArgsK (X : Cx) (z : Z) (M : Nat → Sh) (W : WX) : List Expr → List E → List Sh → Prop
  | nil : ArgsK X z M W [] [] []
  | cons {e a sh es as shs} : ArgK X z M W e a sh → ArgsK X z M W es as shs → ArgsK X z M W (e :: es) (a :: as) (sh :: shs)
theorem args_pa {es : List Expr} {as : List E} {shs : List Sh} (h : ArgsK X z M W es as shs) : allHead es = true → L2.PA X es (tArg z M W as shs) := by
  induction h with
  | nil => intro _; exact pArg_nil
  | cons r _ ih =>
    intro hh
    unfold allHead at hh
    rw [List.all_cons, Bool.and_eq_true] at hh
    exact pArg_cons hh.1 r (ih hh.2)
theorem call_of {f : Str} {as : List E} {s : Sig} {g : Str} {e0 : Expr} {es : List Expr} {p pos : Pos} (xi : XI X c z W) (hs : c.G f = some s) (hcl : s.cls = none) (hkw : s.kwo = false) (hy : g = s.py) (hg : glB c.sc g = true) (hd : (g == ("__debug__" : Str)) = false) (hh : okHead e0 = true) (hh2 : allHead es = true) (nd : (refsIx as).Nodup) (h : ArgsK X z c.M W (e0 :: es) as s.shs) :
    SE X z c.M W s.ret (.Call (.Name g p) (e0 :: es) [] pos) (ev z.cf (.call f as)) := by
  subst hy
  obtain ⟨k, fa, fd, ps, F, hr, hm, hke, hb, hpt⟩ := xi.fs f s hs
  have hr := hr.mono (Nat.le_succ k)
  rw [hcl] at hm
  have hm : X.mg s.py = some (.ref fa) := hm
  exact snd_call xi.xo F hr (xi.gl hg) hm hke (hb hkw) (ref_nd nd) hd hh hh2 (args_pa h (by unfold allHead at hh2 ⊢; rw [List.all_cons, hh, hh2]; rfl))
theorem args_nil {as : List E} {shs : List Sh} (h : ArgsK X z M W [] as shs) : as = [] ∧ shs = [] := by
  cases h
  exact ⟨rfl, rfl⟩
theorem mcall_of {f cn m : Str} {r : E} {as : List E} {s : Sig} {sh0 : Sh} {shs : List Sh} {o : Expr} {es : List Expr} {ap pos : Pos} (xi : XI X c z W) (hs : c.G f = some s) (hm : methB s cn m = true) (hc : cn ∈ c.cls) (hr : recvOk o = true) (hh : allHead es = true) (hl : es.length < 29) (hln : (ap.endLine == pos.line) = true) (nd : (refsIx (r :: as)).Nodup)
    (e0 : s.shs = sh0 :: shs) (h0 : sh0 = .obj cn ∨ (sh0 = .pure ∧ isRf r = false)) (ho : ArgK X z c.M W o r sh0) (ha : ArgsK X z c.M W es as shs) : SE X z c.M W s.ret (.Call (.Attribute o m ap) es [] pos) (ev z.cf (.mcall cn f r as)) := by
  obtain ⟨k, fa, fd, ps, F, hrm, hat, hke, hb, hpt⟩ := xi.fs f s hs
  have hrm := hrm.mono (Nat.le_succ k)
  unfold methB at hm
  simp only [Bool.and_eq_true, Bool.not_eq_true', decide_eq_true_eq] at hm
  obtain ⟨⟨⟨⟨h1, h2⟩, h3⟩, h4⟩, h5⟩ := hm
  rw [h2] at hat
  have hat := hat.2 (by rw [h3]; exact h4)
  rw [h3] at hat
  rw [e0] at F
  refine snd_mcall xi.xo (xi.oc cn hc).cls hat F hrm (hb h1) (ref_nd nd) h0 (fun q => ?_) hr hh hl hln ho (args_pa ha hh) fun e => by subst e; exact args_nil ha
  have e := List.contains_iff_mem.mpr q
  rw [h5] at e; cases e
theorem ses_nil {as : List E} (h : SEs X z M W [] as) : as = [] := by cases h; rfl
theorem new_of {f cn g : Str} {as : List E} {s : Sig} {es : List Expr} {p pos : Pos} (xi : XI X c z W) (hs : c.G f = some s) (hn : newB s cn g as.length = true) (hg : glB c.sc g = true) (hd : (g == ("__debug__" : Str)) = false) (hh : allHead es = true) (ha : SEs X z c.M W es as) : SE X z c.M W (.obj cn) (.Call (.Name g p) es [] pos) (ev z.cf (.new cn f as)) := by
  obtain ⟨k, fa, fd, ps, F, hrm, hat, hke, hb, hpt⟩ := xi.fs f s hs
  unfold newB at hn
  simp only [Bool.and_eq_true, Bool.not_eq_true', decide_eq_true_eq] at hn
  obtain ⟨⟨⟨⟨⟨h1, rfl⟩, h2⟩, h3⟩, h4⟩, h5⟩ := hn
  rw [h2] at hat
  obtain ⟨mk, mg⟩ := hat.1 h3
  cases e0 : s.shs with
  | nil => rw [e0] at h5; cases h5
  | cons sh0 shs =>
    rw [e0] at h5 F
    simp only [Bool.and_eq_true, decide_eq_true_eq] at h5
    obtain ⟨⟨rfl, h6⟩, h7⟩ := h5
    rw [h4] at F
    exact snd_new xi.xo mk F hrm (xi.gl hg) mg (hb h1) (fun x hx => by simpa using List.all_eq_true.mp h6 x hx) h7 hd hh (ses_sa ha hh) fun e => by subst e; exact ses_nil ha
end
end Pv
set_option Elab.async false
set_option linter.all false
set_option maxRecDepth 100000
set_option maxHeartbeats 8000000
namespace Pv
open PySem PySem.Spec PyProof.Rows L2
variable {z : Z}
theorem bool_pw {X : Cx} {op : BoolOp} {vs : List Expr} {p : Pos} {t : TT} (h : PT X (.BoolOp op vs p) t) : PW X (.BoolOp op vs p) t := ⟨fun whole pins s σ H Q I q => h.run pins s σ H Q I q⟩
theorem tg_shape {c : MC} {e : Expr} {t : Tg} (h : tgC c e t = true) : tpOf t = true → ∃ es k p, e = .Tuple es k p := by
  intro ht
  cases t with
  | nm i => cases ht
  | tp ts =>
    cases e with
    | Tuple es k p => exact ⟨es, k, p, rfl⟩
    | _ => simp [tgC] at h
  | nst i j k =>
    cases e with
    | Tuple es k p => exact ⟨es, k, p, rfl⟩
    | _ => simp [tgC] at h
theorem se_own {X : Cx} {M : Nat → Sh} {W : WX} {sh : Sh} {e : Expr} {a : E} (h : SE X z M W sh e (ev z.cf a)) : SE X z M W sh e (ev z.cf (.own a)) := h
theorem ref_arg {X : Cx} {c : MC} {W : WX} {a : E} {sh : Sh} {e : Expr} (xi : XI X c z W) (h : refC c a sh e = true) : ArgK X z c.M W e a sh := by
  unfold refC at h
  split at h
  · simp only [Bool.and_eq_true, decide_eq_true_eq] at h
    have r := xi.rd h.1
    exact .ref r.ix r.vis r.db r.cd h.2
  · cases h
theorem own_arg {X : Cx} {M : Nat → Sh} {W : WX} {a : E} {sh : Sh} {e : Expr} (h0 : isOwn a = true ∨ sh = .pure) (hr : isRef a = false) (h : SE X z M W sh e (ev z.cf a)) : ArgK X z M W e a sh := by
  rcases h0 with h0 | rfl
  · cases a with
    | own b => exact .own h
    | _ => simp [isOwn] at h0
  · exact .pure hr h
theorem pair_of {X : Cx} {M : Nat → Sh} {W : WX} {es : List Expr} {as : List E} {s t : Sh} {k : Nat} {p : Pos} (h1 : (as.all fun a => !isRef a) = true) (h2 : allHead es = true) (h : ArgsK X z M W es as [s, t]) : SE X z M W (.pair s t) (.Tuple es k p) (ev z.cf (.tup as)) := by
  have pa := args_pa h h2
  cases h with
  | cons _ h =>
    cases h with
    | cons _ h =>
      cases h
      simp only [List.all_cons, List.all_nil, Bool.and_eq_true, Bool.not_eq_true'] at h1
      exact snd_pair h1.1 h1.2.1 pa
theorem dead_of {X : Cx} {c : MC} {W : WX} {t : Bool} {sh : Sh} {e : Expr} : SX X c z W t .dead sh e := by
  refine ⟨fun _ => ⟨fun pins s σ H Q I q => ?_⟩, fun _ => ⟨fun pins s σ H Q I q => ?_⟩⟩
  · obtain ⟨_, _, _, _, _, _, _, q⟩ := q
    exact q.elim
  · obtain ⟨_, _, _, _, _, _, _, q⟩ := q
    exact q.elim
theorem fldB_of {cn f : Str} {k : Nat} (h : fldB cn k f = true) : ∃ s, (clsF cn)[k]? = some (f, s) := by
  unfold fldB at h
  rw [decide_eq_true_eq] at h
  cases q : (clsF cn)[k]? with
  | none => rw [q] at h; cases h
  | some p =>
    rw [q] at h
    obtain ⟨f', s⟩ := p
    cases h
    exact ⟨s, rfl⟩
theorem objSh_of {s : Sh} {cn : Str} (h : objSh s = some cn) : s = .obj cn := by
  cases s <;> simp [objSh] at h
  rw [h]
mutual
theorem sx : ∀ (a : E) {c : MC} {t : Bool} {sh : Sh} {e : Expr}, (t = true → sh = .pure) → mx c t a sh e = true → ∀ {X : Cx} {W : WX}, XI X c z W → SX X c z W t a sh e
  | .var i, c, t, sh, e, _, h, X, W, xi => by
    cases e with
    | Name x p =>
      simp only [mx, Bool.and_eq_true, decide_eq_true_eq] at h
      obtain ⟨⟨rfl, h1⟩, h2⟩ := h
      have r := xi.rd h1
      exact .plain xi rfl (fun _ => rfl) (snd_var r.ix r.vis h2 r.db r.cd)
    | _ => simp [mx] at h
  | .mv i, c, t, sh, e, _, h, X, W, xi => by
    cases e with
    | Name x p =>
      simp only [mx, Bool.and_eq_true, Bool.not_eq_true'] at h
      obtain ⟨⟨h0, h1⟩, h2⟩ := h
      have r := xi.rd h2
      exact .val h0 (sh_frz h1 (snd_mv r.ix r.vis rfl r.db r.cd))
    | _ => simp [mx] at h
  | .mref i, c, t, sh, e, _, h, X, W, xi => by simp [mx] at h
  | .own a, c, t, sh, e, _, h, X, W, xi => by
    simp only [mx, Bool.and_eq_true, Bool.not_eq_true'] at h
    exact .val h.1 (se_own ((sx a (fun q => by cases q) h.2 xi).1 rfl))
  | .dead, c, t, sh, e, _, h, X, W, xi => dead_of
  | .dc own tg it q k v, c, t, sh, e, _, h, X, W, xi => by
    simp only [mx] at h
    split at h
    · simp only [Bool.and_eq_true, Bool.not_eq_true'] at h
      obtain ⟨⟨⟨⟨⟨⟨⟨⟨⟨h0, h1⟩, h2⟩, h3⟩, h4⟩, h5⟩, h6⟩, h7⟩, h8⟩, h9⟩ := h
      obtain ⟨k1, k2, k3⟩ := blk_of xi h2
      have hts : ∀ i ∈ tgSlots tg, i ∈ own := fun i hi => List.contains_iff_mem.mp (List.all_eq_true.mp h3 i hi)
      have e1 := own_ix c.N own
      have := snd_dc (pos := ‹Pos›) (own := ownNm c.N own) (t := tg) (it := it) (c := q) (k := k) (v := v) (tp := tpOf tg) xi.xo (by rw [e1]; exact k3) (by rw [e1]; exact hts) h4 (sxI it (tg_shape h6) h5 xi) k2
        (fun s H C cl fp => (xi.blk k1 s H C cl fp).tg h6) (fun s H C cl fp => sxC q h7 (xi.blk k1 s H C cl fp)) (fun s H C cl fp => (sx k (fun q => by cases q) h8 (xi.blk k1 s H C cl fp)).1 rfl) (fun s H C cl fp => (sx v (fun q => by cases q) h9 (xi.blk k1 s H C cl fp)).1 rfl)
      rw [e1] at this
      exact .val h0 (sh_frz h1 this)
    · cases h
  | .pick k o a, c, t, sh, e, _, h, X, W, xi => by
    simp only [mx] at h
    split at h
    · simp only [Bool.and_eq_true, decide_eq_true_eq, Bool.not_eq_true', Bool.or_eq_true] at h
      obtain ⟨⟨⟨h0, h1⟩, rfl⟩, h2⟩ := h
      exact .val h0 (snd_pick xi.xo h1 pe_int (fun _ _ => rfl) ((sx a (fun q => by cases q) h2 xi).1 rfl))
    · cases h
  | .glb x d, c, t, sh, e, _, h, X, W, xi => by
    cases e with
    | Name y p =>
      simp only [mx, Bool.and_eq_true, decide_eq_true_eq, Bool.not_eq_true'] at h
      obtain ⟨⟨⟨⟨rfl, rfl⟩, h1⟩, h2⟩, h3⟩ := h
      exact .plain xi rfl (fun _ => rfl) (glb_of xi h1 h2 h3)
    | _ => simp [mx] at h
  | .cst d, c, t, sh, e, _, h, X, W, xi => by
    simp only [mx, Bool.and_eq_true, decide_eq_true_eq] at h
    obtain ⟨rfl, h1⟩ := h
    exact .plain xi (cst_of (X := X) (c := c) (z := z) (W := W) h1).1 (fun _ => rfl) (cst_of h1).2
  | .dnew, c, t, sh, e, _, h, X, W, xi => by
    simp only [mx] at h
    split at h
    · rw [Bool.and_eq_true, Bool.not_eq_true'] at h
      exact .val h.1 (dnew_of h.2)
    · cases h
  | .tup as, c, t, sh, e, _, h, X, W, xi => by
    cases e with
    | Tuple es k p =>
      simp only [mx] at h
      rw [Bool.and_eq_true, Bool.not_eq_true'] at h
      obtain ⟨h0, h⟩ := h
      split at h
      · simp only [Bool.and_eq_true] at h
        obtain ⟨⟨h1, h2⟩, h3⟩ := h
        exact .val h0 (pair_of h1 h2 (sxA as h3 xi))
      · simp only [Bool.and_eq_true, decide_eq_true_eq] at h
        obtain ⟨⟨⟨rfl, h1⟩, h2⟩, h3⟩ := h
        exact .val h0 (snd_tup xi.xo h1 (ses_sa (sxs as h3 xi) h2) fun env ds e => evs_len z.cf as)
    | _ => simp [mx] at h
  | .lst as, c, t, sh, e, _, h, X, W, xi => by
    cases e with
    | List es p =>
      simp only [mx, Bool.and_eq_true, decide_eq_true_eq, Bool.not_eq_true'] at h
      obtain ⟨⟨⟨⟨h0, h0'⟩, h1⟩, h2⟩, h3⟩ := h
      exact .val h0 (sh_frz h0' (snd_lst xi.xo h1 (ses_sa (sxs as h3 xi) h2) fun env ds e => evs_len z.cf as))
    | _ => simp [mx] at h
  | .op1 o a, c, t, sh, e, ht, h, X, W, xi => by
    simp only [mx] at h
    split at h
    · simp only [Bool.and_eq_true, decide_eq_true_eq] at h
      obtain ⟨⟨rfl, rfl⟩, h1⟩ := h
      exact .plain xi rfl (fun _ => rfl) (snd_neg xi.xo ((sx a (fun q => by cases q) h1 xi).1 rfl))
    · split at h
      · rename_i ho
        subst ho
        simp only [Bool.and_eq_true, decide_eq_true_eq] at h
        obtain ⟨⟨⟨⟨⟨⟨rfl, rfl⟩, h1⟩, h2⟩, h3⟩, rfl⟩, h4⟩ := h
        exact .plain xi rfl (fun _ => rfl) (snd_lenset xi.xo (xi.bi h1 (by decide +kernel) (by decide +kernel) (by decide) (by decide)) (xi.gl h2) (xi.bl _ (by decide +kernel)) h3 ((sx a (fun q => by cases q) h4 xi).1 rfl))
      · simp only [Bool.and_eq_true, decide_eq_true_eq] at h
        obtain ⟨⟨⟨h1, h3⟩, h4⟩, h5⟩ := h
        exact .plain xi rfl ht (sh_frz h4 (b1_of xi h3 h1 rfl ((sx a (fun q => by cases q) h5 xi).1 rfl)))
    · simp only [Bool.and_eq_true, decide_eq_true_eq] at h
      obtain ⟨⟨⟨⟨h1, h2⟩, h3⟩, h4⟩, h5⟩ := h
      exact .plain xi rfl ht (sh_frz h4 (b1_of xi h3 h1 h2 ((sx a (fun q => by cases q) h5 xi).1 rfl)))
    · split at h
      · simp only [Bool.and_eq_true, decide_eq_true_eq] at h
        obtain ⟨⟨⟨⟨⟨h1, h2⟩, h3⟩, rfl⟩, h4⟩, h5⟩ := h
        exact .plain xi rfl (fun _ => rfl) (isi_of xi h3 h1 h2 h4 ((sx a (fun q => by cases q) h5 xi).1 rfl))
      · cases h
    · cases h
  | .op2 o a b, c, t, sh, e, _, h, X, W, xi => by
    simp only [mx] at h
    split at h
    · simp only [Bool.and_eq_true, decide_eq_true_eq] at h
      obtain ⟨⟨⟨h1, rfl⟩, h2⟩, h3⟩ := h
      exact .plain xi rfl (fun _ => rfl) (snd_bin xi.xo h1 ((sx a (fun q => by cases q) h2 xi).1 rfl) ((sx b (fun q => by cases q) h3 xi).1 rfl))
    · simp only [Bool.and_eq_true, decide_eq_true_eq] at h
      obtain ⟨⟨⟨⟨h1, rfl⟩, h0⟩, h2⟩, h3⟩ := h
      exact ⟨fun _ => snd_cmp xi.xo h1 (noMark h0 _) ((sx a (fun q => by cases q) h2 xi).1 rfl) ((sx b (fun q => by cases q) h3 xi).1 rfl), fun _ => st_cmp xi.xo h1 (noMark h0 _) ((sx a (fun q => by cases q) h2 xi).1 rfl) ((sx b (fun q => by cases q) h3 xi).1 rfl)⟩
    · simp only [Bool.and_eq_true, decide_eq_true_eq] at h
      obtain ⟨⟨⟨⟨rfl, rfl⟩, h0⟩, h2⟩, h3⟩ := h
      exact .plain xi rfl (fun _ => rfl) (snd_ix xi.xo (plainIx h0) (plainIx h0) ((sx a (fun q => by cases q) h2 xi).1 rfl) ((sx b (fun q => by cases q) h3 xi).1 rfl))
    · simp only [Bool.and_eq_true, Bool.or_eq_true, decide_eq_true_eq] at h
      obtain ⟨⟨⟨⟨⟨⟨h1, h0⟩, rfl⟩, h4⟩, h5⟩, h2⟩, h3⟩ := h
      rcases h0 with ⟨rfl, rfl⟩ | ⟨rfl, rfl⟩
      · exact .plain xi rfl (fun _ => rfl) (snd_b2 xi.xo (xi.bi h1 (by decide +kernel) (by decide +kernel) (by decide) (by decide)) (p2_min xi.xo.calm) h4 h5 ((sx a (fun q => by cases q) h2 xi).1 rfl) ((sx b (fun q => by cases q) h3 xi).1 rfl))
      · exact .plain xi rfl (fun _ => rfl) (snd_b2 xi.xo (xi.bi h1 (by decide +kernel) (by decide +kernel) (by decide) (by decide)) (p2_max xi.xo.calm) h4 h5 ((sx a (fun q => by cases q) h2 xi).1 rfl) ((sx b (fun q => by cases q) h3 xi).1 rfl))
    · cases h
  | .slc a lo hi, c, t, sh, e, _, h, X, W, xi => by
    simp only [mx] at h
    split at h
    · simp only [Bool.and_eq_true, decide_eq_true_eq, Bool.not_eq_true'] at h
      obtain ⟨⟨⟨⟨h0, rfl⟩, h1⟩, h2⟩, h3⟩ := h
      exact .val h0 (snd_slc xi.xo ((sx a (fun q => by cases q) h1 xi).1 rfl) (sxO lo h2 xi) (sxO hi h3 xi))
    · cases h
  | .get a b d, c, t, sh, e, _, h, X, W, xi => by
    simp only [mx] at h
    split at h
    · simp only [Bool.and_eq_true, decide_eq_true_eq] at h
      obtain ⟨⟨⟨⟨⟨⟨⟨⟨rfl, rfl⟩, h1⟩, h2⟩, h3⟩, h4⟩, h5⟩, h6⟩, h7⟩ := h
      exact .plain xi rfl (fun _ => rfl) (snd_get xi.xo h1 h2 h3 h4 ((sx a (fun q => by cases q) h5 xi).1 rfl) ((sx b (fun q => by cases q) h6 xi).1 rfl) ((sx d (fun q => by cases q) h7 xi).1 rfl))
    · cases h
  | .meth o a b, c, t, sh, e, _, h, X, W, xi => by
    simp only [mx] at h
    split at h
    · simp only [Bool.and_eq_true, Bool.or_eq_true, decide_eq_true_eq] at h
      obtain ⟨⟨⟨⟨⟨⟨h0, rfl⟩, h1⟩, h2⟩, h3⟩, h4⟩, h5⟩ := h
      rcases h0 with ⟨rfl, rfl⟩ | ⟨rfl, rfl⟩
      · exact .plain xi rfl (fun _ => rfl) (snd_join xi.xo h1 h2 h3 ((sx a (fun q => by cases q) h4 xi).1 rfl) ((sx b (fun q => by cases q) h5 xi).1 rfl))
      · exact .plain xi rfl (fun _ => rfl) (snd_index xi.xo h1 h2 h3 ((sx a (fun q => by cases q) h4 xi).1 rfl) ((sx b (fun q => by cases q) h5 xi).1 rfl))
    · cases h
  | .and a b, c, t, sh, e, _, h, X, W, xi => by
    simp only [mx] at h
    split at h
    · simp only [Bool.and_eq_true, decide_eq_true_eq] at h
      obtain ⟨⟨rfl, h1⟩, h2⟩ := h
      have s1 := sx a (fun _ => rfl) h1 xi
      have s2 := sx b (fun _ => rfl) h2 xi
      exact ⟨fun q => snd_and xi.xo (s1.1 q) (se_bool1 (s2.1 q)), fun q => (sw_and (s1.2 q) (sw_and1 (s2.2 q))).pt⟩
    · simp only [Bool.and_eq_true, decide_eq_true_eq] at h
      obtain ⟨⟨rfl, h1⟩, h2⟩ := h
      have s1 := sx a (fun _ => rfl) h1 xi
      have s2 := sx b (fun _ => rfl) h2 xi
      exact ⟨fun q => snd_and xi.xo (s1.1 q) (s2.1 q), fun q => (sw_and (s1.2 q) (bool_pw (s2.2 q))).pt⟩
    · cases h
  | .or a b, c, t, sh, e, ht, h, X, W, xi => by
    simp only [mx] at h
    split at h
    · simp only [Bool.and_eq_true, Bool.or_eq_true, decide_eq_true_eq, Bool.not_eq_true'] at h
      obtain ⟨⟨h0, h1⟩, h2⟩ := h
      have s1 := sx a ht h1 xi
      have s2 := sx b ht h2 xi
      rcases h0 with rfl | ⟨h0, rfl⟩
      · exact ⟨fun q => snd_or xi.xo (s1.1 q) (se_bool1 (s2.1 q)), fun q => (sw_or (s1.2 q) (sw_or1 (s2.2 q))).pt⟩
      · exact .val h0 (snd_orM xi.xo (s1.1 h0) (s2.1 h0))
    · simp only [Bool.and_eq_true, decide_eq_true_eq] at h
      obtain ⟨⟨rfl, h1⟩, h2⟩ := h
      have s1 := sx a (fun _ => rfl) h1 xi
      have s2 := sx b (fun _ => rfl) h2 xi
      exact ⟨fun q => snd_or xi.xo (s1.1 q) (s2.1 q), fun q => (sw_or (s1.2 q) (bool_pw (s2.2 q))).pt⟩
    · cases h
  | .nt a, c, t, sh, e, _, h, X, W, xi => by
    simp only [mx] at h
    split at h
    · simp only [Bool.and_eq_true, decide_eq_true_eq] at h
      obtain ⟨rfl, h1⟩ := h
      have s1 := sx a (fun _ => rfl) h1 xi
      exact ⟨fun q => snd_nt xi.xo (s1.1 q), fun q => st_not (s1.2 q)⟩
    · cases h
  | .ite q a b, c, t, sh, e, _, h, X, W, xi => by
    simp only [mx] at h
    split at h
    · simp only [Bool.and_eq_true, decide_eq_true_eq, Bool.not_eq_true'] at h
      obtain ⟨⟨⟨h0, h1⟩, h2⟩, h3⟩ := h
      exact .val h0 (snd_ite ((sx q (fun _ => rfl) h1 xi).2 rfl) ((sx a (fun q => by cases q) h2 xi).1 rfl) ((sx b (fun q => by cases q) h3 xi).1 rfl))
    · cases h
  | .chain o p a b d, c, t, sh, e, _, h, X, W, xi => by
    simp only [mx] at h
    split at h
    · simp only [Bool.and_eq_true, decide_eq_true_eq] at h
      obtain ⟨⟨⟨⟨⟨⟨h1, h2⟩, rfl⟩, h3⟩, h4⟩, h5⟩, h6⟩ := h
      exact ⟨fun _ => snd_chain xi.xo h1 h2 h3 ((sx a (fun q => by cases q) h4 xi).1 rfl) ((sx b (fun q => by cases q) h5 xi).1 rfl) ((sx d (fun q => by cases q) h6 xi).1 rfl), fun _ => st_chain xi.xo h1 h2 h3 ((sx a (fun q => by cases q) h4 xi).1 rfl) ((sx b (fun q => by cases q) h5 xi).1 rfl) ((sx d (fun q => by cases q) h6 xi).1 rfl)⟩
    · cases h
  | .call f as, c, t, sh, e, ht, h, X, W, xi => by
    simp only [mx] at h
    split at h
    · cases hs : c.G f with
      | none => rw [hs] at h; cases h
      | some s =>
        rw [hs] at h
        simp only [Bool.and_eq_true, decide_eq_true_eq, Bool.not_eq_true'] at h
        obtain ⟨⟨⟨⟨⟨⟨⟨⟨⟨hcl, hkw⟩, hy⟩, h1⟩, h2⟩, h3⟩, h4⟩, h5⟩, h6⟩, h7⟩ := h
        exact .plain xi rfl ht (sh_frz h3 (call_of xi hs hcl hkw hy h1 h2 h4 h5 h6 (sxA as h7 xi)))
    · cases h
  | .callK f np ks pm as, c, t, sh, e, ht, h, X, W, xi => by
    simp only [mx] at h
    split at h
    · cases hs : c.G f with
      | none => rw [hs] at h; cases h
      | some s =>
        rw [hs] at h
        simp only [Bool.and_eq_true, decide_eq_true_eq, Bool.not_eq_true'] at h
        obtain ⟨⟨⟨⟨⟨⟨⟨⟨⟨⟨⟨⟨⟨hcl, hy⟩, h1⟩, h2⟩, h3⟩, h4⟩, h5⟩, h6⟩, h7⟩, h8⟩, h9⟩, h10⟩, h11⟩, h12⟩ := h
        exact .plain xi rfl ht (sh_frz h3 (callK_of xi hs hcl hy h1 h2 h4 h5 h6 h7 h8 h9 h10 h11 (sxs as h12 xi)))
    · cases h
  | .lend ls hs ms a, c, t, sh, e, _, h, X, W, xi => by
    simp only [mx, Bool.and_eq_true, decide_eq_true_eq] at h
    obtain ⟨⟨rfl, h1⟩, h2⟩ := h
    have s := sx a (fun _ => rfl) h2 (xi.mu _)
    have e1 := lent_M c ls
    refine ⟨fun q => snd_lend (lend_of h1) ?_, fun q => st_lend (lend_of h1) ?_⟩
    · have := s.1 q
      rw [e1] at this
      exact this
    · have := s.2 q
      rw [e1] at this
      exact this
  | .lc own tg it q b, c, t, sh, e, _, h, X, W, xi => by
    simp only [mx] at h
    split at h
    · simp only [Bool.and_eq_true, Bool.not_eq_true'] at h
      obtain ⟨⟨⟨⟨⟨⟨⟨⟨h0, h1⟩, h2⟩, h3⟩, h4⟩, h5⟩, h6⟩, h7⟩, h8⟩ := h
      obtain ⟨k1, k2, k3⟩ := blk_of xi h2
      have hts : ∀ i ∈ tgSlots tg, i ∈ own := fun i hi => List.contains_iff_mem.mp (List.all_eq_true.mp h3 i hi)
      have e1 := own_ix c.N own
      have := snd_lc (pos := ‹Pos›) (own := ownNm c.N own) (t := tg) (it := it) (c := q) (e := b) (tp := tpOf tg) xi.xo (by rw [e1]; exact k3) (by rw [e1]; exact hts) h4 (sxI it (tg_shape h6) h5 xi) k2
        (fun s H C cl fp => (xi.blk k1 s H C cl fp).tg h6) (fun s H C cl fp => sxC q h7 (xi.blk k1 s H C cl fp)) (fun s H C cl fp => (sx b (fun q => by cases q) h8 (xi.blk k1 s H C cl fp)).1 rfl)
      rw [e1] at this
      exact .val h0 (sh_frz h1 this)
    · cases h
  | .fld cn k a, c, t, sh, e, _, h, X, W, xi => by
    simp only [mx] at h
    split at h
    · simp only [Bool.and_eq_true, decide_eq_true_eq] at h
      obtain ⟨⟨⟨⟨rfl, h1⟩, h2⟩, h3⟩, h4⟩ := h
      obtain ⟨s, hs⟩ := fldB_of h3
      exact .plain xi rfl (fun _ => rfl) (snd_fld xi.xo (xi.oc cn (List.contains_iff_mem.mp h1)) h2 hs ((sx a (fun q => by cases q) h4 xi).1 rfl))
    · cases h
  | .fldM i k, c, t, sh, e, _, h, X, W, xi => by
    simp only [mx] at h
    split at h
    · split at h
      · rename_i cn hc
        simp only [Bool.and_eq_true, decide_eq_true_eq] at h
        obtain ⟨⟨⟨rfl, h1⟩, h2⟩, h3⟩ := h
        exact .plain xi rfl (fun _ => rfl) (snd_fldM xi.xo (xi.oc cn (List.contains_iff_mem.mp h1)) (xi.rd h2) (objSh_of hc) h3)
      · cases h
    · cases h
  | .mcall cn f r as, c, t, sh, e, ht, h, X, W, xi => by
    simp only [mx] at h
    split at h
    · rename_i o m ap es pos
      cases hs : c.G f with
      | none => rw [hs] at h; cases h
      | some s =>
        rw [hs] at h
        simp only [Bool.and_eq_true, decide_eq_true_eq] at h
        obtain ⟨⟨⟨⟨⟨⟨⟨⟨h1, h2⟩, h3⟩, h4⟩, h5⟩, h6⟩, h7⟩, h8⟩, h9⟩ := h
        cases e0 : s.shs with
        | nil => rw [e0] at h9; cases h9
        | cons sh0 shs =>
          rw [e0] at h9
          simp only [Bool.and_eq_true, Bool.or_eq_true, decide_eq_true_eq, Bool.not_eq_true'] at h9
          obtain ⟨⟨g1, g2⟩, g3⟩ := h9
          have ho : ArgK X z c.M W o r sh0 := by
            rcases g2 with g2 | ⟨g0, g2⟩
            · exact ref_arg xi g2
            · exact own_arg g0 (mx_noref g2) ((sx r (fun q => by cases q) g2 xi).1 rfl)
          exact .plain xi rfl ht (sh_frz h3 (mcall_of xi hs h1 (List.contains_iff_mem.mp h2) h4 h5 h6 h7 h8 e0 g1 ho (sxA as g3 xi)))
    · cases h
  | .new cn f as, c, t, sh, e, ht, h, X, W, xi => by
    simp only [mx] at h
    split at h
    · cases hs : c.G f with
      | none => rw [hs] at h; cases h
      | some s =>
        rw [hs] at h
        simp only [Bool.and_eq_true, Bool.not_eq_true'] at h
        obtain ⟨⟨⟨⟨⟨⟨h0, h1⟩, h2⟩, h3⟩, h4⟩, h5⟩, h6⟩ := h
        exact .val h0 (sh_frz h4 (new_of xi hs h1 h2 h3 h5 (sxs as h6 xi)))
    · cases h
  | .lendL ls hs ms a, c, t, sh, e, _, h, X, W, xi => by
    simp only [mx, Bool.and_eq_true, Bool.not_eq_true'] at h
    obtain ⟨⟨⟨h0, h00⟩, h1⟩, h2⟩ := h
    have s := (sx a (fun q => by cases q) h2 (xi.mu _)).1 rfl
    have e1 := lent_M c ls
    rw [e1] at s
    exact .val h0 (sh_frz h00 (snd_lendL (lend_of h1) s))
  | .rev a, c, t, sh, e, _, h, X, W, xi => by
    simp only [mx] at h
    split at h
    · simp only [Bool.and_eq_true, Bool.not_eq_true'] at h
      obtain ⟨⟨h0, h1⟩, h2⟩ := h
      exact .val h0 (sh_frz h1 (snd_rev xi.xo ((sx a (fun q => by cases q) h2 xi).1 rfl)))
    · cases h
  | .addL a b, c, t, sh, e, _, h, X, W, xi => by
    simp only [mx] at h
    split at h
    · simp only [Bool.and_eq_true, Bool.not_eq_true'] at h
      obtain ⟨⟨⟨h0, h1⟩, h2⟩, h3⟩ := h
      exact .val h0 (sh_frz h1 (snd_addL xi.xo ((sx a (fun q => by cases q) h2 xi).1 rfl) ((sx b (fun q => by cases q) h3 xi).1 rfl)))
    · cases h
  | .ixM i a, c, t, sh, e, _, h, X, W, xi => by
    simp only [mx] at h
    split at h
    · simp only [Bool.and_eq_true, decide_eq_true_eq] at h
      obtain ⟨⟨⟨⟨rfl, h1⟩, h2⟩, h3⟩, h4⟩ := h
      exact .plain xi rfl (fun _ => rfl) (snd_ixM xi.xo (xi.rd h1) h2 (plainIx h3) ((sx a (fun q => by cases q) h4 xi).1 rfl))
    · cases h
  | .lock a, c, t, sh, e, _, h, X, W, xi => by
    simp only [mx, Bool.and_eq_true, Bool.not_eq_true', decide_eq_true_eq] at h
    obtain ⟨⟨h0, rfl⟩, h1⟩ := h
    exact .val h0 (snd_lock ((sx a (fun q => by cases q) h1 xi).1 rfl))
  | .pop i none, c, t, sh, e, _, h, X, W, xi => by
    simp only [mx] at h
    split at h
    · simp only [Bool.and_eq_true, decide_eq_true_eq] at h
      obtain ⟨⟨⟨⟨rfl, rfl⟩, h1⟩, h2⟩, h3⟩ := h
      exact .plain xi rfl (fun _ => rfl) (snd_pop xi.xo (xi.rd h1) h2 h3)
    · cases h
  | .pop i (some a), c, t, sh, e, _, h, X, W, xi => by
    simp only [mx] at h
    split at h
    · simp only [Bool.and_eq_true, decide_eq_true_eq] at h
      obtain ⟨⟨⟨⟨⟨⟨rfl, rfl⟩, h1⟩, h2⟩, h3⟩, h4⟩, h5⟩ := h
      exact .plain xi rfl (fun _ => rfl) (snd_popA xi.xo (xi.rd h1) h2 h3 h4 ((sx a (fun q => by cases q) h5 xi).1 rfl))
    · cases h
theorem sxO : ∀ (a : Option E) {c : MC} {e : Option Expr}, mxO c a e = true → ∀ {X : Cx} {W : WX}, XI X c z W → SO X z c.M W e a
  | none, c, e, h, X, W, xi => by
    cases e with
    | none => exact .none
    | some e => simp [mxO] at h
  | some a, c, e, h, X, W, xi => by
    cases e with
    | none => simp [mxO] at h
    | some e =>
      simp only [mxO] at h
      exact .some ((sx a (fun q => by cases q) h xi).1 rfl)
theorem sxC : ∀ (a : Option E) {c : MC} {ifs : List Expr}, mxC c a ifs = true → ∀ {X : Cx} {W : WX}, XI X c z W → PTs X ifs (tCe z c.M W a)
  | none, c, ifs, h, X, W, xi => by
    cases ifs with
    | nil => exact ts_nil
    | cons _ _ => simp [mxC] at h
  | some a, c, ifs, h, X, W, xi => by
    match ifs, h with
    | [], h => simp [mxC] at h
    | [e], h =>
      simp only [mxC] at h
      exact ts_one ((sx a (fun _ => rfl) h xi).2 rfl)
    | _ :: _ :: _, h => simp [mxC] at h
theorem sxI : ∀ (it : It) {c : MC} {tp : Bool} {tg e : Expr}, (tp = true → ∃ es k p, tg = .Tuple es k p) → mxI c tp it e = true → ∀ {X : Cx} {W : WX}, XI X c z W → SI X z c.M W tp tg e (evIt z.cf it)
  | .seq a, c, tp, tg, e, _, h, X, W, xi => by
    simp only [mxI] at h
    exact si_seq xi.xo ((sx a (fun q => by cases q) h xi).1 rfl)
  | .rng a, c, tp, tg, e, _, h, X, W, xi => by
    simp only [mxI] at h
    split at h
    · simp only [Bool.and_eq_true, decide_eq_true_eq] at h
      obtain ⟨⟨⟨rfl, h1⟩, h2⟩, h3⟩ := h
      exact si_rng xi.xo (xi.bi h1 (by decide +kernel) (by decide +kernel) (by decide) (by decide)) h2 ((sx a (fun q => by cases q) h3 xi).1 rfl)
    · cases h
  | .rng2 a b, c, tp, tg, e, _, h, X, W, xi => by
    simp only [mxI] at h
    split at h
    · simp only [Bool.and_eq_true, decide_eq_true_eq] at h
      obtain ⟨⟨⟨⟨⟨rfl, h1⟩, h2⟩, h3⟩, h4⟩, h5⟩ := h
      exact si_rng2 xi.xo (xi.bi h1 (by decide +kernel) (by decide +kernel) (by decide) (by decide)) h2 h3 ((sx a (fun q => by cases q) h4 xi).1 rfl) ((sx b (fun q => by cases q) h5 xi).1 rfl)
    · cases h
  | .enm a, c, tp, tg, e, ht, h, X, W, xi => by
    simp only [mxI] at h
    split at h
    · simp only [Bool.and_eq_true, decide_eq_true_eq] at h
      obtain ⟨⟨⟨⟨rfl, rfl⟩, h1⟩, h2⟩, h3⟩ := h
      obtain ⟨es, k, p, rfl⟩ := ht rfl
      exact si_enm xi.xo (xi.bi h1 (by decide +kernel) (by decide +kernel) (by decide) (by decide)) h2 ((sx a (fun q => by cases q) h3 xi).1 rfl)
    · cases h
  | .zip a b, c, tp, tg, e, ht, h, X, W, xi => by
    simp only [mxI] at h
    split at h
    · simp only [Bool.and_eq_true, decide_eq_true_eq] at h
      obtain ⟨⟨⟨⟨⟨⟨rfl, rfl⟩, h1⟩, h2⟩, h3⟩, h4⟩, h5⟩ := h
      obtain ⟨es, k, p, rfl⟩ := ht rfl
      exact si_zip xi.xo (xi.bi h1 (by decide +kernel) (by decide +kernel) (by decide) (by decide)) h2 h3 ((sx a (fun q => by cases q) h4 xi).1 rfl) ((sx b (fun q => by cases q) h5 xi).1 rfl)
    · cases h
  | .keys a, c, tp, tg, e, _, h, X, W, xi => by
    simp only [mxI] at h
    exact si_keys xi.xo ((sx a (fun q => by cases q) h xi).1 rfl)
  | .items a, c, tp, tg, e, ht, h, X, W, xi => by
    simp only [mxI] at h
    split at h
    · simp only [Bool.and_eq_true, decide_eq_true_eq] at h
      obtain ⟨⟨⟨⟨rfl, rfl⟩, h1⟩, h2⟩, h3⟩ := h
      obtain ⟨es, k, p, rfl⟩ := ht rfl
      exact si_items xi.xo h1 h2 ((sx a (fun q => by cases q) h3 xi).1 rfl)
    · cases h
theorem sxs : ∀ (as : List E) {c : MC} {es : List Expr}, mxs c as es = true → ∀ {X : Cx} {W : WX}, XI X c z W → SEs X z c.M W es as
  | [], c, es, h, X, W, xi => by
    cases es with
    | nil => exact .nil
    | cons _ _ => simp [mxs] at h
  | a :: as, c, es, h, X, W, xi => by
    cases es with
    | nil => simp [mxs] at h
    | cons e es =>
      simp only [mxs, Bool.and_eq_true] at h
      exact .cons ⟨mx_noref h.1, (sx a (fun q => by cases q) h.1 xi).1 rfl⟩ (sxs as h.2 xi)
theorem sxA : ∀ (as : List E) {c : MC} {shs : List Sh} {es : List Expr}, mxA c as shs es = true → ∀ {X : Cx} {W : WX}, XI X c z W → ArgsK X z c.M W es as shs
  | [], c, shs, es, h, X, W, xi => by
    cases shs <;> cases es <;> first | exact .nil | simp [mxA] at h
  | a :: as, c, shs, es, h, X, W, xi => by
    cases shs with
    | nil => cases es <;> simp [mxA] at h
    | cons sh shs =>
      cases es with
      | nil => simp [mxA] at h
      | cons e es =>
        simp only [mxA, Bool.and_eq_true, Bool.or_eq_true, decide_eq_true_eq] at h
        obtain ⟨h1, h2⟩ := h
        refine .cons ?_ (sxA as h2 xi)
        rcases h1 with h1 | ⟨h0, h1⟩
        · exact ref_arg xi h1
        · exact own_arg h0 (mx_noref h1) ((sx a (fun q => by cases q) h1 xi).1 rfl)
end
end Pv
set_option Elab.async false
set_option linter.all false
set_option maxRecDepth 100000
set_option maxHeartbeats 8000000
namespace Pv
open PySem PySem.Spec PyProof.Rows L2
/-- name = [..]: the block's value is stored from within -/
def swB (c : MC) (scope : Scope) (y : Str) (py pos : Pos) : Bool := decide (c.sc.names.lookup y = some .local) && (py.line == pos.line) && !(scope.names.any fun p => p.1 == y && (p.2 == .local || p.2 == .cell))
theorem sw_of {X : Cx} {c : MC} {z : Z} {W : WX} (xi : XI X c z W) {elt : Expr} {gs : List Comprehension} {scope : Scope} {y : Str} {py pos : Pos} {l : Nat} (h : swB c scope y py pos = true) : swapsWith (.ListComp elt gs scope pos) (some (.Name y py)) l X.env = pure true := by
  unfold swB at h
  simp only [Bool.and_eq_true, decide_eq_true_eq] at h
  obtain ⟨⟨h1, h2⟩, h3⟩ := h
  have e1 : X.env.blockKind = .function := by
    unfold Env.blockKind
    rw [xi.sc, xi.kd]
    rfl
  have e2 : X.env.kindOf y = some .local := by
    unfold Env.kindOf
    rw [xi.sc]
    exact h1
  show (pure (X.env.blockKind == .function && X.env.kindOf y == some .local && py.line == (Expr.ListComp elt gs scope pos).pos.line && !(scope.names.any fun (n, k) => n == y && (k == .local || k == .cell))) : Sem Bool) = pure true
  rw [e1, e2]
  have h2 : (py.line == (Expr.ListComp elt gs scope pos).pos.line) = true := h2
  rw [h2]
  have h3 : (!(scope.names.any fun (n, k) => n == y && (k == .local || k == .cell))) = true := h3
  rw [h3]
  rfl
theorem swd_of {X : Cx} {c : MC} {z : Z} {W : WX} (xi : XI X c z W) {kx vx : Expr} {gs : List Comprehension} {scope : Scope} {y : Str} {py pos : Pos} {l : Nat} (h : swB c scope y py pos = true) : swapsWith (.DictComp kx vx gs scope pos) (some (.Name y py)) l X.env = pure true := by
  unfold swB at h
  simp only [Bool.and_eq_true, decide_eq_true_eq] at h
  obtain ⟨⟨h1, h2⟩, h3⟩ := h
  have e1 : X.env.blockKind = .function := by
    unfold Env.blockKind
    rw [xi.sc, xi.kd]
    rfl
  have e2 : X.env.kindOf y = some .local := by
    unfold Env.kindOf
    rw [xi.sc]
    exact h1
  show (pure (X.env.blockKind == .function && X.env.kindOf y == some .local && py.line == (Expr.DictComp kx vx gs scope pos).pos.line && !(scope.names.any fun (n, k) => n == y && (k == .local || k == .cell))) : Sem Bool) = pure true
  have h2 : (py.line == (Expr.DictComp kx vx gs scope pos).pos.line) = true := h2
  have h3 : (!(scope.names.any fun (n, k) => n == y && (k == .local || k == .cell))) = true := h3
  rw [e1, e2, h2, h3]
  rfl
theorem sw_loc {X : Cx} {c : MC} {z : Z} {W : WX} (xi : XI X c z W) {scope : Scope} {y : Str} {py pos : Pos} (h : swB c scope y py pos = true) : X.env.scope.names.lookup y = some .local := by
  rw [xi.sc]
  unfold swB at h
  simp only [Bool.and_eq_true, decide_eq_true_eq] at h
  exact h.1.1
def lcC (c : MC) (elt tge iter : Expr) (ifs : List Expr) (scope : Scope) : E → Bool
  | .lc own tg it q b => blkB c scope own && (tgSlots tg).all (fun i => own.contains i) && okHead iter && mxI c (tpOf tg) it iter && tgC (c.blk scope) tge tg && mxC (c.blk scope) q ifs && mx (c.blk scope) false b .pure elt
  | _ => false
/-- the dict comprehension that a lock holds -/
def unLk : E → E
  | .lock a => a
  | a => a
def isLk : E → Bool
  | .lock _ => true
  | _ => false
def dcC (c : MC) (kx vx tge iter : Expr) (ifs : List Expr) (scope : Scope) : E → Bool
  | .dc own tg it q k v => blkB c scope own && (tgSlots tg).all (fun i => own.contains i) && okHead iter && mxI c (tpOf tg) it iter && tgC (c.blk scope) tge tg && mxC (c.blk scope) q ifs && mx (c.blk scope) false k .pure kx && mx (c.blk scope) false v .pure vx
  | _ => false
/-- the name is a cell: a block's value is stored from without -/
def cellB (c : MC) (y : Str) : Bool := decide (c.sc.names.lookup y = some .cell)
theorem cell_sw {X : Cx} {c : MC} {z : Z} {W : WX} (xi : XI X c z W) {e : Expr} {y : Str} {py : Pos} {l : Nat} (h : cellB c y = true) : swapsWithSole [.Name y py] e l X.env = pure false := by
  have e2 : X.env.kindOf y = some .cell := by
    unfold Env.kindOf
    rw [xi.sc]
    simpa [cellB] using h
  show swapsWith e (some (.Name y py)) l X.env = pure false
  cases e <;> first
    | rfl
    | (unfold swapsWith
       simp only [e2]
       rw [show (some NameKind.cell == some NameKind.local) = false from rfl, Bool.and_false]
       rfl)
mutual
def mS (c : MC) (np : Nat) (rs : Sh) : S → Stmt → Bool
  | .asg t a, st => match st with
    | .Assign [.Name y py] (.ListComp elt [⟨tge, iter, ifs, 0⟩] scope pos) _ => (match t with
      | .nm i => decide (c.N[i]? = some y) && decide (c.M i = .pure)
      | _ => false) && swB c scope y py pos && lcC c elt tge iter ifs scope a || cellB c y && tgC c (.Name y py) t && mx c false a .pure (.ListComp elt [⟨tge, iter, ifs, 0⟩] scope pos)
    | .Assign [.Name y py] (.DictComp kx vx [⟨tge, iter, ifs, 0⟩] scope pos) _ => (match t with
      | .nm i => decide (c.N[i]? = some y) && decide (c.M i = .pure)
      | _ => false) && swB c scope y py pos && dcC c kx vx tge iter ifs scope (unLk a) || cellB c y && tgC c (.Name y py) t && mx c false a .pure (.DictComp kx vx [⟨tge, iter, ifs, 0⟩] scope pos)
    | .Assign [tg] e _ => !isComp e && (!isTup e || !isTup tg) && tgC c tg t && mx c false a .pure e
    | _ => false
  | .asgM i a, st => match st with
    | .Assign [.Name y py] (.ListComp elt [⟨tge, iter, ifs, 0⟩] scope pos) _ => decide (c.N[i]? = some y) && decide (c.M i = .lst .pure) && decide (np ≤ i) && swB c scope y py pos && lcC c elt tge iter ifs scope a
    | .Assign [.Name x _] e _ => !isComp e && decide (c.N[i]? = some x) && locB c.sc x && (c.fn x || decide (c.sc.names.lookup x = some .local)) && decide (np ≤ i) && mx c false a (c.M i) e
    | _ => false
  | .asgP i j a, st => match st with
    | .Assign [.Tuple ts _ _] e _ => !isComp e && !isTup e && nmsLC c ts [i, j] && decide (i ≠ j) && ([i, j].all fun k => decide (c.M k = .pure) || decide (np ≤ k)) && mx c false a (.pair (c.M i) (c.M j)) e
    | _ => false
  | .par is as, st => match st with
    | .Assign [.Tuple [.Name x px, .Name y py] _ _] (.Tuple [ea, eb] _ _) _ => match is with
      | [i, j] => decide (c.N[i]? = some x) && decide (c.N[j]? = some y) && decide (i ≠ j) && decide (c.sc.names.lookup x = some .local) && decide (c.sc.names.lookup y = some .local) && ([i, j].all fun k => decide (c.M k = .pure) || decide (np ≤ k)) && (py.line == px.line) && ([x, y].eraseDups.length == 2) && okHead ea && okHead eb && !([ea, eb].all (foldedForSure 8)) && !([ea, eb].all (constantsAlone 8)) && (as.all fun a => !isRef a) && mxA c as ([i, j].map c.M) [ea, eb]
      | _ => false
    | .Assign [.Tuple [.Name x px, .Name y py, .Name w pw] _ _] (.Tuple [ea, eb, ec] _ _) _ => match is with
      | [i, j, k] => decide (c.N[i]? = some x) && decide (c.N[j]? = some y) && decide (c.N[k]? = some w) && decide (i ≠ j) && decide (i ≠ k) && decide (j ≠ k) && decide (c.sc.names.lookup x = some .local) && decide (c.sc.names.lookup y = some .local) && decide (c.sc.names.lookup w = some .local) && ([i, j, k].all fun k => decide (c.M k = .pure) || decide (np ≤ k)) && (py.line == px.line) && (pw.line == px.line) && ([x, y, w].eraseDups.length == 3) && okHead ea && okHead eb && okHead ec && !([ea, eb, ec].all (foldedForSure 8)) && !([ea, eb, ec].all (constantsAlone 8)) && (as.all fun a => !isRef a) && mxA c as ([i, j, k].map c.M) [ea, eb, ec]
      | _ => false
    | _ => false
  | .parT is as, st => match st with
    | .Assign [.Tuple ts _ _] (.Tuple es _ _) _ => swNoneB c.sc ts && nmsLC c ts is && allHead es && decide (is.length ≤ 1000) && (is.all fun k => decide (c.M k = .pure) || decide (np ≤ k)) && (as.all fun a => !isRef a) && mxA c as (is.map c.M) es
    | _ => false
  | .app i a, st => match st with
    | .Expr (.Call (.Attribute (.Name x _) m ap) [ea] [] cp) _ => decide (m = ("append" : Str)) && rdC c i x && decide (c.M i = .lst .pure) && okHead ea && (ap.endLine == cp.line) && mx c false a .pure ea
    | _ => false
  | .ins i a b, st => match st with
    | .Expr (.Call (.Attribute (.Name x _) m ap) [ea, eb] [] cp) _ => decide (m = ("insert" : Str)) && rdC c i x && decide (c.M i = .lst .pure) && okHead ea && okHead eb && (ap.endLine == cp.line) && mx c false a .pure ea && mx c false b .pure eb
    | _ => false
  | .setL i k a, st => match st with
    | .Assign [.Subscript (.Name x _) ek _] ea _ => rdC c i x && decide (c.M i = .lst .pure) && !isComp ea && okHead ek && mx c false a .pure ea && mx c false k .pure ek
    | _ => false
  | .setD i k a, st => match st with
    | .Assign [.Subscript (.Name x _) ek _] ea _ => rdC c i x && decide (c.M i = .dct .pure) && !isComp ea && okHead ek && mx c false a .pure ea && mx c false k .pure ek
    | _ => false
  | .sdd i k l a, st => match st with
    | .Assign [.Subscript (.Call (.Attribute (.Name x _) m ap) [ek, .Dict [] [] _] [] cp) (.Name y _) _] ea _ => match l with
      | .var j => decide (m = ("setdefault" : Str)) && rdC c i x && rdC c j y && decide (c.M i = .dct (.dct .pure)) && decide (c.M j = .pure) && !isComp ea && okHead ek && (ap.endLine == cp.line) && mx c false a .pure ea && mx c false k .pure ek
      | _ => false
    | _ => false
  | .ex a, st => match st with
    | .Expr e _ => !isComp e && mx c false a .pure e
    | _ => false
  | .ife q as bs, st => match st with
    | .If ec a b _ => mx c true q .pure ec && mSs c np rs as a && mSs c np rs bs b
    | _ => false
  | .fr t it bs, st => match st with
    | .For tg iter body [] _ => okHead iter && tgC c tg t && mxI c (tpOf t) it iter && mSs c np rs bs body
    | _ => false
  | .whl q bs, st => match st with
    | .While ec body [] _ => mx c true q .pure ec && mSs c np rs bs body
    | _ => false
  | .ret a, st => match st with
    | .Return (some e) _ => mx c false a rs e
    | .Return none _ => (match a with
      | .cst .non => true
      | _ => false) && decide (rs = .pure)
    | _ => false
  | .brk, st => match st with
    | .Break _ => true
    | _ => false
  | .cnt, st => match st with
    | .Continue _ => true
    | _ => false
  | .pass, st => match st with
    | .Pass _ => true
    | _ => false
  | .dead, _ => true
  | .setF i k a, st => match st with
    | .Assign [.Attribute (.Name x _) f _] e _ => (match objSh (c.M i) with
      | some cn => (match (clsF cn)[k]? with
        | some (f', s) => c.cls.contains cn && rdC c i x && decide (f' = f) && mx c false a (shF s) e
        | none => false)
      | none => false)
    | _ => false
  | .appF i k a, st => match st with
    | .Expr (.Call (.Attribute (.Attribute (.Name x _) f _) m ap) [ea] [] cp) _ => (match objSh (c.M i), a with
      | some cn, .lend ls hs ms a => decide (m = ("append" : Str)) && c.cls.contains cn && rdC c i x && decide ((clsF cn)[k]? = some (f, .lst)) && lendB c ls hs ms && !ms.contains i && okHead ea && (ap.endLine == cp.line) && mx { c with mu := lentL c.mu ls } false a .pure ea
      | _, _ => false)
    | _ => false
  | .setDF i k j a, st => match st with
    | .Assign [.Subscript (.Attribute (.Name x _) f _) ej _] ea _ => (match objSh (c.M i), j with
      | some cn, .lend ls hs ms j => c.cls.contains cn && rdC c i x && decide ((clsF cn)[k]? = some (f, .dct)) && lendB c ls hs ms && !ms.contains i && mx c false a .pure ea && mx { c with mu := lentL c.mu ls } false j .pure ej
      | _, _ => false)
    | _ => false
  | .delDF i k j, st => match st with
    | .Delete [.Subscript (.Attribute (.Name x _) f _) ej _] _ => (match objSh (c.M i), j with
      | some cn, .lend ls hs ms j => c.cls.contains cn && rdC c i x && decide ((clsF cn)[k]? = some (f, .dct)) && lendB c ls hs ms && !ms.contains i && mx { c with mu := lentL c.mu ls } false j .pure ej
      | _, _ => false)
    | _ => false
  | .augF i k o a, st => match st with
    | .AugAssign (.Attribute (.Name x _) f _) .Sub e _ => (match objSh (c.M i) with
      | some cn => c.cls.contains cn && rdC c i x && decide (o = .sub) && decide ((clsF cn)[k]? = some (f, .pure)) && mx c false a .pure e
      | none => false)
    | _ => false
  | .revL i, st => match st with
    | .Expr (.Call (.Attribute (.Name x _) m ap) [] [] cp) _ => decide (m = ("reverse" : Str)) && rdC c i x && decide (c.M i = .lst .pure) && (ap.endLine == cp.line)
    | _ => false
  | .appP i v, st => match st with
    | .Expr (.Call (.Attribute (.Subscript (.Name x _) (.Constant (.int k) _ _) _) m ap) [.Constant (.str v') _ _] [] cp) _ => decide (m = ("append" : Str)) && rdC c i x && decide (c.M i = .pair .pure (.lst .pure)) && decide (k = 1) && decide (v' = v) && decide (v.length ≤ 1000) && PyData.strOk v && (ap.endLine == cp.line)
    | _ => false
  | .swp i j, st => match st with
    | .Assign [.Tuple [.Subscript (.Name x1 _) (.Name y1 _) _, .Subscript (.Name x2 _) (.BinOp (.Name y2 _) .Add (.Constant (.int c1) _ _) _) _] _ _] (.Tuple [.Subscript (.Name x3 _) (.BinOp (.Name y3 _) .Add (.Constant (.int c2) _ _) _) _, .Subscript (.Name x4 _) (.Name y4 _) _] _ _) _ =>
      rdC c i x1 && rdC c j y1 && decide (c.M i = .lst .pure) && decide (c.M j = .pure) && decide (x2 = x1) && decide (x3 = x1) && decide (x4 = x1) && decide (y2 = y1) && decide (y3 = y1) && decide (y4 = y1) && decide (c1 = 1) && decide (c2 = 1)
    | _ => false
def mSs (c : MC) (np : Nat) (rs : Sh) : List S → List Stmt → Bool
  | [], [] => true
  | s :: ss, st :: sts => mS c np rs s st && mSs c np rs ss sts
  | _, _ => false
end
section
variable {X : Cx} {c : MC} {z : Z} {W : WX} {np : Nat} {rs : Sh}
/-- a block's parts -/
structure LcOk (X : Cx) (c : MC) (z : Z) (W : WX) (elt tge iter : Expr) (ifs : List Expr) (scope : Scope) (own : List Nat) (tg : Tg) (it : It) (q : Option E) (b : E) : Prop where
  pure : ∀ i ∈ (ownNm c.N own).map (·.2), c.M i = .pure
  ts : ∀ i ∈ tgSlots tg, i ∈ (ownNm c.N own).map (·.2)
  head : okHead iter = true
  it : SI X z c.M W (tpOf tg) tge iter (evIt z.cf it)
  blk : BlkOk X.N X.env.scope scope (ownNm c.N own)
  tg : ∀ (s : Shared) (H : Hp) (C : Addr) (cl : List (Str × Addr)) (fp : List Addr), TgOk (X.blk s H scope (compEnvC scope cl C X.env) fp) c.M tge tg (tpOf tg)
  ifs : ∀ (s : Shared) (H : Hp) (C : Addr) (cl : List (Str × Addr)) (fp : List Addr), PTs (X.blk s H scope (compEnvC scope cl C X.env) fp) ifs (tCe z c.M noW q)
  elt : ∀ (s : Shared) (H : Hp) (C : Addr) (cl : List (Str × Addr)) (fp : List Addr), SE (X.blk s H scope (compEnvC scope cl C X.env) fp) z c.M noW .pure elt (ev z.cf b)
theorem lc_ok (xi : XI X c z W) {elt tge iter : Expr} {ifs : List Expr} {scope : Scope} {a : E} (h : lcC c elt tge iter ifs scope a = true) : ∃ own tg it q b, a = .lc own tg it q b ∧ LcOk X c z W elt tge iter ifs scope own tg it q b := by
  cases a with
  | lc own tg it q b =>
    simp only [lcC, Bool.and_eq_true] at h
    obtain ⟨⟨⟨⟨⟨⟨h2, h3⟩, h4⟩, h5⟩, h6⟩, h7⟩, h8⟩ := h
    obtain ⟨k1, k2, k3⟩ := blk_of xi h2
    have hts : ∀ i ∈ tgSlots tg, i ∈ own := fun i hi => List.contains_iff_mem.mp (List.all_eq_true.mp h3 i hi)
    have e1 := own_ix c.N own
    exact ⟨own, tg, it, q, b, rfl, by rw [e1]; exact k3, by rw [e1]; exact hts, h4, sxI it (tg_shape h6) h5 xi, k2, fun s H C cl fp => (xi.blk k1 s H C cl fp).tg h6, fun s H C cl fp => sxC q h7 (xi.blk k1 s H C cl fp), fun s H C cl fp => (sx b (fun q => by cases q) h8 (xi.blk k1 s H C cl fp)).1 rfl⟩
  | _ => simp [lcC] at h
theorem asgC_ok {e : Expr} {y : Str} {py : Pos} {t : Tg} {a : E} {p : Pos} (xi : XI X c z W) (ht : isTup e = false) (h1 : cellB c y = true) (h2 : tgC c (.Name y py) t = true) (h3 : mx c false a .pure e = true) : SS X z c.M np W rs (.Assign [.Name y py] e p) (exe z.cf z.wf (.asg t a)) :=
  PS.imp (ps_asg ((sx a (fun q => by cases q) h3 xi).1 rfl) (pg_tg xi.xo (xi.tg h2)) (cell_sw xi h1) (no_store (.inl ht) X.env) (tgt_each (xi.tg h2))) fun D σ H h => asg_of (tg_pure (xi.tg h2)) h
theorem asg_ok {tg e : Expr} {t : Tg} {a : E} {p : Pos} (xi : XI X c z W) (h : (!isComp e && (!isTup e || !isTup tg) && tgC c tg t && mx c false a .pure e) = true) : SS X z c.M np W rs (.Assign [tg] e p) (exe z.cf z.wf (.asg t a)) := by
  simp only [Bool.and_eq_true, Bool.or_eq_true, Bool.not_eq_true'] at h
  obtain ⟨⟨⟨h1, h2⟩, h3⟩, h4⟩ := h
  exact ss_asg xi.xo h1 h2 (xi.tg h3) ((sx a (fun q => by cases q) h4 xi).1 rfl)
theorem asgM_ok {e : Expr} {x : Str} {i : Nat} {a : E} {p px : Pos} (xi : XI X c z W) (h : (!isComp e && decide (c.N[i]? = some x) && locB c.sc x && (c.fn x || decide (c.sc.names.lookup x = some .local)) && decide (np ≤ i) && mx c false a (c.M i) e) = true) : SS X z c.M np W rs (.Assign [.Name x px] e p) (exe z.cf z.wf (.asgM i a)) := by
  simp only [Bool.and_eq_true, Bool.or_eq_true, Bool.not_eq_true', decide_eq_true_eq] at h
  obtain ⟨⟨⟨⟨⟨h1, h2⟩, h3⟩, h4⟩, h5⟩, h6⟩ := h
  exact ss_asgM xi.xo h1 (by rw [xi.N]; exact h2) (by rw [xi.sc]; exact loc_of h3) (by rw [xi.sc, xi.fn]; exact h4) h5 ((sx a (fun q => by cases q) h6 xi).1 rfl)
end
theorem no_mem {l : List Nat} {i : Nat} (h : l.contains i = false) : i ∉ l := fun q => by
  have e := List.contains_iff_mem.mpr q
  rw [h] at e; cases e
variable {z : Z}
mutual
theorem ssx : ∀ (s : S) {c : MC} {np : Nat} {rs : Sh} {st : Stmt}, mS c np rs s st = true → ∀ {X : Cx} {W : WX}, XI X c z W → PassesOwn (model X.prog X.w) X.A X.env X.xe → SS X z c.M np W rs st (exe z.cf z.wf s)
  | .asg t a, c, np, rs, st, h, X, W, xi, po => by
    simp only [mS] at h
    split at h
    · rename_i y py elt tge iter ifs scope pos spos
      simp only [Bool.and_eq_true, Bool.or_eq_true] at h
      rcases h with ⟨⟨h0, h1⟩, h2⟩ | ⟨⟨h1, h2⟩, h3⟩
      · cases t with
        | tp ts => simp at h0
        | nst _ _ _ => simp at h0
        | nm i =>
          simp only [Bool.and_eq_true, decide_eq_true_eq] at h0
          obtain ⟨own, tg, it, q, b, rfl, k⟩ := lc_ok xi h2
          have := ss_asgLc (np := np) (rs := rs) (wf := z.wf) (spos := spos) xi.xo (by rw [xi.N]; exact h0.1) (sw_loc xi h1) h0.2 (sw_of xi h1) k.pure k.ts k.head k.it k.blk k.tg k.ifs k.elt
          rw [own_ix] at this
          exact this
      · exact asgC_ok xi rfl h1 h2 h3
    · rename_i y py kx vx tge iter ifs scope pos spos
      simp only [Bool.and_eq_true, Bool.or_eq_true] at h
      rcases h with ⟨⟨h0, h1⟩, h2⟩ | ⟨⟨h1, h2⟩, h3⟩
      · cases t with
        | tp ts => simp at h0
        | nst _ _ _ => simp at h0
        | nm i =>
          simp only [Bool.and_eq_true, decide_eq_true_eq] at h0
          cases a with
          | dc own tg it q k v =>
            have h2 : dcC c kx vx tge iter ifs scope (.dc own tg it q k v) = true := h2
            simp only [dcC, Bool.and_eq_true] at h2
            obtain ⟨⟨⟨⟨⟨⟨⟨g2, g3⟩, g4⟩, g5⟩, g6⟩, g7⟩, g8⟩, g9⟩ := h2
            obtain ⟨k1, k2, k3⟩ := blk_of xi g2
            have hts : ∀ i ∈ tgSlots tg, i ∈ own := fun i hi => List.contains_iff_mem.mp (List.all_eq_true.mp g3 i hi)
            have e1 := own_ix c.N own
            have := ss_asgDc (np := np) (rs := rs) (wf := z.wf) (spos := spos) (own := ownNm c.N own) xi.xo (by rw [xi.N]; exact h0.1) (sw_loc xi h1) h0.2 (swd_of xi h1) (by rw [e1]; exact k3) (by rw [e1]; exact hts) g4 (sxI it (tg_shape g6) g5 xi) k2
              (fun s H C cl fp => (xi.blk k1 s H C cl fp).tg g6) (fun s H C cl fp => sxC q g7 (xi.blk k1 s H C cl fp)) (fun s H C cl fp => (sx k (fun q => by cases q) g8 (xi.blk k1 s H C cl fp)).1 rfl) (fun s H C cl fp => (sx v (fun q => by cases q) g9 (xi.blk k1 s H C cl fp)).1 rfl)
            rw [e1] at this
            exact this
          | lock a =>
            cases a with
            | dc own tg it q k v =>
              have h2 : dcC c kx vx tge iter ifs scope (.dc own tg it q k v) = true := h2
              simp only [dcC, Bool.and_eq_true] at h2
              obtain ⟨⟨⟨⟨⟨⟨⟨g2, g3⟩, g4⟩, g5⟩, g6⟩, g7⟩, g8⟩, g9⟩ := h2
              obtain ⟨k1, k2, k3⟩ := blk_of xi g2
              have hts : ∀ i ∈ tgSlots tg, i ∈ own := fun i hi => List.contains_iff_mem.mp (List.all_eq_true.mp g3 i hi)
              have e1 := own_ix c.N own
              have := ss_asgDcL (np := np) (rs := rs) (wf := z.wf) (spos := spos) (own := ownNm c.N own) xi.xo (by rw [xi.N]; exact h0.1) (sw_loc xi h1) h0.2 (swd_of xi h1) (by rw [e1]; exact k3) (by rw [e1]; exact hts) g4 (sxI it (tg_shape g6) g5 xi) k2
                (fun s H C cl fp => (xi.blk k1 s H C cl fp).tg g6) (fun s H C cl fp => sxC q g7 (xi.blk k1 s H C cl fp)) (fun s H C cl fp => (sx k (fun q => by cases q) g8 (xi.blk k1 s H C cl fp)).1 rfl) (fun s H C cl fp => (sx v (fun q => by cases q) g9 (xi.blk k1 s H C cl fp)).1 rfl)
              rw [e1] at this
              exact this
            | _ => simp [unLk, dcC] at h2
          | _ => simp [unLk, dcC] at h2
      · exact asgC_ok xi rfl h1 h2 h3
    · exact asg_ok xi h
    · cases h
  | .asgM i a, c, np, rs, st, h, X, W, xi, po => by
    simp only [mS] at h
    split at h
    · rename_i y py elt tge iter ifs scope pos spos
      simp only [Bool.and_eq_true, decide_eq_true_eq] at h
      obtain ⟨⟨⟨⟨h0, h00⟩, h000⟩, h1⟩, h2⟩ := h
      obtain ⟨own, tg, it, q, b, rfl, k⟩ := lc_ok xi h2
      have := ss_asgMLc (np := np) (rs := rs) (wf := z.wf) (spos := spos) xi.xo (by rw [xi.N]; exact h0) (sw_loc xi h1) h00 h000 (sw_of xi h1) k.pure k.ts k.head k.it k.blk k.tg k.ifs k.elt
      rw [own_ix] at this
      exact this
    · exact asgM_ok xi h
    · cases h
  | .asgP i j a, c, np, rs, st, h, X, W, xi, po => by
    simp only [mS] at h
    split at h
    · simp only [Bool.and_eq_true, decide_eq_true_eq, Bool.not_eq_true'] at h
      obtain ⟨⟨⟨⟨⟨h1, h2⟩, h3⟩, h4⟩, h5⟩, h6⟩ := h
      exact ss_asgP xi.xo h1 h2 (xi.nmsL h3) h4 (fun k hk => by simpa using List.all_eq_true.mp h5 k hk) ((sx a (fun q => by cases q) h6 xi).1 rfl)
    · cases h
  | .par is as, c, np, rs, st, h, X, W, xi, po => by
    simp only [mS] at h
    split at h
    · split at h
      · simp only [Bool.and_eq_true, decide_eq_true_eq, Bool.not_eq_true'] at h
        obtain ⟨⟨⟨⟨⟨⟨⟨⟨⟨⟨⟨⟨⟨h1, h2⟩, h3⟩, h4⟩, h5⟩, h6⟩, h7⟩, h8⟩, h9⟩, h10⟩, h11⟩, h12⟩, h13⟩, h14⟩ := h
        refine ss_par2 xi.xo (by rw [xi.N]; exact h1) (by rw [xi.N]; exact h2) h3 (by rw [xi.sc]; exact h4) (by rw [xi.sc]; exact h5) (fun k hk => ?_) (fun a ha => ?_) (swapped2 (by rw [xi.sc]; exact xi.kd) (by rw [xi.sc]; exact h4) (by rw [xi.sc]; exact h5) h7 h8 h9 h10 h11 h12) (args_pa (sxA as h14 xi) (by simp [allHead, h9, h10]))
        · simpa using List.all_eq_true.mp h6 k hk
        · simpa using List.all_eq_true.mp h13 a ha
      · cases h
    · split at h
      · simp only [Bool.and_eq_true, decide_eq_true_eq, Bool.not_eq_true'] at h
        obtain ⟨⟨⟨⟨⟨⟨⟨⟨⟨⟨⟨⟨⟨⟨⟨⟨⟨⟨⟨h1, h2⟩, h2'⟩, h3⟩, h3'⟩, h3''⟩, h4⟩, h5⟩, h5'⟩, h6⟩, h7⟩, h7'⟩, h8⟩, h9⟩, h10⟩, h10'⟩, h11⟩, h12⟩, h13⟩, h14⟩ := h
        refine ss_par3 xi.xo (by rw [xi.N]; exact h1) (by rw [xi.N]; exact h2) (by rw [xi.N]; exact h2') h3 h3' h3'' (by rw [xi.sc]; exact h4) (by rw [xi.sc]; exact h5) (by rw [xi.sc]; exact h5') (fun k hk => ?_) (fun a ha => ?_) (swapped3 (by rw [xi.sc]; exact xi.kd) (by rw [xi.sc]; exact h4) (by rw [xi.sc]; exact h5) (by rw [xi.sc]; exact h5') h7 h7' h8 h9 h10 h10' h11 h12) (args_pa (sxA as h14 xi) (by simp [allHead, h9, h10, h10']))
        · simpa using List.all_eq_true.mp h6 k hk
        · simpa using List.all_eq_true.mp h13 a ha
      · cases h
    · cases h
  | .parT is as, c, np, rs, st, h, X, W, xi, po => by
    simp only [mS] at h
    split at h
    · simp only [Bool.and_eq_true, decide_eq_true_eq] at h
      obtain ⟨⟨⟨⟨⟨⟨h1, h2⟩, h3⟩, h4⟩, h5⟩, h6⟩, h7⟩ := h
      refine ss_parT xi.xo (xi.nmsL h2) (fun k hk => ?_) (fun a ha => ?_) h4 (by rw [xi.sc]; exact h1) (args_pa (sxA as h7 xi) h3)
      · simpa using List.all_eq_true.mp h5 k hk
      · simpa using List.all_eq_true.mp h6 a ha
    · cases h
  | .app i a, c, np, rs, st, h, X, W, xi, po => by
    simp only [mS] at h
    split at h
    · simp only [Bool.and_eq_true, decide_eq_true_eq] at h
      obtain ⟨⟨⟨⟨⟨rfl, h1⟩, h2⟩, h3⟩, h4⟩, h5⟩ := h
      exact ss_app xi.xo (xi.rd h1) h2 h3 h4 ((sx a (fun q => by cases q) h5 xi).1 rfl)
    · cases h
  | .ins i a b, c, np, rs, st, h, X, W, xi, po => by
    simp only [mS] at h
    split at h
    · simp only [Bool.and_eq_true, decide_eq_true_eq] at h
      obtain ⟨⟨⟨⟨⟨⟨⟨rfl, h1⟩, h2⟩, h3⟩, h3'⟩, h4⟩, h5⟩, h6⟩ := h
      exact ss_ins xi.xo (xi.rd h1) h2 h3 h3' h4 ((sx a (fun q => by cases q) h5 xi).1 rfl) ((sx b (fun q => by cases q) h6 xi).1 rfl)
    · cases h
  | .setL i k a, c, np, rs, st, h, X, W, xi, po => by
    simp only [mS] at h
    split at h
    · simp only [Bool.and_eq_true, decide_eq_true_eq, Bool.not_eq_true'] at h
      obtain ⟨⟨⟨⟨⟨h1, h2⟩, h3⟩, h4⟩, h5⟩, h6⟩ := h
      exact ss_setL xi.xo (xi.rd h1) h2 h3 (asg_sub h4) ((sx a (fun q => by cases q) h5 xi).1 rfl) ((sx k (fun q => by cases q) h6 xi).1 rfl)
    · cases h
  | .setD i k a, c, np, rs, st, h, X, W, xi, po => by
    simp only [mS] at h
    split at h
    · simp only [Bool.and_eq_true, decide_eq_true_eq, Bool.not_eq_true'] at h
      obtain ⟨⟨⟨⟨⟨h1, h2⟩, h3⟩, h4⟩, h5⟩, h6⟩ := h
      exact ss_setD xi.xo (xi.rd h1) h2 h3 ((sx a (fun q => by cases q) h5 xi).1 rfl) ((sx k (fun q => by cases q) h6 xi).1 rfl)
    · cases h
  | .sdd i k l a, c, np, rs, st, h, X, W, xi, po => by
    simp only [mS] at h
    split at h
    · split at h
      · simp only [Bool.and_eq_true, decide_eq_true_eq, Bool.not_eq_true'] at h
        obtain ⟨⟨⟨⟨⟨⟨⟨⟨⟨rfl, h1⟩, h1'⟩, h2⟩, h2'⟩, h3⟩, h4⟩, h5⟩, h6⟩, h7⟩ := h
        exact ss_sdd xi.xo (xi.rd h1) (xi.rd h1') h2 h2' h3 h4 h5 ((sx a (fun q => by cases q) h6 xi).1 rfl) ((sx k (fun q => by cases q) h7 xi).1 rfl)
      · cases h
    · cases h
  | .ex a, c, np, rs, st, h, X, W, xi, po => by
    simp only [mS] at h
    split at h
    · simp only [Bool.and_eq_true, Bool.not_eq_true'] at h
      exact ss_ex h.1 ((sx a (fun q => by cases q) h.2 xi).1 rfl)
    · cases h
  | .ife q as bs, c, np, rs, st, h, X, W, xi, po => by
    simp only [mS] at h
    split at h
    · simp only [Bool.and_eq_true] at h
      obtain ⟨⟨h1, h2⟩, h3⟩ := h
      exact ss_ife ((sx q (fun _ => rfl) h1 xi).2 rfl) (ssxs as h2 xi po) (ssxs bs h3 xi po)
    · cases h
  | .fr t it bs, c, np, rs, st, h, X, W, xi, po => by
    simp only [mS] at h
    split at h
    · simp only [Bool.and_eq_true] at h
      obtain ⟨⟨⟨h1, h2⟩, h3⟩, h4⟩ := h
      exact ss_fr ⟨xi.xo, po⟩ h1 (xi.tg h2) (sxI it (tg_shape h2) h3 xi) (ssxs bs h4 xi po)
    · cases h
  | .whl q bs, c, np, rs, st, h, X, W, xi, po => by
    simp only [mS] at h
    split at h
    · simp only [Bool.and_eq_true] at h
      obtain ⟨h1, h2⟩ := h
      exact ss_whl ⟨xi.xo, po⟩ ((sx q (fun _ => rfl) h1 xi).2 rfl) (ssxs bs h2 xi po)
    · cases h
  | .ret a, c, np, rs, st, h, X, W, xi, po => by
    simp only [mS] at h
    split at h
    · exact ss_ret ((sx a (fun q => by cases q) h xi).1 rfl)
    · simp only [Bool.and_eq_true, decide_eq_true_eq] at h
      obtain ⟨h1, rfl⟩ := h
      split at h1
      · exact ss_retN
      · cases h1
    · cases h
  | .brk, c, np, rs, st, h, X, W, xi, po => by
    simp only [mS] at h
    split at h
    · exact ss_brk
    · cases h
  | .cnt, c, np, rs, st, h, X, W, xi, po => by
    simp only [mS] at h
    split at h
    · exact ss_cnt
    · cases h
  | .pass, c, np, rs, st, h, X, W, xi, po => by
    simp only [mS] at h
    split at h
    · exact ss_pass
    · cases h
  | .dead, c, np, rs, st, h, X, W, xi, po => by
    refine ⟨fun pins s σ H D I q => ?_⟩
    obtain ⟨_, _, _, _, _, _, _, _, q⟩ := q
    exact q.elim
  | .setF i k a, c, np, rs, st, h, X, W, xi, po => by
    simp only [mS] at h
    split at h
    · split at h
      · rename_i cn hc
        split at h
        · rename_i f' s hk
          simp only [Bool.and_eq_true, decide_eq_true_eq] at h
          obtain ⟨⟨⟨h1, h2⟩, rfl⟩, h3⟩ := h
          exact ss_setF xi.xo (xi.oc cn (List.contains_iff_mem.mp h1)) (xi.rd h2) (objSh_of hc) hk ((sx a (fun q => by cases q) h3 xi).1 rfl)
        · cases h
      · cases h
    · cases h
  | .appF i k a, c, np, rs, st, h, X, W, xi, po => by
    simp only [mS] at h
    split at h
    · split at h
      · rename_i cn ls hs ms a hc
        simp only [Bool.and_eq_true, decide_eq_true_eq, Bool.not_eq_true'] at h
        obtain ⟨⟨⟨⟨⟨⟨⟨⟨rfl, h1⟩, h2⟩, h3⟩, h4⟩, h5⟩, h6⟩, h7⟩, h8⟩ := h
        have s := (sx a (fun q => by cases q) h8 (xi.mu _)).1 rfl
        rw [lent_M c ls] at s
        exact ss_appF xi.xo (xi.oc cn (List.contains_iff_mem.mp h1)) (xi.rd h2) (objSh_of hc) h3 (lend_of h4) (no_mem h5) h6 h7 s
      · cases h
    · cases h
  | .setDF i k j a, c, np, rs, st, h, X, W, xi, po => by
    simp only [mS] at h
    split at h
    · split at h
      · rename_i cn ls hs ms j hc
        simp only [Bool.and_eq_true, decide_eq_true_eq, Bool.not_eq_true'] at h
        obtain ⟨⟨⟨⟨⟨⟨h1, h2⟩, h3⟩, h4⟩, h5⟩, h6⟩, h7⟩ := h
        have s := (sx j (fun q => by cases q) h7 (xi.mu _)).1 rfl
        rw [lent_M c ls] at s
        exact ss_setDF xi.xo (xi.oc cn (List.contains_iff_mem.mp h1)) (xi.rd h2) (objSh_of hc) h3 (lend_of h4) (no_mem h5) ((sx a (fun q => by cases q) h6 xi).1 rfl) s
      · cases h
    · cases h
  | .delDF i k j, c, np, rs, st, h, X, W, xi, po => by
    simp only [mS] at h
    split at h
    · split at h
      · rename_i cn ls hs ms j hc
        simp only [Bool.and_eq_true, decide_eq_true_eq, Bool.not_eq_true'] at h
        obtain ⟨⟨⟨⟨⟨h1, h2⟩, h3⟩, h4⟩, h5⟩, h7⟩ := h
        have s := (sx j (fun q => by cases q) h7 (xi.mu _)).1 rfl
        rw [lent_M c ls] at s
        exact ss_delDF xi.xo (xi.oc cn (List.contains_iff_mem.mp h1)) (xi.rd h2) (objSh_of hc) h3 (lend_of h4) (no_mem h5) s
      · cases h
    · cases h
  | .augF i k o a, c, np, rs, st, h, X, W, xi, po => by
    simp only [mS] at h
    split at h
    · split at h
      · rename_i cn hc
        simp only [Bool.and_eq_true, decide_eq_true_eq] at h
        obtain ⟨⟨⟨⟨h1, h2⟩, rfl⟩, h3⟩, h4⟩ := h
        exact ss_augF xi.xo (xi.oc cn (List.contains_iff_mem.mp h1)) (xi.rd h2) (objSh_of hc) h3 ((sx a (fun q => by cases q) h4 xi).1 rfl)
      · cases h
    · cases h
  | .revL i, c, np, rs, st, h, X, W, xi, po => by
    simp only [mS] at h
    split at h
    · simp only [Bool.and_eq_true, decide_eq_true_eq] at h
      obtain ⟨⟨⟨rfl, h1⟩, h2⟩, h3⟩ := h
      exact ss_revL xi.xo (xi.rd h1) h2 h3
    · cases h
  | .appP i v, c, np, rs, st, h, X, W, xi, po => by
    simp only [mS] at h
    split at h
    · simp only [Bool.and_eq_true, decide_eq_true_eq] at h
      obtain ⟨⟨⟨⟨⟨⟨⟨rfl, h1⟩, h2⟩, rfl⟩, rfl⟩, h5⟩, h6⟩, h7⟩ := h
      exact ss_appP xi.xo (xi.rd h1) h2 pe_int (fun _ _ => rfl) pe_str (Nat.le_trans h5 (by decide)) h6 rfl h7
    · cases h
  | .swp i j, c, np, rs, st, h, X, W, xi, po => by
    simp only [mS] at h
    split at h
    · simp only [Bool.and_eq_true, decide_eq_true_eq] at h
      obtain ⟨⟨⟨⟨⟨⟨⟨⟨⟨⟨⟨h1, h2⟩, h3⟩, h4⟩, rfl⟩, rfl⟩, rfl⟩, rfl⟩, rfl⟩, rfl⟩, rfl⟩, rfl⟩ := h
      exact ss_swp xi.xo (xi.rd h1) (xi.rd h2) h3 h4
    · cases h
theorem ssxs : ∀ (ss : List S) {c : MC} {np : Nat} {rs : Sh} {sts : List Stmt}, mSs c np rs ss sts = true → ∀ {X : Cx} {W : WX}, XI X c z W → PassesOwn (model X.prog X.w) X.A X.env X.xe → SSs X z c.M np W rs sts (exs z.cf z.wf ss)
  | [], c, np, rs, sts, h, X, W, xi, po => by
    cases sts with
    | nil => exact ss_nil _ _
    | cons _ _ => simp [mSs] at h
  | s :: ss, c, np, rs, sts, h, X, W, xi, po => by
    cases sts with
    | nil => simp [mSs] at h
    | cons st sts =>
      simp only [mSs, Bool.and_eq_true] at h
      exact ss_cons (ssx s h.1 xi po) (ssxs ss h.2 xi po)
end
end Pv
set_option Elab.async false
set_option linter.all false
set_option maxRecDepth 100000
set_option maxHeartbeats 8000000
namespace Pv
open PySem PySem.Spec PyProof.Rows L2
def Def.shs (g : Def) : List Sh := (List.range g.pars.length).map g.M
def sigs (Pd : List Def) (pt : Str → List (Nat × List Str × List Par)) (f : Str) : Option Sig := (Pd.find? fun g => g.name == f).map fun g => ⟨g.shs, g.ret, pt f, g.py, g.kwo, g.cls⟩
def Def.mc (g : Def) (sc : Scope) (G : Str → Option Sig) (C : List (Str × D)) (cls : List Str) : MC := ⟨g.names, sc, fun _ => true, g.muts, G, C, cls⟩
/-- a def of the program stands for its plain form -/
structure DefF (K : PySem.W.Frag) (mg : Str → Option Value) (Pd : List Def) (pt : Str → List (Nat × List Str × List Par)) (C : List (Str × D)) (cls : List Str) (g : Def) (qual : Str) (params : Arguments) (body : List Stmt) (scope : Scope) (dvs : List V) (kws : List (Str × V)) (f : Addr) (fd : FuncData) : Prop where
  fun_ : FunD K g.py qual params body scope dvs kws f fd
  sc : FnScope g.names g.pars scope
  hm : FnAt K mg g.cls g.py f
  hb : g.kwo = false → Binds K fd g.pars []
  pats : ∀ p ∈ pt g.name, PatOk K fd g.pars p.1 p.2.1 p.2.2
  ms : mSs (g.mc scope (sigs Pd pt) C cls) g.pars.length g.ret g.body body = true
theorem shs_len (g : Def) : g.shs.length = g.pars.length := by simp [Def.shs]
theorem parM_shs {g : Def} {i : Nat} (h : i < g.pars.length) : parM g.shs i = g.M i := by
  unfold parM Def.shs
  rw [List.getElem?_map, List.getElem?_range h]
  rfl
theorem startE_at {g : Def} {ds : List D} {i : Nat} {d : D} (h : (startE g ds)[i]? = some (some d)) : ds[i]? = some d := by
  unfold startE at h
  rw [List.getElem?_append] at h
  split at h
  · exact map_some_get h
  · rw [List.getElem?_replicate] at h
    split at h <;> cases h
theorem finE_at {M : Nat → Sh} {env : Dv} : ∀ {i : Nat} {ds ds' : List D}, finE M env i ds = some ds' → ds'.length = ds.length ∧ ∀ j d', ds'[j]? = some d' → (M (i + j) = .pure ∧ ds[j]? = some d') ∨ (M (i + j) ≠ .pure ∧ env[i + j]? = some (some d'))
  | i, [], ds', h => by simp [finE] at h; subst h; exact ⟨rfl, fun j d' h => by simp at h⟩
  | i, d :: ds, ds', h => by
    unfold finE at h
    cases q : finE M env (i + 1) ds with
    | none => rw [q] at h; cases h
    | some r =>
      rw [q] at h
      obtain ⟨h1, h2⟩ := finE_at q
      have tail : ∀ j d', r[j]? = some d' → (M (i + (j + 1)) = .pure ∧ ds[j]? = some d') ∨ (M (i + (j + 1)) ≠ .pure ∧ env[i + (j + 1)]? = some (some d')) := fun j d' hj => by
        have := h2 j d' hj
        rw [show i + 1 + j = i + (j + 1) by omega] at this
        exact this
      simp only [] at h
      split at h
      · rename_i hp
        cases h
        refine ⟨by simp [h1], fun j d' hj => ?_⟩
        cases j with
        | zero => simp at hj; subst hj; exact .inl ⟨hp, rfl⟩
        | succ j => simpa using tail j d' (by simpa using hj)
      · rename_i hp
        split at h
        · rename_i d'' he
          cases h
          refine ⟨by simp [h1], fun j d' hj => ?_⟩
          cases j with
          | zero => simp at hj; subst hj; exact .inr ⟨hp, he⟩
          | succ j => simpa using tail j d' (by simpa using hj)
        · cases h
section
variable {P : Program} {w : World} {K : PySem.W.Frag} {mg : Str → Option Value} {base : Heap} {Pd : List Def} {pt : Str → List (Nat × List Str × List Par)} {C : List (Str × D)} {cls : List Str} {wf : Nat} {XR : Exn → Value → Option Addr → Hp → Hp → Prop}
def zOf (K : PySem.W.Frag) (Pd : List Def) (wf : Nat) (XR : Exn → Value → Option Addr → Hp → Hp → Prop) (n : Nat) : Z := ⟨K, callN Pd wf n, wf, XR⟩
theorem run_end {z : Z} {g : Def} {ds : List D} {vs : List V} {H F0 : Hp} {As : Nat → List Addr} (hv : vs.length = g.pars.length) (hd : ds.length = g.pars.length) (r0 : Rel (callC z.K g.shs H F0 As ds) As F0 (ds.map some) (vs.map some) H)
    {e : Dv} {σ' : L2.St} {H' F' : Hp} {As' : Nat → List Addr} {ds' : List D} (r : Rel ⟨z.K, g.M, H, F0, owned As (ds.map some), fun _ => none⟩ As' F' e σ' H') (s : Sub F0 F') (k : Kept g.pars.length g.M (start g.names vs) σ') (hst : ∀ (i : Nat) (v : V), vs[i]? = some v → (start g.names vs)[i]? = some (some v)) (hf : finE g.M e 0 ds = some ds') :
    ∃ As2, Rel (callC z.K g.shs H F0 As ds) As2 F' (ds'.map some) (vs.map some) H' ∧ ∀ a, a ∈ owned As2 (ds'.map some) → a ∈ owned As' e := by
  obtain ⟨hl, fin⟩ := finE_at hf
  have fin : ∀ j d', ds'[j]? = some d' → (g.M j = .pure ∧ ds[j]? = some d') ∨ (g.M j ≠ .pure ∧ e[j]? = some (some d')) := fun j d' h => by
    have := fin j d' h
    rwa [Nat.zero_add] at this
  have lt : ∀ {j d'}, ds'[j]? = some d' → j < g.pars.length := fun {j d'} h => by
    obtain ⟨q, _⟩ := List.getElem?_eq_some_iff.mp h
    omega
  refine ⟨fun j => if g.M j = .pure then [] else As' j, ⟨fun j d' w => ?_, fun j d' w a ha => ?_, fun j d' w a ha => ?_, fun i j d1 d2 hn w1 w2 a ha ha' => ?_, r.sub, r.old, r.frame, r.newF, by simp only [List.length_map]; omega, fun i v h => nomatch h⟩, fun a ha => ?_⟩
  · have w := map_some_get w
    have hj := lt w
    have hvj : vs[j]? = some vs[j] := List.getElem?_eq_getElem (by omega)
    rcases fin j d' w with ⟨h1, h2⟩ | ⟨h1, h2⟩
    · obtain ⟨v, q1, q2⟩ := r0.val j d' (by rw [List.getElem?_map, h2]; rfl)
      refine ⟨v, q1, ?_⟩
      have hp : (callC z.K g.shs H F0 As ds).M j = .pure := by
        show parM g.shs j = .pure
        rw [parM_shs hj, h1]
      rw [hp] at q2 ⊢
      rw [if_pos h1]
      exact ⟨rfl, s.rep q2.2⟩
    · obtain ⟨v, q1, q2⟩ := r.val j d' h2
      rw [k j hj h1, hst j _ hvj] at q1
      cases q1
      refine ⟨vs[j], by rw [List.getElem?_map, hvj]; rfl, ?_⟩
      rw [if_neg h1]
      show Own z.K F' H' (parM g.shs j) _ _ _
      rw [parM_shs hj]
      exact q2
  · rcases fin j d' (map_some_get w) with ⟨h1, _⟩ | ⟨h1, h2⟩
    · simp [h1] at ha
    · simp only [if_neg h1] at ha
      exact r.off j d' h2 a ha
  · rcases fin j d' (map_some_get w) with ⟨h1, _⟩ | ⟨h1, h2⟩
    · simp [h1] at ha
    · simp only [if_neg h1] at ha
      exact r.nw j d' h2 a ha
  · rcases fin i d1 (map_some_get w1) with ⟨h1, _⟩ | ⟨h1, h2⟩
    · simp [h1] at ha
    · rcases fin j d2 (map_some_get w2) with ⟨h3, _⟩ | ⟨h3, h4⟩
      · simp [h3] at ha'
      · simp only [if_neg h1] at ha
        simp only [if_neg h3] at ha'
        exact r.dis i j d1 d2 hn h2 h4 a ha ha'
  · obtain ⟨j, d', w1, w2⟩ := mem_owned.mp ha
    rcases fin j d' (map_some_get w1) with ⟨h1, _⟩ | ⟨h1, h2⟩
    · simp [h1] at w2
    · simp only [if_neg h1] at w2
      exact mem_owned.mpr ⟨j, d', h2, w2⟩
theorem start_at {N : List Str} {vs : List V} {i : Nat} {v : V} (h : vs[i]? = some v) : (start N vs)[i]? = some (some v) := by
  obtain ⟨hi, _⟩ := List.getElem?_eq_some_iff.mp h
  unfold L2.start
  rw [List.getElem?_append, if_pos (by simpa using hi), List.getElem?_map, h]
  rfl
def GcM (mg : Str → Option Value) (x : Str) (d : D) : Prop := match d with
  | .int i => ∃ u, mg x = some u ∧ RelV (.int i) u
  | .str y => ∃ u, mg x = some u ∧ RelV (.str y) u
  | _ => True
/-- every def keeps its promise, n calls deep -/
structure ClsK (K : PySem.W.Frag) (cn : Str) : Prop where
  cls : Cls K (He.ga K cn)
  na : ∀ f ∈ (clsF cn).map (·.1), NoAttr K (He.ga K cn) f
theorem all_ok (bl : ∀ x ∈ bltNames, mg x = none) (oc : ∀ cn ∈ cls, ClsK K cn) (gc : ∀ x d, C.lookup x = some d → GcM mg x d) (look : ∀ f g, (Pd.find? fun g => g.name == f) = some g → ∃ qual params body scope dvs kws fa fd, DefF K mg Pd pt C cls g qual params body scope dvs kws fa fd) :
    ∀ (n : Nat) (f : Str) (g : Def), (Pd.find? fun g => g.name == f) = some g → ∀ {qual params body scope dvs kws fa fd}, DefF K mg Pd pt C cls g qual params body scope dvs kws fa fd → FnG P w K mg base (L2.CX P w) (2 * n) fa fd g.pars (spS (zOf K Pd wf XR n) g.shs g.ret (callN Pd wf n f))
  | 0, f, g, hfind, qual, params, body, scope, dvs, kws, fa, fd, F => by
    refine ⟨fun vs H Q E h => ?_, @fun A outer s H args us vs Q E hr gu he hb hv h => ?_⟩
    · obtain ⟨_, _, _, h1, _⟩ := h
      rw [h1, shs_len]
    · obtain ⟨_, _, _, _, _, _, h⟩ := h
      exact h.elim
  | n + 1, f, g, hfind, qual, params, body, scope, dvs, kws, fa, fd, F => by
    have hname : g.name = f := by
      have := List.find?_some hfind
      simpa using this
    refine fnG_of (N := g.names) F.fun_ F.sc (fun vs H Q E h => ?_) fun cdv A outer s H vs Q E hr gu hsp => ?_
    · obtain ⟨_, _, _, h1, _⟩ := h
      rw [h1, shs_len]
    · obtain ⟨F0, As, ds, l1, l2, r0, h⟩ := hsp
      rw [shs_len] at l1 l2
      let z : Z := zOf K Pd wf XR n
      let W : WX := fun cls d _ H => E cls d H
      have hc : callN Pd wf (n + 1) f ds = endO g ds (exs (callN Pd wf n) wf g.body (startE g ds)) := by
        simp only [callN, hfind, runDef, if_pos l2]
      rw [hc] at h
      have tk : Takes (cxOf (L2.CX P w) P w K mg base g.names qual scope fa cdv A outer s H E) W := takes_of rfl rfl rfl rfl
      have po : PassesOwn (model P w) (cxOf (L2.CX P w) P w K mg base g.names qual scope fa cdv A outer s H E).A (cxOf (L2.CX P w) P w K mg base g.names qual scope fa cdv A outer s H E).env (cxOf (L2.CX P w) P w K mg base g.names qual scope fa cdv A outer s H E).xe := passes_of rfl
      have hun : (A.deeper (envOfC qual scope s.heap.objs.size fa cdv)).units + 65 < cLine := by have := hr.un; omega
      have xi : XI (cxOf (L2.CX P w) P w K mg base g.names qual scope fa cdv A outer s H E) (g.mc scope (sigs Pd pt) C cls) z W := by
        refine ⟨⟨rfl, rfl, F.sc.nd, tk, hun, gu⟩, rfl, rfl, rfl, F.sc.kind, bl, fun f' sg hs => ?_, fun x d hx => gc x d hx, fun cn h => ⟨(oc cn h).cls, (oc cn h).na⟩⟩
        have hs : sigs Pd pt f' = some sg := hs
        unfold sigs at hs
        cases q : Pd.find? (fun g => g.name == f') with
        | none => rw [q] at hs; cases hs
        | some g' =>
          rw [q] at hs
          cases hs
          obtain ⟨qual', params', body', scope', dvs', kws', fa', fd', F'⟩ := look f' g' q
          have hn' : g'.name = f' := by
            have := List.find?_some q
            simpa using this
          have ok := all_ok bl oc gc look n f' g' q F'
          exact ⟨2 * n, fa', fd', g'.pars, ok, hr, F'.hm, F'.fun_.kp, F'.hb, by rw [← hn']; exact F'.pats⟩
      refine ⟨tS z (g.mc scope (sigs Pd pt) C cls).M g.pars.length W g.ret (exs z.cf z.wf g.body), ssxs g.body F.ms xi po, ?_⟩
      have hN : g.pars.length ≤ g.names.length := by
        have := congrArg List.length F.sc.pre
        rw [List.length_take] at this
        omega
      let c' : Ctx := ⟨K, g.M, H, F0, owned As (ds.map some), fun _ => none⟩
      have r' : Rel c' As F0 (startE g ds) (start g.names vs) H := by
        have up : ∀ {i d}, (startE g ds)[i]? = some (some d) → (ds.map some)[i]? = some (some d) := fun {i d} w => by
          rw [List.getElem?_map, startE_at w]
          rfl
        have lt : ∀ {i d}, (startE g ds)[i]? = some (some d) → i < g.pars.length := fun {i d} w => by
          obtain ⟨q, _⟩ := List.getElem?_eq_some_iff.mp (startE_at w)
          omega
        refine ⟨fun i d w => ?_, fun i d w => r0.off i d (up w), fun i d w => r0.nw i d (up w), fun i j d d' hn w w' => r0.dis i j d d' hn (up w) (up w'), r0.sub, Sub.refl _, fun _ _ h _ => h, fun _ _ h => .inl h, ?_, fun i v h => nomatch h⟩
        · obtain ⟨v, q1, q2⟩ := r0.val i d (up w)
          refine ⟨v, start_at (mapv_some_get q1), ?_⟩
          have e : (callC (zOf K Pd wf XR (n + 1)).K g.shs H F0 As ds).M i = g.M i := parM_shs (lt w)
          rw [e] at q2
          exact q2
        · unfold startE L2.start
          simp only [List.length_append, List.length_map, List.length_replicate]
          omega
      refine ⟨c', As, F0, startE g ds, rfl, rfl, rfl, r', ?_⟩
      have he : exs z.cf z.wf g.body (startE g ds) = exs (callN Pd wf n) wf g.body (startE g ds) := rfl
      rw [he]
      cases q : exs (callN Pd wf n) wf g.body (startE g ds) with
      | stuck => rw [q] at h; exact h
      | bk e => rw [q] at h; exact h.elim
      | ct e => rw [q] at h; exact h.elim
      | nx e =>
        rw [q] at h
        unfold endO at h
        simp only [] at h
        cases qf : finE g.M e 0 ds with
        | none => rw [qf] at h; exact h.elim
        | some ds' =>
          rw [qf] at h
          simp only [] at h
          split at h
          · rename_i q2 hret
            split at hret
            · rename_i hp
              cases hret
              intro σ' H' F' As' r1 s1 k1
              obtain ⟨As2, r2, _⟩ := run_end (z := z) l1 l2 r0 r1 s1 k1 (fun i v => start_at) qf
              exact h .non H' F' As2 [] r2 s1 (by rw [hp]; exact ⟨rfl, .non⟩) New.nil
            · cases hret
          · rename_i hret
            split at hret <;> cases hret
          · exact h.elim
      | rt d e =>
        rw [q] at h
        unfold endO at h
        simp only [] at h
        cases qf : finE g.M e 0 ds with
        | none => rw [qf] at h; exact h.elim
        | some ds' =>
          rw [qf] at h
          simp only [] at h
          intro v σ' H' F' As' A r1 s1 k1 o n
          obtain ⟨As2, r2, h2⟩ := run_end (z := z) l1 l2 r0 r1 s1 k1 (fun i v => start_at) qf
          exact h v H' F' As2 A r2 s1 o ⟨⟨n.side.here, n.side.off, fun a ha hm => n.side.apart a ha (h2 a hm)⟩, n.nw⟩
      | exc x e =>
        rw [q] at h
        unfold endO at h
        simp only [] at h
        cases qf : finE g.M e 0 ds with
        | none => rw [qf] at h; exact h.elim
        | some ds' =>
          rw [qf] at h
          simp only [] at h
          intro cl da σ' H' F' As' r1 s1 k1 hx
          obtain ⟨As2, r2, _⟩ := run_end (z := z) l1 l2 r0 r1 s1 k1 (fun i v => start_at) qf
          exact h cl da H' F' As2 r2 s1 hx
end
end Pv
set_option Elab.async false
set_option linter.all false
set_option maxRecDepth 100000
set_option maxHeartbeats 4000000
/-! a law's def called by the claim, where no guard stands -/
namespace Pv
open PySem PySem.Spec PyProof.Rows L2
/-- all that is tracked is the script, and only if the module does not own it -/
def Scr (K : PySem.W.Frag) (H : Hp) (a : Addr) (ob : Obj) (xs : List V) : Prop := ∀ b u, H b = some u → b = a ∧ u = .frz ob (.lst xs) ∧ K.lookup a = none
section
variable {P : Program} {w : World} {K : PySem.W.Frag} {mg mb : Str → Option Value} {k : Nat} {fa a : Addr} {fd : FuncData} {x : Str} {sp : Sp} {s : Shared} {us : List Value} {ns : List Int} {H : Hp}
abbrev scrO (us : List Value) : Obj := { cls := .type "list", data := .seq us.toArray }
theorem Scr.free {xs : List V} (h : Scr K H a (scrO us) xs) (ha : s.heap.get? a = some (scrO us)) {b : Addr} {o : Obj} (e : s.heap.get? b = some o) (hd : ∀ its n, o.data ≠ .seq its n) : H b = none := by
  cases q : H b with
  | none => rfl
  | some u =>
    have hb := (h b u q).1
    rw [hb, ha] at e
    exact absurd (by rw [← Option.some.inj e]) (hd us.toArray 0)
theorem Scr.nsp {xs : List V} (h : Scr K H a (scrO us) xs) (ha : s.heap.get? a = some (scrO us)) {b : Addr} {m : Str → Option Value} : s.heap.Ns b m → (hidT s.heap H).Ns b m := fun ⟨o, es, ep, e, d, r⟩ =>
  ⟨o, es, ep, hidT_get e (h.free ha e fun its n z => by rw [d] at z; cases z), d, r⟩
theorem top_go (KX : K.In s.heap) (g1 : s.heap.Ns mainGlobals mg) (g2 : s.heap.Ns builtinsNs mb) (g3 : ∀ x : Str, x ≠ "__name__" → mb x = bootBuiltins x) (g4 : s.heap.NoLimit) (g5 : s.gens = #[]) (ha : s.heap.get? a = some (scrO us)) (room : Room k callerA)
    (F : ∀ base : Heap, FnG P w K mg base CX0 k fa fd [x] sp) (bind : ∀ (s : Shared) (u : Value), BindsTo s fd ⟨[u], []⟩ [(x, u)]) (pre : sp [.ref a] H (fun v _ => v = .bl true) fun _ _ _ => False) (hs : Scr K H a (scrO us) (ns.map V.int)) (hok : HOk P w H s.heap) :
    codeAny (model P w) callerA (.call (.ref fa) ⟨[.ref a], []⟩) (fun r s' => r = .ok (.ret (.bool true)) ∧ OldK s.heap s'.heap ∧ s'.os = s.os ∧ AllBare s'.gens) s := by
  have noK : K.In (hidT s.heap H) := fun b o e => hidT_get (KX b o e) (by
    cases q : H b with
    | none => rfl
    | some u =>
      obtain ⟨rfl, _, n⟩ := hs b u q
      rw [n] at e
      cases e)
  obtain ⟨mc, l1, l2⟩ := g4
  have env : Env0 P w K mg (hidT s.heap H) callerA [] s H := {
    frames := rfl
    mod := ⟨noK, hs.nsp ha g1, ⟨mb, hs.nsp ha g2, g3⟩, ⟨mc, hs.nsp ha l1, l2⟩⟩
    bs := fun _ _ e => of_hidT e
    bsz := by rw [hidT_size]; exact Nat.le_refl _
    funs := trivial
    frf := fun _ z => nomatch z
    hok := hok
    bare := .of_eq g5 }
  refine codeAny_mono ((F (hidT s.heap H)).go (us := [.ref a]) (vs := [.ref a]) room rfl env (bind s (.ref a)) (.cons rfl .nil) pre) fun r s2 h => ?_
  match r, h with
  | .error e, h => exact h.elim
  | .ok .next, h => exact h.elim
  | .ok .brk, h => exact h.elim
  | .ok .cont, h => exact h.elim
  | .ok (.ret u), ⟨v, H2, os, bare, un, ok2, rv, q⟩ =>
    have q : v = .bl true := q
    rw [q] at rv
    have rv : u = Value.bool true := rv
    refine ⟨by rw [rv], OldK.of_keep fun b o e => ?_, os, bare⟩
    cases t : H b with
    | none => exact un.keep b o e t (fun z => nomatch z) (fun z => nomatch z)
    | some y =>
      obtain ⟨_, rfl, _⟩ := hs b y t
      have m1 := (hok b _ t).1
      have m2 := (ok2 b _ (un.frzs b _ _ t)).1
      rw [e] at m1
      rw [Option.some.inj m1]
      exact m2
/-- the goal at the head's end -/
theorem walkG {l : PySem.W.OpenLaw} {n : Nat} {q : Program} {loose : List Str} {XP : (Str → Option Value) → Heap → Prop} {YP : World → Heap → Prop} {d : DefRec} (hn : l.most = some n) (hn2 : n ≤ sizeLine) (hdf : d.params.defaults = []) (room : Room k callerA)
    (F : ∀ (w : World) (mg : Str → Option Value) (fa : Addr) (h : Heap), YP w h → h.Ns mainGlobals mg → mg d.name = some (.ref fa) →
      ∃ (K : PySem.W.Frag) (fd : FuncData) (sp : Sp), K.In h ∧ (∀ (s : Shared) (u : Value), BindsTo s fd ⟨[u], []⟩ [(x, u)]) ∧
        (∀ (H : Hp) (a : Addr) (ns : List Int), ns.length ≤ n → SqL K H a (ns.map V.int) → sp [.ref a] H (fun v _ => v = .bl true) fun _ _ _ => False) ∧ ∀ base : Heap, FnG l.prog w K mg base CX0 k fa fd [x] sp) :
    PySem.W.WalkO q loose XP YP l.row.toRowW d [] (fun f vs => PySem.call f vs) := by
  refine Att.attach_call hn hdf fun w _ s mg _ fa _ _ _ _ a us ns G Y _ _ _ hmg obj isI len gens => ?_
  obtain ⟨K, fd, sp, KX, bind, pre, hF⟩ := F w mg fa _ Y G.T.g hmg
  have lv : (ns.map V.int).length ≤ sizeLine := by
    rw [List.length_map]
    exact Nat.le_trans len hn2
  have vals := vals_ints isI
  have go := fun (H : Hp) (sq : SqL K H a (ns.map V.int)) => top_go (H := H) (ns := ns) KX G.T.g G.T.b G.T.builtins G.T.nolimit gens obj room hF bind (pre H a ns len sq)
  cases lk : K.lookup a with
  | some o =>
    have same : scrO us = o := Option.some.inj (obj.symm.trans (KX a o lk))
    subst same
    refine go (fun _ => none) (.inr ⟨_, us.toArray, 0, lk, rfl, rfl, rfl, ?_, by simpa using vals⟩) (fun _ _ z => nomatch z) fun _ _ z => nomatch z
    rw [List.size_toArray, ← vals.length]
    exact lv
  | none =>
    have at_ : ∀ b u, upd (fun _ => none) a (.frz (scrO us) (.lst (ns.map V.int))) b = some u → b = a ∧ u = .frz (scrO us) (.lst (ns.map V.int)) := fun b u z => by
      unfold upd at z
      split at z
      · rename_i hb
        exact ⟨hb, (Option.some.inj z).symm⟩
      · cases z
    refine go (upd (fun _ => none) a (.frz (scrO us) (.lst (ns.map V.int)))) (.inl (.inr ⟨scrO us, by simp [upd]⟩)) (fun b u z => ⟨(at_ b u z).1, (at_ b u z).2, lk⟩) fun b u z => ?_
    obtain ⟨rfl, rfl⟩ := at_ b u z
    exact ⟨obj, lv, us, _, vals, obj⟩
end
end Pv
set_option Elab.async false
set_option linter.all false
set_option maxRecDepth 100000
set_option maxHeartbeats 8000000
namespace Pv
open PySem PySem.Spec PyProof.Rows L2
/-- the parameters' values, as the machine has them -/
def gU (u0 : Value) (xs : List Value) : List Par → List Value
  | [] => []
  | .arg j :: r => ((xs[j]?).getD .none) :: gU u0 xs r
  | .dfl _ :: r => u0 :: gU u0 xs r
/-- defaults are empty tuples alone -/
def dflT : List Par → Bool
  | [] => true
  | .arg _ :: r => dflT r
  | .dfl (.tup []) :: r => dflT r
  | .dfl _ :: _ => false
def argsOnly : List Par → Bool
  | [] => true
  | .arg _ :: r => argsOnly r
  | .dfl _ :: _ => false
theorem vals_at {vs : List V} {us : List Value} (h : Vals vs us) (j : Nat) : RelV ((vs[j]?).getD .non) ((us[j]?).getD .none) := by
  induction h generalizing j with
  | nil => exact rfl
  | cons r _ ih =>
    cases j with
    | zero => exact r
    | succ j => simpa using ih j
theorem gU_vals {t0 : V} {u0 : Value} (r0 : RelV t0 u0) {vs : List V} {us : List Value} (h : Vals vs us) : ∀ {pm : List Par}, dflT pm = true → Vals (gP t0 vs pm) (gU u0 us pm)
  | [], _ => .nil
  | .arg j :: r, k => .cons (vals_at h j) (gU_vals r0 h k)
  | .dfl (.tup []) :: r, k => .cons r0 (gU_vals r0 h k)
  | .dfl (.tup (_ :: _)) :: _, k => by cases k
  | .dfl .non :: _, k => by cases k
  | .dfl (.bl _) :: _, k => by cases k
  | .dfl (.int _) :: _, k => by cases k
  | .dfl (.str _) :: _, k => by cases k
  | .dfl (.lst _) :: _, k => by cases k
  | .dfl (.dct _) :: _, k => by cases k
  | .dfl (.scr _) :: _, k => by cases k
theorem args_dflT : ∀ {pm : List Par}, argsOnly pm = true → dflT pm = true ∧ pmT pm = false
  | [], _ => ⟨rfl, rfl⟩
  | .arg _ :: r, k => args_dflT (pm := r) k
  | .dfl _ :: _, k => by cases k
/-- the empty tuple, written -/
def tup0B (K : PySem.W.Frag) (a : Addr) : Bool := match K.lookup a with
  | some ⟨.type c, none, .seq its _, _⟩ => decide (c = "tuple") && its.isEmpty
  | _ => false
theorem tup0_ok {K : PySem.W.Frag} {a : Addr} (h : tup0B K a = true) (F : Hp) : Rep K F (.ref a) (.tup []) := by
  unfold tup0B at h
  split at h
  · rename_i c its n sl q
    rw [Bool.and_eq_true, decide_eq_true_eq] at h
    have e : its.toList = [] := by
      have : its = #[] := by simpa using h.2
      rw [this]
    exact Rep.tupI (vs := []) (.inr ⟨_, its, n, q, congrArg Value.type h.1, rfl, rfl, by rw [← Array.length_toList, e]; exact Nat.zero_le _, by rw [e]; exact .nil⟩) (Nat.zero_le _) .nil
  · cases h
/-- the keyword-only default x of the def at f, if it is an object -/
def kwAt (f : Str × Option Str) (x : Str) (K : PySem.W.Frag) : Addr := match K.lookup (He.fAd K f) with
  | some ⟨_, _, .func fd, _⟩ => (match fd.kwdefaults with
    | .ref D => (match PySem.W.nsIn K D x with
      | some (some (.ref a)) => a
      | _ => 0)
    | _ => 0)
  | _ => 0
section
variable {K : PySem.W.Frag} {x qual : Str} {params : Arguments} {body : List Stmt} {scope : Scope} {kws : List (Str × V)} {f : Addr} {fd : FuncData} {ps : List Str}
theorem pat0 (F : FunD K x qual params body scope [] kws f fd) {n : Nat} {ks : List Str} {pm : List Par} (ha : argsOnly pm = true)
    (h : ∀ (kV doc pmv : Value) (an : Option Addr) (cdv ct : Value) (us ws : List Value), us.length = n → ws.length = ks.length → bindArgs (PySem.W.fnOf x qual params body scope .none kV doc pmv an cdv ct) ⟨us, ks.zip ws⟩ = pure (ps.zip (gU .none (us ++ ws) pm))) : PatOk K fd ps n ks pm := by
  obtain ⟨oc, od, dV, kV, doc, pmv, an, cdv, ct, osl, rfl, lk, hcd, hD, hK⟩ := F.ex
  rcases hD with ⟨_, rfl⟩ | ⟨e, _⟩
  · exact ⟨.non, fun us ws => gU .none (us ++ ws) pm, (fun (q : pmT pm = true) => by rw [(args_dflT ha).2] at q; cases q), ⟨fun s us ws _ l1 l2 => .of_eq (h kV doc pmv an cdv ct us ws l1 l2), fun r1 r2 => gU_vals (t0 := .non) (u0 := .none) rfl (r1.append r2) (args_dflT ha).1⟩⟩
  · exact absurd rfl e
/-- one keyword-only default, an empty tuple, lacks -/
theorem pat1 {nm : Str} {a : Addr} (F : FunD K x qual params body scope [] [(nm, .ref a)] f fd) (t0 : tup0B K a = true) {n : Nat} {ks : List Str} {pm : List Par} (ha : dflT pm = true)
    (h : ∀ (D : Addr) (doc pmv : Value) (an : Option Addr) (cdv ct : Value) (us ws : List Value) (u : Value), us.length = n → ws.length = ks.length → KwChain D [(nm, u)] (bindArgs (PySem.W.fnOf x qual params body scope .none (.ref D) doc pmv an cdv ct) ⟨us, ks.zip ws⟩) (ps.zip (gU u (us ++ ws) pm))) : PatOk K fd ps n ks pm := by
  obtain ⟨oc, od, dV, kV, doc, pmv, an, cdv, ct, osl, rfl, lk, hcd, hD, hK⟩ := F.ex
  rcases hD with ⟨_, rfl⟩ | ⟨e, _⟩
  · rcases hK with e | ⟨D, rfl, hq⟩
    · cases e
    · obtain ⟨u, e1, e2⟩ := hq _ List.mem_cons_self
      exact ⟨.ref a, fun us ws => gU u (us ++ ws) pm, fun _ F => tup0_ok t0 F, ⟨fun s us ws X l1 l2 => BindsTo.of_looks fun M => KwChain.looks X (fun q hm => by
        have : q = (nm, u) := by simpa using hm
        rw [this]; exact e1) (h D doc pmv an cdv ct us ws u l1 l2), fun r1 r2 => gU_vals e2 (r1.append r2) ha⟩⟩
  · exact absurd rfl e
end
/-- the head's look, with defaults that are empty tuples -/
def obsT (n : Nat) (fa : List He.Fa) (fn : List He.DefD) (ts : List (PySem.W.Frag → Addr)) (g : Addr → Option Obj) : Bool × He.AlD := ((ts.all fun a => tup0B (He.frG g (He.asD g n)) (a (He.frG g (He.asD g n)))), He.obsDG n fa fn g)
def hookT (n : Nat) (fa : List He.Fa) (fn : List He.DefD) (ts : List (PySem.W.Frag → Addr)) : PySem.W.Hook where
  α := Bool × He.AlD
  obs := fun s => obsT n fa fn ts s.heap.get?
  val := fun _ => (true, He.valD fn)
  says := fun _ h => ∃ K : PySem.W.Frag, K.In h ∧ He.SaysD fa fn K ∧ (ts.all fun a => tup0B K (a K)) = true
  of := fun _ s e => ⟨He.frG s.heap.get? (He.asD s.heap.get? n), He.frG_in, congrArg (fun z : Bool × He.AlD => z.2) e, congrArg (fun z : Bool × He.AlD => z.1) e⟩
  keeps := fun _ _ _ ⟨K, hK, c⟩ k => ⟨K, PySem.W.Frag.In.keeps hK k, c⟩
theorem obsT_eq {n : Nat} {fa : List He.Fa} {fn : List He.DefD} {ts : List (PySem.W.Frag → Addr)} {g : Addr → Option Obj} {s : Shared} (h : ∀ a, g a = s.heap.get? a) : obsT n fa fn ts g = (hookT n fa fn ts).obs s := by
  have e : g = s.heap.get? := funext h
  rw [e] <;> rfl
def mkD (g : Def) (st : Stmt) : He.DefD := ⟨(g.py, none), g.py, g.py, defArgs st, defBody st, defScope st, [], []⟩
/-- the same, with a keyword-only default that is an empty tuple -/
def mkD1 (g : Def) (st : Stmt) (x : Str) : He.DefD := ⟨(g.py, none), g.py, g.py, defArgs st, defBody st, defScope st, [], [(x, .adr (kwAt (g.py, none) x))]⟩
/-- a method, by its class -/
def mkM (g : Def) (cn qual : Str) (st : Stmt) : He.DefD := ⟨(cn, some g.py), g.py, qual, defArgs st, defBody st, defScope st, [], []⟩
/-- the scope of a def -/
def scB (g : Def) (sc : Scope) : Bool := decide (sc.kind = .function) && !sc.isCoroutine && !sc.isGenerator && decide (g.names.Nodup) && decide (g.names.take g.pars.length = g.pars) && (g.pars.all fun x => decide (sc.names.lookup x = some .local) || decide (sc.names.lookup x = some .cell)) && sc.names.all fun y => !decide (y.2 = .free)
theorem sc_of {g : Def} {sc : Scope} (h : scB g sc = true) : FnScope g.names g.pars sc := by
  unfold scB at h
  simp only [Bool.and_eq_true, decide_eq_true_eq, Bool.not_eq_true'] at h
  obtain ⟨⟨⟨⟨⟨⟨h1, h2⟩, h3⟩, h4⟩, h5⟩, h6⟩, h7⟩ := h
  refine ⟨h1, h2, h3, h4, h5, fun x hx => ?_, fun y hy => ?_⟩
  · simpa using List.all_eq_true.mp h6 x hx
  · simpa using List.all_eq_true.mp h7 y hy
abbrev noXR : Exn → Value → Option Addr → Hp → Hp → Prop := fun _ _ _ _ _ => False
/-- the law's promise: it answers True -/
theorem law_says {K : PySem.W.Frag} {Pd : List Def} {wf n : Nat} {g : Def} (hs : g.shs = [.pure]) (hr : g.ret = .pure) (law : ∀ ns : List Int, ns.length ≤ 63 → ∃ ds, callN Pd wf n "law" [.scr ns] = .ok (.bl true) ds) {H : Hp} {a : Addr} {ns : List Int} (hl : ns.length ≤ 63) (hS : SqL K H a (ns.map V.int)) :
    spS (zOf K Pd wf noXR n) g.shs g.ret (callN Pd wf n "law") [.ref a] H (fun v _ => v = .bl true) fun _ _ _ => False := by
  obtain ⟨ds, e⟩ := law ns hl
  have ow : ∀ b, b ∉ owned (fun _ => ([] : List Addr)) [some (D.scr ns)] := fun b hb => by
    obtain ⟨_, _, _, h⟩ := mem_owned.mp hb
    simp at h
  refine ⟨H, fun _ => [], [.scr ns], by rw [hs]; rfl, by rw [hs]; rfl, ⟨fun i d h => ?_, fun _ _ _ a ha => by simp at ha, fun _ _ _ a ha => by simp at ha, fun _ _ _ _ _ _ _ a ha => by simp at ha, Sub.refl _, Sub.refl _, fun _ _ h _ => h, fun _ _ h => .inl h, rfl, fun i v h => nomatch h⟩, ?_⟩
  · have h := map_some_get h
    cases i with
    | zero =>
      have e : D.scr ns = d := by simpa using h
      subst e
      refine ⟨.ref a, rfl, ?_⟩
      show Own K H H (parM g.shs 0) _ _ _
      rw [hs]
      exact ⟨rfl, .scr hS (Nat.le_trans hl (by decide))⟩
    | succ i => simp at h
  · rw [e]
    intro v H' F' As' A r s o n
    rw [hr] at o
    exact o.2.blE
theorem no_exc {P : Program} {w : World} {o : List PySem.Env} {H : Hp} {s s' : Shared} {e : Value} (h : L2.CX P w o H s (fun _ _ _ => False) e s') : False := by
  obtain ⟨_, _, _, _, _, _, _, _, _, _, _, _, h⟩ := h
  exact h
theorem FnG.noX {P : Program} {w : World} {K : PySem.W.Frag} {mg : Str → Option Value} {base : Heap} {k : Nat} {f : Addr} {fd : FuncData} {ps : List Str} {sp : Sp} (F : FnG P w K mg base (L2.CX P w) k f fd ps sp) : FnG P w K mg base CX0 k f fd ps (fun vs H Q _ => sp vs H Q fun _ _ _ => False) := by
  refine ⟨fun vs H Q E h => F.len vs H Q _ h, @fun A outer s H args us vs Q E hr gu he hb hv h => codeAny_mono (F.go hr gu he hb hv h) fun r s' hq => ?_⟩
  cases r with
  | error e => exact (no_exc hq).elim
  | ok fl => cases fl with
    | ret u => exact hq
    | next => exact hq
    | brk => exact hq
    | cont => exact hq
/-- one def by its place -/
structure At (K : PySem.W.Frag) (mg : Str → Option Value) (Pd : List Def) (pt : Str → List (Nat × List Str × List Par)) (C : List (Str × D)) (cls : List Str) (g : Def) : Prop where
  ex : ∃ qual params body scope dvs kws fa fd, DefF K mg Pd pt C cls g qual params body scope dvs kws fa fd
theorem at_mk {K : PySem.W.Frag} {mg : Str → Option Value} {Pd : List Def} {pt : Str → List (Nat × List Str × List Par)} {C : List (Str × D)} {cls : List Str} {g : Def} {qual : Str} {params : Arguments} {body : List Stmt} {scope : Scope} {dvs : List V} {kws : List (Str × V)} {fa : Addr} {fd : FuncData} (F : FunD K g.py qual params body scope dvs kws fa fd) (hm : FnAt K mg g.cls g.py fa) (hb : g.kwo = false → Binds K fd g.pars [])
    (hp : ∀ p ∈ pt g.name, PatOk K fd g.pars p.1 p.2.1 p.2.2) (hs : scB g scope = true) (ms : mSs (g.mc scope (sigs Pd pt) C cls) g.pars.length g.ret g.body body = true) : DefF K mg Pd pt C cls g qual params body scope dvs kws fa fd := ⟨F, sc_of hs, hm, hb, hp, ms⟩
theorem cls_mk {K : PySem.W.Frag} {cn : Str} (c : (He.Fa.cls cn).ok K = true) (na : ((clsF cn).map (·.1)).all (fun f => (He.Fa.noat cn f).ok K) = true) : ClsK K cn := ⟨He.cls_ok c, fun f hf => He.noat_ok (List.all_eq_true.mp na f hf)⟩
theorem look_all {K : PySem.W.Frag} {mg : Str → Option Value} {Pd : List Def} {pt : Str → List (Nat × List Str × List Par)} {C : List (Str × D)} {cls : List Str} (h : ∀ g ∈ Pd, At K mg Pd pt C cls g) : ∀ f g, (Pd.find? fun g => g.name == f) = some g → ∃ qual params body scope dvs kws fa fd, DefF K mg Pd pt C cls g qual params body scope dvs kws fa fd := fun f g hf => (h g (List.mem_of_find?_eq_some hf)).ex
end Pv
set_option Elab.async false
set_option linter.all false
set_option maxRecDepth 100000
set_option maxHeartbeats 4000000
namespace Lw
open Pv PySem
/-! ### the evaluator by equations, for simp: what comes behind a binding is a named continuation, unfolded when it is reached -/
def varR (o : Option (Option D)) (env : Dv) : R D := match o with
  | some (some d) => .ok d env
  | _ => .stuck
def mvR (o : Option (Option D)) (i : Nat) (env : Dv) : R D := match o with
  | some (some d) => .ok d (env.set i none)
  | _ => .stuck
def rfR (o : Option (Option D)) (env : Dv) : R D := match o with
  | some (some _) => .ok .non env
  | _ => .stuck
def backR (r : CR) (es : List E) (e : Dv) : R D := match r with
  | .ok d ds'' => .ok d (writeBack es ds'' e)
  | .exc x ds'' => .exc x (writeBack es ds'' e)
  | .stuck => .stuck
def plainR (r : CR) (e : Dv) : R D := match r with
  | .ok d _ => .ok d e
  | .exc x _ => .exc x e
  | .stuck => .stuck
def lendR (r : R D) (env : Dv) (ms : List Nat) : R D := match r with
  | .ok d e => bif flat 40 d && flatAt e ms then .ok d (backE e env ms) else .stuck
  | _ => .stuck
section
variable (cf : Str → List D → CR) (wf : Nat)
def kTup (ds : List D) (e : Dv) : R D := .ok (.tup ds) e
def kLst (ds : List D) (e : Dv) : R D := .ok (.lst ds) e
def kOp1 (o : Op1) (x : D) (e : Dv) : R D := liftO (op1 o x) e
def kOp2b (o : Op2) (x y : D) (e : Dv) : R D := liftO (op2 o x y) e
def kOp2 (o : Op2) (b : E) (x : D) (e : Dv) : R D := bindR (ev cf b e) (kOp2b o x)
def kSlc3 (x : D) (y z : Option Int) (e : Dv) : R D := liftO (cutD x y z) e
def kSlc2 (hi : Option E) (x : D) (y : Option Int) (e : Dv) : R D := bindR (evO cf hi e) (kSlc3 x y)
def kSlc1 (lo hi : Option E) (x : D) (e : Dv) : R D := bindR (evO cf lo e) (kSlc2 cf hi x)
def pickE {β : Type} (k : Bool) (b : E) (e : Dv) (f : D → Dv → R β) : R β := bif k then bindR (ev cf b e) f else .stuck
def kGet3 (x y z : D) (e : Dv) : R D := liftO (getD x y z) e
def kGet2 (c : E) (x y : D) (e : Dv) : R D := bindR (ev cf c e) (kGet3 x y)
def kGet1 (b c : E) (x : D) (e : Dv) : R D := pickE cf (isDct x) b e (kGet2 cf c x)
def kMeth (o : Op2) (b : E) (x : D) (e : Dv) : R D := pickE cf (recvD o x) b e (kOp2b o x)
def pick2 (k : Bool) (a b : E) (e : Dv) : R D := bif k then ev cf a e else ev cf b e
def kAnd2 (b : E) (x : D) (k : Bool) (e : Dv) : R D := pick2 cf k b (.cst x) e
def kAnd (b : E) (x : D) (e : Dv) : R D := bindR (liftO x.truth e) (kAnd2 cf b x)
def kOr2 (b : E) (x : D) (k : Bool) (e : Dv) : R D := pick2 cf k (.cst x) b e
def kOr (b : E) (x : D) (e : Dv) : R D := bindR (liftO x.truth e) (kOr2 cf b x)
def kNt2 (k : Bool) (e : Dv) : R D := .ok (.bl (!k)) e
def kNt (x : D) (e : Dv) : R D := bindR (liftO x.truth e) kNt2
def kIte2 (a b : E) (k : Bool) (e : Dv) : R D := pick2 cf k a b e
def kIte (a b : E) (x : D) (e : Dv) : R D := bindR (liftO x.truth e) (kIte2 cf a b)
def kBl (k : Bool) (e : Dv) : R D := .ok (.bl k) e
def kCh4 (p : Op2) (y z : D) (e : Dv) : R D := bindR (liftO ((op2 p y z).bind isB) e) kBl
def pickC (k : Bool) (c : E) (e : Dv) (f : D → Dv → R D) : R D := bif k then bindR (ev cf c e) f else .ok (.bl false) e
def kCh3 (p : Op2) (c : E) (y : D) (k : Bool) (e : Dv) : R D := pickC cf k c e (kCh4 p y)
def kCh2 (o p : Op2) (c : E) (x y : D) (e : Dv) : R D := bindR (liftO ((op2 o x y).bind isB) e) (kCh3 cf p c y)
def kCh1 (o p : Op2) (b c : E) (x : D) (e : Dv) : R D := bindR (ev cf b e) (kCh2 cf o p c x)
def kCall2 (f : Str) (es : List E) (ds' : List D) (e : Dv) : R D := backR (cf f ds') es e
def kCall (f : Str) (es : List E) (ds : List D) (e : Dv) : R D := bindR (liftO (resolve es ds e) e) (kCall2 cf f es)
def kCallK2 (f : Str) (ds' : List D) (e : Dv) : R D := plainR (cf f ds') e
def kCallK (f : Str) (pm : List Par) (ds : List D) (e : Dv) : R D := bindR (liftO (permA ds pm) e) (kCallK2 cf f)
def kLc (own : List Nat) (t : Tg) (c : Option E) (x : E) (l : List D) (e : Dv) : R D := compRun own t (evC cf c) (ev cf x) l e
def kOs (x : D) (e : Dv) : R (Option Int) := liftO ((isI x).map some) e
def kTru (x : D) (e : Dv) : R Bool := liftO x.truth e
def kSeq (x : D) (e : Dv) : R (List D) := liftO (seqStr x) e
def kRng (x : D) (e : Dv) : R (List D) := liftO (rngD x) e
def kRng2b (x y : D) (e : Dv) : R (List D) := liftO (rng2D x y) e
def kRng2 (b : E) (x : D) (e : Dv) : R (List D) := bindR (ev cf b e) (kRng2b x)
def kEnm (x : D) (e : Dv) : R (List D) := liftO ((seqOf x).map enumL) e
def kZip2 (x y : D) (e : Dv) : R (List D) := liftO (zipD x y) e
def kZip (b : E) (x : D) (e : Dv) : R (List D) := bindR (ev cf b e) (kZip2 x)
def kCons2 (d : D) (ds : List D) (e : Dv) : R (List D) := .ok (d :: ds) e
def kCons (es : List E) (d : D) (e : Dv) : R (List D) := bindR (evs cf es e) (kCons2 d)
def kAsg (t : Tg) (d : D) (e : Dv) : O := nxO (bindTg t d e)
def kAsgM (i : Nat) (d : D) (e : Dv) : O := .nx (e.set i (some d))
def kPar (is : List Nat) (ds : List D) (e : Dv) : O := .nx (setAll is ds e)
def guardO (k : Bool) (a : E) (e : Dv) (f : D → Dv → O) : O := bif k then .stuck else bindO (ev cf a e) f
def kApp (i : Nat) (d : D) (e : Dv) : O := nxO (appE e i d)
def kIns2 (i : Nat) (k d : D) (e : Dv) : O := nxO (insE e i k d)
def kIns (i : Nat) (b : E) (k : D) (e : Dv) : O := bindO (ev cf b e) (kIns2 i k)
def kSetL2 (i : Nat) (d j : D) (e : Dv) : O := nxO (setLE e i j d)
def kSetL (i : Nat) (k : E) (d : D) (e : Dv) : O := bindO (ev cf k e) (kSetL2 i d)
def kSetD2 (i : Nat) (d j : D) (e : Dv) : O := nxO (setDE e i j d)
def kSetD (i : Nat) (k : E) (d : D) (e : Dv) : O := bindO (ev cf k e) (kSetD2 i d)
def kSdd3 (i : Nat) (d a b : D) (e : Dv) : O := nxO (sddE e i a b d)
def kSdd2 (i : Nat) (l : E) (d a : D) (e : Dv) : O := bindO (ev cf l e) (kSdd3 i d a)
def kSdd (i : Nat) (k l : E) (d : D) (e : Dv) : O := guardO cf (dctAt e i).isNone k e (kSdd2 cf i l d)
def kEx (_ : D) (e : Dv) : O := .nx e
def pickO (k : Bool) (a b : List S) (e : Dv) : O := bif k then exs cf wf a e else exs cf wf b e
def kIf2 (a b : List S) (k : Bool) (e : Dv) : O := pickO cf wf k a b e
def kIf (a b : List S) (d : D) (e : Dv) : O := bindO (liftO d.truth e) (kIf2 cf wf a b)
def kFr (t : Tg) (b : List S) (l : List D) (e : Dv) : O := forLoop t (exs cf wf b) l e
def kRet (d : D) (e : Dv) : O := .rt d e
end
section
variable {cf : Str → List D → CR} {wf : Nat} {env e : Dv} {α β : Type}
theorem z_bR {a : α} {f : α → Dv → R β} : bindR (.ok a e) f = f a e := id rfl
theorem z_bO {a : α} {f : α → Dv → O} : bindO (.ok a e) f = f a e := id rfl
theorem z_tO {f : Dv → O} : thenO (.nx e) f = f e := id rfl
theorem z_tR {f : Dv → O} {d : D} : thenO (.rt d e) f = .rt d e := id rfl
theorem z_tB {f : Dv → O} : thenO (.bk e) f = .bk e := id rfl
theorem z_tC {f : Dv → O} : thenO (.ct e) f = .ct e := id rfl
theorem z_l {a : α} : liftO (some a) e = .ok a e := id rfl
theorem z_n : nxO (some e) = .nx e := id rfl
theorem z_v {d : D} : varR (some (some d)) env = .ok d env := id rfl
theorem z_m {d : D} {i : Nat} : mvR (some (some d)) i env = .ok d (env.set i none) := id rfl
theorem z_rf {d : D} : rfR (some (some d)) env = .ok .non env := id rfl
theorem z_bk {d : D} {ds : List D} {es : List E} : backR (.ok d ds) es e = .ok d (writeBack es ds e) := id rfl
theorem z_pk {d : D} {ds : List D} : plainR (.ok d ds) e = .ok d e := id rfl
theorem z_ld {d : D} {ms : List Nat} : lendR (.ok d e) env ms = bif flat 40 d && flatAt e ms then .ok d (backE e env ms) else .stuck := id rfl
theorem z_var {i : Nat} : ev cf (.var i) env = varR env[i]? env := id rfl
theorem z_mv {i : Nat} : ev cf (.mv i) env = mvR env[i]? i env := id rfl
theorem z_mref {i : Nat} : ev cf (.mref i) env = rfR env[i]? env := id rfl
theorem z_own {a : E} : ev cf (.own a) env = ev cf a env := id rfl
theorem z_cst {d : D} : ev cf (.cst d) env = .ok d env := id rfl
theorem z_glb {x : Str} {d : D} : ev cf (.glb x d) env = .ok d env := id rfl
theorem z_dnew : ev cf .dnew env = .ok (.dct []) env := id rfl
theorem z_tup {es : List E} : ev cf (.tup es) env = bindR (evs cf es env) kTup := id rfl
theorem k_tup {ds : List D} : kTup ds e = .ok (.tup ds) e := id rfl
theorem z_lst {es : List E} : ev cf (.lst es) env = bindR (evs cf es env) kLst := id rfl
theorem k_lst {ds : List D} : kLst ds e = .ok (.lst ds) e := id rfl
theorem z_op1 {o : Op1} {a : E} : ev cf (.op1 o a) env = bindR (ev cf a env) (kOp1 o) := id rfl
theorem k_op1 {o : Op1} {x : D} : kOp1 o x e = liftO (op1 o x) e := id rfl
theorem z_op2 {o : Op2} {a b : E} : ev cf (.op2 o a b) env = bindR (ev cf a env) (kOp2 cf o b) := id rfl
theorem k_op2 {o : Op2} {b : E} {x : D} : kOp2 cf o b x e = bindR (ev cf b e) (kOp2b o x) := id rfl
theorem k_op2b {o : Op2} {x y : D} : kOp2b o x y e = liftO (op2 o x y) e := id rfl
theorem z_slc {a : E} {lo hi : Option E} : ev cf (.slc a lo hi) env = bindR (ev cf a env) (kSlc1 cf lo hi) := id rfl
theorem k_slc1 {lo hi : Option E} {x : D} : kSlc1 cf lo hi x e = bindR (evO cf lo e) (kSlc2 cf hi x) := id rfl
theorem k_slc2 {hi : Option E} {x : D} {y : Option Int} : kSlc2 cf hi x y e = bindR (evO cf hi e) (kSlc3 x y) := id rfl
theorem k_slc3 {x : D} {y z : Option Int} : kSlc3 x y z e = liftO (cutD x y z) e := id rfl
theorem z_get {a b c : E} : ev cf (.get a b c) env = bindR (ev cf a env) (kGet1 cf b c) := id rfl
theorem k_get1 {b c : E} {x : D} : kGet1 cf b c x e = pickE cf (isDct x) b e (kGet2 cf c x) := id rfl
theorem k_get2 {c : E} {x y : D} : kGet2 cf c x y e = bindR (ev cf c e) (kGet3 x y) := id rfl
theorem k_get3 {x y z : D} : kGet3 x y z e = liftO (getD x y z) e := id rfl
theorem p_e {b : E} {f : D → Dv → R β} : pickE cf true b e f = bindR (ev cf b e) f := id rfl
theorem z_meth {o : Op2} {a b : E} : ev cf (.meth o a b) env = bindR (ev cf a env) (kMeth cf o b) := id rfl
theorem k_meth {o : Op2} {b : E} {x : D} : kMeth cf o b x e = pickE cf (recvD o x) b e (kOp2b o x) := id rfl
theorem z_and {a b : E} : ev cf (.and a b) env = bindR (ev cf a env) (kAnd cf b) := id rfl
theorem k_and {b : E} {x : D} : kAnd cf b x e = bindR (liftO x.truth e) (kAnd2 cf b x) := id rfl
theorem k_and2 {b : E} {x : D} {k : Bool} : kAnd2 cf b x k e = pick2 cf k b (.cst x) e := id rfl
theorem z_or {a b : E} : ev cf (.or a b) env = bindR (ev cf a env) (kOr cf b) := id rfl
theorem k_or {b : E} {x : D} : kOr cf b x e = bindR (liftO x.truth e) (kOr2 cf b x) := id rfl
theorem k_or2 {b : E} {x : D} {k : Bool} : kOr2 cf b x k e = pick2 cf k (.cst x) b e := id rfl
theorem p_t {a b : E} : pick2 cf true a b e = ev cf a e := id rfl
theorem p_f {a b : E} : pick2 cf false a b e = ev cf b e := id rfl
theorem z_nt {a : E} : ev cf (.nt a) env = bindR (ev cf a env) kNt := id rfl
theorem k_nt {x : D} : kNt x e = bindR (liftO x.truth e) kNt2 := id rfl
theorem k_nt2 {k : Bool} : kNt2 k e = .ok (.bl (!k)) e := id rfl
theorem z_ite {c a b : E} : ev cf (.ite c a b) env = bindR (ev cf c env) (kIte cf a b) := id rfl
theorem k_ite {a b : E} {x : D} : kIte cf a b x e = bindR (liftO x.truth e) (kIte2 cf a b) := id rfl
theorem k_ite2 {a b : E} {k : Bool} : kIte2 cf a b k e = pick2 cf k a b e := id rfl
theorem z_chain {o p : Op2} {a b c : E} : ev cf (.chain o p a b c) env = bindR (ev cf a env) (kCh1 cf o p b c) := id rfl
theorem k_ch1 {o p : Op2} {b c : E} {x : D} : kCh1 cf o p b c x e = bindR (ev cf b e) (kCh2 cf o p c x) := id rfl
theorem k_ch2 {o p : Op2} {c : E} {x y : D} : kCh2 cf o p c x y e = bindR (liftO ((op2 o x y).bind isB) e) (kCh3 cf p c y) := id rfl
theorem k_ch3 {p : Op2} {c : E} {y : D} {k : Bool} : kCh3 cf p c y k e = pickC cf k c e (kCh4 p y) := id rfl
theorem k_ch4 {p : Op2} {y z : D} : kCh4 p y z e = bindR (liftO ((op2 p y z).bind isB) e) kBl := id rfl
theorem k_bl {k : Bool} : kBl k e = .ok (.bl k) e := id rfl
theorem p_ct {c : E} {f : D → Dv → R D} : pickC cf true c e f = bindR (ev cf c e) f := id rfl
theorem p_cf {c : E} {f : D → Dv → R D} : pickC cf false c e f = .ok (.bl false) e := id rfl
theorem z_call {f : Str} {es : List E} : ev cf (.call f es) env = bindR (evs cf es env) (kCall cf f es) := id rfl
theorem k_call {f : Str} {es : List E} {ds : List D} : kCall cf f es ds e = bindR (liftO (resolve es ds e) e) (kCall2 cf f es) := id rfl
theorem k_call2 {f : Str} {es : List E} {ds : List D} : kCall2 cf f es ds e = backR (cf f ds) es e := id rfl
theorem z_callK {f : Str} {np : Nat} {ks : List Str} {pm : List Par} {es : List E} : ev cf (.callK f np ks pm es) env = bindR (evs cf es env) (kCallK cf f pm) := id rfl
theorem k_callK {f : Str} {pm : List Par} {ds : List D} : kCallK cf f pm ds e = bindR (liftO (permA ds pm) e) (kCallK2 cf f) := id rfl
theorem k_callK2 {f : Str} {ds : List D} : kCallK2 cf f ds e = plainR (cf f ds) e := id rfl
theorem z_lend {ls hs ms : List Nat} {a : E} : ev cf (.lend ls hs ms a) env = lendR (ev cf a (wipeE env hs)) env ms := id rfl
theorem z_lc {own : List Nat} {t : Tg} {it : It} {c : Option E} {x : E} : ev cf (.lc own t it c x) env = bindR (evIt cf it env) (kLc cf own t c x) := id rfl
theorem k_lc {own : List Nat} {t : Tg} {c : Option E} {x : E} {l : List D} : kLc cf own t c x l e = compRun own t (evC cf c) (ev cf x) l e := id rfl
theorem z_on : evO cf none env = .ok none env := id rfl
theorem z_os {a : E} : evO cf (some a) env = bindR (ev cf a env) kOs := id rfl
theorem k_os {x : D} : kOs x e = liftO ((isI x).map some) e := id rfl
theorem z_cn : evC cf none env = .ok true env := id rfl
theorem z_cs {a : E} : evC cf (some a) env = bindR (ev cf a env) kTru := id rfl
theorem k_tru {x : D} : kTru x e = liftO x.truth e := id rfl
theorem z_seq {a : E} : evIt cf (.seq a) env = bindR (ev cf a env) kSeq := id rfl
theorem k_seq {x : D} : kSeq x e = liftO (seqStr x) e := id rfl
theorem z_rng {a : E} : evIt cf (.rng a) env = bindR (ev cf a env) kRng := id rfl
theorem k_rng {x : D} : kRng x e = liftO (rngD x) e := id rfl
theorem z_rng2 {a b : E} : evIt cf (.rng2 a b) env = bindR (ev cf a env) (kRng2 cf b) := id rfl
theorem k_rng2 {b : E} {x : D} : kRng2 cf b x e = bindR (ev cf b e) (kRng2b x) := id rfl
theorem k_rng2b {x y : D} : kRng2b x y e = liftO (rng2D x y) e := id rfl
theorem z_enm {a : E} : evIt cf (.enm a) env = bindR (ev cf a env) kEnm := id rfl
theorem k_enm {x : D} : kEnm x e = liftO ((seqOf x).map enumL) e := id rfl
theorem z_zip {a b : E} : evIt cf (.zip a b) env = bindR (ev cf a env) (kZip cf b) := id rfl
theorem k_zip {b : E} {x : D} : kZip cf b x e = bindR (ev cf b e) (kZip2 x) := id rfl
theorem k_zip2 {x y : D} : kZip2 x y e = liftO (zipD x y) e := id rfl
theorem z_e0 : evs cf [] env = .ok [] env := id rfl
theorem z_e1 {a : E} {es : List E} : evs cf (a :: es) env = bindR (ev cf a env) (kCons cf es) := id rfl
theorem k_cons {es : List E} {d : D} : kCons cf es d e = bindR (evs cf es e) (kCons2 d) := id rfl
theorem k_cons2 {d : D} {ds : List D} : kCons2 d ds e = .ok (d :: ds) e := id rfl
theorem s_asg {t : Tg} {a : E} : exe cf wf (.asg t a) env = bindO (ev cf a env) (kAsg t) := id rfl
theorem k_asg {t : Tg} {d : D} : kAsg t d e = nxO (bindTg t d e) := id rfl
theorem s_asgM {i : Nat} {a : E} : exe cf wf (.asgM i a) env = bindO (ev cf a env) (kAsgM i) := id rfl
theorem k_asgM {i : Nat} {d : D} : kAsgM i d e = .nx (e.set i (some d)) := id rfl
theorem s_par {is : List Nat} {es : List E} : exe cf wf (.par is es) env = bindO (evs cf es env) (kPar is) := id rfl
theorem s_parT {is : List Nat} {es : List E} : exe cf wf (.parT is es) env = bindO (evs cf es env) (kPar is) := id rfl
theorem k_par {is : List Nat} {ds : List D} : kPar is ds e = .nx (setAll is ds e) := id rfl
theorem s_app {i : Nat} {a : E} : exe cf wf (.app i a) env = guardO cf (lstAt env i).isNone a env (kApp i) := id rfl
theorem p_o {a : E} {f : D → Dv → O} : guardO cf false a e f = bindO (ev cf a e) f := id rfl
theorem k_app {i : Nat} {d : D} : kApp i d e = nxO (appE e i d) := id rfl
theorem s_ins {i : Nat} {a b : E} : exe cf wf (.ins i a b) env = guardO cf (lstAt env i).isNone a env (kIns cf i b) := id rfl
theorem k_ins {i : Nat} {b : E} {k : D} : kIns cf i b k e = bindO (ev cf b e) (kIns2 i k) := id rfl
theorem k_ins2 {i : Nat} {k d : D} : kIns2 i k d e = nxO (insE e i k d) := id rfl
theorem s_setL {i : Nat} {k a : E} : exe cf wf (.setL i k a) env = guardO cf (lstAt env i).isNone a env (kSetL cf i k) := id rfl
theorem k_setL {i : Nat} {k : E} {d : D} : kSetL cf i k d e = bindO (ev cf k e) (kSetL2 i d) := id rfl
theorem k_setL2 {i : Nat} {d j : D} : kSetL2 i d j e = nxO (setLE e i j d) := id rfl
theorem s_setD {i : Nat} {k a : E} : exe cf wf (.setD i k a) env = guardO cf (dctAt env i).isNone a env (kSetD cf i k) := id rfl
theorem k_setD {i : Nat} {k : E} {d : D} : kSetD cf i k d e = bindO (ev cf k e) (kSetD2 i d) := id rfl
theorem k_setD2 {i : Nat} {d j : D} : kSetD2 i d j e = nxO (setDE e i j d) := id rfl
theorem s_sdd {i : Nat} {k l a : E} : exe cf wf (.sdd i k l a) env = bindO (ev cf a env) (kSdd cf i k l) := id rfl
theorem k_sdd {i : Nat} {k l : E} {d : D} : kSdd cf i k l d e = guardO cf (dctAt e i).isNone k e (kSdd2 cf i l d) := id rfl
theorem k_sdd2 {i : Nat} {l : E} {d a : D} : kSdd2 cf i l d a e = bindO (ev cf l e) (kSdd3 i d a) := id rfl
theorem k_sdd3 {i : Nat} {d a b : D} : kSdd3 i d a b e = nxO (sddE e i a b d) := id rfl
theorem s_ex {a : E} : exe cf wf (.ex a) env = bindO (ev cf a env) kEx := id rfl
theorem k_ex {d : D} : kEx d e = .nx e := id rfl
theorem s_if {c : E} {a b : List S} : exe cf wf (.ife c a b) env = bindO (ev cf c env) (kIf cf wf a b) := id rfl
theorem k_if {a b : List S} {d : D} : kIf cf wf a b d e = bindO (liftO d.truth e) (kIf2 cf wf a b) := id rfl
theorem k_if2 {a b : List S} {k : Bool} : kIf2 cf wf a b k e = pickO cf wf k a b e := id rfl
theorem p_ot {a b : List S} : pickO cf wf true a b e = exs cf wf a e := id rfl
theorem p_of {a b : List S} : pickO cf wf false a b e = exs cf wf b e := id rfl
theorem s_fr {t : Tg} {it : It} {b : List S} : exe cf wf (.fr t it b) env = bindO (evIt cf it env) (kFr cf wf t b) := id rfl
theorem k_fr {t : Tg} {b : List S} {l : List D} : kFr cf wf t b l e = forLoop t (exs cf wf b) l e := id rfl
theorem s_whl {c : E} {b : List S} : exe cf wf (.whl c b) env = whileLoop (evC cf (some c)) (exs cf wf b) wf env := id rfl
theorem s_ret {a : E} : exe cf wf (.ret a) env = bindO (ev cf a env) kRet := id rfl
theorem k_ret {d : D} : kRet d e = .rt d e := id rfl
theorem s_brk : exe cf wf .brk env = .bk env := id rfl
theorem s_cnt : exe cf wf .cnt env = .ct env := id rfl
theorem s_pass : exe cf wf .pass env = .nx env := id rfl
theorem s_nil : exs cf wf [] env = .nx env := id rfl
theorem s_cons {s : S} {r : List S} : exs cf wf (s :: r) env = thenO (exe cf wf s env) (exs cf wf r) := id rfl
end
/-! ### operations by kinds -/
theorem eqD_int (a b : Int) : eqD (.int a) (.int b) = decide (a = b) := by
  simp [eqD, D.toPy, PyData.eqv]
  by_cases h : a = b <;> simp [h]
theorem eqD_str (a b : Str) : eqD (.str a) (.str b) = decide (a = b) := by
  simp [eqD, D.toPy, PyData.eqv]
  by_cases h : a = b <;> simp [h]
theorem eqD_bl (a b : Bool) : eqD (.bl a) (.bl b) = (a == b) := by
  cases a <;> cases b <;> rfl
theorem eqD_tup : ∀ (l m : List D), eqD (.tup l) (.tup m) = (decide (l.length = m.length) && (l.zip m).all fun p => eqD p.1 p.2)
  | [], [] => rfl
  | [], _ :: _ => rfl
  | _ :: _, [] => rfl
  | a :: l, b :: m => by
    have ih := eqD_tup l m
    unfold eqD at ih ⊢
    show (PyData.eqv a.toPy b.toPy && PyData.eqv (.tuple (toPyL l)) (.tuple (toPyL m))) = _
    rw [show PyData.eqv (.tuple (toPyL l)) (.tuple (toPyL m)) = PyData.eqv (D.tup l).toPy (D.tup m).toPy from rfl, ih]
    simp only [List.length_cons, List.zip_cons_cons, List.all_cons, Nat.add_right_cancel_iff]
    cases PyData.eqv a.toPy b.toPy <;> simp
theorem eqD_lst : ∀ (l m : List D), eqD (.lst l) (.lst m) = (decide (l.length = m.length) && (l.zip m).all fun p => eqD p.1 p.2)
  | [], [] => rfl
  | [], _ :: _ => rfl
  | _ :: _, [] => rfl
  | a :: l, b :: m => by
    have ih := eqD_lst l m
    unfold eqD at ih ⊢
    show (PyData.eqv a.toPy b.toPy && PyData.eqv (.list (toPyL l)) (.list (toPyL m))) = _
    rw [show PyData.eqv (.list (toPyL l)) (.list (toPyL m)) = PyData.eqv (D.lst l).toPy (D.lst m).toPy from rfl, ih]
    simp only [List.length_cons, List.zip_cons_cons, List.all_cons, Nat.add_right_cancel_iff]
    cases PyData.eqv a.toPy b.toPy <;> simp
/-- eqD of two coded lists, the code's own equality decided -/
theorem zip_all_iff {α : Type} [DecidableEq α] (c : α → D) (hc : ∀ a b, eqD (c a) (c b) = decide (a = b)) : ∀ l m : List α, (decide ((l.map c).length = (m.map c).length) && ((l.map c).zip (m.map c)).all fun p => eqD p.1 p.2) = decide (l = m)
  | [], [] => by simp
  | [], _ :: _ => by simp
  | _ :: _, [] => by simp
  | a :: l, b :: m => by
    have ih := zip_all_iff c hc l m
    simp only [List.map_cons, List.length_cons, List.zip_cons_cons, List.all_cons, hc, Nat.add_right_cancel_iff, List.cons.injEq] at ih ⊢
    by_cases h : a = b
    · simp only [h, decide_true, Bool.true_and, true_and]
      exact ih
    · simp [h]
theorem eqD_tupM {α : Type} [DecidableEq α] (c : α → D) (hc : ∀ a b, eqD (c a) (c b) = decide (a = b)) (l m : List α) : eqD (.tup (l.map c)) (.tup (m.map c)) = decide (l = m) := by
  rw [eqD_tup, zip_all_iff c hc]
theorem eqD_lstM {α : Type} [DecidableEq α] (c : α → D) (hc : ∀ a b, eqD (c a) (c b) = decide (a = b)) (l m : List α) : eqD (.lst (l.map c)) (.lst (m.map c)) = decide (l = m) := by
  rw [eqD_lst, zip_all_iff c hc]
theorem eqD_strT (l m : List Str) : eqD (.tup (l.map .str)) (.tup (m.map .str)) = decide (l = m) := eqD_tupM _ eqD_str l m
theorem eqD_strL (l m : List Str) : eqD (.lst (l.map .str)) (.lst (m.map .str)) = decide (l = m) := eqD_lstM _ eqD_str l m
theorem eqD_intL (l m : List Int) : eqD (.lst (l.map .int)) (.lst (m.map .int)) = decide (l = m) := eqD_lstM _ eqD_int l m
def pr (p : Str × Str) : D := .tup [.str p.1, .str p.2]
theorem eqD_pr (p q : Str × Str) : eqD (pr p) (pr q) = decide (p = q) := by
  obtain ⟨a, b⟩ := p
  obtain ⟨c, d⟩ := q
  unfold pr
  rw [eqD_tup]
  simp only [List.length_cons, List.length_nil, decide_true, List.zip_cons_cons, List.zip_nil_right, List.all_cons, List.all_nil, eqD_str, Bool.true_and, Bool.and_true, Prod.mk.injEq, Bool.decide_and]
theorem eqD_prT (l m : List (Str × Str)) : eqD (.tup (l.map pr)) (.tup (m.map pr)) = decide (l = m) := eqD_tupM _ eqD_pr l m
theorem eqD_prL (l m : List (Str × Str)) : eqD (.lst (l.map pr)) (.lst (m.map pr)) = decide (l = m) := eqD_lstM _ eqD_pr l m
theorem lay_all {α : Type} (c : α → D) {n : Nat} (h : ∀ a, lay n (c a) = true) (l : List α) : lay (n + 1) (.tup (l.map c)) = true ∧ lay (n + 1) (.lst (l.map c)) = true := by
  have : (l.map c).all (lay n) = true := by
    rw [List.all_eq_true]
    intro d hd
    obtain ⟨a, _, rfl⟩ := List.mem_map.mp hd
    exact h a
  exact ⟨this, this⟩
theorem lay_strT {n : Nat} (l : List Str) : lay (n + 1) (.tup (l.map .str)) = true := (lay_all _ (fun a => by cases n <;> rfl) l).1
theorem lay_strL {n : Nat} (l : List Str) : lay (n + 1) (.lst (l.map .str)) = true := (lay_all _ (fun a => by cases n <;> rfl) l).2
theorem lay_intL {n : Nat} (l : List Int) : lay (n + 1) (.lst (l.map .int)) = true := (lay_all _ (fun a => by cases n <;> rfl) l).2
theorem lay_pr {n : Nat} (p : Str × Str) : lay (n + 1) (pr p) = true := by cases n <;> rfl
theorem lay_prT {n : Nat} (l : List (Str × Str)) : lay (n + 2) (.tup (l.map pr)) = true := (lay_all _ (fun a => lay_pr a) l).1
theorem lay_prL {n : Nat} (l : List (Str × Str)) : lay (n + 2) (.lst (l.map pr)) = true := (lay_all _ (fun a => lay_pr a) l).2
theorem lay_int {n : Nat} (i : Int) : lay n (.int i) = true := by cases n <;> rfl
theorem lay_str {n : Nat} (i : Str) : lay n (.str i) = true := by cases n <;> rfl
theorem lay_bl {n : Nat} (i : Bool) : lay n (.bl i) = true := by cases n <;> rfl
theorem lay_non {n : Nat} : lay n .non = true := by cases n <;> rfl
theorem o_eq {d e : D} (h1 : lay 40 d = true) (h2 : lay 40 e = true) : op2 .eq d e = some (.bl (eqD d e)) := by
  show (equD d e).map D.bl = _
  unfold equD
  rw [h1, h2]
  rfl
theorem o_ne {d e : D} (h1 : lay 40 d = true) (h2 : lay 40 e = true) : op2 .ne d e = some (.bl (!eqD d e)) := by
  show (equD d e).map (fun b => D.bl (!b)) = _
  unfold equD
  rw [h1, h2]
  rfl
theorem o_eq_int (a b : Int) : op2 .eq (.int a) (.int b) = some (.bl (decide (a = b))) := by rw [o_eq (lay_int a) (lay_int b), eqD_int]
theorem o_eq_str (a b : Str) : op2 .eq (.str a) (.str b) = some (.bl (decide (a = b))) := by rw [o_eq (lay_str a) (lay_str b), eqD_str]
theorem o_ne_int (a b : Int) : op2 .ne (.int a) (.int b) = some (.bl (!decide (a = b))) := by rw [o_ne (lay_int a) (lay_int b), eqD_int]
theorem o_ne_str (a b : Str) : op2 .ne (.str a) (.str b) = some (.bl (!decide (a = b))) := by rw [o_ne (lay_str a) (lay_str b), eqD_str]
theorem o_eq_bl (a b : Bool) : op2 .eq (.bl a) (.bl b) = some (.bl (a == b)) := by rw [o_eq (lay_bl a) (lay_bl b), eqD_bl]
theorem o_ne_bl (a b : Bool) : op2 .ne (.bl a) (.bl b) = some (.bl (!(a == b))) := by rw [o_ne (lay_bl a) (lay_bl b), eqD_bl]
theorem o_eq_strT (a b : List Str) : op2 .eq (.tup (a.map .str)) (.tup (b.map .str)) = some (.bl (decide (a = b))) := by rw [o_eq (lay_strT a) (lay_strT b), eqD_strT]
theorem o_eq_strL (a b : List Str) : op2 .eq (.lst (a.map .str)) (.lst (b.map .str)) = some (.bl (decide (a = b))) := by rw [o_eq (lay_strL a) (lay_strL b), eqD_strL]
theorem o_ne_strT (a b : List Str) : op2 .ne (.tup (a.map .str)) (.tup (b.map .str)) = some (.bl (!decide (a = b))) := by rw [o_ne (lay_strT a) (lay_strT b), eqD_strT]
theorem o_ne_strL (a b : List Str) : op2 .ne (.lst (a.map .str)) (.lst (b.map .str)) = some (.bl (!decide (a = b))) := by rw [o_ne (lay_strL a) (lay_strL b), eqD_strL]
theorem o_ne_nilL (a : List Str) : op2 .ne (.lst (a.map .str)) (.lst []) = some (.bl (!decide (a = []))) := o_ne_strL a []
theorem o_eq_nilL (a : List Str) : op2 .eq (.lst (a.map .str)) (.lst []) = some (.bl (decide (a = []))) := o_eq_strL a []
theorem o_ne_nn : op2 .ne (.lst []) (.lst []) = some (.bl false) := id rfl
theorem o_eq_nn : op2 .eq (.lst []) (.lst []) = some (.bl true) := id rfl
theorem o_ne_tt : op2 .ne (.tup []) (.tup []) = some (.bl false) := id rfl
theorem o_eq_tt : op2 .eq (.tup []) (.tup []) = some (.bl true) := id rfl
theorem o_lt (a b : Int) : op2 .lt (.int a) (.int b) = some (.bl (decide (a < b))) := id rfl
theorem o_gt (a b : Int) : op2 .gt (.int a) (.int b) = some (.bl (decide (b < a))) := id rfl
theorem o_le (a b : Int) : op2 .le (.int a) (.int b) = some (.bl (decide (a ≤ b))) := id rfl
theorem o_ge (a b : Int) : op2 .ge (.int a) (.int b) = some (.bl (decide (b ≤ a))) := id rfl
theorem o_add (a b : Int) : op2 .add (.int a) (.int b) = some (.int (a + b)) := id rfl
theorem o_sub (a b : Int) : op2 .sub (.int a) (.int b) = some (.int (a - b)) := id rfl
theorem o_addT {a b : List D} (h : a.length + b.length ≤ BIG) : op2 .add (.tup a) (.tup b) = some (.tup (a ++ b)) := by
  show (if a.length + b.length ≤ BIG then _ else _) = _
  rw [if_pos h]
theorem o_addL {a b : List D} (h : a.length + b.length ≤ BIG) : op2 .add (.lst a) (.lst b) = some (.lst (a ++ b)) := by
  show (if a.length + b.length ≤ BIG then _ else _) = _
  rw [if_pos h]
theorem o_addS {a b : Str} (h : a.length + b.length ≤ BIG) : op2 .add (.str a) (.str b) = some (.str (a ++ b)) := by
  show (if a.length + b.length ≤ BIG then _ else _) = _
  rw [if_pos h]
theorem o_min (a b : Str) : op2 .min (.str a) (.str b) = some (.str (if strLt b a then b else a)) := id rfl
theorem o_max (a b : Str) : op2 .max (.str a) (.str b) = some (.str (if strLt a b then b else a)) := id rfl
theorem o_mod {a b : Int} (h : 0 < b) : op2 .mod (.int a) (.int b) = some (.int (a % b)) := by
  show (if 0 < b then _ else _) = _
  rw [if_pos h]
theorem o_fdiv {a b : Int} (h : 0 < b) (h' : b < 1073741824) : op2 .fdiv (.int a) (.int b) = some (.int (a / b)) := by
  show (if 0 < b ∧ b < 1073741824 then _ else _) = _
  rw [if_pos ⟨h, h'⟩]
theorem o_rep2 (d : D) : op2 .mul (.lst [d]) (.int 2) = some (.lst [d, d]) := id rfl
theorem any_mem {α : Type} [DecidableEq α] (c : α → D) (hc : ∀ a b, eqD (c a) (c b) = decide (a = b)) (a : α) : ∀ l : List α, ((l.map c).any fun z => eqD z (c a)) = decide (a ∈ l)
  | [] => by simp
  | b :: l => by
    rw [List.map_cons, List.any_cons, any_mem c hc a l, hc]
    by_cases h : b = a
    · simp [h]
    · have h' : ¬ a = b := fun e => h e.symm
      simp [h, h']
theorem o_inT {α : Type} [DecidableEq α] (c : α → D) (hc : ∀ a b, eqD (c a) (c b) = decide (a = b)) (a : α) (l : List α) (h1 : lay 40 (c a) = true) (h2 : lay 40 (.tup (l.map c)) = true) : inD (c a) (.tup (l.map c)) = some (decide (a ∈ l)) := by
  show (if lay 40 (c a) && lay 40 (.tup (l.map c)) then some ((l.map c).any fun z => eqD z (c a)) else none) = _
  rw [h1, h2, ← any_mem c hc]
  rfl
theorem o_inL {α : Type} [DecidableEq α] (c : α → D) (hc : ∀ a b, eqD (c a) (c b) = decide (a = b)) (a : α) (l : List α) (h1 : lay 40 (c a) = true) (h2 : lay 40 (.lst (l.map c)) = true) : inD (c a) (.lst (l.map c)) = some (decide (a ∈ l)) := by
  show (if lay 40 (c a) && lay 40 (.lst (l.map c)) then some ((l.map c).any fun z => eqD z (c a)) else none) = _
  rw [h1, h2, ← any_mem c hc]
  rfl
theorem o_in_strT (a : Str) (l : List Str) : op2 .isin (.str a) (.tup (l.map .str)) = some (.bl (decide (a ∈ l))) := by
  show (inD (.str a) (.tup (l.map .str))).map D.bl = _
  rw [o_inT D.str eqD_str a l (lay_str a) (lay_strT l)]; rfl
theorem o_in_strL (a : Str) (l : List Str) : op2 .isin (.str a) (.lst (l.map .str)) = some (.bl (decide (a ∈ l))) := by
  show (inD (.str a) (.lst (l.map .str))).map D.bl = _
  rw [o_inL D.str eqD_str a l (lay_str a) (lay_strL l)]; rfl
theorem o_nin_strT (a : Str) (l : List Str) : op2 .notin (.str a) (.tup (l.map .str)) = some (.bl (!decide (a ∈ l))) := by
  show (inD (.str a) (.tup (l.map .str))).map (fun b => D.bl (!b)) = _
  rw [o_inT D.str eqD_str a l (lay_str a) (lay_strT l)]; rfl
theorem o_nin_strL (a : Str) (l : List Str) : op2 .notin (.str a) (.lst (l.map .str)) = some (.bl (!decide (a ∈ l))) := by
  show (inD (.str a) (.lst (l.map .str))).map (fun b => D.bl (!b)) = _
  rw [o_inL D.str eqD_str a l (lay_str a) (lay_strL l)]; rfl
theorem o_in_prT (a : Str × Str) (l : List (Str × Str)) : op2 .isin (pr a) (.tup (l.map pr)) = some (.bl (decide (a ∈ l))) := by
  show (inD (pr a) (.tup (l.map pr))).map D.bl = _
  rw [o_inT pr eqD_pr a l (lay_pr a) (lay_prT l)]; simp
theorem o_in_prL (a : Str × Str) (l : List (Str × Str)) : op2 .isin (pr a) (.lst (l.map pr)) = some (.bl (decide (a ∈ l))) := by
  show (inD (pr a) (.lst (l.map pr))).map D.bl = _
  rw [o_inL pr eqD_pr a l (lay_pr a) (lay_prL l)]; simp
theorem o_in_prT' (a b : Str) (l : List (Str × Str)) : op2 .isin (.tup [.str a, .str b]) (.tup (l.map pr)) = some (.bl (decide ((a, b) ∈ l))) := o_in_prT (a, b) l
theorem o_in_prL' (a b : Str) (l : List (Str × Str)) : op2 .isin (.tup [.str a, .str b]) (.lst (l.map pr)) = some (.bl (decide ((a, b) ∈ l))) := o_in_prL (a, b) l
theorem o_in_dct (a : Str) (l : List (L2.Key × D)) : op2 .isin (.str a) (.dct l) = some (.bl (dget l (.inr a)).isSome) := id rfl
theorem o_nin_dct (a : Str) (l : List (L2.Key × D)) : op2 .notin (.str a) (.dct l) = some (.bl (!(dget l (.inr a)).isSome)) := id rfl
theorem o_ixT (l : List D) (k : Nat) : op2 .ix (.tup l) (.int k) = l[k]? := by
  show L2.atI l (k : Int) = _
  unfold L2.atI L2.ixN
  by_cases h : k < l.length
  · have : (k : Int) < l.length := by omega
    simp [h, this]
  · have : ¬ (k : Int) < l.length := by omega
    have h2 : l.length ≤ k := by omega
    simp [this, h2]
theorem o_ixL (l : List D) (k : Nat) : op2 .ix (.lst l) (.int k) = l[k]? := o_ixT l k
theorem o_ixT0 (l : List D) : op2 .ix (.tup l) (.int 0) = l[0]? := o_ixT l 0
theorem o_ixL0 (l : List D) : op2 .ix (.lst l) (.int 0) = l[0]? := o_ixT l 0
theorem o_ixT1 (l : List D) : op2 .ix (.tup l) (.int 1) = l[1]? := o_ixT l 1
theorem o_ixL1 (l : List D) : op2 .ix (.lst l) (.int 1) = l[1]? := o_ixT l 1
theorem o_ixTm (l : List D) : op2 .ix (.tup l) (.int (-1)) = l.getLast? := by
  show L2.atI l (-1) = _
  unfold L2.atI L2.ixN
  cases l with
  | nil => rfl
  | cons a l =>
    rw [List.getLast?_eq_getElem?]
    have h2 : (1 : Int) ≤ (l.length : Int) + 1 := by omega
    have h3 : (-1 + ((l.length : Int) + 1)).toNat = l.length := by omega
    simp [h2, h3]
theorem o_ixLm (l : List D) : op2 .ix (.lst l) (.int (-1)) = l.getLast? := o_ixTm l
theorem o_len1 (l : List D) : op1 .len (.lst l) = some (.int l.length) := id rfl
theorem o_len2 (l : List D) : op1 .len (.tup l) = some (.int l.length) := id rfl
theorem o_len3 (l : Str) : op1 .len (.str l) = some (.int l.length) := id rfl
theorem o_neg (i : Int) : op1 .neg (.int i) = some (.int (-i)) := id rfl
theorem o_list (l : List D) : op1 .list (.lst l) = some (.lst l) := id rfl
theorem o_list2 (l : List D) : op1 .list (.tup l) = some (.lst l) := id rfl
theorem o_tup (l : List D) : op1 .tuple (.lst l) = some (.tup l) := id rfl
theorem o_tup2 (l : List D) : op1 .tuple (.tup l) = some (.tup l) := id rfl
theorem o_isi (ts : List String) (d : D) (h : isObj d = false) : op1 (.isinst ts) d = some (.bl (isa ts d)) := by
  show (if isObj d then none else some (D.bl (isa ts d))) = _
  rw [h]
  rfl
theorem o_cutT (l : List D) (a b : Option Int) : cutD (.tup l) a b = some (.tup (cutL l a b)) := id rfl
theorem o_cutL (l : List D) (a b : Option Int) : cutD (.lst l) a b = some (.lst (cutL l a b)) := id rfl
theorem findIx_map {α : Type} (c : α → D) (p : D → Bool) (q : α → Bool) (h : ∀ a, p (c a) = q a) : ∀ l : List α, findIx p (l.map c) = l.findIdx? q
  | [] => rfl
  | a :: l => by
    rw [List.map_cons, List.findIdx?_cons]
    unfold findIx
    rw [h, findIx_map c p q h l]
theorem o_indexT (l : List Str) (a : Str) : op2 .index (.tup (l.map .str)) (.str a) = (l.findIdx? fun z => decide (z = a)).map fun (n : Nat) => D.int (n : Int) := by
  show (if (l.map D.str).all (fun z => kinds z == 2) then _ else none) = _
  rw [if_pos (by rw [List.all_eq_true]; intro d hd; obtain ⟨x, _, rfl⟩ := List.mem_map.mp hd; rfl), findIx_map D.str _ (fun z => decide (z = a)) fun z => eqD_str z a]
  cases l.findIdx? fun z => decide (z = a) <;> rfl
theorem o_indexL (l : List Str) (a : Str) : op2 .index (.lst (l.map .str)) (.str a) = (l.findIdx? fun z => decide (z = a)).map fun (n : Nat) => D.int (n : Int) := by
  show (if lay 40 (.str a) && lay 40 (.lst (l.map .str)) then _ else none) = _
  rw [lay_strL, lay_str, findIx_map D.str _ (fun z => decide (z = a)) fun z => eqD_str z a]
  cases l.findIdx? fun z => decide (z = a) <;> rfl
theorem o_andB (a : Bool) : (D.bl a).truth = some a := id rfl
theorem cutM {α β : Type} (f : α → β) (ns : List α) (lo hi : Option Int) : cutL (ns.map f) lo hi = (cutL ns lo hi).map f := by
  unfold cutL
  rw [List.map_take, List.map_drop, List.length_map]
theorem cut_take {α : Type} (xs : List α) (u : Nat) : cutL xs none (some (u : Int)) = xs.take u := by
  unfold cutL
  rw [HT.sIx_none, HT.sIx_nat, List.drop_zero, Nat.sub_zero, List.take_eq_take_iff]
  omega
theorem cut_drop {α : Type} (xs : List α) (u : Nat) : cutL xs (some (u : Int)) none = xs.drop u := by
  unfold cutL
  rw [HT.sIx_none, HT.sIx_nat]
  have e : (xs.drop (min u xs.length)) = xs.drop u := by
    by_cases h : u ≤ xs.length
    · rw [Nat.min_eq_left h]
    · rw [Nat.min_eq_right (by omega), List.drop_length, List.drop_eq_nil_of_le (by omega)]
  rw [e]
  refine List.take_of_length_le ?_
  rw [List.length_drop]
  omega
theorem cut_drop1 {α : Type} (xs : List α) (u : Nat) : cutL xs (some ((u : Int) + 1)) none = xs.drop (u + 1) := cut_drop xs (u + 1)
theorem cut_takeM {α β : Type} (f : α → β) (xs : List α) (u : Nat) : cutL (xs.map f) none (some (u : Int)) = (xs.take u).map f := by rw [cutM, cut_take]
theorem cut_dropM {α β : Type} (f : α → β) (xs : List α) (u : Nat) : cutL (xs.map f) (some (u : Int)) none = (xs.drop u).map f := by rw [cutM, cut_drop]
theorem cut_drop1M {α β : Type} (f : α → β) (xs : List α) (u : Nat) : cutL (xs.map f) (some ((u : Int) + 1)) none = (xs.drop (u + 1)).map f := by rw [cutM, cut_drop1]
theorem enumM {α : Type} (c : α → D) (l : List α) : enumL (l.map c) = l.zipIdx.map fun p => .tup [.int p.2, c p.1] := by
  unfold enumL
  rw [List.zipIdx_map, List.map_map]
  rfl
theorem zipM {α β : Type} (c : α → D) (c' : β → D) (l : List α) (m : List β) : zipL (l.map c) (m.map c') = (l.zip m).map fun p => .tup [c p.1, c' p.2] := by
  unfold zipL
  rw [List.zip_map, List.map_map]
  rfl
/-! ### loops -/
/-- a comprehension that changes nothing -/
theorem comp_pure {α : Type} {own : List Nat} {t : Tg} {c : Dv → R Bool} {x : Dv → R D} {env : Dv} (f : α → D) (p : α → Bool) (g : α → D) : ∀ (xs : List α) (acc : List D), acc.length + xs.length ≤ BIG →
    (∀ a ∈ xs, ∃ e1, bindTg t (f a) env = some e1 ∧ c e1 = .ok (p a) e1 ∧ (p a = true → x e1 = .ok (g a) e1) ∧ wipeE e1 own = env) → compLoop own t c x (xs.map f) env acc = .ok (acc ++ (xs.filter p).map g) env
  | [], acc, _, _ => by simp [compLoop]
  | a :: xs, acc, hb, h => by
    obtain ⟨e1, h1, h2, h3, h4⟩ := h a List.mem_cons_self
    rw [List.map_cons]
    unfold compLoop
    simp only [h1, h2]
    cases hp : p a with
    | true =>
      simp only [h3 hp]
      rw [if_pos (by simp at hb; omega), h4, comp_pure f p g xs (acc ++ [g a]) (by simp at hb ⊢; omega) fun b hb => h b (List.mem_cons_of_mem _ hb), List.filter_cons_of_pos hp]
      simp
    | false =>
      show compLoop own t c x (xs.map f) (wipeE e1 own) acc = _
      rw [h4, comp_pure f p g xs acc (by simp at hb ⊢; omega) fun b hb => h b (List.mem_cons_of_mem _ hb), List.filter_cons_of_neg (by simp [hp])]
theorem crun {α : Type} {own : List Nat} {t : Tg} {c : Dv → R Bool} {x : Dv → R D} {env : Dv} (f : α → D) (p : α → Bool) (g : α → D) (xs : List α) (hb : xs.length ≤ BIG) (hk : backE env (wipeE env own) own = env)
    (h : ∀ a ∈ xs, ∃ e1, bindTg t (f a) (wipeE env own) = some e1 ∧ c e1 = .ok (p a) e1 ∧ (p a = true → x e1 = .ok (g a) e1) ∧ wipeE e1 own = wipeE env own) : compRun own t c x (xs.map f) env = .ok (.lst ((xs.filter p).map g)) env := by
  unfold compRun
  rw [comp_pure f p g xs [] (by simpa using hb) h]
  simp [hk]
/-- no test -/
theorem crun1 {α : Type} {own : List Nat} {t : Tg} {cf : Str → List D → CR} {x : Dv → R D} {env : Dv} (f : α → D) (g : α → D) (xs : List α) (hb : xs.length ≤ BIG) (hk : backE env (wipeE env own) own = env)
    (h : ∀ a ∈ xs, ∃ e1, bindTg t (f a) (wipeE env own) = some e1 ∧ x e1 = .ok (g a) e1 ∧ wipeE e1 own = wipeE env own) : compRun own t (evC cf none) x (xs.map f) env = .ok (.lst (xs.map g)) env := by
  have := crun (own := own) (t := t) (c := evC cf none) (x := x) (env := env) f (fun _ => true) g xs hb hk fun a ha => by
    obtain ⟨e1, h1, h2, h3⟩ := h a ha
    exact ⟨e1, h1, rfl, fun _ => h2, h3⟩
  rw [this, List.filter_eq_self.mpr (by simp)]
theorem for_nil {t : Tg} {b : Dv → O} {env : Dv} : forLoop t b [] env = .nx env := id rfl
def nextF (t : Tg) (b : Dv → O) (ds : List D) (o : O) : O := match o with
  | .nx e => forLoop t b ds e
  | .ct e => forLoop t b ds e
  | .bk e => .nx e
  | o => o
def bindF (t : Tg) (b : Dv → O) (ds : List D) (o : Option Dv) : O := match o with
  | none => .stuck
  | some e => nextF t b ds (b e)
theorem for_cons {t : Tg} {b : Dv → O} {d : D} {ds : List D} {env : Dv} : forLoop t b (d :: ds) env = bindF t b ds (bindTg t d env) := by
  rw [forLoop]
  cases bindTg t d env with
  | none => rfl
  | some e => rfl
theorem f_b {t : Tg} {b : Dv → O} {ds : List D} {e : Dv} : bindF t b ds (some e) = nextF t b ds (b e) := id rfl
theorem f_nx {t : Tg} {b : Dv → O} {ds : List D} {e : Dv} : nextF t b ds (.nx e) = forLoop t b ds e := id rfl
theorem f_ct {t : Tg} {b : Dv → O} {ds : List D} {e : Dv} : nextF t b ds (.ct e) = forLoop t b ds e := id rfl
theorem f_bk {t : Tg} {b : Dv → O} {ds : List D} {e : Dv} : nextF t b ds (.bk e) = .nx e := id rfl
theorem f_rt {t : Tg} {b : Dv → O} {ds : List D} {e : Dv} {d : D} : nextF t b ds (.rt d e) = .rt d e := id rfl
theorem rangeL_succ (lo : Int) (n : Nat) : rangeL lo (n + 1) = .int lo :: rangeL (lo + 1) n := by
  unfold rangeL
  rw [List.range_succ_eq_map, List.map_cons, List.map_map]
  congr 1
  · simp
  · refine List.map_congr_left fun i _ => ?_
    simp only [Function.comp, Nat.succ_eq_add_one]
    congr 1
    omega
theorem rangeL_zero (lo : Int) : rangeL lo 0 = [] := id rfl
theorem rngD_nat {k : Nat} (h : k < 4611686018427387904) : rngD (.int k) = some (rangeL 0 k) := by
  have : smallI (k : Int) = true := by simp [smallI]; omega
  unfold rngD
  simp only [this, if_true, Int.toNat_natCast]
theorem range_map (k : Nat) : rangeL 0 k = (List.range k).map fun i => .int ((i : Nat) : Int) := by
  unfold rangeL
  refine List.map_congr_left fun i _ => ?_
  simp
theorem t_nm {i : Nat} {d : D} {env : Dv} : bindTg (.nm i) d env = some (env.set i (some d)) := id rfl
theorem t_tp2 {i j : Nat} {a b : D} {env : Dv} : bindTg (.tp [i, j]) (.tup [a, b]) env = some ((env.set i (some a)).set j (some b)) := id rfl
theorem t_tp2L {i j : Nat} {a b : D} {env : Dv} : bindTg (.tp [i, j]) (.lst [a, b]) env = some ((env.set i (some a)).set j (some b)) := id rfl
theorem t_tp3 {i j k : Nat} {a b c : D} {env : Dv} : bindTg (.tp [i, j, k]) (.tup [a, b, c]) env = some (((env.set i (some a)).set j (some b)).set k (some c)) := id rfl
theorem t_int (i : Int) : (D.int i).truth = some (i != 0) := id rfl
theorem t_lst (l : List D) : (D.lst l).truth = some (!l.isEmpty) := id rfl
theorem t_tup (l : List D) : (D.tup l).truth = some (!l.isEmpty) := id rfl
theorem t_str (x : Str) : (D.str x).truth = some (x.length != 0) := id rfl
theorem t_non : D.non.truth = some false := id rfl
theorem fl_int {n : Nat} (i : Int) : flat n (.int i) = true := by cases n <;> rfl
theorem fl_str {n : Nat} (i : Str) : flat n (.str i) = true := by cases n <;> rfl
theorem fl_bl {n : Nat} (i : Bool) : flat n (.bl i) = true := by cases n <;> rfl
theorem fl_non {n : Nat} : flat n .non = true := by cases n <;> rfl
theorem fl_strT {n : Nat} (l : List Str) : flat (n + 1) (.tup (l.map .str)) = true := by
  show (l.map D.str).all (flat n) = true
  rw [List.all_eq_true]
  intro d hd
  obtain ⟨x, _, rfl⟩ := List.mem_map.mp hd
  exact fl_str x
theorem fa_nil {env : Dv} : flatAt env [] = true := id rfl
theorem g_dct (l : List (L2.Key × D)) (a : Str) (d : D) : getD (.dct l) (.str a) d = some ((dget l (.inr a)).getD d) := id rfl
theorem isa_lt_n : isa ["list", "tuple"] .non = false := by simp [isa, isa1, tyOf]
theorem isa_lt_b (b : Bool) : isa ["list", "tuple"] (.bl b) = false := by simp [isa, isa1, tyOf]
theorem isa_lt_i (i : Int) : isa ["list", "tuple"] (.int i) = false := by simp [isa, isa1, tyOf]
theorem isa_lt_s (x : Str) : isa ["list", "tuple"] (.str x) = false := by simp [isa, isa1, tyOf]
theorem isa_lt_t (l : List D) : isa ["list", "tuple"] (.tup l) = true := by simp [isa, isa1, tyOf]
theorem isa_lt_l (l : List D) : isa ["list", "tuple"] (.lst l) = true := by simp [isa, isa1, tyOf]
theorem isa_l_n : isa ["list"] .non = false := by simp [isa, isa1, tyOf]
theorem isa_l_b (b : Bool) : isa ["list"] (.bl b) = false := by simp [isa, isa1, tyOf]
theorem isa_l_i (i : Int) : isa ["list"] (.int i) = false := by simp [isa, isa1, tyOf]
theorem isa_l_s (x : Str) : isa ["list"] (.str x) = false := by simp [isa, isa1, tyOf]
theorem isa_l_t (l : List D) : isa ["list"] (.tup l) = false := by simp [isa, isa1, tyOf]
theorem isa_l_l (l : List D) : isa ["list"] (.lst l) = true := by simp [isa, isa1, tyOf]
theorem isa_t_n : isa ["tuple"] .non = false := by simp [isa, isa1, tyOf]
theorem isa_t_b (b : Bool) : isa ["tuple"] (.bl b) = false := by simp [isa, isa1, tyOf]
theorem isa_t_i (i : Int) : isa ["tuple"] (.int i) = false := by simp [isa, isa1, tyOf]
theorem isa_t_s (x : Str) : isa ["tuple"] (.str x) = false := by simp [isa, isa1, tyOf]
theorem isa_t_t (l : List D) : isa ["tuple"] (.tup l) = true := by simp [isa, isa1, tyOf]
theorem isa_t_l (l : List D) : isa ["tuple"] (.lst l) = false := by simp [isa, isa1, tyOf]
theorem isa_s_n : isa ["str"] .non = false := by simp [isa, isa1, tyOf]
theorem isa_s_b (b : Bool) : isa ["str"] (.bl b) = false := by simp [isa, isa1, tyOf]
theorem isa_s_i (i : Int) : isa ["str"] (.int i) = false := by simp [isa, isa1, tyOf]
theorem isa_s_s (x : Str) : isa ["str"] (.str x) = true := by simp [isa, isa1, tyOf]
theorem isa_s_t (l : List D) : isa ["str"] (.tup l) = false := by simp [isa, isa1, tyOf]
theorem isa_s_l (l : List D) : isa ["str"] (.lst l) = false := by simp [isa, isa1, tyOf]
theorem isa_i_n : isa ["int"] .non = false := by simp [isa, isa1, tyOf]
theorem isa_i_b (b : Bool) : isa ["int"] (.bl b) = true := by simp [isa, isa1, tyOf]
theorem isa_i_i (i : Int) : isa ["int"] (.int i) = true := by simp [isa, isa1, tyOf]
theorem isa_i_s (x : Str) : isa ["int"] (.str x) = false := by simp [isa, isa1, tyOf]
theorem isa_i_t (l : List D) : isa ["int"] (.tup l) = false := by simp [isa, isa1, tyOf]
theorem isa_i_l (l : List D) : isa ["int"] (.lst l) = false := by simp [isa, isa1, tyOf]
theorem isa_b_n : isa ["bool"] .non = false := by simp [isa, isa1, tyOf]
theorem isa_b_b (b : Bool) : isa ["bool"] (.bl b) = true := by simp [isa, isa1, tyOf]
theorem isa_b_i (i : Int) : isa ["bool"] (.int i) = false := by simp [isa, isa1, tyOf]
theorem isa_b_s (x : Str) : isa ["bool"] (.str x) = false := by simp [isa, isa1, tyOf]
theorem isa_b_t (l : List D) : isa ["bool"] (.tup l) = false := by simp [isa, isa1, tyOf]
theorem isa_b_l (l : List D) : isa ["bool"] (.lst l) = false := by simp [isa, isa1, tyOf]
theorem o_is_n : op2 .is .non .non = some (.bl true) := id rfl
theorem o_isn_n : op2 .isnot .non .non = some (.bl false) := id rfl
theorem o_is_b (b : Bool) : op2 .is (.bl b) .non = some (.bl false) := id rfl
theorem o_isn_b (b : Bool) : op2 .isnot (.bl b) .non = some (.bl true) := id rfl
theorem o_is_i (i : Int) : op2 .is (.int i) .non = some (.bl false) := id rfl
theorem o_isn_i (i : Int) : op2 .isnot (.int i) .non = some (.bl true) := id rfl
theorem o_is_s (x : Str) : op2 .is (.str x) .non = some (.bl false) := id rfl
theorem o_isn_s (x : Str) : op2 .isnot (.str x) .non = some (.bl true) := id rfl
theorem o_is_t (l : List D) : op2 .is (.tup l) .non = some (.bl false) := id rfl
theorem o_isn_t (l : List D) : op2 .isnot (.tup l) .non = some (.bl true) := id rfl
theorem o_is_l (l : List D) : op2 .is (.lst l) .non = some (.bl false) := id rfl
theorem o_isn_l (l : List D) : op2 .isnot (.lst l) .non = some (.bl true) := id rfl
theorem allO_bl {α : Type} (f : α → Bool) : ∀ xs : List α, allO isB (xs.map fun a => D.bl (f a)) = some (xs.map f)
  | [] => rfl
  | a :: xs => by simp [allO, isB, allO_bl f xs]
theorem o_all {α : Type} (f : α → Bool) (xs : List α) : op1 .all (.lst (xs.map fun a => D.bl (f a))) = some (.bl (xs.all f)) := by
  show (allO isB (xs.map fun a => D.bl (f a))).map _ = _
  rw [allO_bl]
  simp [List.all_map, Function.comp_def]
theorem o_any {α : Type} (f : α → Bool) (xs : List α) : op1 .any (.lst (xs.map fun a => D.bl (f a))) = some (.bl (xs.any f)) := by
  show (allO isB (xs.map fun a => D.bl (f a))).map _ = _
  rw [allO_bl]
  simp [List.any_map, Function.comp_def]
/-- small data: no dict within, n deep at most -/
def sml : Nat → D → Bool
  | 0, .tup _ => false
  | 0, .lst _ => false
  | _, .dct _ => false
  | _, .scr _ => false
  | _, .obj _ _ => false
  | _, .dctL _ => false
  | n + 1, .tup l => decide (l.length ≤ 1000) && l.all (sml n)
  | n + 1, .lst l => decide (l.length ≤ 1000) && l.all (sml n)
  | _, _ => true
theorem sml_int {n : Nat} (i : Int) : sml n (.int i) = true := by cases n <;> rfl
theorem sml_str {n : Nat} (i : Str) : sml n (.str i) = true := by cases n <;> rfl
theorem sml_bl {n : Nat} (i : Bool) : sml n (.bl i) = true := by cases n <;> rfl
theorem sml_non {n : Nat} : sml n .non = true := by cases n <;> rfl
theorem sml_all {α : Type} (c : α → D) {n : Nat} (l : List α) (hl : l.length ≤ 1000) (h : ∀ a ∈ l, sml n (c a) = true) : sml (n + 1) (.tup (l.map c)) = true ∧ sml (n + 1) (.lst (l.map c)) = true := by
  have : (decide ((l.map c).length ≤ 1000) && (l.map c).all (sml n)) = true := by
    rw [Bool.and_eq_true]
    refine ⟨by simpa using hl, ?_⟩
    rw [List.all_eq_true]
    intro d hd
    obtain ⟨a, ha, rfl⟩ := List.mem_map.mp hd
    exact h a ha
  exact ⟨this, this⟩
theorem sml_strT {n : Nat} {l : List Str} (h : l.length ≤ 1000) : sml (n + 1) (.tup (l.map .str)) = true := (sml_all _ l h fun a _ => sml_str a).1
theorem sml_strL {n : Nat} {l : List Str} (h : l.length ≤ 1000) : sml (n + 1) (.lst (l.map .str)) = true := (sml_all _ l h fun a _ => sml_str a).2
theorem sml_l2 {n : Nat} {a b : D} (ha : sml n a = true) (hb : sml n b = true) : sml (n + 1) (.lst [a, b]) = true := by
  show (decide ([a, b].length ≤ 1000) && [a, b].all (sml n)) = true
  simp [ha, hb]
theorem sml_nilL {n : Nat} : sml (n + 1) (.lst []) = true := id rfl
theorem zip_self (l : List D) : zipL l l = l.map fun a => .tup [a, a] := by
  unfold zipL
  induction l with
  | nil => rfl
  | cons a l ih => simp only [List.zip_cons_cons, List.map_cons, ih]
theorem zipD_tt (l m : List D) : zipD (.tup l) (.tup m) = some (zipL l m) := id rfl
theorem zipD_ll (l m : List D) : zipD (.lst l) (.lst m) = some (zipL l m) := id rfl
section
variable {cf : Str → List D → CR} {wf : Nat} {env e : Dv}
def kPick (k : Nat) (x : D) (e : Dv) : R D := liftO (pickD k x) e
theorem z_pick {k : Nat} {o : Sh} {a : E} : ev cf (.pick k o a) env = bindR (ev cf a env) (kPick k) := id rfl
theorem k_pick {k : Nat} {x : D} : kPick k x e = liftO (pickD k x) e := id rfl
theorem pk_0 {x y : D} : pickD 0 (.tup [x, y]) = some x := id rfl
theorem pk_1 {x y : D} : pickD 1 (.tup [x, y]) = some y := id rfl
def kAsgP (i j : Nat) (d : D) (e : Dv) : O := nxO (pairSet i j d e)
theorem s_asgP {i j : Nat} {a : E} : exe cf wf (.asgP i j a) env = bindO (ev cf a env) (kAsgP i j) := id rfl
theorem k_asgP {i j : Nat} {d : D} : kAsgP i j d e = nxO (pairSet i j d e) := id rfl
theorem ps_2 {i j : Nat} {x y : D} : pairSet i j (.tup [x, y]) e = some ((e.set i (some x)).set j (some y)) := id rfl
theorem o_mulT0 {x : D} {l : List D} : op2 .mul (.tup (x :: l)) (.int 0) = some (.tup []) := id rfl
theorem o_mulT1 {x : D} {l : List D} : op2 .mul (.tup (x :: l)) (.int 1) = some (.tup (x :: l)) := id rfl
theorem wh_nx {c : Dv → R Bool} {b : Dv → O} {n : Nat} {e1 e2 : Dv} (h : c env = .ok true e1) (hb : b e1 = .nx e2) : whileLoop c b (n + 1) env = whileLoop c b n e2 := by
  rw [whileLoop]
  simp only [h, hb]
theorem wh_rt {c : Dv → R Bool} {b : Dv → O} {n : Nat} {e1 e2 : Dv} {d : D} (h : c env = .ok true e1) (hb : b e1 = .rt d e2) : whileLoop c b (n + 1) env = .rt d e2 := by
  rw [whileLoop]
  simp only [h, hb]
theorem wh_end {c : Dv → R Bool} {b : Dv → O} {n : Nat} {e1 : Dv} (h : c env = .ok false e1) : whileLoop c b (n + 1) env = .nx e1 := by
  rw [whileLoop]
  simp only [h]
end
section
variable {cf : Str → List D → CR} {wf : Nat} {env e : Dv}
def kDc (cf : Str → List D → CR) (own : List Nat) (t : Tg) (c : Option E) (k v : E) (l : List D) (e : Dv) : R D := compRunD own t (evC cf c) (ev cf k) (ev cf v) l e
theorem z_dc {own : List Nat} {t : Tg} {it : It} {c : Option E} {k v : E} : ev cf (.dc own t it c k v) env = bindR (evIt cf it env) (kDc cf own t c k v) := id rfl
theorem k_dc {own : List Nat} {t : Tg} {c : Option E} {k v : E} {l : List D} : kDc cf own t c k v l e = compRunD own t (evC cf c) (ev cf k) (ev cf v) l e := id rfl
theorem putD_new {l : List (L2.Key × D)} {k : L2.Key} {x : D} (h : k ∉ l.map (·.1)) : putD l k x = l ++ [(k, x)] := by
  unfold putD
  have : (dget l k).isSome = false := by
    cases q : (dget l k).isSome with
    | false => rfl
    | true => exact absurd (dget_keys.mp q) h
  rw [this]
  rfl
theorem dcomp_pure {α : Type} {own : List Nat} {t : Tg} {c : Dv → R Bool} {kx vx : Dv → R D} (f : α → D) (p : α → Bool) (kd vl : α → D) (ky : α → L2.Key) (hk : ∀ a, keyOf (kd a) = some (ky a)) : ∀ (xs : List α) (acc : List (L2.Key × D)), acc.length + xs.length ≤ BIG → (acc.map (·.1) ++ xs.map ky).Nodup →
    (∀ a ∈ xs, ∃ e1, bindTg t (f a) env = some e1 ∧ c e1 = .ok (p a) e1 ∧ (p a = true → kx e1 = .ok (kd a) e1 ∧ vx e1 = .ok (vl a) e1) ∧ wipeE e1 own = env) → compLoopD own t c kx vx (xs.map f) env acc = .ok (acc ++ (xs.filter p).map fun a => (ky a, vl a)) env
  | [], acc, _, _, _ => by simp [compLoopD]
  | a :: xs, acc, hb, nd, h => by
    obtain ⟨e1, h1, h2, h3, h4⟩ := h a List.mem_cons_self
    rw [List.map_cons]
    unfold compLoopD
    simp only [h1, h2]
    rw [List.map_cons] at nd
    cases hp : p a with
    | true =>
      obtain ⟨h5, h6⟩ := h3 hp
      have hn : ky a ∉ acc.map (·.1) := fun hm => by
        rw [List.nodup_append] at nd
        exact nd.2.2 _ hm _ List.mem_cons_self rfl
      simp only [h5, h6, hk]
      rw [if_pos (by simp at hb; omega), h4, putD_new hn, dcomp_pure f p kd vl ky hk xs (acc ++ [(ky a, vl a)]) (by simp at hb ⊢; omega) (by simpa using nd) fun b hb => h b (List.mem_cons_of_mem _ hb), List.filter_cons_of_pos hp]
      simp
    | false =>
      show compLoopD own t c kx vx (xs.map f) (wipeE e1 own) acc = _
      rw [h4, dcomp_pure f p kd vl ky hk xs acc (by simp at hb ⊢; omega) (by
        refine nd.sublist ?_
        exact List.Sublist.append_left (List.sublist_cons_self _ _) _) fun b hb => h b (List.mem_cons_of_mem _ hb), List.filter_cons_of_neg (by simp [hp])]
theorem dcrun {α : Type} {own : List Nat} {t : Tg} {c : Dv → R Bool} {kx vx : Dv → R D} (f : α → D) (p : α → Bool) (kd vl : α → D) (ky : α → L2.Key) (hk : ∀ a, keyOf (kd a) = some (ky a)) (xs : List α) (hb : xs.length ≤ BIG) (nd : (xs.map ky).Nodup) (hbk : backE env (wipeE env own) own = env)
    (h : ∀ a ∈ xs, ∃ e1, bindTg t (f a) (wipeE env own) = some e1 ∧ c e1 = .ok (p a) e1 ∧ (p a = true → kx e1 = .ok (kd a) e1 ∧ vx e1 = .ok (vl a) e1) ∧ wipeE e1 own = wipeE env own) : compRunD own t c kx vx (xs.map f) env = .ok (.dct ((xs.filter p).map fun a => (ky a, vl a))) env := by
  unfold compRunD
  rw [dcomp_pure f p kd vl ky hk xs [] (by simpa using hb) (by simpa using nd) h]
  simp [hbk]
theorem dget_idx (a : Str) : ∀ (l : List Str) (k : Nat), dget ((l.zipIdx k).map fun p => ((.inr p.1 : L2.Key), D.int p.2)) (.inr a) = if a ∈ l then some (.int ((k + l.idxOf a : Nat) : Int)) else none
  | [], k => rfl
  | x :: l, k => by
    unfold dget
    rw [List.zipIdx_cons, List.map_cons, List.find?_cons]
    by_cases h : x = a
    · subst h
      simp
    · have h2 : decide ((Sum.inr x : L2.Key) = .inr a) = false := by simp [h]
      have h' : ¬ a = x := fun e => h e.symm
      simp only [h2]
      have := dget_idx a l (k + 1)
      unfold dget at this
      rw [this]
      have h3 : (a ∈ x :: l) ↔ a ∈ l := by simp [h']
      by_cases hm : a ∈ l
      · have hb : (x == a) = false := by simp [h]
        rw [if_pos hm, if_pos (h3.mpr hm), List.idxOf_cons, hb]
        simp only [cond_false]
        congr 3
        omega
      · rw [if_neg hm, if_neg (fun q => hm (h3.mp q))]
theorem o_ixD (l : List (L2.Key × D)) (a : Str) : op2 .ix (.dct l) (.str a) = dget l (.inr a) := id rfl
end
theorem io_n : isObj .non = false := id rfl
theorem io_b {b : Bool} : isObj (.bl b) = false := id rfl
theorem io_i {b : Int} : isObj (.int b) = false := id rfl
theorem io_s {b : Str} : isObj (.str b) = false := id rfl
theorem io_t {b : List D} : isObj (.tup b) = false := id rfl
theorem io_l {b : List D} : isObj (.lst b) = false := id rfl
theorem io_d {b : List (L2.Key × D)} : isObj (.dct b) = false := id rfl
section
variable {cf : Str → List D → CR} {wf : Nat} {env e : Dv}
/-! ### objects, locks, walks of dicts -/
def kFld (c : Str) (k : Nat) (x : D) (e : Dv) : R D := liftO (fldD c k x) e
theorem z_fld {c : Str} {k : Nat} {a : E} : ev cf (.fld c k a) env = bindR (ev cf a env) (kFld c k) := id rfl
theorem k_fld {c : Str} {k : Nat} {x : D} : kFld c k x e = liftO (fldD c k x) e := id rfl
theorem fd_o {c : Str} {k : Nat} {l : List (Option D)} : fldD c k (.obj c l) = (l[k]?).getD none := by simp [fldD]
def fldV (o : Option (Option D)) (k : Nat) : Option D := match o with
  | some (some (.obj _ l)) => (l[k]?).getD none
  | _ => none
theorem z_fldM {i k : Nat} : ev cf (.fldM i k) env = liftO (fldV env[i]? k) env := id rfl
theorem f_e {i k : Nat} : fldE i k env = fldV env[i]? k := id rfl
theorem fv_o {c : Str} {l : List (Option D)} {k : Nat} : fldV (some (some (.obj c l))) k = (l[k]?).getD none := id rfl
def kMc3 (cf : Str → List D → CR) (f : Str) (r : E) (as : List E) (ds : List D) (e : Dv) : R D := callR (r :: as) e (cf f ds)
def kMc2 (cf : Str → List D → CR) (f : Str) (r : E) (as : List E) (x : D) (ds : List D) (e : Dv) : R D := bindR (liftO (resolve (r :: as) (x :: ds) e) e) (kMc3 cf f r as)
def kMc (cf : Str → List D → CR) (c f : Str) (r : E) (as : List E) (x : D) (e : Dv) : R D := bif isRf r || isCls c x then bindR (evs cf as e) (kMc2 cf f r as x) else .stuck
theorem z_mcall {c f : Str} {r : E} {as : List E} : ev cf (.mcall c f r as) env = bindR (ev cf r env) (kMc cf c f r as) := id rfl
theorem k_mc {c f : Str} {r : E} {as : List E} {x : D} : kMc cf c f r as x e = bif isRf r || isCls c x then bindR (evs cf as e) (kMc2 cf f r as x) else .stuck := id rfl
theorem k_mc2 {f : Str} {r : E} {as : List E} {x : D} {ds : List D} : kMc2 cf f r as x ds e = bindR (liftO (resolve (r :: as) (x :: ds) e) e) (kMc3 cf f r as) := id rfl
theorem k_mc3 {f : Str} {r : E} {as : List E} {ds : List D} : kMc3 cf f r as ds e = callR (r :: as) e (cf f ds) := id rfl
theorem rc_ok {as : List E} {d : D} {ds : List D} : callR as e (.ok d ds) = .ok d (writeBack as ds e) := id rfl
theorem rf_m {i : Nat} : isRf (.mref i) = true := id rfl
theorem ic_o {c : Str} {l : List (Option D)} : isCls c (.obj c l) = true := by simp [isCls]
def kNew (cf : Str → List D → CR) (c f : Str) (ds : List D) (e : Dv) : R D := newR e (cf f (.obj c [] :: ds))
theorem z_new {c f : Str} {as : List E} : ev cf (.new c f as) env = bindR (evs cf as env) (kNew cf c f) := id rfl
theorem k_new {c f : Str} {ds : List D} : kNew cf c f ds e = newR e (cf f (.obj c [] :: ds)) := id rfl
theorem nw_ok {s : D} {ds : List D} : newR e (.ok .non (s :: ds)) = .ok s e := id rfl
def lendLR (r : R D) (env : Dv) (ms : List Nat) : R D := match r with
  | .ok d e => bif flatL d && flatAt e ms then .ok d (backE e env ms) else .stuck
  | _ => .stuck
theorem z_lendL {ls hs ms : List Nat} {a : E} : ev cf (.lendL ls hs ms a) env = lendLR (ev cf a (wipeE env hs)) env ms := id rfl
theorem z_ldL {d : D} {ms : List Nat} : lendLR (.ok d e) env ms = bif flatL d && flatAt e ms then .ok d (backE e env ms) else .stuck := id rfl
theorem fl_L {l : List D} : flatL (.lst l) = l.all (flat 40) := id rfl
theorem all_str (l : List Str) : (l.map D.str).all (flat 40) = true := by
  rw [List.all_map, List.all_eq_true]
  intro x _
  rfl
def kRev (x : D) (e : Dv) : R D := liftO (revD x) e
theorem z_rev {a : E} : ev cf (.rev a) env = bindR (ev cf a env) kRev := id rfl
theorem k_rev {x : D} : kRev x e = liftO (revD x) e := id rfl
theorem rv_l {l : List D} : revD (.lst l) = some (.lst l.reverse) := id rfl
def kLock (x : D) (e : Dv) : R D := liftO (lockD x) e
theorem z_lock {a : E} : ev cf (.lock a) env = bindR (ev cf a env) kLock := id rfl
theorem k_lock {x : D} : kLock x e = liftO (lockD x) e := id rfl
theorem lc_d {l : List (L2.Key × D)} : lockD (.dct l) = some (.dctL l) := id rfl
def kAddL (cf : Str → List D → CR) (b : E) (x : D) (e : Dv) : R D := bindR (ev cf b e) fun y e' => liftO (catD x y) e'
def kAddL2 (x y : D) (e : Dv) : R D := liftO (catD x y) e
theorem z_addL {a b : E} : ev cf (.addL a b) env = bindR (ev cf a env) (kAddL cf b) := id rfl
theorem k_addL {b : E} {x : D} : kAddL cf b x e = bindR (ev cf b e) (kAddL2 x) := id rfl
theorem k_addL2 {x y : D} : kAddL2 x y e = liftO (catD x y) e := id rfl
theorem cat_l {l m : List D} (h : l.length + m.length ≤ BIG) : catD (.lst l) (.lst m) = some (.lst (l ++ m)) := by simp [catD, h]
def kIxM (i : Nat) (x : D) (e : Dv) : R D := liftO (ixE e i x) e
theorem z_ixM {i : Nat} {a : E} : ev cf (.ixM i a) env = bif isDctE env i then bindR (ev cf a env) (kIxM i) else .stuck := id rfl
theorem k_ixM {i : Nat} {x : D} : kIxM i x e = liftO (ixE e i x) e := id rfl
def isDV (o : Option (Option D)) : Bool := match o with
  | some (some (.dct _)) => true
  | _ => false
def ixV (o : Option (Option D)) (a : Str) : Option D := match o with
  | some (some (.dct l)) => dget l (.inr a)
  | _ => none
theorem isd_e {i : Nat} : isDctE env i = isDV env[i]? := by
  unfold isDctE dctE isDV
  generalize env[i]? = o
  rcases o with _ | _ | d <;> first | rfl | (cases d <;> rfl)
theorem isd_o {l : List (L2.Key × D)} : isDV (some (some (.dct l))) = true := id rfl
theorem ixv_e {i : Nat} {a : Str} : ixE env i (.str a) = ixV env[i]? a := by
  unfold ixE dctE ixV
  generalize env[i]? = o
  rcases o with _ | _ | d <;> first | rfl | (cases d <;> rfl)
theorem ixv_o {l : List (L2.Key × D)} {a : Str} : ixV (some (some (.dct l))) a = dget l (.inr a) := id rfl
def kKeys (x : D) (e : Dv) : R (List D) := liftO (keysD x) e
theorem z_keys {a : E} : evIt cf (.keys a) env = bindR (ev cf a env) kKeys := id rfl
theorem k_keys {x : D} : kKeys x e = liftO (keysD x) e := id rfl
def kItems (x : D) (e : Dv) : R (List D) := liftO (itemsD x) e
theorem z_items {a : E} : evIt cf (.items a) env = bindR (ev cf a env) kItems := id rfl
theorem k_items {x : D} : kItems x e = liftO (itemsD x) e := id rfl
theorem ky_L {l : List (L2.Key × D)} : keysD (.dctL l) = some (l.map fun p => kD p.1) := keysD_eq
theorem it_L {l : List (L2.Key × D)} : itemsD (.dctL l) = some (l.map fun p => .tup [kD p.1, p.2]) := itemsD_eq
theorem o_in_dctL (a : Str) (l : List (L2.Key × D)) : op2 .isin (.str a) (.dctL l) = some (.bl (dget l (.inr a)).isSome) := id rfl
theorem o_nin_dctL (a : Str) (l : List (L2.Key × D)) : op2 .notin (.str a) (.dctL l) = some (.bl (!(dget l (.inr a)).isSome)) := id rfl
theorem o_ixDL (l : List (L2.Key × D)) (a : Str) : op2 .ix (.dctL l) (.str a) = dget l (.inr a) := id rfl
theorem o_lenD (l : List (L2.Key × D)) : op1 .len (.dct l) = some (.int l.length) := id rfl
theorem o_lenDL (l : List (L2.Key × D)) : op1 .len (.dctL l) = some (.int l.length) := id rfl
theorem t_nst {i j k : Nat} {a b c : D} : bindTg (.nst i j k) (.tup [.tup [a, b], c]) env = some (((env.set i (some a)).set j (some b)).set k (some c)) := id rfl
theorem o_sign (c : Nat) (z : Str) : op2 .isin (.str ⟨#[c]⟩) (.str z) = some (.bl (decide (c ∈ z.cps.toList))) := id rfl
theorem o_lensetT (xs : List Str) (h : xs.length ≤ 1000) : op1 .lenset (.tup (xs.map .str)) = some (.int (nubS xs).length) := by
  show lensetD (.tup (xs.map .str)) = some (.int (nubS xs).length)
  have e : allO isS (xs.map D.str) = some xs := by
    clear h
    induction xs with
    | nil => rfl
    | cons x xs ih => simp [allO, isS, ih]
  simp only [lensetD, List.length_map, if_pos h, e, Option.map_some]
theorem o_lensetL (xs : List Str) (h : xs.length ≤ 1000) : op1 .lenset (.lst (xs.map .str)) = some (.int (nubS xs).length) := by
  show lensetD (.lst (xs.map .str)) = some (.int (nubS xs).length)
  have e : allO isS (xs.map D.str) = some xs := by
    clear h
    induction xs with
    | nil => rfl
    | cons x xs ih => simp [allO, isS, ih]
  simp only [lensetD, List.length_map, if_pos h, e, Option.map_some]
theorem nub_self {l : List Str} (h : l.Nodup) : nubS l = l := by
  induction l with
  | nil => rfl
  | cons x l ih =>
    rw [List.nodup_cons] at h
    unfold nubS
    rw [if_neg h.1, ih h.2]
/-! statements -/
def putFV (o : Option (Option D)) (env : Dv) (i k : Nat) (f : Option D → Option D) : Option Dv := match o with
  | some (some (.obj c l)) => (f ((l[k]?).getD none)).map fun d => env.set i (some (.obj c (setP l k d)))
  | _ => none
theorem pf_e {i k : Nat} {f : Option D → Option D} : putFE env i k f = putFV env[i]? env i k f := by
  unfold putFE putFV objAt
  split <;> (rename_i h; split at h <;> simp_all)
theorem pf_o {c : Str} {l : List (Option D)} {i k : Nat} {f : Option D → Option D} : putFV (some (some (.obj c l))) env i k f = (f ((l[k]?).getD none)).map fun d => env.set i (some (.obj c (setP l k d))) := id rfl
theorem sp_n0 {d : D} : setP [] 0 d = [some d] := id rfl
theorem sp_ns {k : Nat} {d : D} : setP [] (k + 1) d = none :: setP [] k d := id rfl
theorem sp_c0 {o : Option D} {l : List (Option D)} {d : D} : setP (o :: l) 0 d = some d :: l := id rfl
theorem sp_cs {o : Option D} {l : List (Option D)} {k : Nat} {d : D} : setP (o :: l) (k + 1) d = o :: setP l k d := id rfl
def kSetF (i k : Nat) (d : D) (e : Dv) : O := nxO (putFE e i k fun _ => some d)
theorem s_setF {i k : Nat} {a : E} : exe cf wf (.setF i k a) env = bindO (ev cf a env) (kSetF i k) := id rfl
theorem k_setF {i k : Nat} {d : D} : kSetF i k d e = nxO (putFE e i k fun _ => some d) := id rfl
def kAppF (i k : Nat) (d : D) (e : Dv) : O := nxO (putFE e i k (appV d))
theorem s_appF {i k : Nat} {a : E} : exe cf wf (.appF i k a) env = guardO cf (fldE i k env).isNone a env (kAppF i k) := id rfl
theorem k_appF {i k : Nat} {d : D} : kAppF i k d e = nxO (putFE e i k (appV d)) := id rfl
theorem av_l {d : D} {l : List D} (h : l.length < BIG) : appV d (some (.lst l)) = some (.lst (l ++ [d])) := by simp [appV, h]
def kSetDF2 (i k : Nat) (d x : D) (e : Dv) : O := nxO (putFE e i k (setV x d))
def kSetDF (cf : Str → List D → CR) (i k : Nat) (j : E) (d : D) (e : Dv) : O := guardO cf (fldE i k e).isNone j e (kSetDF2 i k d)
theorem s_setDF {i k : Nat} {j a : E} : exe cf wf (.setDF i k j a) env = bindO (ev cf a env) (kSetDF cf i k j) := id rfl
theorem k_setDF {i k : Nat} {j : E} {d : D} : kSetDF cf i k j d e = guardO cf (fldE i k e).isNone j e (kSetDF2 i k d) := id rfl
theorem k_setDF2 {i k : Nat} {d x : D} : kSetDF2 i k d x e = nxO (putFE e i k (setV x d)) := id rfl
theorem sv_d {a : Str} {d : D} {l : List (L2.Key × D)} (h : l.length < BIG) : setV (.str a) d (some (.dct l)) = some (.dct (putD l (.inr a) d)) := by simp [setV, keyOf, h]
def kDelDF (i k : Nat) (x : D) (e : Dv) : O := nxO (putFE e i k (delV x))
theorem s_delDF {i k : Nat} {j : E} : exe cf wf (.delDF i k j) env = guardO cf (fldE i k env).isNone j env (kDelDF i k) := id rfl
theorem k_delDF {i k : Nat} {x : D} : kDelDF i k x e = nxO (putFE e i k (delV x)) := id rfl
theorem dv_d {a : Str} {l : List (L2.Key × D)} (h : (dget l (.inr a)).isSome = true) : delV (.str a) (some (.dct l)) = some (.dct (dropD l (.inr a))) := by simp [delV, keyOf, h]
def augR (cf : Str → List D → CR) (o : Option D) (i k : Nat) (p : Op2) (a : E) (env : Dv) : O := match o with
  | some x => bindO (ev cf a env) fun d env => nxO (putFE env i k fun _ => op2 p x d)
  | none => .stuck
def kAugF (i k : Nat) (p : Op2) (x d : D) (e : Dv) : O := nxO (putFE e i k fun _ => op2 p x d)
theorem s_augF {i k : Nat} {p : Op2} {a : E} : exe cf wf (.augF i k p a) env = augR cf (fldE i k env) i k p a env := id rfl
theorem au_s {i k : Nat} {p : Op2} {a : E} {x : D} : augR cf (some x) i k p a env = bindO (ev cf a env) (kAugF i k p x) := id rfl
theorem k_augF {i k : Nat} {p : Op2} {x d : D} : kAugF i k p x d e = nxO (putFE e i k fun _ => op2 p x d) := id rfl
def revR (o : Option (List D)) (i : Nat) (env : Dv) : O := match o with
  | some l => .nx (env.set i (some (.lst l.reverse)))
  | none => .stuck
theorem s_swp {i j : Nat} : exe cf wf (.swp i j) env = nxO (swpE env i j) := id rfl
theorem o_sortD {l : List (L2.Key × D)} {ks : List Str} (h : keysS (l.map (·.1)) = some ks) (hl : ks.length < 64) : op1 .sorted (.dct l) = some (.lst (sortL (ks.map .str))) := by
  show (match keysS (l.map (·.1)) with | some ks => if ks.length < 64 then some (D.lst (sortL (ks.map .str))) else none | none => none) = _
  rw [h]
  simp only [if_pos hl]
theorem s_appP {i : Nat} {x : Str} : exe cf wf (.appP i x) env = nxO ((appPV x env[i]?).map fun d => env.set i (some d)) := id rfl
theorem ap_p {x : Str} {a : D} {l : List D} (h : l.length < BIG) : appPV x (some (some (.tup [a, .lst l]))) = some (.tup [a, .lst (l ++ [.str x])]) := by
  simp only [appPV, if_pos h]
theorem s_revL {i : Nat} : exe cf wf (.revL i) env = revR (lstAt env i) i env := id rfl
theorem re_s {l : List D} {i : Nat} : revR (some l) i env = .nx (env.set i (some (.lst l.reverse))) := id rfl
end
theorem io_L {b : List (L2.Key × D)} : isObj (.dctL b) = false := id rfl
end Lw
namespace Lw
open Pv PySem
def b_friend_sets_1 : List S := [(.sdd 1 (.var 2) (.var 3) (.cst (.bl true))),
    (.sdd 1 (.var 3) (.var 2) (.cst (.bl true)))]
def bd_friend_sets : List S := [(.asgM 1 .dnew),
    (.fr (.tp [2, 3]) (.seq (.var 0)) b_friend_sets_1),
    (.ret (.mv 1))]
def d_friend_sets : Def where
  name := "friend_sets"
  py := "friend_sets"
  kwo := false
  pars := ["friends"]
  names := ["friends", "found", "one", "other"]
  muts := [(1, .dct (.dct .pure))]
  ret := .pure
  body := bd_friend_sets
  cls := none
def bd_are_friends : List S := [(.ret (.op2 .isin (.var 2) (.get (.call "friend_sets" [(.var 0)]) (.var 1) .dnew)))]
def d_are_friends : Def where
  name := "are_friends"
  py := "are_friends"
  kwo := false
  pars := ["friends", "one", "other"]
  names := ["friends", "one", "other"]
  muts := []
  ret := .pure
  body := bd_are_friends
  cls := none
def bd_friends_of : List S := [(.ret (.op1 .sorted (.get (.call "friend_sets" [(.var 0)]) (.var 1) .dnew)))]
def d_friends_of : Def where
  name := "friends_of"
  py := "friends_of"
  kwo := false
  pars := ["friends", "who"]
  names := ["friends", "who"]
  muts := []
  ret := .lst .pure
  body := bd_friends_of
  cls := none
def bd_law_box : List S := [(.asg (.nm 2) (.op2 .ix (.var 0) (.var 1))),
    (.ret (.lst [(.op2 .mul (.op1 .abs (.var 2)) (.op1 .int (.op2 .ge (.op1 .abs (.var 2)) (.op2 .pow (.cst (.int 10)) (.cst (.int 18)))))), (.op2 .add (.op2 .add (.op2 .mod (.var 2) (.cst (.int 2305843009213693951))) (.op2 .mul (.cst (.int 15485863)) (.var 1))) (.cst (.int 11))), (.cst (.int 0))]))]
def d_law_box : Def where
  name := "_law_box"
  py := "_law_box"
  kwo := false
  pars := ["_law_cells_here", "_law_k"]
  names := ["_law_cells_here", "_law_k", "_law_cell"]
  muts := []
  ret := .lst .pure
  body := bd_law_box
  cls := none
def bd_law_take : List S := [(.ife (.lend [0] [] [] (.op2 .gt (.op2 .ix (.var 0) (.cst (.int 0))) (.cst (.int 0)))) [(.asg (.nm 3) (.lend [0] [] [] (.op2 .mod (.op2 .ix (.var 0) (.cst (.int 0))) (.var 1)))),
    (.setL 0 (.cst (.int 0)) (.lend [0] [] [] (.op2 .fdiv (.op2 .ix (.var 0) (.cst (.int 0))) (.var 1)))),
    (.ret (.var 3))] []),
    (.setL 0 (.cst (.int 2)) (.lend [0] [] [] (.op2 .add (.op2 .ix (.var 0) (.cst (.int 2))) (.cst (.int 1))))),
    (.asg (.nm 2) (.lend [0] [] [] (.op2 .mod (.op2 .add (.op2 .ix (.var 0) (.cst (.int 1))) (.op2 .mul (.cst (.int 1442695040888963407)) (.op2 .ix (.var 0) (.cst (.int 2))))) (.cst (.int 2305843009213693951))))),
    (.asg (.nm 2) (.lend [0] [] [] (.op2 .mod (.op2 .add (.op2 .add (.op2 .mul (.var 2) (.var 2)) (.op2 .mul (.cst (.int 39373)) (.op2 .ix (.var 0) (.cst (.int 2))))) (.cst (.int 7))) (.cst (.int 2305843009213693921))))),
    (.asg (.nm 2) (.lend [0] [] [] (.op2 .mod (.op2 .add (.op2 .mul (.var 2) (.op2 .add (.op2 .fdiv (.var 2) (.cst (.int 65536))) (.cst (.int 3)))) (.op2 .ix (.var 0) (.cst (.int 2)))) (.cst (.int 2305843009213693907))))),
    (.ret (.op2 .mod (.op2 .fdiv (.var 2) (.cst (.int 1048576))) (.var 1)))]
def d_law_take : Def where
  name := "_law_take"
  py := "_law_take"
  kwo := false
  pars := ["_law_box_here", "_law_many"]
  names := ["_law_box_here", "_law_many", "_law_blend", "_law_found"]
  muts := [(0, .lst .pure)]
  ret := .pure
  body := bd_law_take
  cls := none
def b_law_cells_1 : List S := [(.setL 2 (.op2 .mod (.var 3) (.var 1)) (.lend [2] [] [] (.op2 .add (.op2 .ix (.var 2) (.op2 .mod (.var 3) (.var 1))) (.op2 .mul (.var 4) (.op2 .add (.var 3) (.cst (.int 2)))))))]
def bd_law_cells : List S := [(.asgM 2 (.or (.op1 .list (.slc (.var 0) none (some (.var 1)))) (.lst [(.cst (.int 0))]))),
    (.fr (.tp [3, 4]) (.enm (.slc (.var 0) (some (.var 1)) (some (.cst (.int 63))))) b_law_cells_1),
    (.ret (.mv 2))]
def d_law_cells : Def where
  name := "_law_cells"
  py := "_law_cells"
  kwo := false
  pars := ["_law_script", "_law_utmost"]
  names := ["_law_script", "_law_utmost", "_law_cells_here", "_law_k", "_law_cell"]
  muts := [(2, .lst .pure)]
  ret := .pure
  body := bd_law_cells
  cls := none
def e_law_names_1 : E := (.op2 .ix (.var 4) (.call "_law_take" [(.mref 0), (.cst (.int 26))]))
def b_law_names_2 : List S := [(.asg (.nm 9) (.op2 .sub (.op1 .len (.var 2)) (.op2 .mul (.var 8) (.op2 .mod (.var 3) (.cst (.int 3)))))),
    (.asg (.nm 10) (.op2 .add (.slc (.var 2) none (some (.var 9))) (.op2 .ix (.var 4) (.op2 .mod (.op2 .add (.var 5) (.op2 .mul (.var 7) (.var 3))) (.cst (.int 26)))))),
    (.ins 6 (.lend [6] [] [0] (.call "_law_take" [(.mref 0), (.op2 .add (.op1 .len (.var 6)) (.cst (.int 1)))])) (.var 10))]
def bd_law_names : List S := [(.parT [4, 5, 6] [(.cst (.str "abcdefghijklmnopqrstuvwxyz")), (.call "_law_take" [(.mref 0), (.cst (.int 26))]), (.own (.lst []))]),
    (.asg (.nm 2) (.meth .join (.cst (.str "")) (.lc [11] (.nm 11) (.rng (.call "_law_take" [(.mref 0), (.cst (.int 8))])) none e_law_names_1))),
    (.par [7, 8] [(.op2 .ix (.lst [(.cst (.int 1)), (.cst (.int 3)), (.cst (.int 7)), (.cst (.int 25))]) (.call "_law_take" [(.mref 0), (.cst (.int 4))])), (.op1 .int (.op2 .eq (.op2 .mod (.var 5) (.cst (.int 4))) (.cst (.int 3))))]),
    (.fr (.nm 3) (.rng (.var 1)) b_law_names_2),
    (.ret (.mv 6))]
def d_law_names : Def where
  name := "_law_names"
  py := "_law_names"
  kwo := false
  pars := ["_law_box_here", "_law_many"]
  names := ["_law_box_here", "_law_many", "_law_stem", "_law_k", "_law_letters", "_law_first", "_law_found", "_law_step", "_law_few", "_law_cut", "_law_name", "_law_turn"]
  muts := [(0, .lst .pure), (6, .lst .pure)]
  ret := .pure
  body := bd_law_names
  cls := none
def e_law_pals_1 : E := (.call "_law_take" [(.mref 0), (.cst (.int 3))])
def b_law_pals_2 : List S := [(.asg (.nm 9) (.op2 .ix (.lst [(.op2 .eq (.call "_law_take" [(.mref 0), (.cst (.int 4))]) (.cst (.int 0))), (.op2 .eq (.call "_law_take" [(.mref 0), (.cst (.int 2))]) (.cst (.int 0))), (.op2 .gt (.call "_law_take" [(.mref 0), (.cst (.int 4))]) (.cst (.int 0)))]) (.op2 .mod (.var 3) (.cst (.int 3))))),
    (.asg (.nm 9) (.ite (.op2 .eq (.var 3) (.cst (.int 5))) (.op2 .eq (.op2 .ix (.var 2) (.var 5)) (.op2 .ix (.var 2) (.var 7))) (.var 9))),
    (.ife (.var 9) [(.app 4 (.tup [(.op2 .min (.var 6) (.op2 .ix (.var 1) (.var 7))), (.op2 .max (.var 6) (.op2 .ix (.var 1) (.var 7)))]))] [])]
def b_law_pals_3 : List S := [(.fr (.nm 7) (.rng (.var 5)) b_law_pals_2)]
def bd_law_pals : List S := [(.par [3, 4] [(.call "_law_take" [(.mref 0), (.cst (.int 6))]), (.own (.lst []))]),
    (.asg (.nm 2) (.lc [8] (.nm 8) (.seq (.var 1)) none e_law_pals_1)),
    (.fr (.tp [5, 6]) (.enm (.var 1)) b_law_pals_3),
    (.ret (.lend [4] [0] [] (.op1 .tuple (.op1 .sorted (.var 4)))))]
def d_law_pals : Def where
  name := "_law_pals"
  py := "_law_pals"
  kwo := false
  pars := ["_law_box_here", "_law_pool"]
  names := ["_law_box_here", "_law_pool", "_law_side", "_law_way", "_law_found", "_law_k", "_law_mine", "_law_j", "_law_name", "_law_fine"]
  muts := [(0, .lst .pure), (4, .lst .pure)]
  ret := .pure
  body := bd_law_pals
  cls := none
def bd_law_are : List S := [(.ret (.op2 .isin (.tup [(.op2 .min (.var 1) (.var 2)), (.op2 .max (.var 1) (.var 2))]) (.var 0)))]
def d_law_are : Def where
  name := "_law_are"
  py := "_law_are"
  kwo := false
  pars := ["_law_pals_here", "_law_mine", "_law_its"]
  names := ["_law_pals_here", "_law_mine", "_law_its"]
  muts := []
  ret := .pure
  body := bd_law_are
  cls := none
def e_law_same_1 : E := (.call "_law_same" [(.var 2), (.var 3)])
def bd_law_same : List S := [(.ife (.op1 (.isinst ["list", "tuple"]) (.var 1)) [(.ife (.or (.op2 .ne (.op1 (.isinst ["list"]) (.var 0)) (.op1 (.isinst ["list"]) (.var 1))) (.op2 .ne (.op1 (.isinst ["tuple"]) (.var 0)) (.op1 (.isinst ["tuple"]) (.var 1)))) [(.ret (.cst (.bl false)))] []),
    (.ret (.and (.op2 .eq (.op1 .len (.var 0)) (.op1 .len (.var 1))) (.op1 .all (.lc [2, 3] (.tp [2, 3]) (.zip (.var 0) (.var 1)) none e_law_same_1))))] []),
    (.ife (.or (.op2 .is (.var 1) (.cst .non)) (.op1 (.isinst ["str"]) (.var 1))) [(.ret (.and (.op2 .eq (.op1 (.isinst ["str"]) (.var 0)) (.op1 (.isinst ["str"]) (.var 1))) (.op2 .eq (.var 0) (.var 1))))] []),
    (.ret (.and (.op1 (.isinst ["int"]) (.var 0)) (.and (.op2 .eq (.op1 (.isinst ["bool"]) (.var 0)) (.op1 (.isinst ["bool"]) (.var 1))) (.op2 .eq (.var 0) (.var 1)))))]
def d_law_same : Def where
  name := "_law_same"
  py := "_law_same"
  kwo := false
  pars := ["_law_found", "_law_due"]
  names := ["_law_found", "_law_due", "_law_piece", "_law_part"]
  muts := []
  ret := .pure
  body := bd_law_same
  cls := none
def c_law_right_1 : Option E := some (.op2 .notin (.var 12) (.var 1))
def e_law_right_2 : E := (.var 12)
def e_law_right_3 : E := (.op1 .list (.var 11))
def b_law_right_4 : List S := [(.asg (.nm 8) (.call "_law_are" [(.var 3), (.var 2), (.var 7)])),
    (.asg (.nm 10) (.lst [(.call "are_friends" [(.var 3), (.var 2), (.var 7)]), (.callK "are_friends" 0 ["other", "one", "friends"] [(.arg 2), (.arg 1), (.arg 0)] [(.var 2), (.var 7), (.var 6)])])),
    (.ife (.nt (.call "_law_same" [(.var 10), (.lst [(.var 8), (.var 8)])])) [(.ret (.cst (.bl false)))] [])]
def c_law_right_5 : Option E := some (.call "_law_are" [(.var 3), (.var 2), (.var 7)])
def e_law_right_6 : E := (.var 7)
def b_law_right_7 : List S := [(.fr (.nm 7) (.seq (.op2 .add (.var 1) (.lst [(.var 4)]))) b_law_right_4),
    (.asg (.nm 8) (.op1 .sorted (.lc [7] (.nm 7) (.seq (.var 1)) c_law_right_5 e_law_right_6))),
    (.asgM 9 (.call "friends_of" [(.var 3), (.var 2)])),
    (.ife (.lend [9] [0] [] (.nt (.call "_law_same" [(.lst [(.var 9), (.callK "friends_of" 0 ["who", "friends"] [(.arg 1), (.arg 0)] [(.var 2), (.var 6)])]), (.lst [(.var 8), (.var 8)])]))) [(.ret (.cst (.bl false)))] []),
    (.app 9 (.var 4)),
    (.ife (.nt (.call "_law_same" [(.call "friends_of" [(.var 3), (.var 2)]), (.var 8)])) [(.ret (.cst (.bl false)))] [])]
def bd_law_right : List S := [(.asg (.nm 1) (.call "_law_names" [(.mref 0), (.op2 .add (.cst (.int 1)) (.call "_law_take" [(.mref 0), (.cst (.int 12))]))])),
    (.parT [3, 4] [(.call "_law_pals" [(.mref 0), (.var 1)]), (.op2 .ix (.lc [12] (.nm 12) (.seq (.tup [(.cst (.str "zzzzzzzz")), (.cst (.str "yyyyyyyy"))])) c_law_right_1 e_law_right_2) (.cst (.int 0)))]),
    (.par [5, 6] [(.op1 .repr (.var 3)), (.lc [11] (.nm 11) (.seq (.var 3)) none e_law_right_3)]),
    (.fr (.nm 2) (.seq (.var 1)) b_law_right_7),
    (.ret (.and (.call "_law_same" [(.call "friends_of" [(.var 3), (.var 4)]), (.lst [])]) (.op2 .eq (.op1 .repr (.var 3)) (.var 5))))]
def d_law_right : Def where
  name := "_law_right"
  py := "_law_right"
  kwo := false
  pars := ["_law_box_here"]
  names := ["_law_box_here", "_law_pool", "_law_mine", "_law_pals_here", "_law_alone", "_law_kept", "_law_lists", "_law_its", "_law_due", "_law_found", "_law_told", "_law_pair", "_law_name"]
  muts := [(0, .lst .pure), (9, .lst .pure)]
  ret := .pure
  body := bd_law_right
  cls := none
def e_law_1 : E := (.call "_law_right" [(.own (.call "_law_box" [(.var 1), (.var 2)]))])
def bd_law : List S := [(.asg (.nm 1) (.call "_law_cells" [(.var 0), (.cst (.int 3))])),
    (.ret (.op1 .all (.lc [2] (.nm 2) (.rng (.op1 .len (.var 1))) none e_law_1)))]
def d_law : Def where
  name := "law"
  py := "law"
  kwo := false
  pars := ["_law_script"]
  names := ["_law_script", "_law_cells_here", "_law_k"]
  muts := []
  ret := .pure
  body := bd_law
  cls := none
def prog : List Def := [d_friend_sets, d_are_friends, d_friends_of, d_law_box, d_law_take, d_law_cells, d_law_names, d_law_pals, d_law_are, d_law_same, d_law_right, d_law]
def gcs : List (Str × D) := []
def clsL : List Str := []
def pats (f : Str) : List (Nat × List Str × List Par) := if f = ("are_friends" : Str) then [(0, ["other", "one", "friends"], [(.arg 2), (.arg 1), (.arg 0)])] else if f = ("friends_of" : Str) then [(0, ["who", "friends"], [(.arg 1), (.arg 0)])] else []
theorem at_friend_sets {wf n : Nat} {a0 : D} : callN prog wf (n + 1) "friend_sets" [a0] = endO d_friend_sets [a0] (exs (callN prog wf n) wf bd_friend_sets [some a0, none, none, none]) := by
  have h : (prog.find? fun g => g.name == ("friend_sets" : Str)) = some d_friend_sets := rfl
  simp only [callN, h, runDef]
  rfl
theorem rt_friend_sets {a0 d : D} {o0 o1 o2 o3 : Option D} : endO d_friend_sets [a0] (.rt d [o0, o1, o2, o3]) = .ok d [a0] := id rfl
theorem nx_friend_sets {a0 : D} {o0 o1 o2 o3 : Option D} : endO d_friend_sets [a0] (.nx [o0, o1, o2, o3]) = .ok .non [a0] := id rfl
theorem at_are_friends {wf n : Nat} {a0 a1 a2 : D} : callN prog wf (n + 1) "are_friends" [a0, a1, a2] = endO d_are_friends [a0, a1, a2] (exs (callN prog wf n) wf bd_are_friends [some a0, some a1, some a2]) := by
  have h : (prog.find? fun g => g.name == ("are_friends" : Str)) = some d_are_friends := rfl
  simp only [callN, h, runDef]
  rfl
theorem rt_are_friends {a0 a1 a2 d : D} {o0 o1 o2 : Option D} : endO d_are_friends [a0, a1, a2] (.rt d [o0, o1, o2]) = .ok d [a0, a1, a2] := id rfl
theorem nx_are_friends {a0 a1 a2 : D} {o0 o1 o2 : Option D} : endO d_are_friends [a0, a1, a2] (.nx [o0, o1, o2]) = .ok .non [a0, a1, a2] := id rfl
theorem at_friends_of {wf n : Nat} {a0 a1 : D} : callN prog wf (n + 1) "friends_of" [a0, a1] = endO d_friends_of [a0, a1] (exs (callN prog wf n) wf bd_friends_of [some a0, some a1]) := by
  have h : (prog.find? fun g => g.name == ("friends_of" : Str)) = some d_friends_of := rfl
  simp only [callN, h, runDef]
  rfl
theorem rt_friends_of {a0 a1 d : D} {o0 o1 : Option D} : endO d_friends_of [a0, a1] (.rt d [o0, o1]) = .ok d [a0, a1] := id rfl
theorem at_law_box {wf n : Nat} {a0 a1 : D} : callN prog wf (n + 1) "_law_box" [a0, a1] = endO d_law_box [a0, a1] (exs (callN prog wf n) wf bd_law_box [some a0, some a1, none]) := by
  have h : (prog.find? fun g => g.name == ("_law_box" : Str)) = some d_law_box := rfl
  simp only [callN, h, runDef]
  rfl
theorem rt_law_box {a0 a1 d : D} {o0 o1 o2 : Option D} : endO d_law_box [a0, a1] (.rt d [o0, o1, o2]) = .ok d [a0, a1] := id rfl
theorem at_law_take {wf n : Nat} {a0 a1 : D} : callN prog wf (n + 1) "_law_take" [a0, a1] = endO d_law_take [a0, a1] (exs (callN prog wf n) wf bd_law_take [some a0, some a1, none, none]) := by
  have h : (prog.find? fun g => g.name == ("_law_take" : Str)) = some d_law_take := rfl
  simp only [callN, h, runDef]
  rfl
theorem rt_law_take {a0 a1 x0 d : D} {o1 o2 o3 : Option D} : endO d_law_take [a0, a1] (.rt d [some x0, o1, o2, o3]) = .ok d [x0, a1] := id rfl
theorem nx_law_take {a0 a1 x0 : D} {o1 o2 o3 : Option D} : endO d_law_take [a0, a1] (.nx [some x0, o1, o2, o3]) = .ok .non [x0, a1] := id rfl
theorem at_law_cells {wf n : Nat} {a0 a1 : D} : callN prog wf (n + 1) "_law_cells" [a0, a1] = endO d_law_cells [a0, a1] (exs (callN prog wf n) wf bd_law_cells [some a0, some a1, none, none, none]) := by
  have h : (prog.find? fun g => g.name == ("_law_cells" : Str)) = some d_law_cells := rfl
  simp only [callN, h, runDef]
  rfl
theorem rt_law_cells {a0 a1 d : D} {o0 o1 o2 o3 o4 : Option D} : endO d_law_cells [a0, a1] (.rt d [o0, o1, o2, o3, o4]) = .ok d [a0, a1] := id rfl
theorem nx_law_cells {a0 a1 : D} {o0 o1 o2 o3 o4 : Option D} : endO d_law_cells [a0, a1] (.nx [o0, o1, o2, o3, o4]) = .ok .non [a0, a1] := id rfl
theorem at_law_names {wf n : Nat} {a0 a1 : D} : callN prog wf (n + 1) "_law_names" [a0, a1] = endO d_law_names [a0, a1] (exs (callN prog wf n) wf bd_law_names [some a0, some a1, none, none, none, none, none, none, none, none, none, none]) := by
  have h : (prog.find? fun g => g.name == ("_law_names" : Str)) = some d_law_names := rfl
  simp only [callN, h, runDef]
  rfl
theorem rt_law_names {a0 a1 x0 d : D} {o1 o2 o3 o4 o5 o6 o7 o8 o9 o10 o11 : Option D} : endO d_law_names [a0, a1] (.rt d [some x0, o1, o2, o3, o4, o5, o6, o7, o8, o9, o10, o11]) = .ok d [x0, a1] := id rfl
theorem nx_law_names {a0 a1 x0 : D} {o1 o2 o3 o4 o5 o6 o7 o8 o9 o10 o11 : Option D} : endO d_law_names [a0, a1] (.nx [some x0, o1, o2, o3, o4, o5, o6, o7, o8, o9, o10, o11]) = .ok .non [x0, a1] := id rfl
theorem at_law_pals {wf n : Nat} {a0 a1 : D} : callN prog wf (n + 1) "_law_pals" [a0, a1] = endO d_law_pals [a0, a1] (exs (callN prog wf n) wf bd_law_pals [some a0, some a1, none, none, none, none, none, none, none, none]) := by
  have h : (prog.find? fun g => g.name == ("_law_pals" : Str)) = some d_law_pals := rfl
  simp only [callN, h, runDef]
  rfl
theorem rt_law_pals {a0 a1 x0 d : D} {o1 o2 o3 o4 o5 o6 o7 o8 o9 : Option D} : endO d_law_pals [a0, a1] (.rt d [some x0, o1, o2, o3, o4, o5, o6, o7, o8, o9]) = .ok d [x0, a1] := id rfl
theorem nx_law_pals {a0 a1 x0 : D} {o1 o2 o3 o4 o5 o6 o7 o8 o9 : Option D} : endO d_law_pals [a0, a1] (.nx [some x0, o1, o2, o3, o4, o5, o6, o7, o8, o9]) = .ok .non [x0, a1] := id rfl
theorem at_law_are {wf n : Nat} {a0 a1 a2 : D} : callN prog wf (n + 1) "_law_are" [a0, a1, a2] = endO d_law_are [a0, a1, a2] (exs (callN prog wf n) wf bd_law_are [some a0, some a1, some a2]) := by
  have h : (prog.find? fun g => g.name == ("_law_are" : Str)) = some d_law_are := rfl
  simp only [callN, h, runDef]
  rfl
theorem rt_law_are {a0 a1 a2 d : D} {o0 o1 o2 : Option D} : endO d_law_are [a0, a1, a2] (.rt d [o0, o1, o2]) = .ok d [a0, a1, a2] := id rfl
theorem nx_law_are {a0 a1 a2 : D} {o0 o1 o2 : Option D} : endO d_law_are [a0, a1, a2] (.nx [o0, o1, o2]) = .ok .non [a0, a1, a2] := id rfl
theorem at_law_same {wf n : Nat} {a0 a1 : D} : callN prog wf (n + 1) "_law_same" [a0, a1] = endO d_law_same [a0, a1] (exs (callN prog wf n) wf bd_law_same [some a0, some a1, none, none]) := by
  have h : (prog.find? fun g => g.name == ("_law_same" : Str)) = some d_law_same := rfl
  simp only [callN, h, runDef]
  rfl
theorem rt_law_same {a0 a1 d : D} {o0 o1 o2 o3 : Option D} : endO d_law_same [a0, a1] (.rt d [o0, o1, o2, o3]) = .ok d [a0, a1] := id rfl
theorem nx_law_same {a0 a1 : D} {o0 o1 o2 o3 : Option D} : endO d_law_same [a0, a1] (.nx [o0, o1, o2, o3]) = .ok .non [a0, a1] := id rfl
theorem at_law_right {wf n : Nat} {a0 : D} : callN prog wf (n + 1) "_law_right" [a0] = endO d_law_right [a0] (exs (callN prog wf n) wf bd_law_right [some a0, none, none, none, none, none, none, none, none, none, none, none, none]) := by
  have h : (prog.find? fun g => g.name == ("_law_right" : Str)) = some d_law_right := rfl
  simp only [callN, h, runDef]
  rfl
theorem rt_law_right {a0 x0 d : D} {o1 o2 o3 o4 o5 o6 o7 o8 o9 o10 o11 o12 : Option D} : endO d_law_right [a0] (.rt d [some x0, o1, o2, o3, o4, o5, o6, o7, o8, o9, o10, o11, o12]) = .ok d [x0] := id rfl
theorem nx_law_right {a0 x0 : D} {o1 o2 o3 o4 o5 o6 o7 o8 o9 o10 o11 o12 : Option D} : endO d_law_right [a0] (.nx [some x0, o1, o2, o3, o4, o5, o6, o7, o8, o9, o10, o11, o12]) = .ok .non [x0] := id rfl
theorem at_law {wf n : Nat} {a0 : D} : callN prog wf (n + 1) "law" [a0] = endO d_law [a0] (exs (callN prog wf n) wf bd_law [some a0, none, none]) := by
  have h : (prog.find? fun g => g.name == ("law" : Str)) = some d_law := rfl
  simp only [callN, h, runDef]
  rfl
theorem rt_law {a0 d : D} {o0 o1 o2 : Option D} : endO d_law [a0] (.rt d [o0, o1, o2]) = .ok d [a0] := id rfl
theorem nx_law {a0 : D} {o0 o1 o2 : Option D} : endO d_law [a0] (.nx [o0, o1, o2]) = .ok .non [a0] := id rfl
end Lw
set_option maxHeartbeats 0
namespace Lw
open Pv PySem
theorem callN_at {wf n : Nat} {f : Str} {g : Def} {ds : List D} (h : (prog.find? fun g => g.name == f) = some g) (hl : ds.length = g.pars.length) : callN prog wf (n + 1) f ds = endO g ds (exs (callN prog wf n) wf g.body (startE g ds)) := by
  simp only [callN, h, runDef, if_pos hl]
section
variable {g : Def} {ds : List D} {cf : Str → List D → CR} {wf : Nat} {s : S} {r : List S} {env e : Dv} {X : CR} {Y : O}
/-- one statement, then the rest -/
theorem run_nx (h : exe cf wf s env = .nx e) (k : endO g ds (exs cf wf r e) = X) : endO g ds (exs cf wf (s :: r) env) = X := by
  rw [show exs cf wf (s :: r) env = thenO (exe cf wf s env) (exs cf wf r) from rfl, h]
  exact k
theorem run_rt {d : D} (h : exe cf wf s env = .rt d e) (k : endO g ds (.rt d e) = X) : endO g ds (exs cf wf (s :: r) env) = X := by
  rw [show exs cf wf (s :: r) env = thenO (exe cf wf s env) (exs cf wf r) from rfl, h]
  exact k
theorem seq_nx (h : exe cf wf s env = .nx e) (k : exs cf wf r e = Y) : exs cf wf (s :: r) env = Y := by
  rw [show exs cf wf (s :: r) env = thenO (exe cf wf s env) (exs cf wf r) from rfl, h]
  exact k
theorem seq_rt {d : D} (h : exe cf wf s env = .rt d e) : exs cf wf (s :: r) env = .rt d e := by
  rw [show exs cf wf (s :: r) env = thenO (exe cf wf s env) (exs cf wf r) from rfl, h]
  rfl
theorem exe_fr {t : Tg} {it : It} {b : List S} {l : List D} (h : evIt cf it env = .ok l e) (k : forLoop t (exs cf wf b) l e = Y) : exe cf wf (.fr t it b) env = Y := by
  rw [show exe cf wf (.fr t it b) env = bindO (evIt cf it env) fun l env => forLoop t (exs cf wf b) l env from rfl, h]
  exact k
theorem exe_if {c : E} {a b : List S} {d : D} {k : Bool} (h : ev cf c env = .ok d e) (ht : d.truth = some k) (hk : (bif k then exs cf wf a e else exs cf wf b e) = Y) : exe cf wf (.ife c a b) env = Y := by
  rw [show exe cf wf (.ife c a b) env = bindO (ev cf c env) fun d env => bindO (liftO d.truth env) fun k env => bif k then exs cf wf a env else exs cf wf b env from rfl, h]
  show bindO (liftO d.truth e) _ = Y
  rw [ht]
  exact hk
theorem exe_asg {t : Tg} {a : E} {d : D} {e2 : Dv} (h : ev cf a env = .ok d e) (hb : bindTg t d e = some e2) : exe cf wf (.asg t a) env = .nx e2 := by
  rw [show exe cf wf (.asg t a) env = bindO (ev cf a env) fun d env => nxO (bindTg t d env) from rfl, h]
  show nxO (bindTg t d e) = _
  rw [hb]
  rfl
theorem exe_asgM {i : Nat} {a : E} {d : D} (h : ev cf a env = .ok d e) : exe cf wf (.asgM i a) env = .nx (e.set i (some d)) := by
  rw [show exe cf wf (.asgM i a) env = bindO (ev cf a env) fun d env => .nx (env.set i (some d)) from rfl, h]
  rfl
theorem exe_ret {a : E} {d : D} (h : ev cf a env = .ok d e) : exe cf wf (.ret a) env = .rt d e := by
  rw [show exe cf wf (.ret a) env = bindO (ev cf a env) fun d env => .rt d env from rfl, h]
  rfl
end
theorem for_inv {t : Tg} {body : Dv → O} (I : Nat → Dv → Prop) : ∀ (items : List D) (k : Nat), (∀ i d env, items[i]? = some d → I (k + i) env → ∃ env1 env2, bindTg t d env = some env1 ∧ body env1 = .nx env2 ∧ I (k + i + 1) env2) → ∀ env, I k env → ∃ env', forLoop t body items env = .nx env' ∧ I (k + items.length) env'
  | [], k, _, env, h => ⟨env, rfl, h⟩
  | d :: items, k, st, env, h => by
    obtain ⟨env1, env2, h1, h2, h3⟩ := st 0 d env rfl h
    obtain ⟨env', h4, h5⟩ := for_inv I items (k + 1) (fun i d env hd hi => by
      have := st (i + 1) d env (by simpa using hd) (by rw [show k + (i + 1) = k + 1 + i by omega]; exact hi)
      rw [show k + (i + 1) = k + 1 + i by omega] at this
      exact this) env2 h3
    refine ⟨env', ?_, by rw [show k + (d :: items).length = k + 1 + items.length by simp; omega]; exact h5⟩
    unfold forLoop
    simp only [h1, h2]
    exact h4
theorem comp_inv {own : List Nat} {t : Tg} {c : Dv → R Bool} {e : Dv → R D} (I : Nat → Dv → List D → Prop) : ∀ (items : List D) (k : Nat), (∀ i d env acc, items[i]? = some d → I (k + i) env acc → ∃ env1 b env2, bindTg t d env = some env1 ∧ c env1 = .ok b env2 ∧
      (b = true → ∃ x env3, e env2 = .ok x env3 ∧ acc.length < BIG ∧ I (k + i + 1) (wipeE env3 own) (acc ++ [x])) ∧ (b = false → I (k + i + 1) (wipeE env2 own) acc)) →
    ∀ env acc, I k env acc → ∃ l env', compLoop own t c e items env acc = .ok l env' ∧ I (k + items.length) env' l
  | [], k, _, env, acc, h => ⟨acc, env, rfl, h⟩
  | d :: items, k, st, env, acc, h => by
    obtain ⟨env1, b, env2, h1, h2, h3, h4⟩ := st 0 d env acc rfl h
    have rest : ∀ {env acc}, I (k + 0 + 1) env acc → ∃ l env', compLoop own t c e items env acc = .ok l env' ∧ I (k + (d :: items).length) env' l := fun {env acc} hi => by
      obtain ⟨l, env', h5, h6⟩ := comp_inv I items (k + 1) (fun i d env acc hd hi => by
        have := st (i + 1) d env acc (by simpa using hd) (by rw [show k + (i + 1) = k + 1 + i by omega]; exact hi)
        rw [show k + (i + 1) = k + 1 + i by omega] at this
        exact this) env acc hi
      exact ⟨l, env', h5, by rw [show k + (d :: items).length = k + 1 + items.length by simp; omega]; exact h6⟩
    unfold compLoop
    simp only [h1, h2]
    cases b with
    | true =>
      obtain ⟨x, env3, h5, h6, h7⟩ := h3 rfl
      simp only [h5, if_pos h6]
      exact rest h7
    | false => exact rest (h4 rfl)
/-! ### the box of draws -/
structure Box where
  a : Int
  b : Int
  c : Int
def Box.d (x : Box) : D := .lst [.int x.a, .int x.b, .int x.c]
def mixB (b c : Int) : Int :=
  let t := (b + 1442695040888963407 * c) % 2305843009213693951
  let t := (t * t + 39373 * c + 7) % 2305843009213693921
  (t * (t / 65536 + 3) + c) % 2305843009213693907
def takeV (x : Box) (m : Int) : Int := if 0 < x.a then x.a % m else mixB x.b (x.c + 1) / 1048576 % m
def takeB (x : Box) (m : Int) : Box := if 0 < x.a then ⟨x.a / m, x.b, x.c⟩ else ⟨x.a, x.b, x.c + 1⟩
theorem take_ok {wf n : Nat} (x : Box) (m : Int) (h0 : 0 < m) (h1 : m < 1073741824) :
    callN prog wf (n + 1) "_law_take" [x.d, .int m] = .ok (.int (takeV x m)) [(takeB x m).d, .int m] := by
  rw [callN_at (g := d_law_take) rfl rfl]
  unfold Box.d takeV takeB
  by_cases ha : 0 < x.a
  · simp [d_law_take, bd_law_take, startE, exs, exe, ev, evs, evO, evC, evIt, bindO, bindR, truthR, wipeE, backE, flatAt, flat, op1, op2, ixD, L2.ixN, L2.atI, ltB, leB, liftO, nxO, thenO, D.truth, endO, finE, Def.M, bindTg, setAll, setLE, lstAt, appE, insE, isI, isB, isS, lenD, absD, intD, negD, tgSlots, modD, fdivD, ha, h0, h1]
  · have m1 : ∀ y : Int, -18446744073709551616 < y % 2305843009213693951 ∧ y % 2305843009213693951 < 18446744073709551616 := fun y => by omega
    have m2 : ∀ y : Int, -18446744073709551616 < y % 2305843009213693921 ∧ y % 2305843009213693921 < 18446744073709551616 := fun y => by omega
    simp [d_law_take, bd_law_take, startE, exs, exe, ev, evs, evO, evC, evIt, bindO, bindR, truthR, wipeE, backE, flatAt, flat, op1, op2, ixD, L2.ixN, L2.atI, ltB, leB, liftO, nxO, thenO, D.truth, endO, finE, Def.M, bindTg, setAll, setLE, lstAt, appE, insE, isI, isB, isS, lenD, absD, intD, negD, tgSlots, modD, fdivD, addD, mulD, ha, h0, h1, m1, m2, mixB]
/-- a draw lies below its bound -/
theorem take_lt (x : Box) {m : Int} (h0 : 0 < m) : 0 ≤ takeV x m ∧ takeV x m < m := by
  unfold takeV
  split
  · exact ⟨Int.emod_nonneg _ (by omega), Int.emod_lt_of_pos _ h0⟩
  · exact ⟨Int.emod_nonneg _ (by omega), Int.emod_lt_of_pos _ h0⟩
/-- a draw by its answer alone -/
theorem take_any {wf n : Nat} (x : Box) (m : Int) (h0 : 0 < m) (h1 : m < 1073741824) : ∃ (v : Int) (y : Box), 0 ≤ v ∧ v < m ∧ callN prog wf (n + 1) "_law_take" [x.d, .int m] = .ok (.int v) [y.d, .int m] :=
  ⟨takeV x m, takeB x m, (take_lt x h0).1, (take_lt x h0).2, take_ok x m h0 h1⟩
theorem ints_get {cs : List Int} {j : Nat} : (cs.map D.int)[j]? = (cs[j]?).map D.int := List.getElem?_map
theorem box_ok {wf n : Nat} (cs : List Int) (k : Nat) (hk : k < cs.length) : ∃ x : Box, callN prog wf (n + 1) "_law_box" [.lst (cs.map .int), .int k] = .ok x.d [.lst (cs.map .int), .int k] := by
  rw [callN_at (g := d_law_box) rfl rfl]
  have hk' : (k : Int) < cs.length := by omega
  refine ⟨⟨(if cs[k] < 0 then -cs[k] else cs[k]) * (if (10 : Int) ^ 18 ≤ (if cs[k] < 0 then -cs[k] else cs[k]) then 1 else 0), cs[k] % 2305843009213693951 + 15485863 * k + 11, 0⟩, ?_⟩
  unfold Box.d
  by_cases hb : (1000000000000000000 : Int) ≤ (if cs[k] < 0 then -cs[k] else cs[k])
  · simp [d_law_box, bd_law_box, startE, exs, exe, ev, evs, evO, evC, evIt, bindO, bindR, truthR, wipeE, backE, flatAt, flat, op1, op2, ixD, L2.ixN, L2.atI, ltB, leB, liftO, nxO, thenO, D.truth, endO, finE, Def.M, bindTg, setAll, setLE, lstAt, appE, insE, isI, isB, isS, lenD, absD, intD, negD, tgSlots, modD, addD, mulD, powD, hk', hk, hb]
  · simp [d_law_box, bd_law_box, startE, exs, exe, ev, evs, evO, evC, evIt, bindO, bindR, truthR, wipeE, backE, flatAt, flat, op1, op2, ixD, L2.ixN, L2.atI, ltB, leB, liftO, nxO, thenO, D.truth, endO, finE, Def.M, bindTg, setAll, setLE, lstAt, appE, insE, isI, isB, isS, lenD, absD, intD, negD, tgSlots, modD, addD, mulD, powD, hk', hk, hb]
theorem ins_perm (l : List Str) (s : Str) (k : Nat) : (l.take k ++ [s] ++ l.drop k).Perm (s :: l) := by
  rw [List.append_assoc, List.singleton_append]
  refine List.perm_middle.trans (.cons _ ?_)
  rw [List.take_append_drop]
end Lw
namespace Lw
open Pv PySem
theorem cut_ints (ns : List Int) (lo hi : Option Int) : cutL (ns.map D.int) lo hi = (cutL ns lo hi).map D.int := by
  unfold cutL
  rw [List.map_take, List.map_drop, List.length_map]
theorem cut_drop63 {α : Type} (xs : List α) (u : Nat) (h : xs.length ≤ 63) : cutL xs (some (u : Int)) (some 63) = xs.drop u := by
  rw [← cut_drop]
  unfold cutL
  have e : HT.sIx xs.length xs.length (some 63) = HT.sIx xs.length xs.length none := by
    rw [show (63 : Int) = ((63 : Nat) : Int) from rfl, HT.sIx_nat, HT.sIx_none]
    omega
  rw [e]
theorem ints_set (cs : List Int) (j : Nat) (c : Int) : (cs.map D.int).set j (.int c) = (cs.set j c).map D.int := by
  rw [List.map_set]
theorem cells_ok {wf n : Nat} (ns : List Int) (u : Nat) (hu : 0 < u) (hl : ns.length ≤ 63) :
    ∃ cs : List Int, cs ≠ [] ∧ cs.length ≤ 63 ∧ callN prog wf (n + 1) "_law_cells" [.scr ns, .int u] = .ok (.lst (cs.map .int)) [.scr ns, .int u] := by
  rw [callN_at (g := d_law_cells) rfl rfl]
  obtain ⟨c0, hc0⟩ : ∃ c0 : List Int, c0 = if (ns.take u).isEmpty then [0] else ns.take u := ⟨_, rfl⟩
  have hn0 : 0 < c0.length := by
    rw [hc0]
    split
    · simp
    · rename_i h
      have : ns.take u ≠ [] := by simpa using h
      exact List.length_pos_iff.mpr this
  have hl0 : c0.length ≤ 63 := by
    rw [hc0]
    split
    · simp
    · rw [List.length_take]; omega
  have hfull : u < ns.length → c0.length = u := by
    intro h
    rw [hc0, if_neg (by intro e; have : (ns.take u).length = 0 := by rw [List.isEmpty_iff.mp e]; rfl
                        rw [List.length_take] at this; omega), List.length_take]
    omega
  have e1 : ev (callN prog wf n) (.or (.op1 .list (.slc (.var 0) none (some (.var 1)))) (.lst [(.cst (.int 0))])) [some (.scr ns), some (.int u), none, none, none] = .ok (.lst (c0.map .int)) [some (.scr ns), some (.int u), none, none, none] := by
    simp only [ev, evs, evO, bindR, op1, liftO, isI, cutD, listD, cut_ints, cut_take, List.getElem?_cons_zero, List.getElem?_cons_succ, Option.map_some, D.truth]
    rw [hc0]
    cases h : ns.take u with
    | nil => simp [← List.map_take, h]
    | cons a l => simp [← List.map_take, h]
  obtain ⟨env', h1, cs, a, b, rfl, h3⟩ := for_inv (t := .tp [3, 4]) (body := exs (callN prog wf n) wf [(.setL 2 (.op2 .mod (.var 3) (.var 1)) (.lend [2] [] [] (.op2 .add (.op2 .ix (.var 2) (.op2 .mod (.var 3) (.var 1))) (.op2 .mul (.var 4) (.op2 .add (.var 3) (.cst (.int 2)))))))])
    (fun i env => ∃ (cs : List Int) (a b : Option D), env = [some (.scr ns), some (.int u), some (.lst (cs.map .int)), a, b] ∧ cs.length = c0.length) (enumL ((ns.drop u).map .int)) 0 (by
      rintro i d env hd ⟨cs, a, b, rfl, hc⟩
      unfold enumL at hd
      rw [List.getElem?_map, List.getElem?_zipIdx, List.getElem?_map] at hd
      cases q : (ns.drop u)[i]? with
      | none => rw [q] at hd; cases hd
      | some c =>
        rw [q] at hd
        simp at hd
        subst hd
        have hi : i < (ns.drop u).length := (List.getElem?_eq_some_iff.mp q).1
        rw [List.length_drop] at hi
        have hcu : cs.length = u := by rw [hc]; exact hfull (by omega)
        have hmod : i % u < cs.length := by rw [hcu]; exact Nat.mod_lt _ hu
        have hm1 : (0 : Int) ≤ (i : Int) % u := Int.emod_nonneg _ (by omega)
        have hm2 : (i : Int) % u < u := Int.emod_lt_of_pos _ (by omega)
        have hm3 : ((i : Int) % u).toNat = i % u := by omega
        have hg : cs[i % u]? = some cs[i % u] := List.getElem?_eq_getElem hmod
        have hb : -18446744073709551616 < (i : Int) + 2 ∧ (i : Int) + 2 < 18446744073709551616 := by omega
        have hu' : (0 : Int) < u := by omega
        refine ⟨_, _, rfl, ?_, cs.set (i % u) (cs[i % u] + c * (i + 2)), some (.int i), some (.int c), rfl, by simpa using hc⟩
        simp [startE, exs, exe, ev, evs, evO, evC, evIt, bindO, bindR, truthR, wipeE, backE, flatAt, flat, op1, op2, ixD, L2.ixN, L2.atI, ltB, leB, liftO, nxO, thenO, D.truth, endO, finE, Def.M, bindTg, setAll, setLE, lstAt, appE, insE, isI, isB, isS, lenD, absD, intD, negD, tgSlots, modD, addD, mulD, hm1, hm2, hm3, hb, hu', hu, hcu, hmod, hg]) [some (.scr ns), some (.int u), some (.lst (c0.map .int)), none, none] ⟨c0, none, none, rfl, rfl⟩
  refine ⟨cs, fun e => by rw [e] at h3; simp at h3; omega, by omega, ?_⟩
  have e2 : evIt (callN prog wf n) (.enm (.slc (.var 0) (some (.var 1)) (some (.cst (.int 63))))) [some (.scr ns), some (.int u), some (.lst (c0.map .int)), none, none] = .ok (enumL ((ns.drop u).map .int)) [some (.scr ns), some (.int u), some (.lst (c0.map .int)), none, none] := by
    simp only [evIt, ev, evO, bindR, liftO, isI, cutD, cut_ints, cut_drop63 ns u hl, List.getElem?_cons_zero, List.getElem?_cons_succ, Option.map_some, seqOf]
  refine run_nx (exe_asgM (env := [some (.scr ns), some (.int u), none, none, none]) e1) ?_
  refine run_nx (exe_fr e2 h1) ?_
  exact run_rt (exe_ret rfl) rfl
end Lw
namespace Lw
open Pv PySem
theorem ev_take {wf n i : Nat} {a : E} {env : Dv} {x : Box} {m : Int} (hi : env[i]? = some (some x.d)) (hr : isRef a = false) (ha : ev (callN prog wf (n + 1)) a env = .ok (.int m) env) (h0 : 0 < m) (h1 : m < 1073741824) :
    ev (callN prog wf (n + 1)) (.call "_law_take" [.mref i, a]) env = .ok (.int (takeV x m)) (env.set i (some (takeB x m).d)) := by
  have e1 : evs (callN prog wf (n + 1)) [.mref i, a] env = .ok [.non, .int m] env := by
    simp only [evs, ev, hi, bindR, ha]
  have e2 : resolve [.mref i, a] [.non, .int m] env = some [x.d, .int m] := by
    cases a <;> simp_all [resolve, isRef]
  have e3 : writeBack [.mref i, a] [(takeB x m).d, .int m] env = env.set i (some (takeB x m).d) := by
    cases a <;> simp_all [writeBack, isRef]
  rw [show ev (callN prog wf (n + 1)) (.call "_law_take" [.mref i, a]) env = bindR (evs (callN prog wf (n + 1)) [.mref i, a] env) fun ds e => bindR (liftO (resolve [.mref i, a] ds e) e) fun ds' e => match callN prog wf (n + 1) "_law_take" ds' with
    | .ok d ds'' => .ok d (writeBack [.mref i, a] ds'' e)
    | .exc x ds'' => .exc x (writeBack [.mref i, a] ds'' e)
    | .stuck => .stuck from rfl, e1]
  show bindR (liftO (resolve [.mref i, a] [.non, .int m] env) env) _ = _
  rw [e2]
  show (match callN prog wf (n + 1) "_law_take" [x.d, .int m] with
    | .ok d ds'' => R.ok d (writeBack [.mref i, a] ds'' env)
    | .exc x ds'' => .exc x (writeBack [.mref i, a] ds'' env)
    | .stuck => .stuck) = _
  rw [take_ok x m h0 h1]
  show R.ok _ (writeBack [.mref i, a] [(takeB x m).d, .int m] env) = _
  rw [e3]
/-- letters a to z alone -/
def lets (s : Str) : Prop := ∀ c ∈ s.cps.toList, 97 ≤ c ∧ c < 123
/-- a NAME -/
def nameS (s : Str) : Prop := 0 < s.length ∧ s.length ≤ 8 ∧ lets s
theorem lets_app {a b : Str} (ha : lets a) (hb : lets b) : lets (a ++ b) := fun c hc => by
  have hc : c ∈ (a.cps ++ b.cps).toList := hc
  rw [Array.toList_append, List.mem_append] at hc
  exact hc.elim (ha c) (hb c)
theorem lets_join : ∀ {xs : List Str}, (∀ x ∈ xs, lets x) → lets (Str.join "" xs)
  | [], _ => by
    intro c hc
    have e : (Str.join "" []).cps.toList = [] := by decide +kernel
    rw [e] at hc
    cases hc
  | [x], h => h x List.mem_cons_self
  | x :: y :: r, h => lets_app (lets_app (h x List.mem_cons_self) fun c hc => by
      have e : ("" : Str).cps.toList = [] := by decide +kernel
      rw [e] at hc
      cases hc) (lets_join fun z hz => h z (List.mem_cons_of_mem _ hz))
theorem lets_cut {z : Str} (h : lets z) (lo hi : Option Int) : lets (L2.cutS z lo hi) := fun c hc => by
  unfold L2.cutS at hc
  simp only [List.toList_toArray] at hc
  exact h c (List.mem_of_mem_drop (List.mem_of_mem_take hc))
theorem lets_one {k : Nat} (h : k < 26) : lets ⟨#[97 + k]⟩ := fun c hc => by
  have e : c = 97 + k := by simpa using hc
  omega
def abc : Str := "abcdefghijklmnopqrstuvwxyz"
theorem abc_at (j : Int) (h0 : 0 ≤ j) (h1 : j < 26) : ixD (.str abc) (.int j) = some (.str ⟨#[97 + j.toNat]⟩) := by
  have : j.toNat < 26 := by omega
  obtain ⟨k, rfl⟩ : ∃ k : Nat, j = k := ⟨j.toNat, by omega⟩
  have hk : k < 26 := by omega
  have : ∀ k : Fin 26, L2.atI abc.cps.toList ((k.1 : Nat) : Int) = some (97 + k.1) := by decide +kernel
  have := this ⟨k, hk⟩
  simp only [ixD, this, Option.map_some, Int.toNat_natCast]
theorem ev_lc {cf : Str → List D → CR} {own : List Nat} {t : Tg} {it : It} {c : Option E} {e : E} {env env1 env' : Dv} {l l' : List D} (h1 : evIt cf it env = .ok l env1) (h2 : compLoop own t (evC cf c) (ev cf e) l (wipeE env1 own) [] = .ok l' env') : ev cf (.lc own t it c e) env = .ok (.lst l') (backE env1 env' own) := by
  rw [show ev cf (.lc own t it c e) env = bindR (evIt cf it env) fun l env1 => compRun own t (evC cf c) (ev cf e) l env1 from rfl, h1]
  show compRun own t (evC cf c) (ev cf e) l env1 = _
  unfold compRun
  rw [h2]
theorem allO_strs (xs : List Str) : allO isS (xs.map D.str) = some xs := by
  induction xs with
  | nil => rfl
  | cons x xs ih => simp [allO, isS, ih]
theorem sum_ones : ∀ xs : List Str, (∀ x ∈ xs, x.length = 1) → (xs.map (·.length)).sum = xs.length
  | [], _ => rfl
  | x :: xs, h => by
    rw [List.map_cons, List.sum_cons, h x List.mem_cons_self, sum_ones xs fun y hy => h y (List.mem_cons_of_mem _ hy), List.length_cons]
    omega
theorem join_len (xs : List Str) (h : ∀ x ∈ xs, x.length = 1) : (Str.join "" xs).length ≤ xs.length := by
  have h1 := len_join "" xs
  have h2 := sum_ones xs h
  have h3 : ("" : Str).length = 0 := by decide +kernel
  rw [h2, h3] at h1
  omega
/-- the slots of _law_names ahead of the stem -/
def en0 (x : Box) (many first : Int) : Dv := [some x.d, some (.int many), none, none, some (.str abc), some (.int first), some (.lst []), none, none, none, none, none]
theorem stem_ok {wf n : Nat} (x : Box) (many first : Int) : ∃ (y : Box) (s : Str), (s.length ≤ 7 ∧ lets s) ∧
    ev (callN prog wf (n + 1)) (.meth .join (.cst (.str "")) (.lc [11] (.nm 11) (.rng (.call "_law_take" [(.mref 0), (.cst (.int 8))])) none (.op2 .ix (.var 4) (.call "_law_take" [(.mref 0), (.cst (.int 26))])))) (en0 x many first) = .ok (.str s) (en0 y many first) := by
  have hv := take_lt x (m := 8) (by decide)
  have e1 : evIt (callN prog wf (n + 1)) (.rng (.call "_law_take" [(.mref 0), (.cst (.int 8))])) (en0 x many first) = .ok (rangeL 0 (takeV x 8).toNat) (en0 (takeB x 8) many first) := by
    rw [show evIt (callN prog wf (n + 1)) (.rng (.call "_law_take" [(.mref 0), (.cst (.int 8))])) (en0 x many first) = bindR (ev (callN prog wf (n + 1)) (.call "_law_take" [(.mref 0), (.cst (.int 8))]) (en0 x many first)) fun x e => liftO (rngD x) e from rfl, ev_take (x := x) rfl rfl rfl (by decide) (by decide)]
    have : smallI (takeV x 8) = true := by simp [smallI]; omega
    show liftO (rngD (.int (takeV x 8))) _ = _
    unfold rngD
    simp only [this, if_true]
    rfl
  obtain ⟨l, env', h1, y, rfl, xs, rfl, h3, h4⟩ := comp_inv (own := [11]) (t := .nm 11) (c := evC (callN prog wf (n + 1)) none) (e := ev (callN prog wf (n + 1)) (.op2 .ix (.var 4) (.call "_law_take" [(.mref 0), (.cst (.int 26))])))
    (fun i env acc => ∃ y : Box, env = en0 y many first ∧ ∃ xs : List Str, acc = xs.map D.str ∧ xs.length = i ∧ ∀ x ∈ xs, x.length = 1 ∧ lets x) (rangeL 0 (takeV x 8).toNat) 0 (by
      rintro i d env acc hd ⟨y, rfl, xs, rfl, h3, h4⟩
      have hi : i < 8 := by
        have := (List.getElem?_eq_some_iff.mp hd).1
        simp [rangeL] at this
        omega
      refine ⟨_, true, _, rfl, rfl, fun _ => ?_, fun h => by cases h⟩
      have hw := take_lt y (m := 26) (by decide)
      refine ⟨.str ⟨#[97 + (takeV y 26).toNat]⟩, (en0 (takeB y 26) many first).set 11 (some d), ?_, by simp [BIG]; omega, takeB y 26, rfl, xs ++ [⟨#[97 + (takeV y 26).toNat]⟩], by simp, by simp; omega, ?_⟩
      · rw [show ev (callN prog wf (n + 1)) (.op2 .ix (.var 4) (.call "_law_take" [(.mref 0), (.cst (.int 26))])) ((en0 y many first).set 11 (some d)) = bindR (ev (callN prog wf (n + 1)) (.call "_law_take" [(.mref 0), (.cst (.int 26))]) ((en0 y many first).set 11 (some d))) fun z e' => liftO (op2 .ix (.str abc) z) e' from rfl, ev_take (x := y) rfl rfl rfl (by decide) (by decide)]
        show liftO (ixD (.str abc) (.int (takeV y 26))) _ = _
        rw [abc_at _ hw.1 hw.2]
        rfl
      · intro z hz
        rcases List.mem_append.mp hz with hz | hz
        · exact h4 z hz
        · have : z = ⟨#[97 + (takeV y 26).toNat]⟩ := by simpa using hz
          rw [this]; exact ⟨rfl, lets_one (by omega)⟩) (en0 (takeB x 8) many first) [] ⟨_, rfl, [], rfl, rfl, by simp⟩
  have h3' : xs.length ≤ 7 := by
    rw [h3]
    simp [rangeL]
    omega
  have hj := join_len xs fun x hx => (h4 x hx).1
  refine ⟨y, Str.join "" xs, ⟨by omega, lets_join fun x hx => (h4 x hx).2⟩, ?_⟩
  have e2 := ev_lc e1 h1
  rw [show ev (callN prog wf (n + 1)) (.meth .join (.cst (.str "")) (.lc [11] (.nm 11) (.rng (.call "_law_take" [(.mref 0), (.cst (.int 8))])) none (.op2 .ix (.var 4) (.call "_law_take" [(.mref 0), (.cst (.int 26))])))) (en0 x many first) = bindR (ev (callN prog wf (n + 1)) (.lc [11] (.nm 11) (.rng (.call "_law_take" [(.mref 0), (.cst (.int 8))])) none (.op2 .ix (.var 4) (.call "_law_take" [(.mref 0), (.cst (.int 26))]))) (en0 x many first)) fun y e' => liftO (op2 .join (.str "") y) e' from rfl, e2]
  show liftO (joinD (.str "") (.lst (xs.map D.str))) _ = _
  unfold joinD
  simp only [allO_strs]
  have h5 : (xs.map (·.length)).sum + xs.length * ("" : Str).length ≤ BIG := by
    have h3 : ("" : Str).length = 0 := by decide +kernel
    have h2 := sum_ones xs fun x hx => (h4 x hx).1
    rw [h2, h3]
    simp [BIG]
    omega
  rw [if_pos h5]
  rfl
/-- the slots of _law_names in its loop -/
def en1 (x : Box) (many first step few : Int) (stem : Str) (l : List Str) (k c nm : Option D) : Dv := [some x.d, some (.int many), some (.str stem), k, some (.str abc), some (.int first), some (.lst (l.map .str)), some (.int step), some (.int few), c, nm, none]
def lastIs (x : Str) (c : Nat) : Prop := ∃ p : Str, x = p ++ ⟨#[c]⟩
theorem last_inj {x : Str} {c d : Nat} (h : lastIs x c) (h' : lastIs x d) : c = d := by
  obtain ⟨p, rfl⟩ := h
  obtain ⟨q, e⟩ := h'
  have e1 : p.cps ++ #[c] = q.cps ++ #[d] := congrArg Str.cps e
  have e2 : p.cps.toList ++ [c] = q.cps.toList ++ [d] := by
    have := congrArg Array.toList e1
    rwa [Array.toList_append, Array.toList_append] at this
  have := List.append_inj' e2 rfl
  simpa using this.2
theorem ev_op2 {cf : Str → List D → CR} {o : Op2} {a b : E} {env e e' : Dv} {x y v : D} (ha : ev cf a env = .ok x e) (hb : ev cf b e = .ok y e') (h : op2 o x y = some v) : ev cf (.op2 o a b) env = .ok v e' := by
  rw [show ev cf (.op2 o a b) env = bindR (ev cf a env) fun x e => bindR (ev cf b e) fun y e' => liftO (op2 o x y) e' from rfl, ha]
  show bindR (ev cf b e) _ = _
  rw [hb]
  show liftO (op2 o x y) e' = _
  rw [h]
  rfl
theorem ev_lend {cf : Str → List D → CR} {ls hs ms : List Nat} {a : E} {env e : Dv} {d : D} (ha : ev cf a (wipeE env hs) = .ok d e) (h1 : flat 40 d = true) (h2 : flatAt e ms = true) : ev cf (.lend ls hs ms a) env = .ok d (backE e env ms) := by
  rw [show ev cf (.lend ls hs ms a) env = match ev cf a (wipeE env hs) with
    | .ok d e => bif flat 40 d && flatAt e ms then .ok d (backE e env ms) else .stuck
    | _ => .stuck from rfl, ha]
  simp only [h1, h2, Bool.and_self, cond_true]
theorem exe_ins {cf : Str → List D → CR} {wf i : Nat} {a b : E} {env e e2 e3 : Dv} {k : Int} {d : D} {l l0 : List D} (h0 : lstAt env i = some l0) (ha : ev cf a env = .ok (.int k) e) (hb : ev cf b e = .ok d e2) (hl : lstAt e2 i = some l) (hz : l.length < BIG) (hk : 0 ≤ k) (hk2 : k < 2 ^ 63)
    (h : e2.set i (some (.lst (l.take k.toNat ++ [d] ++ l.drop k.toNat))) = e3) : exe cf wf (.ins i a b) env = .nx e3 := by
  rw [show exe cf wf (.ins i a b) env = bif (lstAt env i).isNone then .stuck else bindO (ev cf a env) fun k env => bindO (ev cf b env) fun d env => nxO (insE env i k d) from rfl, h0, ha]
  show bindO (ev cf b e) _ = _
  rw [hb]
  show nxO (insE e2 i (.int k) d) = _
  unfold insE
  rw [hl]
  simp only [if_pos (And.intro hz (And.intro hk hk2)), h]
  rfl
theorem evIt_rng {cf : Str → List D → CR} {a : E} {env e : Dv} {m : Int} (h : ev cf a env = .ok (.int m) e) (hs : smallI m = true) : evIt cf (.rng a) env = .ok (rangeL 0 m.toNat) e := by
  rw [show evIt cf (.rng a) env = bindR (ev cf a env) fun x e => liftO (rngD x) e from rfl, h]
  show liftO (rngD (.int m)) e = _
  unfold rngD
  simp only [hs, if_true]
  rfl
theorem eq_int (a b : Int) : equD (.int a) (.int b) = some (decide (a = b)) := by
  simp [equD, lay, eqD, D.toPy, PyData.eqv]
  by_cases h : a = b <;> simp [h]
theorem names_okS {wf n : Nat} (x : Box) (many : Nat) (hm : many ≤ 26) : ∃ (y : Box) (l : List Str), l.Nodup ∧ l.length = many ∧ (∀ s ∈ l, nameS s) ∧ (∃ stem : Str, ∀ s ∈ l, ∃ (cut : Int) (c : Nat), s = L2.cutS stem none (some cut) ++ ⟨#[c]⟩) ∧
    callN prog wf (n + 2) "_law_names" [x.d, .int many] = .ok (.lst (l.map .str)) [y.d, .int many] := by
  rw [callN_at (g := d_law_names) rfl rfl]
  have hf := take_lt x (m := 26) (by decide)
  obtain ⟨first, hfirst⟩ : ∃ f : Nat, takeV x 26 = f := ⟨(takeV x 26).toNat, by omega⟩
  obtain ⟨x2, stem, hs, e2⟩ := stem_ok (wf := wf) (n := n) (takeB x 26) many first
  have hst := take_lt x2 (m := 4) (by decide)
  obtain ⟨step, hstep, e3⟩ : ∃ step : Int, (step = 1 ∨ step = 3 ∨ step = 7 ∨ step = 25) ∧ ixD (.lst [.int 1, .int 3, .int 7, .int 25]) (.int (takeV x2 4)) = some (.int step) := by
    have : takeV x2 4 = 0 ∨ takeV x2 4 = 1 ∨ takeV x2 4 = 2 ∨ takeV x2 4 = 3 := by omega
    rcases this with e | e | e | e <;> rw [e]
    · exact ⟨1, .inl rfl, rfl⟩
    · exact ⟨3, .inr (.inl rfl), rfl⟩
    · exact ⟨7, .inr (.inr (.inl rfl)), rfl⟩
    · exact ⟨25, .inr (.inr (.inr rfl)), rfl⟩
  have hfew : ∃ few : Int, (few = 0 ∨ few = 1) ∧ (few : Int) = if (first : Int) % 4 = 3 then 1 else 0 := ⟨_, by split <;> simp, rfl⟩
  obtain ⟨few, hfew, efew⟩ := hfew
  have s1 : exe (callN prog wf (n + 1)) wf (.parT [4, 5, 6] [(.cst (.str "abcdefghijklmnopqrstuvwxyz")), (.call "_law_take" [(.mref 0), (.cst (.int 26))]), (.own (.lst []))]) (startE d_law_names [x.d, .int many]) = .nx (en0 (takeB x 26) many first) := by
    have := ev_take (wf := wf) (n := n) (i := 0) (a := .cst (.int 26)) (env := startE d_law_names [x.d, .int many]) (x := x) (m := 26) rfl rfl rfl (by decide) (by decide)
    simp only [exe, evs, bindR, bindO, this, show ev (callN prog wf (n + 1)) (.cst (.str "abcdefghijklmnopqrstuvwxyz")) (startE d_law_names [x.d, .int many]) = .ok (.str abc) (startE d_law_names [x.d, .int many]) from rfl]
    rw [hfirst]
    rfl
  have s2 : exe (callN prog wf (n + 1)) wf (.asg (.nm 2) (.meth .join (.cst (.str "")) (.lc [11] (.nm 11) (.rng (.call "_law_take" [(.mref 0), (.cst (.int 8))])) none (.op2 .ix (.var 4) (.call "_law_take" [(.mref 0), (.cst (.int 26))]))))) (en0 (takeB x 26) many first) = .nx ((en0 x2 many first).set 2 (some (.str stem))) := exe_asg e2 rfl
  have s3 : exe (callN prog wf (n + 1)) wf (.par [7, 8] [(.op2 .ix (.lst [(.cst (.int 1)), (.cst (.int 3)), (.cst (.int 7)), (.cst (.int 25))]) (.call "_law_take" [(.mref 0), (.cst (.int 4))])), (.op1 .int (.op2 .eq (.op2 .mod (.var 5) (.cst (.int 4))) (.cst (.int 3))))]) ((en0 x2 many first).set 2 (some (.str stem))) = .nx (en1 (takeB x2 4) many first step few stem [] none none none) := by
    have h1 := ev_take (wf := wf) (n := n) (i := 0) (a := .cst (.int 4)) (env := (en0 x2 many first).set 2 (some (.str stem))) (x := x2) (m := 4) rfl rfl rfl (by decide) (by decide)
    have h2 : ev (callN prog wf (n + 1)) (.op2 .ix (.lst [(.cst (.int 1)), (.cst (.int 3)), (.cst (.int 7)), (.cst (.int 25))]) (.call "_law_take" [(.mref 0), (.cst (.int 4))])) ((en0 x2 many first).set 2 (some (.str stem))) = .ok (.int step) (((en0 x2 many first).set 2 (some (.str stem))).set 0 (some (takeB x2 4).d)) := by
      rw [show ev (callN prog wf (n + 1)) (.op2 .ix (.lst [(.cst (.int 1)), (.cst (.int 3)), (.cst (.int 7)), (.cst (.int 25))]) (.call "_law_take" [(.mref 0), (.cst (.int 4))])) ((en0 x2 many first).set 2 (some (.str stem))) = bindR (ev (callN prog wf (n + 1)) (.call "_law_take" [(.mref 0), (.cst (.int 4))]) ((en0 x2 many first).set 2 (some (.str stem)))) fun y e' => liftO (ixD (.lst [.int 1, .int 3, .int 7, .int 25]) y) e' from rfl, h1]
      show liftO (ixD (.lst [.int 1, .int 3, .int 7, .int 25]) (.int (takeV x2 4))) _ = _
      rw [e3]
      rfl
    have h3 : ev (callN prog wf (n + 1)) (.op1 .int (.op2 .eq (.op2 .mod (.var 5) (.cst (.int 4))) (.cst (.int 3)))) (((en0 x2 many first).set 2 (some (.str stem))).set 0 (some (takeB x2 4).d)) = .ok (.int few) (((en0 x2 many first).set 2 (some (.str stem))).set 0 (some (takeB x2 4).d)) := by
      rw [show ev (callN prog wf (n + 1)) (.op1 .int (.op2 .eq (.op2 .mod (.var 5) (.cst (.int 4))) (.cst (.int 3)))) (((en0 x2 many first).set 2 (some (.str stem))).set 0 (some (takeB x2 4).d)) = bindR (liftO ((equD (.int ((first : Int) % 4)) (.int 3)).map .bl) (((en0 x2 many first).set 2 (some (.str stem))).set 0 (some (takeB x2 4).d))) fun x e => liftO (op1 .int x) e from rfl, eq_int]
      show R.ok (D.int (if decide ((first : Int) % 4 = 3) then 1 else 0)) _ = _
      rw [efew]
      by_cases h : (first : Int) % 4 = 3 <;> simp [h]
    simp only [exe, evs, bindR, bindO, h2, h3]
    rfl
  obtain ⟨env', h1, y, l, k, c, nm, rfl, h3, h4, h5⟩ := for_inv (t := .nm 3) (body := exs (callN prog wf (n + 1)) wf [(.asg (.nm 9) (.op2 .sub (.op1 .len (.var 2)) (.op2 .mul (.var 8) (.op2 .mod (.var 3) (.cst (.int 3)))))),
    (.asg (.nm 10) (.op2 .add (.slc (.var 2) none (some (.var 9))) (.op2 .ix (.var 4) (.op2 .mod (.op2 .add (.var 5) (.op2 .mul (.var 7) (.var 3))) (.cst (.int 26)))))),
    (.ins 6 (.lend [6] [] [0] (.call "_law_take" [(.mref 0), (.op2 .add (.op1 .len (.var 6)) (.cst (.int 1)))])) (.var 10))])
    (fun i env => ∃ (y : Box) (l : List Str) (k c nm : Option D), env = en1 y many first step few stem l k c nm ∧ l.Nodup ∧ l.length = i ∧ ∀ s ∈ l, nameS s ∧ (∃ (cut : Int) (c : Nat), s = L2.cutS stem none (some cut) ++ ⟨#[c]⟩) ∧ ∃ j : Nat, j < i ∧ lastIs s (97 + (((first : Int) + step * j) % 26).toNat)) (rangeL 0 many) 0 (by
      rintro i d env hd ⟨y, l, k, c, nm, rfl, h3, h4, h5⟩
      rw [Nat.zero_add] at h4 h5 ⊢
      have hi : i < many := by
        have := (List.getElem?_eq_some_iff.mp hd).1
        simpa [rangeL] using this
      have ed : d = .int i := by
        unfold rangeL at hd
        rw [List.getElem?_map, List.getElem?_range hi] at hd
        simp at hd
        exact hd.symm
      subst ed
      obtain ⟨cut, ecut⟩ : ∃ cut : Int, cut = (stem.length : Int) - few * ((i : Int) % 3) := ⟨_, rfl⟩
      obtain ⟨q, eq⟩ : ∃ q : Int, q = ((first : Int) + step * i) % 26 := ⟨_, rfl⟩
      have q0 : 0 ≤ q ∧ q < 26 := by omega
      have hp := take_lt y (m := (l.length : Int) + 1) (by omega)
      refine ⟨en1 y many first step few stem l (some (.int i)) c nm, en1 (takeB y ((l.length : Int) + 1)) many first step few stem (l.take (takeV y ((l.length : Int) + 1)).toNat ++ [L2.cutS stem none (some cut) ++ ⟨#[97 + q.toNat]⟩] ++ l.drop (takeV y ((l.length : Int) + 1)).toNat) (some (.int i)) (some (.int cut)) (some (.str (L2.cutS stem none (some cut) ++ ⟨#[97 + q.toNat]⟩))), rfl, ?_, _, _, _, _, _, rfl, ?_, ?_, ?_⟩
      · have f1 : -18446744073709551616 < few ∧ few < 18446744073709551616 := by omega
        have f2 : -18446744073709551616 < step ∧ step < 18446744073709551616 := by omega
        have a1 : ev (callN prog wf (n + 1)) (.op2 .sub (.op1 .len (.var 2)) (.op2 .mul (.var 8) (.op2 .mod (.var 3) (.cst (.int 3))))) (en1 y many first step few stem l (some (.int i)) c nm) = .ok (.int cut) (en1 y many first step few stem l (some (.int i)) c nm) := by
          simp [ev, en1, bindR, op1, op2, lenD, modD, mulD, subD, liftO, f1, ecut]
        have a2 : ev (callN prog wf (n + 1)) (.op2 .add (.slc (.var 2) none (some (.var 9))) (.op2 .ix (.var 4) (.op2 .mod (.op2 .add (.var 5) (.op2 .mul (.var 7) (.var 3))) (.cst (.int 26))))) (en1 y many first step few stem l (some (.int i)) (some (.int cut)) nm) = .ok (.str (L2.cutS stem none (some cut) ++ ⟨#[97 + q.toNat]⟩)) (en1 y many first step few stem l (some (.int i)) (some (.int cut)) nm) := by
          have hq := abc_at q q0.1 q0.2
          have hz : (L2.cutS stem none (some cut)).length + 1 ≤ BIG := by
            have := cutS_len stem none (some cut)
            have := hs.1
            simp [BIG]; omega
          have hA : ev (callN prog wf (n + 1)) (.slc (.var 2) none (some (.var 9))) (en1 y many first step few stem l (some (.int i)) (some (.int cut)) nm) = .ok (.str (L2.cutS stem none (some cut))) (en1 y many first step few stem l (some (.int i)) (some (.int cut)) nm) := rfl
          have hB : ev (callN prog wf (n + 1)) (.op2 .mod (.op2 .add (.var 5) (.op2 .mul (.var 7) (.var 3))) (.cst (.int 26))) (en1 y many first step few stem l (some (.int i)) (some (.int cut)) nm) = .ok (.int q) (en1 y many first step few stem l (some (.int i)) (some (.int cut)) nm) := by
            simp [ev, en1, bindR, op2, modD, addD, mulD, liftO, f2, eq]
          have hV : ev (callN prog wf (n + 1)) (.var 4) (en1 y many first step few stem l (some (.int i)) (some (.int cut)) nm) = .ok (.str abc) (en1 y many first step few stem l (some (.int i)) (some (.int cut)) nm) := rfl
          exact ev_op2 hA (ev_op2 hV hB hq) (by simp only [op2, addD]; rw [if_pos]; exact hz)
        have a3 : exe (callN prog wf (n + 1)) wf (.ins 6 (.lend [6] [] [0] (.call "_law_take" [(.mref 0), (.op2 .add (.op1 .len (.var 6)) (.cst (.int 1)))])) (.var 10)) (en1 y many first step few stem l (some (.int i)) (some (.int cut)) (some (.str (L2.cutS stem none (some cut) ++ ⟨#[97 + q.toNat]⟩)))) = .nx (en1 (takeB y ((l.length : Int) + 1)) many first step few stem (l.take (takeV y ((l.length : Int) + 1)).toNat ++ [L2.cutS stem none (some cut) ++ ⟨#[97 + q.toNat]⟩] ++ l.drop (takeV y ((l.length : Int) + 1)).toNat) (some (.int i)) (some (.int cut)) (some (.str (L2.cutS stem none (some cut) ++ ⟨#[97 + q.toNat]⟩)))) := by
          have b1 : ev (callN prog wf (n + 1)) (.op2 .add (.op1 .len (.var 6)) (.cst (.int 1))) (en1 y many first step few stem l (some (.int i)) (some (.int cut)) (some (.str (L2.cutS stem none (some cut) ++ ⟨#[97 + q.toNat]⟩)))) = .ok (.int ((l.length : Int) + 1)) (en1 y many first step few stem l (some (.int i)) (some (.int cut)) (some (.str (L2.cutS stem none (some cut) ++ ⟨#[97 + q.toNat]⟩)))) := by
            simp [ev, en1, bindR, op1, op2, lenD, addD, liftO]
          have b2 := ev_take (wf := wf) (n := n) (i := 0) (x := y) rfl rfl b1 (by omega) (by omega)
          have b3 : (l.map D.str).length < BIG := by simp [BIG]; omega
          refine exe_ins (l := l.map D.str) rfl (ev_lend b2 rfl rfl) rfl rfl b3 hp.1 (by omega) ?_
          simp only [en1, List.map_append, List.map_take, List.map_drop, List.map_cons, List.map_nil]
          rfl
        exact seq_nx (exe_asg a1 rfl) (seq_nx (exe_asg a2 rfl) (seq_nx a3 rfl))
      · have hnew : ∀ s ∈ l, s ≠ L2.cutS stem none (some cut) ++ ⟨#[97 + q.toNat]⟩ := by
          intro s hs e
          obtain ⟨_, _, j, hj, hlast⟩ := h5 s hs
          have := last_inj hlast ⟨_, e⟩
          rw [eq] at this
          rcases hstep with rfl | rfl | rfl | rfl <;> omega
        have hsplit : l = l.take (takeV y ((l.length : Int) + 1)).toNat ++ l.drop (takeV y ((l.length : Int) + 1)).toNat := (List.take_append_drop _ l).symm
        have nd : (l.take (takeV y ((l.length : Int) + 1)).toNat ++ l.drop (takeV y ((l.length : Int) + 1)).toNat).Nodup := by rw [← hsplit]; exact h3
        rw [List.append_assoc, List.singleton_append]
        have perm : (l.take (takeV y ((l.length : Int) + 1)).toNat ++ (L2.cutS stem none (some cut) ++ ⟨#[97 + q.toNat]⟩) :: l.drop (takeV y ((l.length : Int) + 1)).toNat).Perm ((L2.cutS stem none (some cut) ++ ⟨#[97 + q.toNat]⟩) :: l) := by
          refine List.perm_middle.trans (.cons _ ?_)
          rw [← hsplit]
        exact (perm.nodup_iff).mpr (List.nodup_cons.mpr ⟨fun hm => hnew _ hm rfl, h3⟩)
      · simp only [List.length_append, List.length_take, List.length_drop, List.length_singleton]
        omega
      · intro s hm
        rw [List.append_assoc] at hm
        have : s ∈ l ∨ s = L2.cutS stem none (some cut) ++ ⟨#[97 + q.toNat]⟩ := by
          rcases List.mem_append.mp hm with h | h
          · exact .inl (List.mem_of_mem_take h)
          · rcases List.mem_append.mp h with h | h
            · exact .inr (by simpa using h)
            · exact .inl (List.mem_of_mem_drop h)
        rcases this with h | rfl
        · obtain ⟨h6, h6', j, hj, h7⟩ := h5 s h
          exact ⟨h6, h6', j, by omega, h7⟩
        · refine ⟨?_, ⟨_, _, rfl⟩, i, by omega, ⟨_, by rw [eq]⟩⟩
          have := cutS_len stem none (some cut)
          have e1 : (⟨#[97 + q.toNat]⟩ : Str).length = 1 := rfl
          exact ⟨by rw [str_len_app]; omega, by rw [str_len_app]; have := hs.1; omega, lets_app (lets_cut hs.2 _ _) (lets_one (by omega))⟩) (en1 (takeB x2 4) many first step few stem [] none none none) ⟨_, [], none, none, none, rfl, by simp, rfl, by simp⟩
  refine ⟨y, l, h3, by rw [h4]; simp [rangeL], fun s hs => (h5 s hs).1, ⟨stem, fun s hs => (h5 s hs).2.1⟩, ?_⟩
  have sm : smallI (many : Int) = true := by simp [smallI]; omega
  have s4 : evIt (callN prog wf (n + 1)) (.rng (.var 1)) (en1 (takeB x2 4) many first step few stem [] none none none) = .ok (rangeL 0 many) (en1 (takeB x2 4) many first step few stem [] none none none) := by
    have := evIt_rng (cf := callN prog wf (n + 1)) (a := .var 1) (env := en1 (takeB x2 4) many first step few stem [] none none none) rfl sm
    rwa [Int.toNat_natCast] at this
  exact run_nx s1 (run_nx s2 (run_nx s3 (run_nx (exe_fr s4 h1) (run_rt (exe_ret rfl) rfl))))
theorem names_ok {wf n : Nat} (x : Box) (many : Nat) (hm : many ≤ 26) : ∃ (y : Box) (l : List Str), l.Nodup ∧ l.length = many ∧ (∀ s ∈ l, nameS s) ∧
    callN prog wf (n + 2) "_law_names" [x.d, .int many] = .ok (.lst (l.map .str)) [y.d, .int many] := by
  obtain ⟨y, l, h1, h2, h3, _, h4⟩ := names_okS (wf := wf) (n := n) x many hm
  exact ⟨y, l, h1, h2, h3, h4⟩
/-- not both of two names of eight letters that begin otherwise -/
theorem not_both {l : List Str} (h : ∃ stem : Str, ∀ s ∈ l, ∃ (cut : Int) (c : Nat), s = L2.cutS stem none (some cut) ++ ⟨#[c]⟩) {a b : Str} (ha : a ∈ l) (hb : b ∈ l) (la : 2 ≤ a.length) (lb : 2 ≤ b.length) : a.cps.toList.head? = b.cps.toList.head? := by
  obtain ⟨stem, hs⟩ := h
  have key : ∀ s ∈ l, 2 ≤ s.length → s.cps.toList.head? = stem.cps.toList.head? := fun s hm h2 => by
    obtain ⟨cut, c, rfl⟩ := hs s hm
    have e : (L2.cutS stem none (some cut) ++ (⟨#[c]⟩ : Str)).cps.toList = (L2.cutS stem none (some cut)).cps.toList ++ [c] := Array.toList_append
    rw [e]
    rw [str_len_app] at h2
    have e1 : (⟨#[c]⟩ : Str).length = 1 := rfl
    have hl : 0 < (L2.cutS stem none (some cut)).cps.toList.length := by
      show 0 < (L2.cutS stem none (some cut)).length
      omega
    unfold L2.cutS at hl ⊢
    simp only [List.toList_toArray] at hl ⊢
    obtain ⟨t, et⟩ : ∃ t, t = stem.cps.toList := ⟨_, rfl⟩
    rw [← et] at hl ⊢
    have e0 : HT.sIx stem.length 0 (none : Option Int) = 0 := rfl
    generalize HT.sIx stem.length stem.length (some cut) = kk at hl ⊢
    rw [e0, List.drop_zero, Nat.sub_zero] at hl ⊢
    cases t with
    | nil => simp at hl
    | cons z t =>
      cases kk with
      | zero => simp at hl
      | succ k => simp
  rw [key a ha la, key b hb lb]
end Lw
namespace Lw
open Pv PySem
/-- a pair in order -/
def nrm (a b : Str) : Str × Str := (if strLt b a then b else a, if strLt a b then b else a)
theorem nrm_lt {a b : Str} (h : a ≠ b) : strLt (nrm a b).1 (nrm a b).2 = true := by
  unfold nrm
  cases h1 : strLt b a with
  | true =>
    simp only [strLt_asym h1, if_true, Bool.false_eq_true, if_false]
    exact h1
  | false =>
    cases h2 : strLt a b with
    | true => simpa using h2
    | false => exact absurd (strLt_eq h2 h1) h
def Good (pool : List Str) (ps : List (Str × Str)) : Prop := ∀ p ∈ ps, ∃ a ∈ pool, ∃ b ∈ pool, a ≠ b ∧ p = nrm a b
end Lw
namespace Lw
open Pv PySem
theorem op_eq_int (a b : Int) : op2 .eq (.int a) (.int b) = some (.bl (decide (a = b))) := by
  show (equD (.int a) (.int b)).map D.bl = _
  rw [eq_int]
  rfl
/-- _law_pals: its slots -/
def ep (x : Box) (pool : List Str) (side : Option D) (way : Int) (ps : List (Str × Str)) (k m j f : Option D) : Dv := [some x.d, some (.lst (pool.map .str)), side, some (.int way), some (.lst (ps.map pr)), k, m, j, none, f]
theorem side_ok {wf n : Nat} (x : Box) (pool : List Str) (way : Int) (hl : pool.length ≤ 1000) : ∃ (y : Box) (side : List Int), side.length = pool.length ∧
    ev (callN prog wf (n + 1)) (.lc [8] (.nm 8) (.seq (.var 1)) none (.call "_law_take" [(.mref 0), (.cst (.int 3))])) (ep x pool none way [] none none none none) = .ok (.lst (side.map .int)) (ep y pool none way [] none none none none) := by
  have e1 : evIt (callN prog wf (n + 1)) (.seq (.var 1)) (ep x pool none way [] none none none none) = .ok (pool.map D.str) (ep x pool none way [] none none none none) := rfl
  obtain ⟨l, env', h1, y, rfl, side, rfl, h3⟩ := comp_inv (own := [8]) (t := .nm 8) (c := evC (callN prog wf (n + 1)) none) (e := ev (callN prog wf (n + 1)) (.call "_law_take" [(.mref 0), (.cst (.int 3))]))
    (fun i env acc => ∃ y : Box, env = ep y pool none way [] none none none none ∧ ∃ xs : List Int, acc = xs.map D.int ∧ xs.length = i) (pool.map D.str) 0 (by
      rintro i d env acc hd ⟨y, rfl, xs, rfl, h3⟩
      have hi : i < pool.length := by simpa using (List.getElem?_eq_some_iff.mp hd).1
      refine ⟨_, true, _, rfl, rfl, fun _ => ?_, fun h => by cases h⟩
      refine ⟨.int (takeV y 3), (ep (takeB y 3) pool none way [] none none none none).set 8 (some d), ?_, by simp [BIG]; omega, takeB y 3, rfl, xs ++ [takeV y 3], by simp, by simp; omega⟩
      exact ev_take (x := y) rfl rfl rfl (by decide) (by decide)) (ep x pool none way [] none none none none) [] ⟨x, rfl, [], rfl, rfl⟩
  exact ⟨y, side, by rw [h3]; simp, ev_lc e1 h1⟩
theorem ev_cst2 {cf : Str → List D → CR} {o : Op2} {a : E} {env e : Dv} {x c v : D} (ha : ev cf a env = .ok x e) (h : op2 o x c = some v) : ev cf (.op2 o a (.cst c)) env = .ok v e := ev_op2 ha rfl h
theorem evs_cons {cf : Str → List D → CR} {a : E} {as : List E} {env e e' : Dv} {d : D} {ds : List D} (h1 : ev cf a env = .ok d e) (h2 : evs cf as e = .ok ds e') : evs cf (a :: as) env = .ok (d :: ds) e' := by
  rw [show evs cf (a :: as) env = bindR (ev cf a env) fun d e => bindR (evs cf as e) fun ds e' => .ok (d :: ds) e' from rfl, h1]
  show bindR (evs cf as e) _ = _
  rw [h2]
  rfl
theorem ev_lst {cf : Str → List D → CR} {as : List E} {env e : Dv} {ds : List D} (h : evs cf as env = .ok ds e) : ev cf (.lst as) env = .ok (.lst ds) e := by
  rw [show ev cf (.lst as) env = bindR (evs cf as env) fun ds e => .ok (.lst ds) e from rfl, h]
  rfl
theorem ev_tup {cf : Str → List D → CR} {as : List E} {env e : Dv} {ds : List D} (h : evs cf as env = .ok ds e) : ev cf (.tup as) env = .ok (.tup ds) e := by
  rw [show ev cf (.tup as) env = bindR (evs cf as env) fun ds e => .ok (.tup ds) e from rfl, h]
  rfl
theorem fine_ok {wf n : Nat} (x : Box) (pool : List Str) (side : Option D) (way : Int) (hw : 0 ≤ way) (ps : List (Str × Str)) (k m j f : Option D) : ∃ (y : Box) (b : Bool),
    ev (callN prog wf (n + 1)) (.op2 .ix (.lst [(.op2 .eq (.call "_law_take" [(.mref 0), (.cst (.int 4))]) (.cst (.int 0))), (.op2 .eq (.call "_law_take" [(.mref 0), (.cst (.int 2))]) (.cst (.int 0))), (.op2 .gt (.call "_law_take" [(.mref 0), (.cst (.int 4))]) (.cst (.int 0)))]) (.op2 .mod (.var 3) (.cst (.int 3)))) (ep x pool side way ps k m j f) = .ok (.bl b) (ep y pool side way ps k m j f) := by
  have a1 := ev_cst2 (o := .eq) (c := .int 0) (ev_take (wf := wf) (n := n) (i := 0) (a := .cst (.int 4)) (env := ep x pool side way ps k m j f) (x := x) rfl rfl rfl (by decide) (by decide)) (op_eq_int _ _)
  have a2 := ev_cst2 (o := .eq) (c := .int 0) (ev_take (wf := wf) (n := n) (i := 0) (a := .cst (.int 2)) (env := ep (takeB x 4) pool side way ps k m j f) (x := takeB x 4) rfl rfl rfl (by decide) (by decide)) (op_eq_int _ _)
  have a3 := ev_cst2 (o := .gt) (c := .int 0) (ev_take (wf := wf) (n := n) (i := 0) (a := .cst (.int 4)) (env := ep (takeB (takeB x 4) 2) pool side way ps k m j f) (x := takeB (takeB x 4) 2) rfl rfl rfl (by decide) (by decide)) (v := .bl (decide (0 < takeV (takeB (takeB x 4) 2) 4))) rfl
  have hm : way % 3 = 0 ∨ way % 3 = 1 ∨ way % 3 = 2 := by omega
  obtain ⟨b, hb⟩ : ∃ b, op2 .ix (.lst [.bl (decide (takeV x 4 = 0)), .bl (decide (takeV (takeB x 4) 2 = 0)), .bl (decide (0 < takeV (takeB (takeB x 4) 2) 4))]) (.int (way % 3)) = some (.bl b) := by
    rcases hm with e | e | e <;> rw [e]
    · exact ⟨_, rfl⟩
    · exact ⟨_, rfl⟩
    · exact ⟨_, rfl⟩
  refine ⟨takeB (takeB (takeB x 4) 2) 4, b, ev_op2 (e := ep (takeB (takeB (takeB x 4) 2) 4) pool side way ps k m j f) (ev_lst (evs_cons a1 (evs_cons a2 (evs_cons a3 rfl)))) (ev_cst2 (o := .mod) (x := .int way) rfl (v := .int (way % 3)) rfl) hb⟩
theorem exe_app {cf : Str → List D → CR} {wf i : Nat} {a : E} {env e e3 : Dv} {d : D} {l l0 : List D} (h0 : lstAt env i = some l0) (ha : ev cf a env = .ok d e) (hl : lstAt e i = some l) (hz : l.length < BIG) (h : e.set i (some (.lst (l ++ [d]))) = e3) : exe cf wf (.app i a) env = .nx e3 := by
  rw [show exe cf wf (.app i a) env = bif (lstAt env i).isNone then .stuck else bindO (ev cf a env) fun d env => nxO (appE env i d) from rfl, h0, ha]
  show nxO (appE e i d) = _
  unfold appE
  rw [hl]
  simp only [if_pos hz, h]
  rfl
theorem ev_ite {cf : Str → List D → CR} {c a b : E} {env e : Dv} {d : D} {k : Bool} {r : R D} (hc : ev cf c env = .ok d e) (ht : d.truth = some k) (h : (bif k then ev cf a e else ev cf b e) = r) : ev cf (.ite c a b) env = r := by
  rw [show ev cf (.ite c a b) env = bindR (ev cf c env) fun x e => bindR (liftO x.truth e) fun k e => bif k then ev cf a e else ev cf b e from rfl, hc]
  show bindR (liftO d.truth e) _ = _
  rw [ht]
  exact h
theorem strs_at {pool : List Str} {i : Nat} (h : i < pool.length) : op2 .ix (.lst (pool.map D.str)) (.int i) = some (.str pool[i]) := by
  have hi : (i : Int) < pool.length := by omega
  simp [op2, ixD, L2.atI, L2.ixN, h, hi]
theorem ints_at {side : List Int} {i : Nat} (h : i < side.length) : op2 .ix (.lst (side.map D.int)) (.int i) = some (.int side[i]) := by
  have hi : (i : Int) < side.length := by omega
  simp [op2, ixD, L2.atI, L2.ixN, h, hi]
abbrev palsInner : List S := [(.asg (.nm 9) (.op2 .ix (.lst [(.op2 .eq (.call "_law_take" [(.mref 0), (.cst (.int 4))]) (.cst (.int 0))), (.op2 .eq (.call "_law_take" [(.mref 0), (.cst (.int 2))]) (.cst (.int 0))), (.op2 .gt (.call "_law_take" [(.mref 0), (.cst (.int 4))]) (.cst (.int 0)))]) (.op2 .mod (.var 3) (.cst (.int 3))))),
    (.asg (.nm 9) (.ite (.op2 .eq (.var 3) (.cst (.int 5))) (.op2 .eq (.op2 .ix (.var 2) (.var 5)) (.op2 .ix (.var 2) (.var 7))) (.var 9))),
    (.ife (.var 9) [(.app 4 (.tup [(.op2 .min (.var 6) (.op2 .ix (.var 1) (.var 7))), (.op2 .max (.var 6) (.op2 .ix (.var 1) (.var 7)))]))] [])]
theorem pals_inner {wf n : Nat} (x : Box) (pool : List Str) (nd : pool.Nodup) (side : List Int) (hs : side.length = pool.length) (way : Int) (hw : 0 ≤ way) (ps : List (Str × Str)) (g : Good pool ps) (hb : ps.length < 1000) (i j : Nat) (hi : i < pool.length) (hj : j < i) (f : Option D) :
    ∃ (y : Box) (ps' : List (Str × Str)) (f' : Option D), Good pool ps' ∧ ps'.length ≤ ps.length + 1 ∧
      exs (callN prog wf (n + 1)) wf palsInner (ep x pool (some (.lst (side.map .int))) way ps (some (.int i)) (some (.str pool[i])) (some (.int j)) f) = .nx (ep y pool (some (.lst (side.map .int))) way ps' (some (.int i)) (some (.str pool[i])) (some (.int j)) f') := by
  have hj' : j < pool.length := by omega
  obtain ⟨y, b, e1⟩ := fine_ok (wf := wf) (n := n) x pool (some (.lst (side.map .int))) way hw ps (some (.int i)) (some (.str pool[i])) (some (.int j)) f
  obtain ⟨b2, e2⟩ : ∃ b2 : Bool, ev (callN prog wf (n + 1)) (.ite (.op2 .eq (.var 3) (.cst (.int 5))) (.op2 .eq (.op2 .ix (.var 2) (.var 5)) (.op2 .ix (.var 2) (.var 7))) (.var 9)) (ep y pool (some (.lst (side.map .int))) way ps (some (.int i)) (some (.str pool[i])) (some (.int j)) (some (.bl b))) = .ok (.bl b2) (ep y pool (some (.lst (side.map .int))) way ps (some (.int i)) (some (.str pool[i])) (some (.int j)) (some (.bl b))) := by
    have c1 := ev_cst2 (cf := callN prog wf (n + 1)) (o := .eq) (a := .var 3) (env := ep y pool (some (.lst (side.map .int))) way ps (some (.int i)) (some (.str pool[i])) (some (.int j)) (some (.bl b))) (c := .int 5) (x := .int way) rfl (op_eq_int way 5)
    by_cases h5 : way = 5
    · refine ⟨decide (side[i] = side[j]), ev_ite (k := true) c1 (by simp [D.truth, h5]) ?_⟩
      exact ev_op2 (ev_op2 (x := .lst (side.map .int)) (y := .int i) rfl rfl (ints_at (by omega))) (ev_op2 (x := .lst (side.map .int)) (y := .int j) rfl rfl (ints_at (by omega))) (op_eq_int _ _)
    · exact ⟨b, ev_ite (k := false) c1 (by simp [D.truth, h5]) rfl⟩
  have hne : pool[i] ≠ pool[j] := fun e => List.pairwise_iff_getElem.mp nd j i hj' hi hj e.symm
  have m1 : ev (callN prog wf (n + 1)) (.tup [(.op2 .min (.var 6) (.op2 .ix (.var 1) (.var 7))), (.op2 .max (.var 6) (.op2 .ix (.var 1) (.var 7)))]) (ep y pool (some (.lst (side.map .int))) way ps (some (.int i)) (some (.str pool[i])) (some (.int j)) (some (.bl b2))) = .ok (pr (nrm pool[i] pool[j])) (ep y pool (some (.lst (side.map .int))) way ps (some (.int i)) (some (.str pool[i])) (some (.int j)) (some (.bl b2))) :=
    ev_tup (evs_cons (ev_op2 (x := .str pool[i]) rfl (ev_op2 (x := .lst (pool.map .str)) (y := .int j) rfl rfl (strs_at hj')) rfl) (evs_cons (ev_op2 (x := .str pool[i]) rfl (ev_op2 (x := .lst (pool.map .str)) (y := .int j) rfl rfl (strs_at hj')) rfl) rfl))
  cases b2 with
  | false => exact ⟨y, ps, some (.bl false), g, by omega, seq_nx (exe_asg e1 rfl) (seq_nx (exe_asg e2 rfl) (seq_nx (exe_if (k := false) rfl rfl rfl) rfl))⟩
  | true =>
    refine ⟨y, ps ++ [nrm pool[i] pool[j]], some (.bl true), fun p hp => ?_, by simp, seq_nx (exe_asg e1 rfl) (seq_nx (exe_asg e2 rfl) (seq_nx (exe_if (k := true) rfl rfl (seq_nx (exe_app (l := ps.map pr) rfl m1 rfl (by simp [BIG]; omega) ?_) rfl)) rfl))⟩
    · rcases List.mem_append.mp hp with h | h
      · exact g p h
      · exact ⟨_, List.getElem_mem hi, _, List.getElem_mem hj', hne, by simpa using h⟩
    · simp only [ep, List.map_append, List.map_cons, List.map_nil]
      rfl
def unpr : D → Str × Str
  | .tup [.str a, .str b] => (a, b)
  | _ => ("", "")
theorem ev_op1 {cf : Str → List D → CR} {o : Op1} {a : E} {env e : Dv} {x v : D} (ha : ev cf a env = .ok x e) (h : op1 o x = some v) : ev cf (.op1 o a) env = .ok v e := by
  rw [show ev cf (.op1 o a) env = bindR (ev cf a env) fun x e => liftO (op1 o x) e from rfl, ha]
  show liftO (op1 o x) e = _
  rw [h]
  rfl
theorem pals_ok {wf n : Nat} (x : Box) (pool : List Str) (nd : pool.Nodup) (hl : pool.length ≤ 26) : ∃ (y : Box) (ps : List (Str × Str)), Good pool ps ∧ ps.length ≤ 1000 ∧
    callN prog wf (n + 2) "_law_pals" [x.d, .lst (pool.map .str)] = .ok (.tup (ps.map pr)) [y.d, .lst (pool.map .str)] := by
  rw [callN_at (g := d_law_pals) rfl rfl]
  have hw := take_lt x (m := 6) (by decide)
  have t1 := ev_take (wf := wf) (n := n) (i := 0) (a := .cst (.int 6)) (env := startE d_law_pals [x.d, .lst (pool.map .str)]) (x := x) (m := 6) rfl rfl rfl (by decide) (by decide)
  obtain ⟨way, ew⟩ : ∃ way, way = takeV x 6 := ⟨_, rfl⟩
  rw [← ew] at hw t1
  have s1 : exe (callN prog wf (n + 1)) wf (.par [3, 4] [(.call "_law_take" [(.mref 0), (.cst (.int 6))]), (.own (.lst []))]) (startE d_law_pals [x.d, .lst (pool.map .str)]) = .nx (ep (takeB x 6) pool none way [] none none none none) := by
    simp only [exe, evs, bindR, bindO, t1]
    rfl
  obtain ⟨x2, side, hs, e2⟩ := side_ok (wf := wf) (n := n) (takeB x 6) pool way (by omega)
  obtain ⟨env', h1, x3, ps, k, m, j, f, rfl, g, hb⟩ := for_inv (t := .tp [5, 6]) (body := exs (callN prog wf (n + 1)) wf [.fr (.nm 7) (.rng (.var 5)) palsInner])
    (fun i env => ∃ (y : Box) (ps : List (Str × Str)) (k m j f : Option D), env = ep y pool (some (.lst (side.map .int))) way ps k m j f ∧ Good pool ps ∧ ps.length ≤ i * 26) (enumL (pool.map .str)) 0 (by
      rintro i d env hd ⟨y, ps, k, m, j, f, rfl, g, hb⟩
      rw [Nat.zero_add] at hb ⊢
      obtain ⟨e, he, rfl⟩ := enum_at hd
      rw [List.getElem?_map] at he
      have hi : i < pool.length := by
        cases q : pool[i]? with
        | none => rw [q] at he; cases he
        | some z => exact (List.getElem?_eq_some_iff.mp q).1
      rw [List.getElem?_eq_getElem hi] at he
      cases he
      obtain ⟨env', h1, y2, ps2, j2, f2, rfl, g2, hb2⟩ := for_inv (t := .nm 7) (body := exs (callN prog wf (n + 1)) wf palsInner)
        (fun q env => ∃ (y : Box) (ps' : List (Str × Str)) (j f : Option D), env = ep y pool (some (.lst (side.map .int))) way ps' (some (.int i)) (some (.str pool[i])) j f ∧ Good pool ps' ∧ ps'.length ≤ i * 26 + q) (rangeL 0 i) 0 (by
          rintro q d env hd ⟨y, ps', j, f, rfl, g, hb⟩
          rw [Nat.zero_add] at hb ⊢
          have hq : q < i := by
            have := (List.getElem?_eq_some_iff.mp hd).1
            simpa [rangeL] using this
          have ed : d = .int q := by
            unfold rangeL at hd
            rw [List.getElem?_map, List.getElem?_range hq] at hd
            simp at hd
            exact hd.symm
          subst ed
          obtain ⟨y2, ps2, f2, g2, hb2, e⟩ := pals_inner (wf := wf) (n := n) y pool nd side hs way hw.1 ps' g (by omega) i q hi hq f
          exact ⟨_, _, rfl, e, y2, ps2, _, f2, rfl, g2, by omega⟩) (ep y pool (some (.lst (side.map .int))) way ps (some (.int i)) (some (.str pool[i])) j f) ⟨y, ps, j, f, rfl, g, hb⟩
      have sm : smallI (i : Int) = true := by simp [smallI]; omega
      have r1 := evIt_rng (cf := callN prog wf (n + 1)) (a := .var 5) (env := ep y pool (some (.lst (side.map .int))) way ps (some (.int i)) (some (.str pool[i])) j f) rfl sm
      rw [Int.toNat_natCast] at r1
      refine ⟨_, _, rfl, seq_nx (exe_fr r1 h1) rfl, y2, ps2, _, _, j2, f2, rfl, g2, ?_⟩
      simp [rangeL] at hb2
      omega) (ep x2 pool (some (.lst (side.map .int))) way [] none none none none) ⟨x2, [], none, none, none, none, rfl, by intro p hp; simp at hp, by simp⟩
  have mem : ∀ d ∈ sortL (ps.map pr), ∃ p ∈ ps, d = pr p := fun d hd => by
    obtain ⟨p, hp, e⟩ := List.mem_map.mp ((sortL_perm (ps.map pr)).mem_iff.mp hd)
    exact ⟨p, hp, e.symm⟩
  have eqs : ((sortL (ps.map pr)).map unpr).map pr = sortL (ps.map pr) := by
    rw [List.map_map]
    refine (List.map_congr_left fun d hd => ?_).trans (List.map_id _)
    obtain ⟨p, _, rfl⟩ := mem d hd
    rfl
  have hk : (ps.map pr).all (fun d => kinds d == 3) = true := by
    rw [List.all_eq_true]
    intro d hd
    obtain ⟨p, _, rfl⟩ := List.mem_map.mp hd
    rfl
  have hfl : flat 40 (.tup (sortL (ps.map pr))) = true := by
    show (sortL (ps.map pr)).all (flat 39) = true
    rw [List.all_eq_true]
    intro d hd
    obtain ⟨p, _, rfl⟩ := mem d hd
    rfl
  have r1 : ev (callN prog wf (n + 1)) (.op1 .tuple (.op1 .sorted (.var 4))) (wipeE (ep x3 pool (some (.lst (side.map .int))) way ps k m j f) [0]) = .ok (.tup (sortL (ps.map pr))) (wipeE (ep x3 pool (some (.lst (side.map .int))) way ps k m j f) [0]) := by
    refine ev_op1 (x := .lst (sortL (ps.map pr))) (ev_op1 (x := .lst (ps.map pr)) rfl ?_) rfl
    show (sortD (ps.map pr)).map D.lst = _
    unfold sortD
    rw [hk, Bool.or_true, if_pos rfl]
    rfl
  refine ⟨x3, (sortL (ps.map pr)).map unpr, fun p hp => ?_, ?_, ?_⟩
  · obtain ⟨d, hd, rfl⟩ := List.mem_map.mp hp
    obtain ⟨q, hq, rfl⟩ := mem d hd
    exact g q hq
  · rw [List.length_map, (sortL_perm (ps.map pr)).length_eq, List.length_map]
    have : (enumL (pool.map D.str)).length = pool.length := by simp [enumL]
    rw [this] at hb
    omega
  · rw [eqs]
    exact run_nx s1 (run_nx (exe_asg e2 rfl) (run_nx (exe_fr rfl h1) (run_rt (exe_ret (ev_lend r1 hfl rfl)) rfl)))
end Lw
namespace Lw
open Pv PySem
def fr_ (ps : List (Str × Str)) (a b : Str) : Bool := decide (nrm a b ∈ ps)
/-- behind the last that f takes; s if there is none -/
def spotAt (f : Str → Bool) : List Str → Nat → Nat → Nat
  | [], _, s => s
  | x :: l, k, s => spotAt f l (k + 1) (if f x then k + 1 else s)
def comeAt (ps : List (Str × Str)) (st : List Str) (a : Str) : Nat := spotAt (fr_ ps a) st 0 st.length
def come (ps : List (Str × Str)) (st : List Str) (a : Str) : List Str := st.take (comeAt ps st a) ++ [a] ++ st.drop (comeAt ps st a)
theorem spotAt_none (f : Str → Bool) : ∀ (l : List Str) (k s : Nat), (∀ x ∈ l, f x = false) → spotAt f l k s = s
  | [], _, _, _ => rfl
  | x :: l, k, s, h => by
    unfold spotAt
    rw [h x List.mem_cons_self]
    exact spotAt_none f l (k + 1) s fun y hy => h y (List.mem_cons_of_mem _ hy)
theorem spotAt_le (f : Str → Bool) : ∀ (l : List Str) (k s m : Nat), k + l.length ≤ m → s ≤ m → spotAt f l k s ≤ m
  | [], _, _, _, _, h => h
  | x :: l, k, s, m, h1, h2 => by
    unfold spotAt
    rw [List.length_cons] at h1
    refine spotAt_le f l (k + 1) _ m (by omega) ?_
    split <;> omega
theorem comeAt_le (ps : List (Str × Str)) (st : List Str) (a : Str) : comeAt ps st a ≤ st.length := spotAt_le _ _ _ _ _ (by omega) (by omega)
end Lw
namespace Lw
open Pv PySem
theorem are_ok {wf n : Nat} (ps : List (Str × Str)) (a b : Str) : callN prog wf (n + 1) "_law_are" [.tup (ps.map pr), .str a, .str b] = .ok (.bl (fr_ ps a b)) [.tup (ps.map pr), .str a, .str b] := by
  simp only [at_law_are, bd_law_are, z_bR, z_bO, z_tO, z_tR, z_tB, z_tC, z_l, z_n, z_v, z_m, z_rf, z_bk, z_pk, z_ld, z_var, z_mv, z_mref, z_own, z_cst, z_glb, z_dnew, z_tup, k_tup, z_lst, k_lst, z_op1, k_op1, z_op2, k_op2, k_op2b, z_slc, k_slc1, k_slc2, k_slc3, z_get, k_get1, k_get2, k_get3, p_e, z_meth, k_meth, z_and, k_and, k_and2, z_or, k_or, k_or2, p_t, p_f, z_nt, k_nt, k_nt2, z_ite, k_ite, k_ite2, z_chain, k_ch1, k_ch2, k_ch3, k_ch4, k_bl, p_ct, p_cf, z_call, k_call, k_call2, z_callK, k_callK, k_callK2, z_lend, z_lc, k_lc, z_on, z_os, k_os, z_cn, z_cs, k_tru, z_seq, k_seq, z_rng, k_rng, z_rng2, k_rng2, k_rng2b, z_enm, k_enm, z_zip, k_zip, k_zip2, z_e0, z_e1, k_cons, k_cons2, s_asg, k_asg, s_asgM, k_asgM, s_par, s_parT, k_par, s_app, p_o, k_app, s_ins, k_ins, k_ins2, s_setL, k_setL, k_setL2, s_setD, k_setD, k_setD2, s_sdd, k_sdd, k_sdd2, k_sdd3, s_ex, k_ex, s_if, k_if, k_if2, p_ot, p_of, s_fr, k_fr, s_whl, s_ret, k_ret, s_brk, s_cnt, s_pass, s_nil, s_cons, f_b, f_nx, f_ct, f_bk, f_rt, for_nil, for_cons, t_nm, t_tp2, t_tp2L, t_tp3, setAll, List.getElem?_cons_zero, List.getElem?_cons_succ, List.set_cons_zero, List.set_cons_succ, wipeE, backE, cond_true, cond_false, resolve, writeBack, permA, isDct, recvD, isI, isB, Option.map_some, Option.bind_some, Option.getD_some, Option.getD_none, seqOf, seqStr, o_andB, t_int, t_lst, t_tup, t_str, t_non, fl_int, fl_str, fl_bl, fl_non, fa_nil, fl_strT, o_len1, o_len2, o_len3, o_neg, o_list, o_list2, o_tup, o_tup2, o_isi, o_cutT, o_cutL, o_eq_int, o_eq_str, o_ne_int, o_ne_str, o_eq_bl, o_ne_bl, o_eq_strT, o_eq_strL, o_ne_strT, o_ne_strL, o_ne_nilL, o_eq_nilL, o_ne_nn, o_eq_nn, o_ne_tt, o_eq_tt, o_lt, o_gt, o_le, o_ge, o_add, o_sub, o_min, o_max, o_rep2, o_in_strT, o_in_strL, o_nin_strT, o_nin_strL, o_in_prT, o_in_prL, o_in_prT', o_in_prL', o_in_dct, o_nin_dct, o_ixT, o_ixL, o_ixT0, o_ixL0, o_ixT1, o_ixL1, o_ixTm, o_ixLm, o_indexT, o_indexL, Bool.and_self, Bool.and_true, Bool.true_and, Bool.and_false, Bool.false_and, Bool.not_true, Bool.not_false, Option.isNone_some, Option.isNone_none, lstAt, dctAt, isa_lt_n, isa_lt_b, isa_lt_i, isa_lt_s, isa_lt_t, isa_lt_l, isa_l_n, isa_l_b, isa_l_i, isa_l_s, isa_l_t, isa_l_l, isa_t_n, isa_t_b, isa_t_i, isa_t_s, isa_t_t, isa_t_l, isa_s_n, isa_s_b, isa_s_i, isa_s_s, isa_s_t, isa_s_l, isa_i_n, isa_i_b, isa_i_i, isa_i_s, isa_i_t, isa_i_l, isa_b_n, isa_b_b, isa_b_i, isa_b_s, isa_b_t, isa_b_l, o_is_n, o_isn_n, o_is_b, o_isn_b, o_is_i, o_isn_i, o_is_s, o_isn_s, o_is_t, o_isn_t, o_is_l, o_isn_l, zipD_tt, zipD_ll, z_pick, k_pick, pk_0, pk_1, s_asgP, k_asgP, ps_2, o_mulT0, o_mulT1, z_dc, k_dc, o_ixD, io_n, io_b, io_i, io_s, io_t, io_l, io_d, z_fld, k_fld, fd_o, z_fldM, f_e, fv_o, z_mcall, k_mc, k_mc2, k_mc3, rc_ok, rf_m, ic_o, Bool.true_or, Bool.or_true, z_new, k_new, nw_ok, z_lendL, z_ldL, fl_L, all_str, z_rev, k_rev, rv_l, z_lock, k_lock, lc_d, z_addL, k_addL, k_addL2, z_keys, k_keys, z_items, k_items, ky_L, it_L, o_in_dctL, o_nin_dctL, o_ixDL, o_lenD, o_lenDL, t_nst, o_sign, pf_e, pf_o, sp_n0, sp_ns, sp_c0, sp_cs, s_setF, k_setF, s_appF, k_appF, s_setDF, k_setDF, k_setDF2, s_delDF, k_delDF, s_augF, au_s, k_augF, s_revL, re_s, io_L, z_ixM, k_ixM, isd_e, isd_o, ixv_e, ixv_o, rt_law_are]
  rfl
end Lw
namespace Lw
open Pv PySem
theorem come_perm (ps : List (Str × Str)) (st : List Str) (a : Str) : (come ps st a).Perm (a :: st) := ins_perm st a _
theorem come_len (ps : List (Str × Str)) (st : List Str) (a : Str) : (come ps st a).length = st.length + 1 := by
  rw [(come_perm ps st a).length_eq]; rfl
def standOf (ps : List (Str × Str)) (l : List Str) : List Str := l.foldl (come ps) []
theorem foldl_come_perm (ps : List (Str × Str)) : ∀ (l st : List Str), (l.foldl (come ps) st).Perm (l ++ st)
  | [], st => .refl _
  | x :: l, st => by
    refine (foldl_come_perm ps l (come ps st x)).trans ?_
    refine (List.Perm.append_left l (come_perm ps st x)).trans ?_
    exact List.perm_middle
theorem standOf_perm (ps : List (Str × Str)) (l : List Str) : (standOf ps l).Perm l := by
  have := foldl_come_perm ps l []
  rwa [List.append_nil] at this
theorem thin_perm {st : List Str} (nd : st.Nodup) {a : Str} (ha : a ∈ st) : (a :: st.filter fun z => !decide (z = a)).Perm st := by
  have : (st.filter fun z => !decide (z = a)) = st.erase a := by
    rw [List.Nodup.erase_eq_filter nd]
    congr 1
  rw [this]
  exact (List.perm_cons_erase ha).symm
end Lw
namespace Lw
open Pv PySem
/-- _law_same of a thing and itself -/
theorem same_refl {wf : Nat} : ∀ (k n : Nat) (d : D), sml k d = true → callN prog wf (n + k + 1) "_law_same" [d, d] = .ok (.bl true) [d, d]
  | k, n, .non, _ => by simp only [at_law_same, bd_law_same, z_bR, z_bO, z_tO, z_tR, z_tB, z_tC, z_l, z_n, z_v, z_m, z_rf, z_bk, z_pk, z_ld, z_var, z_mv, z_mref, z_own, z_cst, z_glb, z_dnew, z_tup, k_tup, z_lst, k_lst, z_op1, k_op1, z_op2, k_op2, k_op2b, z_slc, k_slc1, k_slc2, k_slc3, z_get, k_get1, k_get2, k_get3, p_e, z_meth, k_meth, z_and, k_and, k_and2, z_or, k_or, k_or2, p_t, p_f, z_nt, k_nt, k_nt2, z_ite, k_ite, k_ite2, z_chain, k_ch1, k_ch2, k_ch3, k_ch4, k_bl, p_ct, p_cf, z_call, k_call, k_call2, z_callK, k_callK, k_callK2, z_lend, z_lc, k_lc, z_on, z_os, k_os, z_cn, z_cs, k_tru, z_seq, k_seq, z_rng, k_rng, z_rng2, k_rng2, k_rng2b, z_enm, k_enm, z_zip, k_zip, k_zip2, z_e0, z_e1, k_cons, k_cons2, s_asg, k_asg, s_asgM, k_asgM, s_par, s_parT, k_par, s_app, p_o, k_app, s_ins, k_ins, k_ins2, s_setL, k_setL, k_setL2, s_setD, k_setD, k_setD2, s_sdd, k_sdd, k_sdd2, k_sdd3, s_ex, k_ex, s_if, k_if, k_if2, p_ot, p_of, s_fr, k_fr, s_whl, s_ret, k_ret, s_brk, s_cnt, s_pass, s_nil, s_cons, f_b, f_nx, f_ct, f_bk, f_rt, for_nil, for_cons, t_nm, t_tp2, t_tp2L, t_tp3, setAll, List.getElem?_cons_zero, List.getElem?_cons_succ, List.set_cons_zero, List.set_cons_succ, wipeE, backE, cond_true, cond_false, resolve, writeBack, permA, isDct, recvD, isI, isB, Option.map_some, Option.bind_some, Option.getD_some, Option.getD_none, seqOf, seqStr, o_andB, t_int, t_lst, t_tup, t_str, t_non, fl_int, fl_str, fl_bl, fl_non, fa_nil, fl_strT, o_len1, o_len2, o_len3, o_neg, o_list, o_list2, o_tup, o_tup2, o_isi, o_cutT, o_cutL, o_eq_int, o_eq_str, o_ne_int, o_ne_str, o_eq_bl, o_ne_bl, o_eq_strT, o_eq_strL, o_ne_strT, o_ne_strL, o_ne_nilL, o_eq_nilL, o_ne_nn, o_eq_nn, o_ne_tt, o_eq_tt, o_lt, o_gt, o_le, o_ge, o_add, o_sub, o_min, o_max, o_rep2, o_in_strT, o_in_strL, o_nin_strT, o_nin_strL, o_in_prT, o_in_prL, o_in_prT', o_in_prL', o_in_dct, o_nin_dct, o_ixT, o_ixL, o_ixT0, o_ixL0, o_ixT1, o_ixL1, o_ixTm, o_ixLm, o_indexT, o_indexL, Bool.and_self, Bool.and_true, Bool.true_and, Bool.and_false, Bool.false_and, Bool.not_true, Bool.not_false, Option.isNone_some, Option.isNone_none, lstAt, dctAt, isa_lt_n, isa_lt_b, isa_lt_i, isa_lt_s, isa_lt_t, isa_lt_l, isa_l_n, isa_l_b, isa_l_i, isa_l_s, isa_l_t, isa_l_l, isa_t_n, isa_t_b, isa_t_i, isa_t_s, isa_t_t, isa_t_l, isa_s_n, isa_s_b, isa_s_i, isa_s_s, isa_s_t, isa_s_l, isa_i_n, isa_i_b, isa_i_i, isa_i_s, isa_i_t, isa_i_l, isa_b_n, isa_b_b, isa_b_i, isa_b_s, isa_b_t, isa_b_l, o_is_n, o_isn_n, o_is_b, o_isn_b, o_is_i, o_isn_i, o_is_s, o_isn_s, o_is_t, o_isn_t, o_is_l, o_isn_l, zipD_tt, zipD_ll, z_pick, k_pick, pk_0, pk_1, s_asgP, k_asgP, ps_2, o_mulT0, o_mulT1, z_dc, k_dc, o_ixD, io_n, io_b, io_i, io_s, io_t, io_l, io_d, z_fld, k_fld, fd_o, z_fldM, f_e, fv_o, z_mcall, k_mc, k_mc2, k_mc3, rc_ok, rf_m, ic_o, Bool.true_or, Bool.or_true, z_new, k_new, nw_ok, z_lendL, z_ldL, fl_L, all_str, z_rev, k_rev, rv_l, z_lock, k_lock, lc_d, z_addL, k_addL, k_addL2, z_keys, k_keys, z_items, k_items, ky_L, it_L, o_in_dctL, o_nin_dctL, o_ixDL, o_lenD, o_lenDL, t_nst, o_sign, pf_e, pf_o, sp_n0, sp_ns, sp_c0, sp_cs, s_setF, k_setF, s_appF, k_appF, s_setDF, k_setDF, k_setDF2, s_delDF, k_delDF, s_augF, au_s, k_augF, s_revL, re_s, io_L, z_ixM, k_ixM, isd_e, isd_o, ixv_e, ixv_o]; rfl
  | k, n, .bl b, _ => by simp only [at_law_same, bd_law_same, z_bR, z_bO, z_tO, z_tR, z_tB, z_tC, z_l, z_n, z_v, z_m, z_rf, z_bk, z_pk, z_ld, z_var, z_mv, z_mref, z_own, z_cst, z_glb, z_dnew, z_tup, k_tup, z_lst, k_lst, z_op1, k_op1, z_op2, k_op2, k_op2b, z_slc, k_slc1, k_slc2, k_slc3, z_get, k_get1, k_get2, k_get3, p_e, z_meth, k_meth, z_and, k_and, k_and2, z_or, k_or, k_or2, p_t, p_f, z_nt, k_nt, k_nt2, z_ite, k_ite, k_ite2, z_chain, k_ch1, k_ch2, k_ch3, k_ch4, k_bl, p_ct, p_cf, z_call, k_call, k_call2, z_callK, k_callK, k_callK2, z_lend, z_lc, k_lc, z_on, z_os, k_os, z_cn, z_cs, k_tru, z_seq, k_seq, z_rng, k_rng, z_rng2, k_rng2, k_rng2b, z_enm, k_enm, z_zip, k_zip, k_zip2, z_e0, z_e1, k_cons, k_cons2, s_asg, k_asg, s_asgM, k_asgM, s_par, s_parT, k_par, s_app, p_o, k_app, s_ins, k_ins, k_ins2, s_setL, k_setL, k_setL2, s_setD, k_setD, k_setD2, s_sdd, k_sdd, k_sdd2, k_sdd3, s_ex, k_ex, s_if, k_if, k_if2, p_ot, p_of, s_fr, k_fr, s_whl, s_ret, k_ret, s_brk, s_cnt, s_pass, s_nil, s_cons, f_b, f_nx, f_ct, f_bk, f_rt, for_nil, for_cons, t_nm, t_tp2, t_tp2L, t_tp3, setAll, List.getElem?_cons_zero, List.getElem?_cons_succ, List.set_cons_zero, List.set_cons_succ, wipeE, backE, cond_true, cond_false, resolve, writeBack, permA, isDct, recvD, isI, isB, Option.map_some, Option.bind_some, Option.getD_some, Option.getD_none, seqOf, seqStr, o_andB, t_int, t_lst, t_tup, t_str, t_non, fl_int, fl_str, fl_bl, fl_non, fa_nil, fl_strT, o_len1, o_len2, o_len3, o_neg, o_list, o_list2, o_tup, o_tup2, o_isi, o_cutT, o_cutL, o_eq_int, o_eq_str, o_ne_int, o_ne_str, o_eq_bl, o_ne_bl, o_eq_strT, o_eq_strL, o_ne_strT, o_ne_strL, o_ne_nilL, o_eq_nilL, o_ne_nn, o_eq_nn, o_ne_tt, o_eq_tt, o_lt, o_gt, o_le, o_ge, o_add, o_sub, o_min, o_max, o_rep2, o_in_strT, o_in_strL, o_nin_strT, o_nin_strL, o_in_prT, o_in_prL, o_in_prT', o_in_prL', o_in_dct, o_nin_dct, o_ixT, o_ixL, o_ixT0, o_ixL0, o_ixT1, o_ixL1, o_ixTm, o_ixLm, o_indexT, o_indexL, Bool.and_self, Bool.and_true, Bool.true_and, Bool.and_false, Bool.false_and, Bool.not_true, Bool.not_false, Option.isNone_some, Option.isNone_none, lstAt, dctAt, isa_lt_n, isa_lt_b, isa_lt_i, isa_lt_s, isa_lt_t, isa_lt_l, isa_l_n, isa_l_b, isa_l_i, isa_l_s, isa_l_t, isa_l_l, isa_t_n, isa_t_b, isa_t_i, isa_t_s, isa_t_t, isa_t_l, isa_s_n, isa_s_b, isa_s_i, isa_s_s, isa_s_t, isa_s_l, isa_i_n, isa_i_b, isa_i_i, isa_i_s, isa_i_t, isa_i_l, isa_b_n, isa_b_b, isa_b_i, isa_b_s, isa_b_t, isa_b_l, o_is_n, o_isn_n, o_is_b, o_isn_b, o_is_i, o_isn_i, o_is_s, o_isn_s, o_is_t, o_isn_t, o_is_l, o_isn_l, zipD_tt, zipD_ll, z_pick, k_pick, pk_0, pk_1, s_asgP, k_asgP, ps_2, o_mulT0, o_mulT1, z_dc, k_dc, o_ixD, io_n, io_b, io_i, io_s, io_t, io_l, io_d, z_fld, k_fld, fd_o, z_fldM, f_e, fv_o, z_mcall, k_mc, k_mc2, k_mc3, rc_ok, rf_m, ic_o, Bool.true_or, Bool.or_true, z_new, k_new, nw_ok, z_lendL, z_ldL, fl_L, all_str, z_rev, k_rev, rv_l, z_lock, k_lock, lc_d, z_addL, k_addL, k_addL2, z_keys, k_keys, z_items, k_items, ky_L, it_L, o_in_dctL, o_nin_dctL, o_ixDL, o_lenD, o_lenDL, t_nst, o_sign, pf_e, pf_o, sp_n0, sp_ns, sp_c0, sp_cs, s_setF, k_setF, s_appF, k_appF, s_setDF, k_setDF, k_setDF2, s_delDF, k_delDF, s_augF, au_s, k_augF, s_revL, re_s, io_L, z_ixM, k_ixM, isd_e, isd_o, ixv_e, ixv_o, beq_self_eq_true, rt_law_same]
  | k, n, .int i, _ => by simp only [at_law_same, bd_law_same, z_bR, z_bO, z_tO, z_tR, z_tB, z_tC, z_l, z_n, z_v, z_m, z_rf, z_bk, z_pk, z_ld, z_var, z_mv, z_mref, z_own, z_cst, z_glb, z_dnew, z_tup, k_tup, z_lst, k_lst, z_op1, k_op1, z_op2, k_op2, k_op2b, z_slc, k_slc1, k_slc2, k_slc3, z_get, k_get1, k_get2, k_get3, p_e, z_meth, k_meth, z_and, k_and, k_and2, z_or, k_or, k_or2, p_t, p_f, z_nt, k_nt, k_nt2, z_ite, k_ite, k_ite2, z_chain, k_ch1, k_ch2, k_ch3, k_ch4, k_bl, p_ct, p_cf, z_call, k_call, k_call2, z_callK, k_callK, k_callK2, z_lend, z_lc, k_lc, z_on, z_os, k_os, z_cn, z_cs, k_tru, z_seq, k_seq, z_rng, k_rng, z_rng2, k_rng2, k_rng2b, z_enm, k_enm, z_zip, k_zip, k_zip2, z_e0, z_e1, k_cons, k_cons2, s_asg, k_asg, s_asgM, k_asgM, s_par, s_parT, k_par, s_app, p_o, k_app, s_ins, k_ins, k_ins2, s_setL, k_setL, k_setL2, s_setD, k_setD, k_setD2, s_sdd, k_sdd, k_sdd2, k_sdd3, s_ex, k_ex, s_if, k_if, k_if2, p_ot, p_of, s_fr, k_fr, s_whl, s_ret, k_ret, s_brk, s_cnt, s_pass, s_nil, s_cons, f_b, f_nx, f_ct, f_bk, f_rt, for_nil, for_cons, t_nm, t_tp2, t_tp2L, t_tp3, setAll, List.getElem?_cons_zero, List.getElem?_cons_succ, List.set_cons_zero, List.set_cons_succ, wipeE, backE, cond_true, cond_false, resolve, writeBack, permA, isDct, recvD, isI, isB, Option.map_some, Option.bind_some, Option.getD_some, Option.getD_none, seqOf, seqStr, o_andB, t_int, t_lst, t_tup, t_str, t_non, fl_int, fl_str, fl_bl, fl_non, fa_nil, fl_strT, o_len1, o_len2, o_len3, o_neg, o_list, o_list2, o_tup, o_tup2, o_isi, o_cutT, o_cutL, o_eq_int, o_eq_str, o_ne_int, o_ne_str, o_eq_bl, o_ne_bl, o_eq_strT, o_eq_strL, o_ne_strT, o_ne_strL, o_ne_nilL, o_eq_nilL, o_ne_nn, o_eq_nn, o_ne_tt, o_eq_tt, o_lt, o_gt, o_le, o_ge, o_add, o_sub, o_min, o_max, o_rep2, o_in_strT, o_in_strL, o_nin_strT, o_nin_strL, o_in_prT, o_in_prL, o_in_prT', o_in_prL', o_in_dct, o_nin_dct, o_ixT, o_ixL, o_ixT0, o_ixL0, o_ixT1, o_ixL1, o_ixTm, o_ixLm, o_indexT, o_indexL, Bool.and_self, Bool.and_true, Bool.true_and, Bool.and_false, Bool.false_and, Bool.not_true, Bool.not_false, Option.isNone_some, Option.isNone_none, lstAt, dctAt, isa_lt_n, isa_lt_b, isa_lt_i, isa_lt_s, isa_lt_t, isa_lt_l, isa_l_n, isa_l_b, isa_l_i, isa_l_s, isa_l_t, isa_l_l, isa_t_n, isa_t_b, isa_t_i, isa_t_s, isa_t_t, isa_t_l, isa_s_n, isa_s_b, isa_s_i, isa_s_s, isa_s_t, isa_s_l, isa_i_n, isa_i_b, isa_i_i, isa_i_s, isa_i_t, isa_i_l, isa_b_n, isa_b_b, isa_b_i, isa_b_s, isa_b_t, isa_b_l, o_is_n, o_isn_n, o_is_b, o_isn_b, o_is_i, o_isn_i, o_is_s, o_isn_s, o_is_t, o_isn_t, o_is_l, o_isn_l, zipD_tt, zipD_ll, z_pick, k_pick, pk_0, pk_1, s_asgP, k_asgP, ps_2, o_mulT0, o_mulT1, z_dc, k_dc, o_ixD, io_n, io_b, io_i, io_s, io_t, io_l, io_d, z_fld, k_fld, fd_o, z_fldM, f_e, fv_o, z_mcall, k_mc, k_mc2, k_mc3, rc_ok, rf_m, ic_o, Bool.true_or, Bool.or_true, z_new, k_new, nw_ok, z_lendL, z_ldL, fl_L, all_str, z_rev, k_rev, rv_l, z_lock, k_lock, lc_d, z_addL, k_addL, k_addL2, z_keys, k_keys, z_items, k_items, ky_L, it_L, o_in_dctL, o_nin_dctL, o_ixDL, o_lenD, o_lenDL, t_nst, o_sign, pf_e, pf_o, sp_n0, sp_ns, sp_c0, sp_cs, s_setF, k_setF, s_appF, k_appF, s_setDF, k_setDF, k_setDF2, s_delDF, k_delDF, s_augF, au_s, k_augF, s_revL, re_s, io_L, z_ixM, k_ixM, isd_e, isd_o, ixv_e, ixv_o, beq_self_eq_true, decide_true, rt_law_same]
  | k, n, .str x, _ => by simp only [at_law_same, bd_law_same, z_bR, z_bO, z_tO, z_tR, z_tB, z_tC, z_l, z_n, z_v, z_m, z_rf, z_bk, z_pk, z_ld, z_var, z_mv, z_mref, z_own, z_cst, z_glb, z_dnew, z_tup, k_tup, z_lst, k_lst, z_op1, k_op1, z_op2, k_op2, k_op2b, z_slc, k_slc1, k_slc2, k_slc3, z_get, k_get1, k_get2, k_get3, p_e, z_meth, k_meth, z_and, k_and, k_and2, z_or, k_or, k_or2, p_t, p_f, z_nt, k_nt, k_nt2, z_ite, k_ite, k_ite2, z_chain, k_ch1, k_ch2, k_ch3, k_ch4, k_bl, p_ct, p_cf, z_call, k_call, k_call2, z_callK, k_callK, k_callK2, z_lend, z_lc, k_lc, z_on, z_os, k_os, z_cn, z_cs, k_tru, z_seq, k_seq, z_rng, k_rng, z_rng2, k_rng2, k_rng2b, z_enm, k_enm, z_zip, k_zip, k_zip2, z_e0, z_e1, k_cons, k_cons2, s_asg, k_asg, s_asgM, k_asgM, s_par, s_parT, k_par, s_app, p_o, k_app, s_ins, k_ins, k_ins2, s_setL, k_setL, k_setL2, s_setD, k_setD, k_setD2, s_sdd, k_sdd, k_sdd2, k_sdd3, s_ex, k_ex, s_if, k_if, k_if2, p_ot, p_of, s_fr, k_fr, s_whl, s_ret, k_ret, s_brk, s_cnt, s_pass, s_nil, s_cons, f_b, f_nx, f_ct, f_bk, f_rt, for_nil, for_cons, t_nm, t_tp2, t_tp2L, t_tp3, setAll, List.getElem?_cons_zero, List.getElem?_cons_succ, List.set_cons_zero, List.set_cons_succ, wipeE, backE, cond_true, cond_false, resolve, writeBack, permA, isDct, recvD, isI, isB, Option.map_some, Option.bind_some, Option.getD_some, Option.getD_none, seqOf, seqStr, o_andB, t_int, t_lst, t_tup, t_str, t_non, fl_int, fl_str, fl_bl, fl_non, fa_nil, fl_strT, o_len1, o_len2, o_len3, o_neg, o_list, o_list2, o_tup, o_tup2, o_isi, o_cutT, o_cutL, o_eq_int, o_eq_str, o_ne_int, o_ne_str, o_eq_bl, o_ne_bl, o_eq_strT, o_eq_strL, o_ne_strT, o_ne_strL, o_ne_nilL, o_eq_nilL, o_ne_nn, o_eq_nn, o_ne_tt, o_eq_tt, o_lt, o_gt, o_le, o_ge, o_add, o_sub, o_min, o_max, o_rep2, o_in_strT, o_in_strL, o_nin_strT, o_nin_strL, o_in_prT, o_in_prL, o_in_prT', o_in_prL', o_in_dct, o_nin_dct, o_ixT, o_ixL, o_ixT0, o_ixL0, o_ixT1, o_ixL1, o_ixTm, o_ixLm, o_indexT, o_indexL, Bool.and_self, Bool.and_true, Bool.true_and, Bool.and_false, Bool.false_and, Bool.not_true, Bool.not_false, Option.isNone_some, Option.isNone_none, lstAt, dctAt, isa_lt_n, isa_lt_b, isa_lt_i, isa_lt_s, isa_lt_t, isa_lt_l, isa_l_n, isa_l_b, isa_l_i, isa_l_s, isa_l_t, isa_l_l, isa_t_n, isa_t_b, isa_t_i, isa_t_s, isa_t_t, isa_t_l, isa_s_n, isa_s_b, isa_s_i, isa_s_s, isa_s_t, isa_s_l, isa_i_n, isa_i_b, isa_i_i, isa_i_s, isa_i_t, isa_i_l, isa_b_n, isa_b_b, isa_b_i, isa_b_s, isa_b_t, isa_b_l, o_is_n, o_isn_n, o_is_b, o_isn_b, o_is_i, o_isn_i, o_is_s, o_isn_s, o_is_t, o_isn_t, o_is_l, o_isn_l, zipD_tt, zipD_ll, z_pick, k_pick, pk_0, pk_1, s_asgP, k_asgP, ps_2, o_mulT0, o_mulT1, z_dc, k_dc, o_ixD, io_n, io_b, io_i, io_s, io_t, io_l, io_d, z_fld, k_fld, fd_o, z_fldM, f_e, fv_o, z_mcall, k_mc, k_mc2, k_mc3, rc_ok, rf_m, ic_o, Bool.true_or, Bool.or_true, z_new, k_new, nw_ok, z_lendL, z_ldL, fl_L, all_str, z_rev, k_rev, rv_l, z_lock, k_lock, lc_d, z_addL, k_addL, k_addL2, z_keys, k_keys, z_items, k_items, ky_L, it_L, o_in_dctL, o_nin_dctL, o_ixDL, o_lenD, o_lenDL, t_nst, o_sign, pf_e, pf_o, sp_n0, sp_ns, sp_c0, sp_cs, s_setF, k_setF, s_appF, k_appF, s_setDF, k_setDF, k_setDF2, s_delDF, k_delDF, s_augF, au_s, k_augF, s_revL, re_s, io_L, z_ixM, k_ixM, isd_e, isd_o, ixv_e, ixv_o, beq_self_eq_true, decide_true, rt_law_same]
  | k, n, .dct _, h => by cases k <;> cases h
  | k, n, .scr _, h => by cases k <;> cases h
  | k, n, .dctL _, h => by cases k <;> cases h
  | k, n, .obj _ _, h => by cases k <;> cases h
  | 0, n, .tup l, h => by cases h
  | 0, n, .lst l, h => by cases h
  | k + 1, n, .tup l, h => by
    have h' : (decide (l.length ≤ 1000) && l.all (sml k)) = true := h
    rw [Bool.and_eq_true, decide_eq_true_eq, List.all_eq_true] at h'
    have e : compRun [2, 3] (.tp [2, 3]) (evC (callN prog wf (n + (k + 1))) none) (ev (callN prog wf (n + (k + 1))) e_law_same_1) (l.map fun a => .tup [a, a]) [some (.tup l), some (.tup l), none, none] = .ok (.lst (l.map fun _ => .bl true)) [some (.tup l), some (.tup l), none, none] :=
      crun1 _ _ l (by simp [BIG]; omega) rfl fun a ha => ⟨_, rfl, by simp only [e_law_same_1, z_bR, z_bO, z_tO, z_tR, z_tB, z_tC, z_l, z_n, z_v, z_m, z_rf, z_bk, z_pk, z_ld, z_var, z_mv, z_mref, z_own, z_cst, z_glb, z_dnew, z_tup, k_tup, z_lst, k_lst, z_op1, k_op1, z_op2, k_op2, k_op2b, z_slc, k_slc1, k_slc2, k_slc3, z_get, k_get1, k_get2, k_get3, p_e, z_meth, k_meth, z_and, k_and, k_and2, z_or, k_or, k_or2, p_t, p_f, z_nt, k_nt, k_nt2, z_ite, k_ite, k_ite2, z_chain, k_ch1, k_ch2, k_ch3, k_ch4, k_bl, p_ct, p_cf, z_call, k_call, k_call2, z_callK, k_callK, k_callK2, z_lend, z_lc, k_lc, z_on, z_os, k_os, z_cn, z_cs, k_tru, z_seq, k_seq, z_rng, k_rng, z_rng2, k_rng2, k_rng2b, z_enm, k_enm, z_zip, k_zip, k_zip2, z_e0, z_e1, k_cons, k_cons2, s_asg, k_asg, s_asgM, k_asgM, s_par, s_parT, k_par, s_app, p_o, k_app, s_ins, k_ins, k_ins2, s_setL, k_setL, k_setL2, s_setD, k_setD, k_setD2, s_sdd, k_sdd, k_sdd2, k_sdd3, s_ex, k_ex, s_if, k_if, k_if2, p_ot, p_of, s_fr, k_fr, s_whl, s_ret, k_ret, s_brk, s_cnt, s_pass, s_nil, s_cons, f_b, f_nx, f_ct, f_bk, f_rt, for_nil, for_cons, t_nm, t_tp2, t_tp2L, t_tp3, setAll, List.getElem?_cons_zero, List.getElem?_cons_succ, List.set_cons_zero, List.set_cons_succ, wipeE, backE, cond_true, cond_false, resolve, writeBack, permA, isDct, recvD, isI, isB, Option.map_some, Option.bind_some, Option.getD_some, Option.getD_none, seqOf, seqStr, o_andB, t_int, t_lst, t_tup, t_str, t_non, fl_int, fl_str, fl_bl, fl_non, fa_nil, fl_strT, o_len1, o_len2, o_len3, o_neg, o_list, o_list2, o_tup, o_tup2, o_isi, o_cutT, o_cutL, o_eq_int, o_eq_str, o_ne_int, o_ne_str, o_eq_bl, o_ne_bl, o_eq_strT, o_eq_strL, o_ne_strT, o_ne_strL, o_ne_nilL, o_eq_nilL, o_ne_nn, o_eq_nn, o_ne_tt, o_eq_tt, o_lt, o_gt, o_le, o_ge, o_add, o_sub, o_min, o_max, o_rep2, o_in_strT, o_in_strL, o_nin_strT, o_nin_strL, o_in_prT, o_in_prL, o_in_prT', o_in_prL', o_in_dct, o_nin_dct, o_ixT, o_ixL, o_ixT0, o_ixL0, o_ixT1, o_ixL1, o_ixTm, o_ixLm, o_indexT, o_indexL, Bool.and_self, Bool.and_true, Bool.true_and, Bool.and_false, Bool.false_and, Bool.not_true, Bool.not_false, Option.isNone_some, Option.isNone_none, lstAt, dctAt, isa_lt_n, isa_lt_b, isa_lt_i, isa_lt_s, isa_lt_t, isa_lt_l, isa_l_n, isa_l_b, isa_l_i, isa_l_s, isa_l_t, isa_l_l, isa_t_n, isa_t_b, isa_t_i, isa_t_s, isa_t_t, isa_t_l, isa_s_n, isa_s_b, isa_s_i, isa_s_s, isa_s_t, isa_s_l, isa_i_n, isa_i_b, isa_i_i, isa_i_s, isa_i_t, isa_i_l, isa_b_n, isa_b_b, isa_b_i, isa_b_s, isa_b_t, isa_b_l, o_is_n, o_isn_n, o_is_b, o_isn_b, o_is_i, o_isn_i, o_is_s, o_isn_s, o_is_t, o_isn_t, o_is_l, o_isn_l, zipD_tt, zipD_ll, z_pick, k_pick, pk_0, pk_1, s_asgP, k_asgP, ps_2, o_mulT0, o_mulT1, z_dc, k_dc, o_ixD, io_n, io_b, io_i, io_s, io_t, io_l, io_d, z_fld, k_fld, fd_o, z_fldM, f_e, fv_o, z_mcall, k_mc, k_mc2, k_mc3, rc_ok, rf_m, ic_o, Bool.true_or, Bool.or_true, z_new, k_new, nw_ok, z_lendL, z_ldL, fl_L, all_str, z_rev, k_rev, rv_l, z_lock, k_lock, lc_d, z_addL, k_addL, k_addL2, z_keys, k_keys, z_items, k_items, ky_L, it_L, o_in_dctL, o_nin_dctL, o_ixDL, o_lenD, o_lenDL, t_nst, o_sign, pf_e, pf_o, sp_n0, sp_ns, sp_c0, sp_cs, s_setF, k_setF, s_appF, k_appF, s_setDF, k_setDF, k_setDF2, s_delDF, k_delDF, s_augF, au_s, k_augF, s_revL, re_s, io_L, z_ixM, k_ixM, isd_e, isd_o, ixv_e, ixv_o, ← Nat.add_assoc, same_refl k n a (h'.2 a ha)], rfl⟩
    simp only [at_law_same, bd_law_same, z_bR, z_bO, z_tO, z_tR, z_tB, z_tC, z_l, z_n, z_v, z_m, z_rf, z_bk, z_pk, z_ld, z_var, z_mv, z_mref, z_own, z_cst, z_glb, z_dnew, z_tup, k_tup, z_lst, k_lst, z_op1, k_op1, z_op2, k_op2, k_op2b, z_slc, k_slc1, k_slc2, k_slc3, z_get, k_get1, k_get2, k_get3, p_e, z_meth, k_meth, z_and, k_and, k_and2, z_or, k_or, k_or2, p_t, p_f, z_nt, k_nt, k_nt2, z_ite, k_ite, k_ite2, z_chain, k_ch1, k_ch2, k_ch3, k_ch4, k_bl, p_ct, p_cf, z_call, k_call, k_call2, z_callK, k_callK, k_callK2, z_lend, z_lc, k_lc, z_on, z_os, k_os, z_cn, z_cs, k_tru, z_seq, k_seq, z_rng, k_rng, z_rng2, k_rng2, k_rng2b, z_enm, k_enm, z_zip, k_zip, k_zip2, z_e0, z_e1, k_cons, k_cons2, s_asg, k_asg, s_asgM, k_asgM, s_par, s_parT, k_par, s_app, p_o, k_app, s_ins, k_ins, k_ins2, s_setL, k_setL, k_setL2, s_setD, k_setD, k_setD2, s_sdd, k_sdd, k_sdd2, k_sdd3, s_ex, k_ex, s_if, k_if, k_if2, p_ot, p_of, s_fr, k_fr, s_whl, s_ret, k_ret, s_brk, s_cnt, s_pass, s_nil, s_cons, f_b, f_nx, f_ct, f_bk, f_rt, for_nil, for_cons, t_nm, t_tp2, t_tp2L, t_tp3, setAll, List.getElem?_cons_zero, List.getElem?_cons_succ, List.set_cons_zero, List.set_cons_succ, wipeE, backE, cond_true, cond_false, resolve, writeBack, permA, isDct, recvD, isI, isB, Option.map_some, Option.bind_some, Option.getD_some, Option.getD_none, seqOf, seqStr, o_andB, t_int, t_lst, t_tup, t_str, t_non, fl_int, fl_str, fl_bl, fl_non, fa_nil, fl_strT, o_len1, o_len2, o_len3, o_neg, o_list, o_list2, o_tup, o_tup2, o_isi, o_cutT, o_cutL, o_eq_int, o_eq_str, o_ne_int, o_ne_str, o_eq_bl, o_ne_bl, o_eq_strT, o_eq_strL, o_ne_strT, o_ne_strL, o_ne_nilL, o_eq_nilL, o_ne_nn, o_eq_nn, o_ne_tt, o_eq_tt, o_lt, o_gt, o_le, o_ge, o_add, o_sub, o_min, o_max, o_rep2, o_in_strT, o_in_strL, o_nin_strT, o_nin_strL, o_in_prT, o_in_prL, o_in_prT', o_in_prL', o_in_dct, o_nin_dct, o_ixT, o_ixL, o_ixT0, o_ixL0, o_ixT1, o_ixL1, o_ixTm, o_ixLm, o_indexT, o_indexL, Bool.and_self, Bool.and_true, Bool.true_and, Bool.and_false, Bool.false_and, Bool.not_true, Bool.not_false, Option.isNone_some, Option.isNone_none, lstAt, dctAt, isa_lt_n, isa_lt_b, isa_lt_i, isa_lt_s, isa_lt_t, isa_lt_l, isa_l_n, isa_l_b, isa_l_i, isa_l_s, isa_l_t, isa_l_l, isa_t_n, isa_t_b, isa_t_i, isa_t_s, isa_t_t, isa_t_l, isa_s_n, isa_s_b, isa_s_i, isa_s_s, isa_s_t, isa_s_l, isa_i_n, isa_i_b, isa_i_i, isa_i_s, isa_i_t, isa_i_l, isa_b_n, isa_b_b, isa_b_i, isa_b_s, isa_b_t, isa_b_l, o_is_n, o_isn_n, o_is_b, o_isn_b, o_is_i, o_isn_i, o_is_s, o_isn_s, o_is_t, o_isn_t, o_is_l, o_isn_l, zipD_tt, zipD_ll, z_pick, k_pick, pk_0, pk_1, s_asgP, k_asgP, ps_2, o_mulT0, o_mulT1, z_dc, k_dc, o_ixD, io_n, io_b, io_i, io_s, io_t, io_l, io_d, z_fld, k_fld, fd_o, z_fldM, f_e, fv_o, z_mcall, k_mc, k_mc2, k_mc3, rc_ok, rf_m, ic_o, Bool.true_or, Bool.or_true, z_new, k_new, nw_ok, z_lendL, z_ldL, fl_L, all_str, z_rev, k_rev, rv_l, z_lock, k_lock, lc_d, z_addL, k_addL, k_addL2, z_keys, k_keys, z_items, k_items, ky_L, it_L, o_in_dctL, o_nin_dctL, o_ixDL, o_lenD, o_lenDL, t_nst, o_sign, pf_e, pf_o, sp_n0, sp_ns, sp_c0, sp_cs, s_setF, k_setF, s_appF, k_appF, s_setDF, k_setDF, k_setDF2, s_delDF, k_delDF, s_augF, au_s, k_augF, s_revL, re_s, io_L, z_ixM, k_ixM, isd_e, isd_o, ixv_e, ixv_o, beq_self_eq_true, decide_true, rt_law_same, zip_self, e, o_all (fun _ => true) l]
    simp
  | k + 1, n, .lst l, h => by
    have h' : (decide (l.length ≤ 1000) && l.all (sml k)) = true := h
    rw [Bool.and_eq_true, decide_eq_true_eq, List.all_eq_true] at h'
    have e : compRun [2, 3] (.tp [2, 3]) (evC (callN prog wf (n + (k + 1))) none) (ev (callN prog wf (n + (k + 1))) e_law_same_1) (l.map fun a => .tup [a, a]) [some (.lst l), some (.lst l), none, none] = .ok (.lst (l.map fun _ => .bl true)) [some (.lst l), some (.lst l), none, none] :=
      crun1 _ _ l (by simp [BIG]; omega) rfl fun a ha => ⟨_, rfl, by simp only [e_law_same_1, z_bR, z_bO, z_tO, z_tR, z_tB, z_tC, z_l, z_n, z_v, z_m, z_rf, z_bk, z_pk, z_ld, z_var, z_mv, z_mref, z_own, z_cst, z_glb, z_dnew, z_tup, k_tup, z_lst, k_lst, z_op1, k_op1, z_op2, k_op2, k_op2b, z_slc, k_slc1, k_slc2, k_slc3, z_get, k_get1, k_get2, k_get3, p_e, z_meth, k_meth, z_and, k_and, k_and2, z_or, k_or, k_or2, p_t, p_f, z_nt, k_nt, k_nt2, z_ite, k_ite, k_ite2, z_chain, k_ch1, k_ch2, k_ch3, k_ch4, k_bl, p_ct, p_cf, z_call, k_call, k_call2, z_callK, k_callK, k_callK2, z_lend, z_lc, k_lc, z_on, z_os, k_os, z_cn, z_cs, k_tru, z_seq, k_seq, z_rng, k_rng, z_rng2, k_rng2, k_rng2b, z_enm, k_enm, z_zip, k_zip, k_zip2, z_e0, z_e1, k_cons, k_cons2, s_asg, k_asg, s_asgM, k_asgM, s_par, s_parT, k_par, s_app, p_o, k_app, s_ins, k_ins, k_ins2, s_setL, k_setL, k_setL2, s_setD, k_setD, k_setD2, s_sdd, k_sdd, k_sdd2, k_sdd3, s_ex, k_ex, s_if, k_if, k_if2, p_ot, p_of, s_fr, k_fr, s_whl, s_ret, k_ret, s_brk, s_cnt, s_pass, s_nil, s_cons, f_b, f_nx, f_ct, f_bk, f_rt, for_nil, for_cons, t_nm, t_tp2, t_tp2L, t_tp3, setAll, List.getElem?_cons_zero, List.getElem?_cons_succ, List.set_cons_zero, List.set_cons_succ, wipeE, backE, cond_true, cond_false, resolve, writeBack, permA, isDct, recvD, isI, isB, Option.map_some, Option.bind_some, Option.getD_some, Option.getD_none, seqOf, seqStr, o_andB, t_int, t_lst, t_tup, t_str, t_non, fl_int, fl_str, fl_bl, fl_non, fa_nil, fl_strT, o_len1, o_len2, o_len3, o_neg, o_list, o_list2, o_tup, o_tup2, o_isi, o_cutT, o_cutL, o_eq_int, o_eq_str, o_ne_int, o_ne_str, o_eq_bl, o_ne_bl, o_eq_strT, o_eq_strL, o_ne_strT, o_ne_strL, o_ne_nilL, o_eq_nilL, o_ne_nn, o_eq_nn, o_ne_tt, o_eq_tt, o_lt, o_gt, o_le, o_ge, o_add, o_sub, o_min, o_max, o_rep2, o_in_strT, o_in_strL, o_nin_strT, o_nin_strL, o_in_prT, o_in_prL, o_in_prT', o_in_prL', o_in_dct, o_nin_dct, o_ixT, o_ixL, o_ixT0, o_ixL0, o_ixT1, o_ixL1, o_ixTm, o_ixLm, o_indexT, o_indexL, Bool.and_self, Bool.and_true, Bool.true_and, Bool.and_false, Bool.false_and, Bool.not_true, Bool.not_false, Option.isNone_some, Option.isNone_none, lstAt, dctAt, isa_lt_n, isa_lt_b, isa_lt_i, isa_lt_s, isa_lt_t, isa_lt_l, isa_l_n, isa_l_b, isa_l_i, isa_l_s, isa_l_t, isa_l_l, isa_t_n, isa_t_b, isa_t_i, isa_t_s, isa_t_t, isa_t_l, isa_s_n, isa_s_b, isa_s_i, isa_s_s, isa_s_t, isa_s_l, isa_i_n, isa_i_b, isa_i_i, isa_i_s, isa_i_t, isa_i_l, isa_b_n, isa_b_b, isa_b_i, isa_b_s, isa_b_t, isa_b_l, o_is_n, o_isn_n, o_is_b, o_isn_b, o_is_i, o_isn_i, o_is_s, o_isn_s, o_is_t, o_isn_t, o_is_l, o_isn_l, zipD_tt, zipD_ll, z_pick, k_pick, pk_0, pk_1, s_asgP, k_asgP, ps_2, o_mulT0, o_mulT1, z_dc, k_dc, o_ixD, io_n, io_b, io_i, io_s, io_t, io_l, io_d, z_fld, k_fld, fd_o, z_fldM, f_e, fv_o, z_mcall, k_mc, k_mc2, k_mc3, rc_ok, rf_m, ic_o, Bool.true_or, Bool.or_true, z_new, k_new, nw_ok, z_lendL, z_ldL, fl_L, all_str, z_rev, k_rev, rv_l, z_lock, k_lock, lc_d, z_addL, k_addL, k_addL2, z_keys, k_keys, z_items, k_items, ky_L, it_L, o_in_dctL, o_nin_dctL, o_ixDL, o_lenD, o_lenDL, t_nst, o_sign, pf_e, pf_o, sp_n0, sp_ns, sp_c0, sp_cs, s_setF, k_setF, s_appF, k_appF, s_setDF, k_setDF, k_setDF2, s_delDF, k_delDF, s_augF, au_s, k_augF, s_revL, re_s, io_L, z_ixM, k_ixM, isd_e, isd_o, ixv_e, ixv_o, ← Nat.add_assoc, same_refl k n a (h'.2 a ha)], rfl⟩
    simp only [at_law_same, bd_law_same, z_bR, z_bO, z_tO, z_tR, z_tB, z_tC, z_l, z_n, z_v, z_m, z_rf, z_bk, z_pk, z_ld, z_var, z_mv, z_mref, z_own, z_cst, z_glb, z_dnew, z_tup, k_tup, z_lst, k_lst, z_op1, k_op1, z_op2, k_op2, k_op2b, z_slc, k_slc1, k_slc2, k_slc3, z_get, k_get1, k_get2, k_get3, p_e, z_meth, k_meth, z_and, k_and, k_and2, z_or, k_or, k_or2, p_t, p_f, z_nt, k_nt, k_nt2, z_ite, k_ite, k_ite2, z_chain, k_ch1, k_ch2, k_ch3, k_ch4, k_bl, p_ct, p_cf, z_call, k_call, k_call2, z_callK, k_callK, k_callK2, z_lend, z_lc, k_lc, z_on, z_os, k_os, z_cn, z_cs, k_tru, z_seq, k_seq, z_rng, k_rng, z_rng2, k_rng2, k_rng2b, z_enm, k_enm, z_zip, k_zip, k_zip2, z_e0, z_e1, k_cons, k_cons2, s_asg, k_asg, s_asgM, k_asgM, s_par, s_parT, k_par, s_app, p_o, k_app, s_ins, k_ins, k_ins2, s_setL, k_setL, k_setL2, s_setD, k_setD, k_setD2, s_sdd, k_sdd, k_sdd2, k_sdd3, s_ex, k_ex, s_if, k_if, k_if2, p_ot, p_of, s_fr, k_fr, s_whl, s_ret, k_ret, s_brk, s_cnt, s_pass, s_nil, s_cons, f_b, f_nx, f_ct, f_bk, f_rt, for_nil, for_cons, t_nm, t_tp2, t_tp2L, t_tp3, setAll, List.getElem?_cons_zero, List.getElem?_cons_succ, List.set_cons_zero, List.set_cons_succ, wipeE, backE, cond_true, cond_false, resolve, writeBack, permA, isDct, recvD, isI, isB, Option.map_some, Option.bind_some, Option.getD_some, Option.getD_none, seqOf, seqStr, o_andB, t_int, t_lst, t_tup, t_str, t_non, fl_int, fl_str, fl_bl, fl_non, fa_nil, fl_strT, o_len1, o_len2, o_len3, o_neg, o_list, o_list2, o_tup, o_tup2, o_isi, o_cutT, o_cutL, o_eq_int, o_eq_str, o_ne_int, o_ne_str, o_eq_bl, o_ne_bl, o_eq_strT, o_eq_strL, o_ne_strT, o_ne_strL, o_ne_nilL, o_eq_nilL, o_ne_nn, o_eq_nn, o_ne_tt, o_eq_tt, o_lt, o_gt, o_le, o_ge, o_add, o_sub, o_min, o_max, o_rep2, o_in_strT, o_in_strL, o_nin_strT, o_nin_strL, o_in_prT, o_in_prL, o_in_prT', o_in_prL', o_in_dct, o_nin_dct, o_ixT, o_ixL, o_ixT0, o_ixL0, o_ixT1, o_ixL1, o_ixTm, o_ixLm, o_indexT, o_indexL, Bool.and_self, Bool.and_true, Bool.true_and, Bool.and_false, Bool.false_and, Bool.not_true, Bool.not_false, Option.isNone_some, Option.isNone_none, lstAt, dctAt, isa_lt_n, isa_lt_b, isa_lt_i, isa_lt_s, isa_lt_t, isa_lt_l, isa_l_n, isa_l_b, isa_l_i, isa_l_s, isa_l_t, isa_l_l, isa_t_n, isa_t_b, isa_t_i, isa_t_s, isa_t_t, isa_t_l, isa_s_n, isa_s_b, isa_s_i, isa_s_s, isa_s_t, isa_s_l, isa_i_n, isa_i_b, isa_i_i, isa_i_s, isa_i_t, isa_i_l, isa_b_n, isa_b_b, isa_b_i, isa_b_s, isa_b_t, isa_b_l, o_is_n, o_isn_n, o_is_b, o_isn_b, o_is_i, o_isn_i, o_is_s, o_isn_s, o_is_t, o_isn_t, o_is_l, o_isn_l, zipD_tt, zipD_ll, z_pick, k_pick, pk_0, pk_1, s_asgP, k_asgP, ps_2, o_mulT0, o_mulT1, z_dc, k_dc, o_ixD, io_n, io_b, io_i, io_s, io_t, io_l, io_d, z_fld, k_fld, fd_o, z_fldM, f_e, fv_o, z_mcall, k_mc, k_mc2, k_mc3, rc_ok, rf_m, ic_o, Bool.true_or, Bool.or_true, z_new, k_new, nw_ok, z_lendL, z_ldL, fl_L, all_str, z_rev, k_rev, rv_l, z_lock, k_lock, lc_d, z_addL, k_addL, k_addL2, z_keys, k_keys, z_items, k_items, ky_L, it_L, o_in_dctL, o_nin_dctL, o_ixDL, o_lenD, o_lenDL, t_nst, o_sign, pf_e, pf_o, sp_n0, sp_ns, sp_c0, sp_cs, s_setF, k_setF, s_appF, k_appF, s_setDF, k_setDF, k_setDF2, s_delDF, k_delDF, s_augF, au_s, k_augF, s_revL, re_s, io_L, z_ixM, k_ixM, isd_e, isd_o, ixv_e, ixv_o, beq_self_eq_true, decide_true, rt_law_same, zip_self, e, o_all (fun _ => true) l]
    simp
/-- the same at any level from k + 1 on -/
theorem same_at {wf m : Nat} (k : Nat) {d : D} (h : sml k d = true) (hm : k + 1 ≤ m) : callN prog wf m "_law_same" [d, d] = .ok (.bl true) [d, d] := by
  have := same_refl (wf := wf) k (m - k - 1) d h
  rwa [show m - k - 1 + k + 1 = m by omega] at this
end Lw
namespace Lw
open Pv PySem
/-! ### who is known to be whose friend -/
abbrev Kn := List (Str × List Str)
def kdl (l : List Str) : D := .dct (l.map fun b => (.inr b, .bl true))
abbrev kd (K : Kn) : D := .dct (K.map fun p => (.inr p.1, kdl p.2))
def lk (K : Kn) (a : Str) : List Str := ((K.find? fun p => decide (p.1 = a)).map (·.2)).getD []
def insK (l : List Str) (b : Str) : List Str := if b ∈ l then l else l ++ [b]
def addK (K : Kn) (a b : Str) : Kn := if (K.find? fun p => decide (p.1 = a)).isSome then K.map fun p => if p.1 = a then (a, insK (lk K a) b) else p else K ++ [(a, [b])]
theorem dget_kd (K : Kn) (a : Str) : dget (K.map fun p => ((.inr p.1 : L2.Key), kdl p.2)) (.inr a) = (K.find? fun p => decide (p.1 = a)).map fun p => kdl p.2 := by
  unfold dget
  induction K with
  | nil => rfl
  | cons p K ih =>
    rw [List.map_cons, List.find?_cons, List.find?_cons]
    by_cases h : p.1 = a
    · simp [h]
    · have : decide ((Sum.inr p.1 : L2.Key) = .inr a) = false := by simp [h]
      simp only [this, h, decide_false]
      exact ih
theorem dget_kdl (l : List Str) (b : Str) : (dget (l.map fun b => ((.inr b : L2.Key), D.bl true)) (.inr b)).isSome = decide (b ∈ l) := by
  unfold dget
  induction l with
  | nil => rfl
  | cons c l ih =>
    rw [List.map_cons, List.find?_cons]
    by_cases h : c = b
    · simp [h]
    · have : decide ((Sum.inr c : L2.Key) = .inr b) = false := by simp [h]
      simp only [this]
      rw [ih]
      have h' : ¬ b = c := fun e => h e.symm
      simp [h']
theorem get_kd (K : Kn) (a : Str) : getD (kd K) (.str a) (.dct []) = some (kdl (lk K a)) := by
  show some ((dget (K.map fun p => ((.inr p.1 : L2.Key), kdl p.2)) (.inr a)).getD (.dct [])) = _
  rw [dget_kd]
  unfold lk
  cases K.find? fun p => decide (p.1 = a) <;> rfl
theorem in_kdl (l : List Str) (b : Str) : op2 .isin (.str b) (kdl l) = some (.bl (decide (b ∈ l))) := by
  unfold kdl
  rw [o_in_dct, dget_kdl]
theorem putD_kdl (l : List Str) (b : Str) : putD (l.map fun b => ((.inr b : L2.Key), D.bl true)) (.inr b) (.bl true) = (insK l b).map fun b => (.inr b, .bl true) := by
  unfold putD insK
  rw [dget_kdl]
  by_cases h : b ∈ l
  · simp only [h, decide_true, if_true]
    rw [List.map_map]
    refine List.map_congr_left fun c _ => ?_
    simp only [Function.comp]
    split
    · rename_i e; rw [e]
    · rfl
  · simp [h]
theorem putD_kd (K : Kn) (a b : Str) : putD (K.map fun p => ((.inr p.1 : L2.Key), kdl p.2)) (.inr a) (kdl (insK (lk K a) b)) = (addK K a b).map fun p => (.inr p.1, kdl p.2) := by
  unfold putD addK
  rw [dget_kd]
  cases h : K.find? fun p => decide (p.1 = a) with
  | none =>
    have : lk K a = [] := by unfold lk; rw [h]; rfl
    rw [this]
    simp [insK]
  | some q =>
    simp only [Option.map_some, Option.isSome_some, if_true]
    rw [List.map_map, List.map_map]
    refine List.map_congr_left fun p _ => ?_
    simp only [Function.comp]
    by_cases e : p.1 = a
    · simp [e]
    · have : ¬ (Sum.inr p.1 : L2.Key) = .inr a := by simp [e]
      simp [e]
theorem sddE_kd {env : Dv} {i : Nat} {K : Kn} {a b : Str} (h : env[i]? = some (some (kd K))) (h1 : K.length < BIG) (h2 : (lk K a).length < BIG) : sddE env i (.str a) (.str b) (.bl true) = some (env.set i (some (kd (addK K a b)))) := by
  unfold sddE dctAt
  rw [h]
  simp only [keyOf]
  have e : (dget (K.map fun p => ((.inr p.1 : L2.Key), kdl p.2)) (.inr a)).getD (.dct []) = kdl (lk K a) := Option.some.inj (get_kd K a)
  rw [e]
  show (if (K.map fun p => ((.inr p.1 : L2.Key), kdl p.2)).length < BIG ∧ ((lk K a).map fun b => ((.inr b : L2.Key), D.bl true)).length < BIG then some (env.set i (some (.dct (putD (K.map fun p => ((.inr p.1 : L2.Key), kdl p.2)) (.inr a) (.dct (putD ((lk K a).map fun b => ((.inr b : L2.Key), D.bl true)) (.inr b) (.bl true))))))) else none) = _
  rw [if_pos (by simpa using ⟨h1, h2⟩), putD_kdl]
  rw [show D.dct ((insK (lk K a) b).map fun b => ((.inr b : L2.Key), D.bl true)) = kdl (insK (lk K a) b) from rfl, putD_kd]
theorem lk_cons (p : Str × List Str) (K : Kn) (c : Str) : lk (p :: K) c = if p.1 = c then p.2 else lk K c := by
  unfold lk
  rw [List.find?_cons]
  by_cases h : p.1 = c <;> simp [h]
theorem lk_map (a c : Str) (l : List Str) : ∀ K : Kn, (K.find? fun p => decide (p.1 = a)).isSome = true → lk (K.map fun p => if p.1 = a then (a, l) else p) c = if c = a then l else lk K c
  | [], h => by simp at h
  | p :: K, h => by
    rw [List.map_cons, lk_cons, lk_cons]
    by_cases e : p.1 = a
    · simp only [e, if_true]
      by_cases e2 : a = c
      · simp [e2]
      · have e3 : ¬ c = a := fun x => e2 x.symm
        simp only [e2, e3, if_false]
        have : ∀ K : Kn, lk (K.map fun p => if p.1 = a then (a, l) else p) c = lk K c := fun K => by
          induction K with
          | nil => rfl
          | cons q K ih =>
            rw [List.map_cons, lk_cons, lk_cons, ih]
            by_cases e4 : q.1 = a
            · have : ¬ q.1 = c := fun x => e2 (e4.symm.trans x)
              simp [e4, e2]
            · simp [e4]
        exact this K
    · simp only [e, if_false]
      rw [List.find?_cons] at h
      simp only [e, decide_false] at h
      rw [lk_map a c l K h]
      by_cases e2 : p.1 = c
      · have : ¬ c = a := fun x => e (e2.trans x)
        simp [e2, this]
      · simp [e2]
theorem lk_snoc (a c : Str) (l : List Str) : ∀ K : Kn, (K.find? fun p => decide (p.1 = a)).isSome = false → lk (K ++ [(a, l)]) c = if c = a then l else lk K c
  | [], h => by
    rw [List.nil_append, lk_cons]
    by_cases e : a = c
    · simp [e]
    · have : ¬ c = a := fun x => e x.symm
      simp [e, this]
  | p :: K, h => by
    rw [List.cons_append, lk_cons, lk_cons]
    rw [List.find?_cons] at h
    by_cases e : p.1 = a
    · simp [e] at h
    · simp only [e, decide_false] at h
      rw [lk_snoc a c l K h]
      by_cases e2 : p.1 = c
      · have : ¬ c = a := fun x => e (e2.trans x)
        simp [e2, this]
      · simp [e2]
theorem lk_add (K : Kn) (a b c : Str) : lk (addK K a b) c = if c = a then insK (lk K a) b else lk K c := by
  unfold addK
  cases h : (K.find? fun p => decide (p.1 = a)).isSome with
  | true => rw [if_pos rfl, lk_map a c _ K h]
  | false =>
    rw [if_neg (by simp), lk_snoc a c _ K h]
    have : lk K a = [] := by
      unfold lk
      cases q : K.find? fun p => decide (p.1 = a) with
      | none => rfl
      | some _ => rw [q] at h; cases h
    rw [this]
    rfl
theorem mem_insK {l : List Str} {b c : Str} : c ∈ insK l b ↔ c ∈ l ∨ c = b := by
  unfold insK
  split
  · rename_i h
    exact ⟨.inl, fun x => x.elim id fun e => e ▸ h⟩
  · simp
theorem len_insK (l : List Str) (b : Str) : (insK l b).length ≤ l.length + 1 := by
  unfold insK
  split <;> simp
theorem nodup_insK {l : List Str} (h : l.Nodup) (b : Str) : (insK l b).Nodup := by
  unfold insK
  split
  · exact h
  · rename_i hb
    rw [List.nodup_append]
    exact ⟨h, by simp, by intro x hx y hy; simp at hy; subst hy; exact fun e => hb (e ▸ hx)⟩
theorem len_addK (K : Kn) (a b : Str) : (addK K a b).length ≤ K.length + 1 := by
  unfold addK
  split <;> simp
def addP (K : Kn) (p : Str × Str) : Kn := addK (addK K p.1 p.2) p.2 p.1
def knownOf (ps : List (Str × Str)) : Kn := ps.foldl addP []
theorem mem_foldl (a b : Str) : ∀ (ps : List (Str × Str)) (K : Kn), b ∈ lk (ps.foldl addP K) a ↔ b ∈ lk K a ∨ (a, b) ∈ ps ∨ (b, a) ∈ ps
  | [], K => by simp
  | p :: ps, K => by
    rw [List.foldl_cons, mem_foldl a b ps (addP K p)]
    unfold addP
    obtain ⟨x, y⟩ := p
    have key : b ∈ lk (addK (addK K x y) y x) a ↔ b ∈ lk K a ∨ (a, b) = (x, y) ∨ (b, a) = (x, y) := by
      rw [lk_add]
      by_cases h1 : a = y
      · subst h1
        simp only [if_true, mem_insK, lk_add]
        by_cases h2 : a = x
        · subst h2
          simp only [if_true, mem_insK, Prod.mk.injEq, true_and, and_true]
          constructor
          · rintro ((h | h) | h) <;> simp [h]
          · rintro (h | h | h) <;> simp [h]
        · simp only [h2, if_false, Prod.mk.injEq, false_and, and_true, false_or]
      · simp only [h1, if_false, lk_add]
        by_cases h2 : a = x
        · subst h2
          simp [mem_insK, h1]
        · simp [h2, h1]
    rw [key]
    simp only [List.mem_cons]
    constructor
    · rintro ((h | h | h) | h | h) <;> simp [h]
    · rintro (h | (h | h) | (h | h)) <;> simp [h]
theorem nodup_foldl (a : Str) : ∀ (ps : List (Str × Str)) (K : Kn), (∀ c, (lk K c).Nodup) → (lk (ps.foldl addP K) a).Nodup
  | [], K, h => h a
  | p :: ps, K, h => by
    rw [List.foldl_cons]
    refine nodup_foldl a ps _ fun c => ?_
    unfold addP
    rw [lk_add]
    split
    · refine nodup_insK ?_ _
      rw [lk_add]
      split
      · exact nodup_insK (h _) _
      · exact h _
    · rw [lk_add]
      split
      · exact nodup_insK (h _) _
      · exact h _
theorem nodup_known (ps : List (Str × Str)) (a : Str) : (lk (knownOf ps) a).Nodup := nodup_foldl a ps [] fun c => by simp [lk]
/-- either of the other -/
def pals (ps : List (Str × Str)) (a b : Str) : Bool := decide (b ∈ lk (knownOf ps) a)
theorem pals_iff (ps : List (Str × Str)) (a b : Str) : pals ps a b = true ↔ (a, b) ∈ ps ∨ (b, a) ∈ ps := by
  unfold pals knownOf
  rw [decide_eq_true_eq, mem_foldl]
  simp [lk]
theorem sets_loop {wf n : Nat} (c : Str × Str → D) (hc : ∀ p, c p = .tup [.str p.1, .str p.2] ∨ c p = .lst [.str p.1, .str p.2]) (F : D) : ∀ (ps : List (Str × Str)) (K : Kn) (o o' : Option D) (m : Nat), K.length ≤ m → (∀ a, (lk K a).length ≤ m) → m + 2 * ps.length ≤ 10000 →
    ∃ o1 o2, forLoop (.tp [2, 3]) (exs (callN prog wf n) wf b_friend_sets_1) (ps.map c) [some F, some (kd K), o, o'] = .nx [some F, some (kd (ps.foldl addP K)), o1, o2]
  | [], K, o, o', m, _, _, _ => ⟨o, o', rfl⟩
  | p :: ps, K, o, o', m, h1, h2, h3 => by
    rw [List.length_cons] at h3
    have l1 := len_addK K p.1 p.2
    have l2 := len_addK (addK K p.1 p.2) p.2 p.1
    have k1 : ∀ a, (lk (addK K p.1 p.2) a).length ≤ m + 1 := fun a => by
      rw [lk_add]
      split
      · have := len_insK (lk K p.1) p.2; have := h2 p.1; omega
      · have := h2 a; omega
    have k2 : ∀ a, (lk (addP K p) a).length ≤ m + 2 := fun a => by
      unfold addP
      rw [lk_add]
      split
      · have := len_insK (lk (addK K p.1 p.2) p.2) p.1; have := k1 p.2; omega
      · have := k1 a; omega
    obtain ⟨o1, o2, e⟩ := sets_loop (wf := wf) (n := n) c hc F ps (addP K p) (some (.str p.1)) (some (.str p.2)) (m + 2) (by unfold addP; omega) k2 (by omega)
    refine ⟨o1, o2, ?_⟩
    rw [List.foldl_cons, ← e]
    have b1 : sddE [some F, some (kd K), some (.str p.1), some (.str p.2)] 1 (.str p.1) (.str p.2) (.bl true) = some [some F, some (kd (addK K p.1 p.2)), some (.str p.1), some (.str p.2)] := sddE_kd rfl (by simp [BIG]; omega) (by have := h2 p.1; simp [BIG]; omega)
    have b2 : sddE [some F, some (kd (addK K p.1 p.2)), some (.str p.1), some (.str p.2)] 1 (.str p.2) (.str p.1) (.bl true) = some [some F, some (kd (addP K p)), some (.str p.1), some (.str p.2)] := sddE_kd rfl (by simp [BIG]; omega) (by have := k1 p.2; simp [BIG]; omega)
    rw [List.map_cons]
    rcases hc p with hp | hp <;> rw [hp] <;> simp only [b_friend_sets_1, z_bR, z_bO, z_tO, z_tR, z_tB, z_tC, z_l, z_n, z_v, z_m, z_rf, z_bk, z_pk, z_ld, z_var, z_mv, z_mref, z_own, z_cst, z_glb, z_dnew, z_tup, k_tup, z_lst, k_lst, z_op1, k_op1, z_op2, k_op2, k_op2b, z_slc, k_slc1, k_slc2, k_slc3, z_get, k_get1, k_get2, k_get3, p_e, z_meth, k_meth, z_and, k_and, k_and2, z_or, k_or, k_or2, p_t, p_f, z_nt, k_nt, k_nt2, z_ite, k_ite, k_ite2, z_chain, k_ch1, k_ch2, k_ch3, k_ch4, k_bl, p_ct, p_cf, z_call, k_call, k_call2, z_callK, k_callK, k_callK2, z_lend, z_lc, k_lc, z_on, z_os, k_os, z_cn, z_cs, k_tru, z_seq, k_seq, z_rng, k_rng, z_rng2, k_rng2, k_rng2b, z_enm, k_enm, z_zip, k_zip, k_zip2, z_e0, z_e1, k_cons, k_cons2, s_asg, k_asg, s_asgM, k_asgM, s_par, s_parT, k_par, s_app, p_o, k_app, s_ins, k_ins, k_ins2, s_setL, k_setL, k_setL2, s_setD, k_setD, k_setD2, s_sdd, k_sdd, k_sdd2, k_sdd3, s_ex, k_ex, s_if, k_if, k_if2, p_ot, p_of, s_fr, k_fr, s_whl, s_ret, k_ret, s_brk, s_cnt, s_pass, s_nil, s_cons, f_b, f_nx, f_ct, f_bk, f_rt, for_nil, for_cons, t_nm, t_tp2, t_tp2L, t_tp3, setAll, List.getElem?_cons_zero, List.getElem?_cons_succ, List.set_cons_zero, List.set_cons_succ, wipeE, backE, cond_true, cond_false, resolve, writeBack, permA, isDct, recvD, isI, isB, Option.map_some, Option.bind_some, Option.getD_some, Option.getD_none, seqOf, seqStr, o_andB, t_int, t_lst, t_tup, t_str, t_non, fl_int, fl_str, fl_bl, fl_non, fa_nil, fl_strT, o_len1, o_len2, o_len3, o_neg, o_list, o_list2, o_tup, o_tup2, o_isi, o_cutT, o_cutL, o_eq_int, o_eq_str, o_ne_int, o_ne_str, o_eq_bl, o_ne_bl, o_eq_strT, o_eq_strL, o_ne_strT, o_ne_strL, o_ne_nilL, o_eq_nilL, o_ne_nn, o_eq_nn, o_ne_tt, o_eq_tt, o_lt, o_gt, o_le, o_ge, o_add, o_sub, o_min, o_max, o_rep2, o_in_strT, o_in_strL, o_nin_strT, o_nin_strL, o_in_prT, o_in_prL, o_in_prT', o_in_prL', o_in_dct, o_nin_dct, o_ixT, o_ixL, o_ixT0, o_ixL0, o_ixT1, o_ixL1, o_ixTm, o_ixLm, o_indexT, o_indexL, Bool.and_self, Bool.and_true, Bool.true_and, Bool.and_false, Bool.false_and, Bool.not_true, Bool.not_false, Option.isNone_some, Option.isNone_none, lstAt, dctAt, isa_lt_n, isa_lt_b, isa_lt_i, isa_lt_s, isa_lt_t, isa_lt_l, isa_l_n, isa_l_b, isa_l_i, isa_l_s, isa_l_t, isa_l_l, isa_t_n, isa_t_b, isa_t_i, isa_t_s, isa_t_t, isa_t_l, isa_s_n, isa_s_b, isa_s_i, isa_s_s, isa_s_t, isa_s_l, isa_i_n, isa_i_b, isa_i_i, isa_i_s, isa_i_t, isa_i_l, isa_b_n, isa_b_b, isa_b_i, isa_b_s, isa_b_t, isa_b_l, o_is_n, o_isn_n, o_is_b, o_isn_b, o_is_i, o_isn_i, o_is_s, o_isn_s, o_is_t, o_isn_t, o_is_l, o_isn_l, zipD_tt, zipD_ll, z_pick, k_pick, pk_0, pk_1, s_asgP, k_asgP, ps_2, o_mulT0, o_mulT1, z_dc, k_dc, o_ixD, io_n, io_b, io_i, io_s, io_t, io_l, io_d, z_fld, k_fld, fd_o, z_fldM, f_e, fv_o, z_mcall, k_mc, k_mc2, k_mc3, rc_ok, rf_m, ic_o, Bool.true_or, Bool.or_true, z_new, k_new, nw_ok, z_lendL, z_ldL, fl_L, all_str, z_rev, k_rev, rv_l, z_lock, k_lock, lc_d, z_addL, k_addL, k_addL2, z_keys, k_keys, z_items, k_items, ky_L, it_L, o_in_dctL, o_nin_dctL, o_ixDL, o_lenD, o_lenDL, t_nst, o_sign, pf_e, pf_o, sp_n0, sp_ns, sp_c0, sp_cs, s_setF, k_setF, s_appF, k_appF, s_setDF, k_setDF, k_setDF2, s_delDF, k_delDF, s_augF, au_s, k_augF, s_revL, re_s, io_L, z_ixM, k_ixM, isd_e, isd_o, ixv_e, ixv_o, b1, b2]
theorem sets_ok {wf n : Nat} (ps : List (Str × Str)) (hl : ps.length ≤ 1000) (F : D) (c : Str × Str → D) (hc : ∀ p, c p = .tup [.str p.1, .str p.2] ∨ c p = .lst [.str p.1, .str p.2]) (hF : F = .tup (ps.map c) ∨ F = .lst (ps.map c)) : callN prog wf (n + 1) "friend_sets" [F] = .ok (kd (knownOf ps)) [F] := by
  obtain ⟨o1, o2, e⟩ := sets_loop (wf := wf) (n := n) c hc F ps [] none none 0 (by simp) (by intro a; simp [lk]) (by omega)
  rw [show kd [] = .dct [] from rfl] at e
  rcases hF with rfl | rfl <;> simp only [at_friend_sets, bd_friend_sets, z_bR, z_bO, z_tO, z_tR, z_tB, z_tC, z_l, z_n, z_v, z_m, z_rf, z_bk, z_pk, z_ld, z_var, z_mv, z_mref, z_own, z_cst, z_glb, z_dnew, z_tup, k_tup, z_lst, k_lst, z_op1, k_op1, z_op2, k_op2, k_op2b, z_slc, k_slc1, k_slc2, k_slc3, z_get, k_get1, k_get2, k_get3, p_e, z_meth, k_meth, z_and, k_and, k_and2, z_or, k_or, k_or2, p_t, p_f, z_nt, k_nt, k_nt2, z_ite, k_ite, k_ite2, z_chain, k_ch1, k_ch2, k_ch3, k_ch4, k_bl, p_ct, p_cf, z_call, k_call, k_call2, z_callK, k_callK, k_callK2, z_lend, z_lc, k_lc, z_on, z_os, k_os, z_cn, z_cs, k_tru, z_seq, k_seq, z_rng, k_rng, z_rng2, k_rng2, k_rng2b, z_enm, k_enm, z_zip, k_zip, k_zip2, z_e0, z_e1, k_cons, k_cons2, s_asg, k_asg, s_asgM, k_asgM, s_par, s_parT, k_par, s_app, p_o, k_app, s_ins, k_ins, k_ins2, s_setL, k_setL, k_setL2, s_setD, k_setD, k_setD2, s_sdd, k_sdd, k_sdd2, k_sdd3, s_ex, k_ex, s_if, k_if, k_if2, p_ot, p_of, s_fr, k_fr, s_whl, s_ret, k_ret, s_brk, s_cnt, s_pass, s_nil, s_cons, f_b, f_nx, f_ct, f_bk, f_rt, for_nil, for_cons, t_nm, t_tp2, t_tp2L, t_tp3, setAll, List.getElem?_cons_zero, List.getElem?_cons_succ, List.set_cons_zero, List.set_cons_succ, wipeE, backE, cond_true, cond_false, resolve, writeBack, permA, isDct, recvD, isI, isB, Option.map_some, Option.bind_some, Option.getD_some, Option.getD_none, seqOf, seqStr, o_andB, t_int, t_lst, t_tup, t_str, t_non, fl_int, fl_str, fl_bl, fl_non, fa_nil, fl_strT, o_len1, o_len2, o_len3, o_neg, o_list, o_list2, o_tup, o_tup2, o_isi, o_cutT, o_cutL, o_eq_int, o_eq_str, o_ne_int, o_ne_str, o_eq_bl, o_ne_bl, o_eq_strT, o_eq_strL, o_ne_strT, o_ne_strL, o_ne_nilL, o_eq_nilL, o_ne_nn, o_eq_nn, o_ne_tt, o_eq_tt, o_lt, o_gt, o_le, o_ge, o_add, o_sub, o_min, o_max, o_rep2, o_in_strT, o_in_strL, o_nin_strT, o_nin_strL, o_in_prT, o_in_prL, o_in_prT', o_in_prL', o_in_dct, o_nin_dct, o_ixT, o_ixL, o_ixT0, o_ixL0, o_ixT1, o_ixL1, o_ixTm, o_ixLm, o_indexT, o_indexL, Bool.and_self, Bool.and_true, Bool.true_and, Bool.and_false, Bool.false_and, Bool.not_true, Bool.not_false, Option.isNone_some, Option.isNone_none, lstAt, dctAt, isa_lt_n, isa_lt_b, isa_lt_i, isa_lt_s, isa_lt_t, isa_lt_l, isa_l_n, isa_l_b, isa_l_i, isa_l_s, isa_l_t, isa_l_l, isa_t_n, isa_t_b, isa_t_i, isa_t_s, isa_t_t, isa_t_l, isa_s_n, isa_s_b, isa_s_i, isa_s_s, isa_s_t, isa_s_l, isa_i_n, isa_i_b, isa_i_i, isa_i_s, isa_i_t, isa_i_l, isa_b_n, isa_b_b, isa_b_i, isa_b_s, isa_b_t, isa_b_l, o_is_n, o_isn_n, o_is_b, o_isn_b, o_is_i, o_isn_i, o_is_s, o_isn_s, o_is_t, o_isn_t, o_is_l, o_isn_l, zipD_tt, zipD_ll, z_pick, k_pick, pk_0, pk_1, s_asgP, k_asgP, ps_2, o_mulT0, o_mulT1, z_dc, k_dc, o_ixD, io_n, io_b, io_i, io_s, io_t, io_l, io_d, z_fld, k_fld, fd_o, z_fldM, f_e, fv_o, z_mcall, k_mc, k_mc2, k_mc3, rc_ok, rf_m, ic_o, Bool.true_or, Bool.or_true, z_new, k_new, nw_ok, z_lendL, z_ldL, fl_L, all_str, z_rev, k_rev, rv_l, z_lock, k_lock, lc_d, z_addL, k_addL, k_addL2, z_keys, k_keys, z_items, k_items, ky_L, it_L, o_in_dctL, o_nin_dctL, o_ixDL, o_lenD, o_lenDL, t_nst, o_sign, pf_e, pf_o, sp_n0, sp_ns, sp_c0, sp_cs, s_setF, k_setF, s_appF, k_appF, s_setDF, k_setDF, k_setDF2, s_delDF, k_delDF, s_augF, au_s, k_augF, s_revL, re_s, io_L, z_ixM, k_ixM, isd_e, isd_o, ixv_e, ixv_o, e, rt_friend_sets] <;> rfl
theorem sets_okT {wf n : Nat} {ps : List (Str × Str)} (hl : ps.length ≤ 1000) : callN prog wf (n + 1) "friend_sets" [.tup (ps.map pr)] = .ok (kd (knownOf ps)) [.tup (ps.map pr)] := sets_ok ps hl _ pr (fun _ => .inl rfl) (.inl rfl)
theorem sets_okL {wf n : Nat} {ps : List (Str × Str)} (hl : ps.length ≤ 1000) : callN prog wf (n + 1) "friend_sets" [.lst (ps.map pr)] = .ok (kd (knownOf ps)) [.lst (ps.map pr)] := sets_ok ps hl _ pr (fun _ => .inl rfl) (.inr rfl)
end Lw
namespace Lw
open Pv PySem
abbrev knw (K : Kn) (a b : Str) : Bool := decide (b ∈ lk K a)
theorem idx_nodup : ∀ {st : List Str} (nd : st.Nodup) {i : Nat} (hi : i < st.length), (st.findIdx? fun z => decide (z = st[i])) = some i := by
  intro st nd i hi
  rw [List.findIdx?_eq_some_iff_getElem]
  refine ⟨hi, by simp, fun j hj => ?_⟩
  have hj' : j < st.length := by omega
  have : st[j] ≠ st[i] := List.pairwise_iff_getElem.mp nd j i hj' hi hj
  simp [this]
theorem idx_of {row : List Str} (nd : row.Nodup) {i : Nat} (hi : i < row.length) : row.idxOf row[i] = i := List.Nodup.idxOf_getElem nd i hi
theorem filter_idx {α : Type} (row : List Str) (q : Str → Bool) (c : Str → α) (q2 : Str × Nat → Bool) (h : ∀ p ∈ row.zipIdx, q2 p = q p.1) : (row.zipIdx.filter q2).map (fun p => c p.1) = (row.filter q).map c := by
  rw [List.filter_congr h]
  conv => rhs; rw [← List.zipIdx_map_fst 0 row, List.filter_map, List.map_map]
  rfl
end Lw
namespace Lw
open Pv PySem
def looseAt (f : Str → Bool) (row : List Str) (i : Nat) : Bool := match (row.zipIdx.filter fun p => f p.1).getLast? with
  | some p => decide ((p.2 : Int) = (i : Int) - 1)
  | none => decide ((i : Int) = (row.length : Int) - 1)
theorem spot_last (f : Str → Bool) : ∀ (l : List Str) (k s : Nat), spotAt f l k s = match ((l.zipIdx k).filter fun p => f p.1).getLast? with
    | some p => p.2 + 1
    | none => s
  | [], _, _ => rfl
  | x :: l, k, s => by
    rw [spotAt, spot_last f l (k + 1), List.zipIdx_cons]
    cases h : f x with
    | true =>
      rw [List.filter_cons_of_pos (by simpa using h), List.getLast?_cons]
      cases ((l.zipIdx (k + 1)).filter fun p => f p.1).getLast? <;> simp
    | false =>
      rw [List.filter_cons_of_neg (by simp [h])]
      simp
theorem app_inj {a : Str} : ∀ {X Y A B : List Str}, a ∉ X → a ∉ A → X ++ a :: Y = A ++ a :: B → X = A
  | [], _, [], _, _, _, _ => rfl
  | [], _, b :: A, _, _, h2, e => by
    simp at e
    exact absurd (e.1 ▸ List.mem_cons_self) h2
  | x :: X, _, [], _, h1, _, e => by
    simp at e
    exact absurd (e.1 ▸ List.mem_cons_self) h1
  | x :: X, Y, b :: A, B, h1, h2, e => by
    simp only [List.cons_append, List.cons.injEq] at e
    rw [e.1, app_inj (fun h => h1 (List.mem_cons_of_mem _ h)) (fun h => h2 (List.mem_cons_of_mem _ h)) e.2]
theorem filter_idx_nil (f : Str → Bool) (l : List Str) (k : Nat) : ((l.zipIdx k).filter fun p => f p.1) = [] ↔ ∀ x ∈ l, f x = false := by
  rw [List.filter_eq_nil_iff]
  constructor
  · intro h x hx
    obtain ⟨i, hi, rfl⟩ := List.getElem_of_mem hx
    have := h (l[i], k + i) (by rw [List.mk_mem_zipIdx_iff_le_and_getElem?_sub]; simp [hi])
    simpa using this
  · rintro h ⟨x, i⟩ hp
    have := h x (List.fst_mem_of_mem_zipIdx hp)
    simp [this]
theorem come_back {ps : List (Str × Str)} {A B : List Str} {a : Str} (hA : a ∉ A) (hB : a ∉ B) (hf : fr_ ps a a = false) : (come ps (A ++ B) a = A ++ a :: B) ↔ looseAt (fr_ ps a) (A ++ a :: B) A.length = true := by
  have h1 : (come ps (A ++ B) a = A ++ a :: B) ↔ comeAt ps (A ++ B) a = A.length := by
    unfold come
    constructor
    · intro e
      have hX : a ∉ (A ++ B).take (comeAt ps (A ++ B) a) := fun h => (List.mem_append.mp (List.mem_of_mem_take h)).elim hA hB
      have := app_inj hX hA (by simpa using e)
      have hl := congrArg List.length this
      rw [List.length_take] at hl
      have := comeAt_le ps (A ++ B) a
      omega
    · intro e
      rw [e]
      simp
  rw [h1]
  unfold comeAt looseAt
  rw [spot_last, List.zipIdx_append, List.filter_append, List.zipIdx_append, List.filter_append, List.zipIdx_cons, List.filter_cons_of_neg (by simp [hf]), Nat.zero_add]
  by_cases hb : ∀ x ∈ B, fr_ ps a x = false
  · rw [(filter_idx_nil _ B _).mpr hb, (filter_idx_nil _ B _).mpr hb, List.append_nil]
    cases ((A.zipIdx 0).filter fun p => fr_ ps a p.1).getLast? with
    | none =>
      show (A ++ B).length = A.length ↔ decide (_ = _) = true
      rw [decide_eq_true_eq, List.length_append, List.length_append, List.length_cons]
      omega
    | some p =>
      show p.2 + 1 = A.length ↔ decide (_ = _) = true
      rw [decide_eq_true_eq]
      omega
  · have n1 : ((B.zipIdx A.length).filter fun p => fr_ ps a p.1) ≠ [] := fun h => hb ((filter_idx_nil _ B _).mp h)
    have n2 : ((B.zipIdx (A.length + 1)).filter fun p => fr_ ps a p.1) ≠ [] := fun h => hb ((filter_idx_nil _ B _).mp h)
    obtain ⟨p, hp⟩ := Option.ne_none_iff_exists'.mp (fun h => n1 (List.getLast?_eq_none_iff.mp h))
    obtain ⟨q, hq⟩ := Option.ne_none_iff_exists'.mp (fun h => n2 (List.getLast?_eq_none_iff.mp h))
    rw [List.getLast?_append, List.getLast?_append, hp, hq]
    have m1 := List.le_snd_of_mem_zipIdx (List.mem_filter.mp (List.mem_of_getLast? hp)).1
    have m2 := List.le_snd_of_mem_zipIdx (List.mem_filter.mp (List.mem_of_getLast? hq)).1
    show p.2 + 1 = A.length ↔ decide ((q.2 : Int) = _) = true
    rw [decide_eq_true_eq]
    omega
/-- whether one of a row can have come last -/
def looseB (ps : List (Str × Str)) (row : List Str) (a : Str) : Bool := looseAt (pals ps a) row (row.idxOf a)
def putIn (f : Str → Bool) (row : List Str) (a : Str) : List Str := row.take (spotAt f row 0 row.length) ++ [a] ++ row.drop (spotAt f row 0 row.length)
theorem spotF_le (f : Str → Bool) (row : List Str) : spotAt f row 0 row.length ≤ row.length := spotAt_le _ _ _ _ _ (by omega) (by omega)
end Lw
namespace Lw
open Pv PySem
theorem good_lt {pool : List Str} {ps : List (Str × Str)} (g : Good pool ps) {p : Str × Str} (hp : p ∈ ps) : strLt p.1 p.2 = true := by
  obtain ⟨a, _, b, _, hne, rfl⟩ := g p hp
  exact nrm_lt hne
theorem nrm_of_lt {a b : Str} (h : strLt a b = true) : nrm a b = (a, b) := by
  unfold nrm
  rw [strLt_asym h, h]
  rfl
theorem nrm_of_gt {a b : Str} (h : strLt b a = true) : nrm a b = (b, a) := by
  unfold nrm
  rw [strLt_asym h, h]
  rfl
theorem nrm_cases (a b : Str) : nrm a b = (a, b) ∨ nrm a b = (b, a) := by
  cases h : strLt a b with
  | true => exact .inl (nrm_of_lt h)
  | false =>
    cases h2 : strLt b a with
    | true => exact .inr (nrm_of_gt h2)
    | false => exact .inl (by unfold nrm; rw [h, h2, strLt_eq h h2]; rfl)
theorem fr_iff {pool : List Str} {ps : List (Str × Str)} (g : Good pool ps) (a b : Str) : nrm a b ∈ ps ↔ (a, b) ∈ ps ∨ (b, a) ∈ ps := by
  constructor
  · intro h
    rcases nrm_cases a b with e | e
    · exact .inl (e ▸ h)
    · exact .inr (e ▸ h)
  · rintro (h | h)
    · rw [nrm_of_lt (good_lt g h)]; exact h
    · rw [nrm_of_gt (good_lt g h)]; exact h
theorem fr_pals {pool : List Str} {ps : List (Str × Str)} (g : Good pool ps) (a b : Str) : fr_ ps a b = pals ps a b := by
  cases h : pals ps a b with
  | true => exact decide_eq_true ((fr_iff g a b).mpr ((pals_iff ps a b).mp h))
  | false => exact decide_eq_false fun x => by rw [(pals_iff ps a b).mpr ((fr_iff g a b).mp x)] at h; cases h
theorem fr_palsF {pool : List Str} {ps : List (Str × Str)} (g : Good pool ps) (a : Str) : fr_ ps a = pals ps a := funext fun b => fr_pals g a b
theorem strLt_irr (a : Str) : strLt a a = false := by
  cases h : strLt a a with
  | false => rfl
  | true => have := strLt_asym h; rw [h] at this; cases this
theorem fr_self {pool : List Str} {ps : List (Str × Str)} (g : Good pool ps) (a : Str) : fr_ ps a a = false := by
  refine decide_eq_false fun h => ?_
  have := (fr_iff g a a).mp h
  have h2 : (a, a) ∈ ps := this.elim id id
  have := good_lt g h2
  rw [strLt_irr] at this
  cases this
theorem fr_comm (ps : List (Str × Str)) (a b : Str) : fr_ ps a b = fr_ ps b a := by
  unfold fr_
  have : nrm a b = nrm b a := by
    cases h : strLt a b with
    | true => rw [nrm_of_lt h, nrm_of_gt h]
    | false =>
      cases h2 : strLt b a with
      | true => rw [nrm_of_gt h2, nrm_of_lt h2]
      | false => rw [strLt_eq h h2]
  rw [this]
end Lw
namespace Lw
open Pv PySem
/-! ### who can have come last, by what stands ahead and behind -/
def Ls (f : Str → Bool) (A B : List Str) : Prop := (∀ x ∈ B, f x = false) ∧ ((∃ A' y, A = A' ++ [y] ∧ f y = true) ∨ ((∀ x ∈ A, f x = false) ∧ B = []))
theorem loose_iff {f : Str → Bool} {A B : List Str} {a : Str} (hf : f a = false) : looseAt f (A ++ a :: B) A.length = true ↔ Ls f A B := by
  unfold looseAt Ls
  rw [List.zipIdx_append, List.filter_append, List.zipIdx_cons, List.filter_cons_of_neg (by simp [hf]), Nat.zero_add]
  by_cases hb : ∀ x ∈ B, f x = false
  · rw [(filter_idx_nil _ B _).mpr hb, List.append_nil]
    rcases List.eq_nil_or_concat A with rfl | ⟨A', y, rfl⟩
    · show decide (_ = _) = true ↔ _
      rw [decide_eq_true_eq]
      simp only [List.nil_append, List.length_nil, List.length_cons]
      constructor
      · intro h
        exact ⟨hb, .inr ⟨by simp, List.length_eq_zero_iff.mp (by omega)⟩⟩
      · rintro ⟨_, ⟨_, _, h, _⟩ | ⟨_, rfl⟩⟩
        · simp at h
        · simp
    · rw [List.concat_eq_append, List.zipIdx_append, List.filter_append, List.zipIdx_cons, List.zipIdx_nil, Nat.zero_add]
      cases hy : f y with
      | true =>
        rw [List.filter_cons_of_pos (by simpa using hy), List.filter_nil, List.getLast?_concat]
        show decide (_ = _) = true ↔ _
        rw [decide_eq_true_eq]
        constructor
        · intro _
          exact ⟨hb, .inl ⟨A', y, rfl, hy⟩⟩
        · intro _
          simp
      | false =>
        rw [List.filter_cons_of_neg (by simp [hy]), List.filter_nil, List.append_nil]
        cases hq : ((A'.zipIdx 0).filter fun p => f p.1).getLast? with
        | none =>
          have hA := (filter_idx_nil f A' 0).mp (List.getLast?_eq_none_iff.mp hq)
          show decide (_ = _) = true ↔ _
          rw [decide_eq_true_eq]
          simp only [List.length_append, List.length_cons, List.length_nil]
          constructor
          · intro h
            refine ⟨hb, .inr ⟨fun x hx => ?_, List.length_eq_zero_iff.mp (by omega)⟩⟩
            rcases List.mem_append.mp hx with hx | hx
            · exact hA x hx
            · simp at hx; rw [hx]; exact hy
          · rintro ⟨_, ⟨A2, y2, h, h2⟩ | ⟨_, rfl⟩⟩
            · have := (List.append_inj' h rfl).2
              simp at this
              rw [← this, hy] at h2
              cases h2
            · simp
        | some p =>
          have hm := List.mem_filter.mp (List.mem_of_getLast? hq)
          have hlt := List.snd_lt_of_mem_zipIdx hm.1
          show decide (_ = _) = true ↔ _
          rw [decide_eq_true_eq]
          simp only [List.length_append, List.length_cons, List.length_nil]
          constructor
          · intro h
            omega
          · rintro ⟨_, ⟨A2, y2, h, h2⟩ | ⟨h, _⟩⟩
            · have := (List.append_inj' h rfl).2
              simp at this
              rw [← this, hy] at h2
              cases h2
            · have := h p.1 (List.mem_append_left _ (List.fst_mem_of_mem_zipIdx hm.1))
              rw [hm.2] at this
              cases this
  · have n2 : ((B.zipIdx (A.length + 1)).filter fun p => f p.1) ≠ [] := fun h => hb ((filter_idx_nil _ B _).mp h)
    obtain ⟨q, hq⟩ := Option.ne_none_iff_exists'.mp (fun h => n2 (List.getLast?_eq_none_iff.mp h))
    rw [List.getLast?_append, hq]
    have m2 := List.le_snd_of_mem_zipIdx (List.mem_filter.mp (List.mem_of_getLast? hq)).1
    show decide ((q.2 : Int) = _) = true ↔ _
    rw [decide_eq_true_eq]
    constructor
    · intro h
      omega
    · intro h
      exact absurd h.1 hb
theorem idx_mid {A B : List Str} {a : Str} (h : a ∉ A) : (A ++ a :: B).idxOf a = A.length := by
  rw [List.idxOf_append, if_neg h, List.idxOf_cons_self]
  omega
theorem split_at {st : List Str} (nd : st.Nodup) {a : Str} (ha : a ∈ st) : ∃ A B, st = A ++ a :: B ∧ a ∉ A ∧ a ∉ B ∧ st.idxOf a = A.length := by
  obtain ⟨A, B, rfl⟩ := List.append_of_mem ha
  rw [List.nodup_append] at nd
  have hA : a ∉ A := fun h => nd.2.2 _ h _ List.mem_cons_self rfl
  exact ⟨A, B, rfl, hA, (List.nodup_cons.mp nd.2.1).1, idx_mid hA⟩
def thin (st : List Str) (a : Str) : List Str := st.filter fun z => !decide (z = a)
theorem thin_not {l : List Str} {a : Str} (h : a ∉ l) : thin l a = l := by
  unfold thin
  rw [List.filter_eq_self]
  intro x hx
  have : x ≠ a := fun e => h (e ▸ hx)
  simp [this]
theorem thin_app (A B : List Str) (a : Str) : thin (A ++ B) a = thin A a ++ thin B a := List.filter_append ..
theorem thin_cons_ne {x a : Str} (h : x ≠ a) (l : List Str) : thin (x :: l) a = x :: thin l a := List.filter_cons_of_pos (by simp [h])
theorem thin_cons_eq (a : Str) (l : List Str) : thin (a :: l) a = thin l a := List.filter_cons_of_neg (by simp)
theorem thin_mid {A B : List Str} {a : Str} (hA : a ∉ A) (hB : a ∉ B) : thin (A ++ a :: B) a = A ++ B := by
  rw [thin_app, thin_cons_eq, thin_not hA, thin_not hB]
theorem mem_thin {l : List Str} {a x : Str} : x ∈ thin l a ↔ x ∈ l ∧ x ≠ a := by
  unfold thin
  rw [List.mem_filter]
  simp
theorem thin_nodup {l : List Str} (h : l.Nodup) (a : Str) : (thin l a).Nodup := h.sublist List.filter_sublist
theorem thin_comm (l : List Str) (a b : Str) : thin (thin l a) b = thin (thin l b) a := by
  unfold thin
  rw [List.filter_filter, List.filter_filter]
  congr 1
  funext z
  exact Bool.and_comm _ _
theorem thin_len {l : List Str} (nd : l.Nodup) {a : Str} (ha : a ∈ l) : (thin l a).length + 1 = l.length := by
  obtain ⟨A, B, rfl, hA, hB, _⟩ := split_at nd ha
  rw [thin_mid hA hB]
  simp
  omega
section
variable {ps : List (Str × Str)}
/-- nobody is its own friend; friends either way -/
structure Sym (ps : List (Str × Str)) : Prop where
  irr : ∀ a, pals ps a a = false
  sym : ∀ a b, pals ps a b = pals ps b a
theorem pals_sym (ps : List (Str × Str)) (a b : Str) : pals ps a b = pals ps b a := by
  have h1 := pals_iff ps a b
  have h2 := pals_iff ps b a
  cases p : pals ps a b <;> cases q : pals ps b a
  · rfl
  · rw [p] at h1; rw [q] at h2; exact absurd (h1.mpr ((h2.mp rfl).elim .inr .inl)) (by simp)
  · rw [p] at h1; rw [q] at h2; exact absurd (h2.mpr ((h1.mp rfl).elim .inr .inl)) (by simp)
  · rfl
theorem good_sym {pool : List Str} (g : Good pool ps) : Sym ps := ⟨fun a => by rw [← fr_pals g]; exact fr_self g a, pals_sym ps⟩
theorem looseB_iff (s : Sym ps) {A B : List Str} {a : Str} (h : (A ++ a :: B).idxOf a = A.length) : looseB ps (A ++ a :: B) a = true ↔ Ls (pals ps a) A B := by
  unfold looseB
  rw [h]
  exact loose_iff (s.irr a)
/-- the lemma: of two that can have come last each still can when the other is taken out -/
theorem loose_stays (s : Sym ps) {st : List Str} (nd : st.Nodup) {a b : Str} (ha : a ∈ st) (hb : b ∈ st) (hab : a ≠ b) (la : looseB ps st a = true) (lb : looseB ps st b = true) : looseB ps (thin st b) a = true := by
  obtain ⟨A, B, rfl, hA, hB, hi⟩ := split_at nd ha
  have la := (looseB_iff s hi).mp la
  have e : thin (A ++ a :: B) b = thin A b ++ a :: thin B b := by rw [thin_app, thin_cons_ne hab]
  rw [e]
  have hA' : a ∉ thin A b := fun h => hA (mem_thin.mp h).1
  refine (looseB_iff s (idx_mid hA')).mpr ⟨fun x hx => la.1 x (mem_thin.mp hx).1, ?_⟩
  rcases la.2 with ⟨A', y, rfl, hy⟩ | ⟨h1, rfl⟩
  · left
    by_cases hyb : y = b
    · subst hyb
      have e2 : A' ++ [y] ++ a :: B = A' ++ y :: (a :: B) := by simp
      rw [e2] at lb nd hb
      obtain ⟨A2, B2, e3, hA2, hB2, hi2⟩ := split_at nd hb
      have hy1 : y ∉ A' := by
        rw [List.nodup_append] at nd
        exact fun h => nd.2.2 _ h _ List.mem_cons_self rfl
      have := (looseB_iff s (A := A') (B := a :: B) (idx_mid hy1)).mp lb
      have h2 := this.1 a List.mem_cons_self
      rw [s.sym, hy] at h2
      cases h2
    · refine ⟨thin A' b, y, ?_, hy⟩
      rw [thin_app, thin_cons_ne hyb]
      rfl
  · exact .inr ⟨fun x hx => h1 x (mem_thin.mp hx).1, rfl⟩
theorem come_put {pool : List Str} (g : Good pool ps) (st : List Str) (a : Str) : come ps st a = putIn (pals ps a) st a := by
  unfold come comeAt putIn
  rw [fr_palsF g]
/-- loose just where it would come in there again -/
theorem loose_come {pool : List Str} (g : Good pool ps) {st : List Str} (nd : st.Nodup) {a : Str} (ha : a ∈ st) : looseB ps st a = true ↔ come ps (thin st a) a = st := by
  obtain ⟨A, B, rfl, hA, hB, hi⟩ := split_at nd ha
  rw [thin_mid hA hB, come_back hA hB (fr_self g a)]
  unfold looseB
  rw [hi, fr_palsF g]
/-- a row that some comings make -/
inductive Fine (ps : List (Str × Str)) : List Str → Prop
  | nil : Fine ps []
  | come {r : List Str} {a : Str} : Fine ps r → a ∉ r → Fine ps (come ps r a)
theorem come_nodup {r : List Str} {a : Str} (h : r.Nodup) (ha : a ∉ r) : (come ps r a).Nodup := (come_perm ps r a).nodup_iff.mpr (List.nodup_cons.mpr ⟨ha, h⟩)
theorem Fine.nd {r : List Str} (h : Fine ps r) : r.Nodup := by
  induction h with
  | nil => simp
  | come _ ha ih => exact come_nodup ih ha
theorem thin_come {r : List Str} {a : Str} (ha : a ∉ r) : thin (come ps r a) a = r := by
  unfold come
  rw [thin_app, thin_app, thin_cons_eq, thin_not (fun h => ha (List.mem_of_mem_take h)), thin_not (fun h => ha (List.mem_of_mem_drop h))]
  show List.take _ r ++ [] ++ List.drop _ r = r
  rw [List.append_nil, List.take_append_drop]
theorem mem_come {r : List Str} {a : Str} : a ∈ come ps r a := (come_perm ps r a).mem_iff.mpr List.mem_cons_self
theorem loose_last {pool : List Str} (g : Good pool ps) {r : List Str} {a : Str} (nd : r.Nodup) (ha : a ∉ r) : looseB ps (come ps r a) a = true := by
  rw [loose_come g (come_nodup nd ha) mem_come, thin_come ha]
theorem fine_thin {pool : List Str} (g : Good pool ps) {r : List Str} (h : Fine ps r) : ∀ {a : Str}, a ∈ r → looseB ps r a = true → Fine ps (thin r a) := by
  induction h with
  | nil => intro a ha; cases ha
  | @come r z hr hz ih =>
    intro a ha la
    have nd := come_nodup (ps := ps) hr.nd hz
    by_cases e : a = z
    · subst e
      rw [thin_come hz]
      exact hr
    · have lz := loose_last g hr.nd hz
      have s := good_sym g
      have l1 := loose_stays s nd ha mem_come e la lz
      rw [thin_come hz] at l1
      have ha' : a ∈ r := by
        rcases List.mem_cons.mp ((come_perm ps r z).mem_iff.mp ha) with h | h
        · exact absurd h e
        · exact h
      have f1 := ih ha' l1
      have l2 := loose_stays s nd mem_come ha (Ne.symm e) lz la
      have mz : z ∈ thin (come ps r z) a := mem_thin.mpr ⟨mem_come, Ne.symm e⟩
      have e2 := (loose_come g (thin_nodup nd a) mz).mp l2
      rw [thin_comm, thin_come hz] at e2
      rw [← e2]
      exact .come f1 fun h => hz (mem_thin.mp h).1
theorem fine_loose {pool : List Str} (g : Good pool ps) {r : List Str} (h : Fine ps r) (hn : r ≠ []) : ∃ a ∈ r, looseB ps r a = true := by
  cases h with
  | nil => exact absurd rfl hn
  | come hr ha => exact ⟨_, mem_come, loose_last g hr.nd ha⟩
theorem fine_foldl : ∀ (l st : List Str), Fine ps st → (st ++ l).Nodup → Fine ps (l.foldl (come ps) st)
  | [], st, h, _ => h
  | x :: l, st, h, nd => by
    have nd' : (x :: (st ++ l)).Nodup := by
      have := (List.perm_middle (a := x) (l₁ := st) (l₂ := l)).nodup_iff.mp nd
      exact this
    rw [List.nodup_cons] at nd'
    refine fine_foldl l (come ps st x) (.come h fun hx => nd'.1 (List.mem_append_left _ hx)) ?_
    have : (come ps st x ++ l).Perm (x :: (st ++ l)) := (come_perm ps st x).append_right l
    exact this.nodup_iff.mpr (List.nodup_cons.mpr nd')
theorem fine_stand {l : List Str} (nd : l.Nodup) : Fine ps (standOf ps l) := fine_foldl l [] .nil (by simpa using nd)
end
end Lw
namespace Lw
open Pv PySem
/-! ### texts that repr gives: how long, which signs -/
def TxOk (n : Nat) (t : Str) : Prop := t.length ≤ n ∧ ∀ c ∈ t.cps.toList, c < 0x110000
theorem tx_str {n : Nat} {t : Str} (h : TxOk n t) : PyData.strOk t = true := by
  unfold PyData.strOk
  rw [← Array.all_toList, List.all_eq_true]
  intro c hc
  simpa using h.2 c hc
theorem tx_app {n m : Nat} {a b : Str} (ha : TxOk n a) (hb : TxOk m b) : TxOk (n + m) (a ++ b) := by
  refine ⟨?_, fun c hc => ?_⟩
  · rw [str_len_app]
    have := ha.1
    have := hb.1
    omega
  · have hc : c ∈ (a.cps ++ b.cps).toList := hc
    rw [Array.toList_append, List.mem_append] at hc
    exact hc.elim (ha.2 c) (hb.2 c)
theorem tx_mono {n m : Nat} {t : Str} (h : TxOk n t) (hm : n ≤ m) : TxOk m t := ⟨Nat.le_trans h.1 hm, h.2⟩
theorem tx_ofs (s : String) : ∀ c ∈ (Str.ofString s).cps.toList, c < 0x110000 := by
  intro c hc
  rw [Str.ofString_eq_toList] at hc
  have hc : c ∈ ((s.toList.map Char.toNat).toArray).toList := hc
  rw [List.toList_toArray, List.mem_map] at hc
  obtain ⟨x, _, rfl⟩ := hc
  have := x.valid
  show x.val.toNat < _
  rcases this with h | h
  · omega
  · exact h.2
theorem tx_sep (k : Nat) : TxOk 2 (if k > 0 then ", " else "" : String) := by
  split
  · exact ⟨by decide, by decide⟩
  · exact ⟨by decide, by decide⟩
theorem tx_from {n : Nat} : ∀ (ts : List Str) (k m : Nat) (acc : Str), TxOk m acc → (∀ t ∈ ts, TxOk n t) → TxOk (m + ts.length * (n + 2)) (textFrom k acc ts)
  | [], k, m, acc, h, _ => tx_mono (show TxOk m (textFrom k acc []) from h) (by simp)
  | t :: ts, k, m, acc, h, ht => by
    have := tx_from ts (k + 1) (m + 2 + n) _ (tx_app (tx_app h (tx_sep k)) (ht t List.mem_cons_self)) (fun t h => ht t (List.mem_cons_of_mem _ h))
    refine tx_mono this ?_
    rw [List.length_cons, Nat.succ_mul]
    omega
theorem tx_list {n : Nat} {ts : List Str} (h : ∀ t ∈ ts, TxOk n t) : TxOk (4 + ts.length * (n + 2)) (listText ts) := by
  have h1 : TxOk 1 ("[" : Str) := ⟨by decide, by decide⟩
  have h2 : TxOk 1 ("]" : Str) := ⟨by decide, by decide⟩
  exact tx_mono (tx_app (tx_from ts 0 1 _ h1 h) h2) (by omega)
theorem tx_join {n : Nat} : ∀ {ts : List Str}, (∀ t ∈ ts, TxOk n t) → TxOk (ts.length * (n + 2)) (Str.join ", " ts)
  | [], _ => ⟨Nat.zero_le _, by intro c hc; cases hc⟩
  | [t], h => by
    have := h t List.mem_cons_self
    exact tx_mono this (by simp)
  | t :: u :: ts, h => by
    have ih := tx_join (ts := u :: ts) fun t h' => h t (List.mem_cons_of_mem _ h')
    have h2 : TxOk 2 (", " : Str) := ⟨by decide, by decide⟩
    have := tx_app (tx_app (h t List.mem_cons_self) h2) ih
    refine tx_mono this ?_
    simp only [List.length_cons, Nat.succ_mul]
    omega
theorem tx_tuple {n : Nat} {ts : List Str} (h : ∀ t ∈ ts, TxOk n t) : TxOk (4 + ts.length * (n + 2)) (tupleText ts) := by
  have h1 : TxOk 1 ("(" : Str) := ⟨by decide, by decide⟩
  have h2 : TxOk 2 ((if ts.length == 1 then ",)" else ")" : String) : Str) := by
    split
    · exact ⟨by decide, by decide⟩
    · exact ⟨by decide, by decide⟩
  exact tx_mono (tx_app (tx_app h1 (tx_join h)) h2) (by omega)
theorem letter_repr : ∀ c : Nat, c < 123 → 97 ≤ c → Builtin.Str.reprChar 39 c = [c] ∧ Builtin.Str.reprChar 34 c = [c] := by decide +kernel
theorem tx_chars {q : Nat} (hq : q = 39 ∨ q = 34) : ∀ (l : List Nat) (acc : Array Nat), (∀ c ∈ l, 97 ≤ c ∧ c < 123) → l.foldl (fun out c => out ++ (Builtin.Str.reprChar q c).toArray) acc = acc ++ l.toArray
  | [], acc, _ => by simp
  | c :: l, acc, h => by
    have hc := h c List.mem_cons_self
    have hr := letter_repr c hc.2 hc.1
    have e : Builtin.Str.reprChar q c = [c] := by rcases hq with rfl | rfl; exact hr.1; exact hr.2
    rw [List.foldl_cons, e, tx_chars hq l _ fun c hc => h c (List.mem_cons_of_mem _ hc)]
    simp
theorem tx_name {x : Str} (h : nameS x) : TxOk 10 (reprText x) := by
  have hq : reprQuote x = 39 ∨ reprQuote x = 34 := by
    unfold reprQuote
    split
    · exact .inr rfl
    · exact .inl rfl
  have e : (reprText x).cps = (#[reprQuote x] ++ x.cps.toList.toArray).push (reprQuote x) := by
    show (x.cps.foldl (fun out c => out ++ (Builtin.Str.reprChar (reprQuote x) c).toArray) #[reprQuote x]).push (reprQuote x) = _
    rw [← Array.foldl_toList, tx_chars hq _ _ h.2.2]
  have hl : x.cps.size ≤ 8 := h.2.1
  have hQ : reprQuote x < 123 := by rcases hq with h | h <;> omega
  refine ⟨?_, fun c hc => ?_⟩
  · show (reprText x).cps.size ≤ 10
    rw [e]
    simp
    omega
  · rw [e] at hc
    simp at hc
    rcases hc with h1 | h1 | h1
    · omega
    · have := (h.2.2 c (by simpa using h1)).2; omega
    · omega
/-- what repr takes -/
structure ROk (k B : Nat) (d : D) : Prop where
  lay : ∀ j, k ≤ j → lay j d = true
  shw : d.toPy.showable = true
  tx : TxOk B d.toPy.shown
theorem ROk.mono {k B k' B' : Nat} {d : D} (h : ROk k B d) (hk : k ≤ k') (hB : B ≤ B') : ROk k' B' d := ⟨fun j hj => h.lay j (by omega), h.shw, tx_mono h.tx hB⟩
theorem rok_non : ROk 0 10 .non := ⟨fun j _ => by cases j <;> rfl, rfl, ⟨by decide, by decide⟩⟩
theorem rok_bl (b : Bool) : ROk 0 10 (.bl b) := ⟨fun j _ => by cases j <;> rfl, rfl, by cases b <;> exact ⟨by decide, by decide⟩⟩
theorem rok_int {i : Int} (h : i.natAbs < 10 ^ 9) : ROk 0 13 (.int i) := by
  refine ⟨fun j _ => by cases j <;> rfl, ?_, ?_, tx_ofs _⟩
  · show decide (i.natAbs.log2 < 1920) = true
    rw [decide_eq_true_eq]
    by_cases h0 : i.natAbs = 0
    · rw [h0]; decide
    · have h2 : i.natAbs < 2 ^ 1920 := Nat.lt_of_lt_of_le h (by decide +kernel)
      exact (Nat.log2_lt h0).mpr h2
  · exact PyData.shown_int_le (Nat.lt_of_lt_of_le h (by decide))
theorem rok_name {x : Str} (h : nameS x) : ROk 0 10 (.str x) := ⟨fun j _ => by cases j <;> rfl, rfl, tx_name h⟩
theorem toPyL_map {α : Type} (c : α → D) : ∀ l : List α, toPyL (l.map c) = l.map fun a => (c a).toPy
  | [] => rfl
  | a :: l => by rw [List.map_cons, toPyL, toPyL_map c l]; rfl
theorem shownAll_map {α : Type} (c : α → PyData) : ∀ l : List α, PyData.shownAll (l.map c) = l.map fun a => (c a).shown
  | [] => rfl
  | a :: l => by rw [List.map_cons, PyData.shownAll, shownAll_map c l]; rfl
theorem showAll_map {α : Type} (c : α → PyData) : ∀ l : List α, (∀ a ∈ l, (c a).showable = true) → PyData.showableAll (l.map c) = true
  | [], _ => rfl
  | a :: l, h => by
    rw [List.map_cons, PyData.showableAll, h a List.mem_cons_self, showAll_map c l fun b hb => h b (List.mem_cons_of_mem _ hb)]
    rfl
theorem rok_list {α : Type} {k B : Nat} (c : α → D) (l : List α) (h : ∀ a ∈ l, ROk k B (c a)) : ROk (k + 1) (4 + l.length * (B + 2)) (.lst (l.map c)) := by
  refine ⟨fun j hj => ?_, ?_, ?_⟩
  · obtain ⟨j, rfl⟩ : ∃ i, j = i + 1 := ⟨j - 1, by omega⟩
    show (l.map c).all (Pv.lay j) = true
    rw [List.all_eq_true]
    intro d hd
    obtain ⟨a, ha, rfl⟩ := List.mem_map.mp hd
    exact (h a ha).lay j (by omega)
  · show PyData.showableAll (toPyL (l.map c)) = true
    rw [toPyL_map]
    exact showAll_map _ l fun a ha => (h a ha).shw
  · show TxOk _ (listText (PyData.shownAll (toPyL (l.map c))))
    rw [toPyL_map, shownAll_map]
    have := tx_list (ts := l.map fun a => (c a).toPy.shown) (n := B) fun t ht => by
      obtain ⟨a, ha, rfl⟩ := List.mem_map.mp ht
      exact (h a ha).tx
    rwa [List.length_map] at this
theorem rok_tup {α : Type} {k B : Nat} (c : α → D) (l : List α) (h : ∀ a ∈ l, ROk k B (c a)) : ROk (k + 1) (4 + l.length * (B + 2)) (.tup (l.map c)) := by
  refine ⟨fun j hj => ?_, ?_, ?_⟩
  · obtain ⟨j, rfl⟩ : ∃ i, j = i + 1 := ⟨j - 1, by omega⟩
    show (l.map c).all (Pv.lay j) = true
    rw [List.all_eq_true]
    intro d hd
    obtain ⟨a, ha, rfl⟩ := List.mem_map.mp hd
    exact (h a ha).lay j (by omega)
  · show PyData.showableAll (toPyL (l.map c)) = true
    rw [toPyL_map]
    exact showAll_map _ l fun a ha => (h a ha).shw
  · show TxOk _ (tupleText (PyData.shownAll (toPyL (l.map c))))
    rw [toPyL_map, shownAll_map]
    have := tx_tuple (ts := l.map fun a => (c a).toPy.shown) (n := B) fun t ht => by
      obtain ⟨a, ha, rfl⟩ := List.mem_map.mp ht
      exact (h a ha).tx
    rwa [List.length_map] at this
theorem rok_l {k B : Nat} (l : List D) (h : ∀ a ∈ l, ROk k B a) : ROk (k + 1) (4 + l.length * (B + 2)) (.lst l) := by
  have := rok_list id l h
  rwa [List.map_id] at this
theorem rok_t {k B : Nat} (l : List D) (h : ∀ a ∈ l, ROk k B a) : ROk (k + 1) (4 + l.length * (B + 2)) (.tup l) := by
  have := rok_tup id l h
  rwa [List.map_id] at this
theorem rok_pair {k B : Nat} {a b : D} (h1 : ROk k B a) (h2 : ROk k B b) : ROk (k + 1) (8 + 2 * B) (.tup [a, b]) :=
  (rok_t [a, b] fun x hx => by
    rcases List.mem_cons.mp hx with rfl | hx
    · exact h1
    · rcases List.mem_singleton.mp hx with rfl
      exact h2).mono (Nat.le_refl _) (by simp; omega)
theorem rok_ok {k B : Nat} {d : D} (h : ROk k B d) (hk : k ≤ 40) (hB : B ≤ 1000000) : reprOk d = true := by
  have h1 : d.toPy.shown.length ≤ sizeLine := Nat.le_trans h.tx.1 (Nat.le_trans hB (by rw [sizeLine_eq]; decide))
  simp only [reprOk, h.lay 40 hk, h.shw, h1, tx_str h.tx, decide_true, Bool.and_self]
theorem o_reprL {l : List D} (h : reprOk (.lst l) = true) : op1 .repr (.lst l) = some (.str (D.toPy (.lst l)).shown) := by
  show (if reprOk (.lst l) then _ else _) = _
  rw [if_pos h]
theorem o_reprT {l : List D} (h : reprOk (.tup l) = true) : op1 .repr (.tup l) = some (.str (D.toPy (.tup l)).shown) := by
  show (if reprOk (.tup l) then _ else _) = _
  rw [if_pos h]
end Lw
namespace Lw
open Pv PySem
/-! ### who are friends, asked outright -/
theorem in_known {wf n : Nat} {ps : List (Str × Str)} (hp : ps.length ≤ 1000) (F : D) (c : Str × Str → D) (hc : ∀ p, c p = .tup [.str p.1, .str p.2] ∨ c p = .lst [.str p.1, .str p.2]) (hF : F = .tup (ps.map c) ∨ F = .lst (ps.map c)) (a b : Str) :
    callN prog wf (n + 2) "are_friends" [F, .str a, .str b] = .ok (.bl (pals ps a b)) [F, .str a, .str b] := by
  have e1 := sets_ok (wf := wf) (n := n) ps hp F c hc hF
  simp only [at_are_friends, bd_are_friends, z_bR, z_bO, z_tO, z_tR, z_tB, z_tC, z_l, z_n, z_v, z_m, z_rf, z_bk, z_pk, z_ld, z_var, z_mv, z_mref, z_own, z_cst, z_glb, z_dnew, z_tup, k_tup, z_lst, k_lst, z_op1, k_op1, z_op2, k_op2, k_op2b, z_slc, k_slc1, k_slc2, k_slc3, z_get, k_get1, k_get2, k_get3, p_e, z_meth, k_meth, z_and, k_and, k_and2, z_or, k_or, k_or2, p_t, p_f, z_nt, k_nt, k_nt2, z_ite, k_ite, k_ite2, z_chain, k_ch1, k_ch2, k_ch3, k_ch4, k_bl, p_ct, p_cf, z_call, k_call, k_call2, z_callK, k_callK, k_callK2, z_lend, z_lc, k_lc, z_on, z_os, k_os, z_cn, z_cs, k_tru, z_seq, k_seq, z_rng, k_rng, z_rng2, k_rng2, k_rng2b, z_enm, k_enm, z_zip, k_zip, k_zip2, z_e0, z_e1, k_cons, k_cons2, s_asg, k_asg, s_asgM, k_asgM, s_par, s_parT, k_par, s_app, p_o, k_app, s_ins, k_ins, k_ins2, s_setL, k_setL, k_setL2, s_setD, k_setD, k_setD2, s_sdd, k_sdd, k_sdd2, k_sdd3, s_ex, k_ex, s_if, k_if, k_if2, p_ot, p_of, s_fr, k_fr, s_whl, s_ret, k_ret, s_brk, s_cnt, s_pass, s_nil, s_cons, f_b, f_nx, f_ct, f_bk, f_rt, for_nil, for_cons, t_nm, t_tp2, t_tp2L, t_tp3, setAll, List.getElem?_cons_zero, List.getElem?_cons_succ, List.set_cons_zero, List.set_cons_succ, wipeE, backE, cond_true, cond_false, resolve, writeBack, permA, isDct, recvD, isI, isB, Option.map_some, Option.bind_some, Option.getD_some, Option.getD_none, seqOf, seqStr, o_andB, t_int, t_lst, t_tup, t_str, t_non, fl_int, fl_str, fl_bl, fl_non, fa_nil, fl_strT, o_len1, o_len2, o_len3, o_neg, o_list, o_list2, o_tup, o_tup2, o_isi, o_cutT, o_cutL, o_eq_int, o_eq_str, o_ne_int, o_ne_str, o_eq_bl, o_ne_bl, o_eq_strT, o_eq_strL, o_ne_strT, o_ne_strL, o_ne_nilL, o_eq_nilL, o_ne_nn, o_eq_nn, o_ne_tt, o_eq_tt, o_lt, o_gt, o_le, o_ge, o_add, o_sub, o_min, o_max, o_rep2, o_in_strT, o_in_strL, o_nin_strT, o_nin_strL, o_in_prT, o_in_prL, o_in_prT', o_in_prL', o_in_dct, o_nin_dct, o_ixT, o_ixL, o_ixT0, o_ixL0, o_ixT1, o_ixL1, o_ixTm, o_ixLm, o_indexT, o_indexL, Bool.and_self, Bool.and_true, Bool.true_and, Bool.and_false, Bool.false_and, Bool.not_true, Bool.not_false, Option.isNone_some, Option.isNone_none, lstAt, dctAt, isa_lt_n, isa_lt_b, isa_lt_i, isa_lt_s, isa_lt_t, isa_lt_l, isa_l_n, isa_l_b, isa_l_i, isa_l_s, isa_l_t, isa_l_l, isa_t_n, isa_t_b, isa_t_i, isa_t_s, isa_t_t, isa_t_l, isa_s_n, isa_s_b, isa_s_i, isa_s_s, isa_s_t, isa_s_l, isa_i_n, isa_i_b, isa_i_i, isa_i_s, isa_i_t, isa_i_l, isa_b_n, isa_b_b, isa_b_i, isa_b_s, isa_b_t, isa_b_l, o_is_n, o_isn_n, o_is_b, o_isn_b, o_is_i, o_isn_i, o_is_s, o_isn_s, o_is_t, o_isn_t, o_is_l, o_isn_l, zipD_tt, zipD_ll, z_pick, k_pick, pk_0, pk_1, s_asgP, k_asgP, ps_2, o_mulT0, o_mulT1, z_dc, k_dc, o_ixD, io_n, io_b, io_i, io_s, io_t, io_l, io_d, z_fld, k_fld, fd_o, z_fldM, f_e, fv_o, z_mcall, k_mc, k_mc2, k_mc3, rc_ok, rf_m, ic_o, Bool.true_or, Bool.or_true, z_new, k_new, nw_ok, z_lendL, z_ldL, fl_L, all_str, z_rev, k_rev, rv_l, z_lock, k_lock, lc_d, z_addL, k_addL, k_addL2, z_keys, k_keys, z_items, k_items, ky_L, it_L, o_in_dctL, o_nin_dctL, o_ixDL, o_lenD, o_lenDL, t_nst, o_sign, pf_e, pf_o, sp_n0, sp_ns, sp_c0, sp_cs, s_setF, k_setF, s_appF, k_appF, s_setDF, k_setDF, k_setDF2, s_delDF, k_delDF, s_augF, au_s, k_augF, s_revL, re_s, io_L, z_ixM, k_ixM, isd_e, isd_o, ixv_e, ixv_o, e1, show isDct (kd (knownOf ps)) = true from rfl, get_kd, in_kdl, rt_are_friends]
  rfl
def palsOf (ps : List (Str × Str)) (a : Str) : List D := sortL ((lk (knownOf ps) a).map .str)
theorem keys_kdl : ∀ l : List Str, keysS ((l.map fun b => ((.inr b : L2.Key), D.bl true)).map (·.1)) = some l
  | [] => rfl
  | x :: l => by
    rw [List.map_cons, List.map_cons, keysS, keys_kdl l]
    rfl
theorem friends_of_ok {wf n : Nat} {ps : List (Str × Str)} (hp : ps.length ≤ 1000) (F : D) (c : Str × Str → D) (hc : ∀ p, c p = .tup [.str p.1, .str p.2] ∨ c p = .lst [.str p.1, .str p.2]) (hF : F = .tup (ps.map c) ∨ F = .lst (ps.map c)) (a : Str) (hl : (lk (knownOf ps) a).length < 64) :
    callN prog wf (n + 2) "friends_of" [F, .str a] = .ok (.lst (palsOf ps a)) [F, .str a] := by
  have e1 := sets_ok (wf := wf) (n := n) ps hp F c hc hF
  have e2 : op1 .sorted (kdl (lk (knownOf ps) a)) = some (.lst (palsOf ps a)) := o_sortD (keys_kdl _) hl
  simp only [at_friends_of, bd_friends_of, z_bR, z_bO, z_tO, z_tR, z_tB, z_tC, z_l, z_n, z_v, z_m, z_rf, z_bk, z_pk, z_ld, z_var, z_mv, z_mref, z_own, z_cst, z_glb, z_dnew, z_tup, k_tup, z_lst, k_lst, z_op1, k_op1, z_op2, k_op2, k_op2b, z_slc, k_slc1, k_slc2, k_slc3, z_get, k_get1, k_get2, k_get3, p_e, z_meth, k_meth, z_and, k_and, k_and2, z_or, k_or, k_or2, p_t, p_f, z_nt, k_nt, k_nt2, z_ite, k_ite, k_ite2, z_chain, k_ch1, k_ch2, k_ch3, k_ch4, k_bl, p_ct, p_cf, z_call, k_call, k_call2, z_callK, k_callK, k_callK2, z_lend, z_lc, k_lc, z_on, z_os, k_os, z_cn, z_cs, k_tru, z_seq, k_seq, z_rng, k_rng, z_rng2, k_rng2, k_rng2b, z_enm, k_enm, z_zip, k_zip, k_zip2, z_e0, z_e1, k_cons, k_cons2, s_asg, k_asg, s_asgM, k_asgM, s_par, s_parT, k_par, s_app, p_o, k_app, s_ins, k_ins, k_ins2, s_setL, k_setL, k_setL2, s_setD, k_setD, k_setD2, s_sdd, k_sdd, k_sdd2, k_sdd3, s_ex, k_ex, s_if, k_if, k_if2, p_ot, p_of, s_fr, k_fr, s_whl, s_ret, k_ret, s_brk, s_cnt, s_pass, s_nil, s_cons, f_b, f_nx, f_ct, f_bk, f_rt, for_nil, for_cons, t_nm, t_tp2, t_tp2L, t_tp3, setAll, List.getElem?_cons_zero, List.getElem?_cons_succ, List.set_cons_zero, List.set_cons_succ, wipeE, backE, cond_true, cond_false, resolve, writeBack, permA, isDct, recvD, isI, isB, Option.map_some, Option.bind_some, Option.getD_some, Option.getD_none, seqOf, seqStr, o_andB, t_int, t_lst, t_tup, t_str, t_non, fl_int, fl_str, fl_bl, fl_non, fa_nil, fl_strT, o_len1, o_len2, o_len3, o_neg, o_list, o_list2, o_tup, o_tup2, o_isi, o_cutT, o_cutL, o_eq_int, o_eq_str, o_ne_int, o_ne_str, o_eq_bl, o_ne_bl, o_eq_strT, o_eq_strL, o_ne_strT, o_ne_strL, o_ne_nilL, o_eq_nilL, o_ne_nn, o_eq_nn, o_ne_tt, o_eq_tt, o_lt, o_gt, o_le, o_ge, o_add, o_sub, o_min, o_max, o_rep2, o_in_strT, o_in_strL, o_nin_strT, o_nin_strL, o_in_prT, o_in_prL, o_in_prT', o_in_prL', o_in_dct, o_nin_dct, o_ixT, o_ixL, o_ixT0, o_ixL0, o_ixT1, o_ixL1, o_ixTm, o_ixLm, o_indexT, o_indexL, Bool.and_self, Bool.and_true, Bool.true_and, Bool.and_false, Bool.false_and, Bool.not_true, Bool.not_false, Option.isNone_some, Option.isNone_none, lstAt, dctAt, isa_lt_n, isa_lt_b, isa_lt_i, isa_lt_s, isa_lt_t, isa_lt_l, isa_l_n, isa_l_b, isa_l_i, isa_l_s, isa_l_t, isa_l_l, isa_t_n, isa_t_b, isa_t_i, isa_t_s, isa_t_t, isa_t_l, isa_s_n, isa_s_b, isa_s_i, isa_s_s, isa_s_t, isa_s_l, isa_i_n, isa_i_b, isa_i_i, isa_i_s, isa_i_t, isa_i_l, isa_b_n, isa_b_b, isa_b_i, isa_b_s, isa_b_t, isa_b_l, o_is_n, o_isn_n, o_is_b, o_isn_b, o_is_i, o_isn_i, o_is_s, o_isn_s, o_is_t, o_isn_t, o_is_l, o_isn_l, zipD_tt, zipD_ll, z_pick, k_pick, pk_0, pk_1, s_asgP, k_asgP, ps_2, o_mulT0, o_mulT1, z_dc, k_dc, o_ixD, io_n, io_b, io_i, io_s, io_t, io_l, io_d, z_fld, k_fld, fd_o, z_fldM, f_e, fv_o, z_mcall, k_mc, k_mc2, k_mc3, rc_ok, rf_m, ic_o, Bool.true_or, Bool.or_true, z_new, k_new, nw_ok, z_lendL, z_ldL, fl_L, all_str, z_rev, k_rev, rv_l, z_lock, k_lock, lc_d, z_addL, k_addL, k_addL2, z_keys, k_keys, z_items, k_items, ky_L, it_L, o_in_dctL, o_nin_dctL, o_ixDL, o_lenD, o_lenDL, t_nst, o_sign, pf_e, pf_o, sp_n0, sp_ns, sp_c0, sp_cs, s_setF, k_setF, s_appF, k_appF, s_setDF, k_setDF, k_setDF2, s_delDF, k_delDF, s_augF, au_s, k_augF, s_revL, re_s, io_L, z_ixM, k_ixM, isd_e, isd_o, ixv_e, ixv_o, e1, show isDct (kd (knownOf ps)) = true from rfl, get_kd, e2, rt_friends_of]
def unS : D → Str
  | .str x => x
  | _ => ""
theorem sortL_strs (l : List Str) : ∃ m : List Str, m.Perm l ∧ sortL (l.map .str) = m.map .str := by
  have hp := sortL_perm (l.map D.str)
  have : ∀ d ∈ sortL (l.map D.str), ∃ x, d = D.str x := fun d hd => by
    obtain ⟨x, _, e⟩ := List.mem_map.mp (hp.mem_iff.mp hd)
    exact ⟨x, e.symm⟩
  have hm : ∀ l : List D, (∀ d ∈ l, ∃ x, d = D.str x) → ∃ m : List Str, l = m.map .str := by
    intro l
    induction l with
    | nil => exact fun _ => ⟨[], rfl⟩
    | cons d l ih =>
      intro h
      obtain ⟨x, rfl⟩ := h d List.mem_cons_self
      obtain ⟨m, rfl⟩ := ih fun d hd => h d (List.mem_cons_of_mem _ hd)
      exact ⟨x :: m, rfl⟩
  obtain ⟨m, e⟩ := hm _ this
  refine ⟨m, ?_, e⟩
  rw [e] at hp
  have h2 := hp.map unS
  rw [List.map_map, List.map_map, show unS ∘ D.str = id from rfl, List.map_id, List.map_id] at h2
  exact h2
theorem sortL_same {l m : List Str} (h : l.Perm m) : sortL (l.map .str) = sortL (m.map .str) := by
  have hom : Hom 2 (m.map D.str) := ⟨.inr (.inl rfl), fun d hd => by
    obtain ⟨x, _, rfl⟩ := List.mem_map.mp hd
    rfl⟩
  have hom' : Hom 2 (l.map D.str) := ⟨.inr (.inl rfl), fun d hd => by
    obtain ⟨x, _, rfl⟩ := List.mem_map.mp hd
    rfl⟩
  exact sortL_uniq hom (sortL_asc hom') ((sortL_perm _).trans (h.map _))
theorem perm_of {l m : List Str} (h1 : l.Nodup) (h2 : m.Nodup) (h : ∀ a, a ∈ l ↔ a ∈ m) : l.Perm m := (List.perm_ext_iff_of_nodup h1 h2).mpr h
end Lw
namespace Lw
open Pv PySem
theorem law_of_right {wf n : Nat} (hr : ∀ x : Box, ∃ d, callN prog wf (n + 3) "_law_right" [x.d] = .ok (.bl true) [d]) (ns : List Int) (hl : ns.length ≤ 63) : ∃ ds, callN prog wf (n + 4) "law" [.scr ns] = .ok (.bl true) ds := by
  obtain ⟨cs, hne, hc, e1⟩ := cells_ok (wf := wf) (n := n + 2) ns 3 (by decide) hl
  change callN prog wf (n + 3) "_law_cells" [.scr ns, .int 3] = .ok _ [.scr ns, .int 3] at e1
  have e : compRun [2] (.nm 2) (evC (callN prog wf (n + 3)) none) (ev (callN prog wf (n + 3)) e_law_1) ((List.range cs.length).map fun i => .int ((i : Nat) : Int)) [some (.scr ns), some (.lst (cs.map .int)), none] = .ok (.lst ((List.range cs.length).map fun _ => .bl true)) _ :=
    crun1 (fun i => .int ((i : Nat) : Int)) (fun _ => .bl true) (List.range cs.length) (by simp [BIG]; omega) rfl fun k hk => ⟨_, t_nm, by
      obtain ⟨x, e2⟩ := box_ok (wf := wf) (n := n + 2) cs k (List.mem_range.mp hk)
      obtain ⟨ds, e3⟩ := hr x
      simp only [e_law_1, z_bR, z_bO, z_tO, z_tR, z_tB, z_tC, z_l, z_n, z_v, z_m, z_rf, z_bk, z_pk, z_ld, z_var, z_mv, z_mref, z_own, z_cst, z_glb, z_dnew, z_tup, k_tup, z_lst, k_lst, z_op1, k_op1, z_op2, k_op2, k_op2b, z_slc, k_slc1, k_slc2, k_slc3, z_get, k_get1, k_get2, k_get3, p_e, z_meth, k_meth, z_and, k_and, k_and2, z_or, k_or, k_or2, p_t, p_f, z_nt, k_nt, k_nt2, z_ite, k_ite, k_ite2, z_chain, k_ch1, k_ch2, k_ch3, k_ch4, k_bl, p_ct, p_cf, z_call, k_call, k_call2, z_callK, k_callK, k_callK2, z_lend, z_lc, k_lc, z_on, z_os, k_os, z_cn, z_cs, k_tru, z_seq, k_seq, z_rng, k_rng, z_rng2, k_rng2, k_rng2b, z_enm, k_enm, z_zip, k_zip, k_zip2, z_e0, z_e1, k_cons, k_cons2, s_asg, k_asg, s_asgM, k_asgM, s_par, s_parT, k_par, s_app, p_o, k_app, s_ins, k_ins, k_ins2, s_setL, k_setL, k_setL2, s_setD, k_setD, k_setD2, s_sdd, k_sdd, k_sdd2, k_sdd3, s_ex, k_ex, s_if, k_if, k_if2, p_ot, p_of, s_fr, k_fr, s_whl, s_ret, k_ret, s_brk, s_cnt, s_pass, s_nil, s_cons, f_b, f_nx, f_ct, f_bk, f_rt, for_nil, for_cons, t_nm, t_tp2, t_tp2L, t_tp3, setAll, List.getElem?_cons_zero, List.getElem?_cons_succ, List.set_cons_zero, List.set_cons_succ, wipeE, backE, cond_true, cond_false, resolve, writeBack, permA, isDct, recvD, isI, isB, Option.map_some, Option.bind_some, Option.getD_some, Option.getD_none, seqOf, seqStr, o_andB, t_int, t_lst, t_tup, t_str, t_non, fl_int, fl_str, fl_bl, fl_non, fa_nil, fl_strT, o_len1, o_len2, o_len3, o_neg, o_list, o_list2, o_tup, o_tup2, o_isi, o_cutT, o_cutL, o_eq_int, o_eq_str, o_ne_int, o_ne_str, o_eq_bl, o_ne_bl, o_eq_strT, o_eq_strL, o_ne_strT, o_ne_strL, o_ne_nilL, o_eq_nilL, o_ne_nn, o_eq_nn, o_ne_tt, o_eq_tt, o_lt, o_gt, o_le, o_ge, o_add, o_sub, o_min, o_max, o_rep2, o_in_strT, o_in_strL, o_nin_strT, o_nin_strL, o_in_prT, o_in_prL, o_in_prT', o_in_prL', o_in_dct, o_nin_dct, o_ixT, o_ixL, o_ixT0, o_ixL0, o_ixT1, o_ixL1, o_ixTm, o_ixLm, o_indexT, o_indexL, Bool.and_self, Bool.and_true, Bool.true_and, Bool.and_false, Bool.false_and, Bool.not_true, Bool.not_false, Option.isNone_some, Option.isNone_none, lstAt, dctAt, isa_lt_n, isa_lt_b, isa_lt_i, isa_lt_s, isa_lt_t, isa_lt_l, isa_l_n, isa_l_b, isa_l_i, isa_l_s, isa_l_t, isa_l_l, isa_t_n, isa_t_b, isa_t_i, isa_t_s, isa_t_t, isa_t_l, isa_s_n, isa_s_b, isa_s_i, isa_s_s, isa_s_t, isa_s_l, isa_i_n, isa_i_b, isa_i_i, isa_i_s, isa_i_t, isa_i_l, isa_b_n, isa_b_b, isa_b_i, isa_b_s, isa_b_t, isa_b_l, o_is_n, o_isn_n, o_is_b, o_isn_b, o_is_i, o_isn_i, o_is_s, o_isn_s, o_is_t, o_isn_t, o_is_l, o_isn_l, zipD_tt, zipD_ll, z_pick, k_pick, pk_0, pk_1, s_asgP, k_asgP, ps_2, o_mulT0, o_mulT1, z_dc, k_dc, o_ixD, io_n, io_b, io_i, io_s, io_t, io_l, io_d, z_fld, k_fld, fd_o, z_fldM, f_e, fv_o, z_mcall, k_mc, k_mc2, k_mc3, rc_ok, rf_m, ic_o, Bool.true_or, Bool.or_true, z_new, k_new, nw_ok, z_lendL, z_ldL, fl_L, all_str, z_rev, k_rev, rv_l, z_lock, k_lock, lc_d, z_addL, k_addL, k_addL2, z_keys, k_keys, z_items, k_items, ky_L, it_L, o_in_dctL, o_nin_dctL, o_ixDL, o_lenD, o_lenDL, t_nst, o_sign, pf_e, pf_o, sp_n0, sp_ns, sp_c0, sp_cs, s_setF, k_setF, s_appF, k_appF, s_setDF, k_setDF, k_setDF2, s_delDF, k_delDF, s_augF, au_s, k_augF, s_revL, re_s, io_L, z_ixM, k_ixM, isd_e, isd_o, ixv_e, ixv_o, e2, e3], rfl⟩
  rw [← range_map] at e
  refine ⟨[.scr ns], ?_⟩
  simp only [at_law, bd_law, z_bR, z_bO, z_tO, z_tR, z_tB, z_tC, z_l, z_n, z_v, z_m, z_rf, z_bk, z_pk, z_ld, z_var, z_mv, z_mref, z_own, z_cst, z_glb, z_dnew, z_tup, k_tup, z_lst, k_lst, z_op1, k_op1, z_op2, k_op2, k_op2b, z_slc, k_slc1, k_slc2, k_slc3, z_get, k_get1, k_get2, k_get3, p_e, z_meth, k_meth, z_and, k_and, k_and2, z_or, k_or, k_or2, p_t, p_f, z_nt, k_nt, k_nt2, z_ite, k_ite, k_ite2, z_chain, k_ch1, k_ch2, k_ch3, k_ch4, k_bl, p_ct, p_cf, z_call, k_call, k_call2, z_callK, k_callK, k_callK2, z_lend, z_lc, k_lc, z_on, z_os, k_os, z_cn, z_cs, k_tru, z_seq, k_seq, z_rng, k_rng, z_rng2, k_rng2, k_rng2b, z_enm, k_enm, z_zip, k_zip, k_zip2, z_e0, z_e1, k_cons, k_cons2, s_asg, k_asg, s_asgM, k_asgM, s_par, s_parT, k_par, s_app, p_o, k_app, s_ins, k_ins, k_ins2, s_setL, k_setL, k_setL2, s_setD, k_setD, k_setD2, s_sdd, k_sdd, k_sdd2, k_sdd3, s_ex, k_ex, s_if, k_if, k_if2, p_ot, p_of, s_fr, k_fr, s_whl, s_ret, k_ret, s_brk, s_cnt, s_pass, s_nil, s_cons, f_b, f_nx, f_ct, f_bk, f_rt, for_nil, for_cons, t_nm, t_tp2, t_tp2L, t_tp3, setAll, List.getElem?_cons_zero, List.getElem?_cons_succ, List.set_cons_zero, List.set_cons_succ, wipeE, backE, cond_true, cond_false, resolve, writeBack, permA, isDct, recvD, isI, isB, Option.map_some, Option.bind_some, Option.getD_some, Option.getD_none, seqOf, seqStr, o_andB, t_int, t_lst, t_tup, t_str, t_non, fl_int, fl_str, fl_bl, fl_non, fa_nil, fl_strT, o_len1, o_len2, o_len3, o_neg, o_list, o_list2, o_tup, o_tup2, o_isi, o_cutT, o_cutL, o_eq_int, o_eq_str, o_ne_int, o_ne_str, o_eq_bl, o_ne_bl, o_eq_strT, o_eq_strL, o_ne_strT, o_ne_strL, o_ne_nilL, o_eq_nilL, o_ne_nn, o_eq_nn, o_ne_tt, o_eq_tt, o_lt, o_gt, o_le, o_ge, o_add, o_sub, o_min, o_max, o_rep2, o_in_strT, o_in_strL, o_nin_strT, o_nin_strL, o_in_prT, o_in_prL, o_in_prT', o_in_prL', o_in_dct, o_nin_dct, o_ixT, o_ixL, o_ixT0, o_ixL0, o_ixT1, o_ixL1, o_ixTm, o_ixLm, o_indexT, o_indexL, Bool.and_self, Bool.and_true, Bool.true_and, Bool.and_false, Bool.false_and, Bool.not_true, Bool.not_false, Option.isNone_some, Option.isNone_none, lstAt, dctAt, isa_lt_n, isa_lt_b, isa_lt_i, isa_lt_s, isa_lt_t, isa_lt_l, isa_l_n, isa_l_b, isa_l_i, isa_l_s, isa_l_t, isa_l_l, isa_t_n, isa_t_b, isa_t_i, isa_t_s, isa_t_t, isa_t_l, isa_s_n, isa_s_b, isa_s_i, isa_s_s, isa_s_t, isa_s_l, isa_i_n, isa_i_b, isa_i_i, isa_i_s, isa_i_t, isa_i_l, isa_b_n, isa_b_b, isa_b_i, isa_b_s, isa_b_t, isa_b_l, o_is_n, o_isn_n, o_is_b, o_isn_b, o_is_i, o_isn_i, o_is_s, o_isn_s, o_is_t, o_isn_t, o_is_l, o_isn_l, zipD_tt, zipD_ll, z_pick, k_pick, pk_0, pk_1, s_asgP, k_asgP, ps_2, o_mulT0, o_mulT1, z_dc, k_dc, o_ixD, io_n, io_b, io_i, io_s, io_t, io_l, io_d, z_fld, k_fld, fd_o, z_fldM, f_e, fv_o, z_mcall, k_mc, k_mc2, k_mc3, rc_ok, rf_m, ic_o, Bool.true_or, Bool.or_true, z_new, k_new, nw_ok, z_lendL, z_ldL, fl_L, all_str, z_rev, k_rev, rv_l, z_lock, k_lock, lc_d, z_addL, k_addL, k_addL2, z_keys, k_keys, z_items, k_items, ky_L, it_L, o_in_dctL, o_nin_dctL, o_ixDL, o_lenD, o_lenDL, t_nst, o_sign, pf_e, pf_o, sp_n0, sp_ns, sp_c0, sp_cs, s_setF, k_setF, s_appF, k_appF, s_setDF, k_setDF, k_setDF2, s_delDF, k_delDF, s_augF, au_s, k_augF, s_revL, re_s, io_L, z_ixM, k_ixM, isd_e, isd_o, ixv_e, ixv_o, e1, List.length_map, rngD_nat (show cs.length < 4611686018427387904 by omega), e, o_all (fun _ => true) (List.range cs.length), rt_law]
  simp
end Lw
namespace Lw
open Pv PySem
def prl (p : Str × Str) : D := .lst [.str p.1, .str p.2]
theorem fr_pool {pool : List Str} {ps : List (Str × Str)} (g : Good pool ps) {a b : Str} (h : pals ps a b = true) : a ∈ pool ∧ b ∈ pool := by
  have : ∀ {p : Str × Str}, p ∈ ps → p.1 ∈ pool ∧ p.2 ∈ pool := fun {p} hp => by
    obtain ⟨x, hx, y, hy, _, rfl⟩ := g p hp
    rcases nrm_cases x y with e | e <;> rw [e] <;> exact ⟨by assumption, by assumption⟩
  rcases (pals_iff ps a b).mp h with h | h
  · exact this h
  · exact (this h).symm
section
variable {wf n : Nat} {pool : List Str} {ps : List (Str × Str)}
theorem due_ok (g : Good pool ps) (np : pool.Nodup) (a : Str) : sortL ((pool.filter (pals ps a)).map .str) = palsOf ps a := by
  refine sortL_same (perm_of (np.sublist List.filter_sublist) (nodup_known ps a) fun b => ?_)
  rw [List.mem_filter]
  constructor
  · rintro ⟨_, h⟩
    unfold pals at h
    simpa using h
  · intro h
    have h : pals ps a b = true := by unfold pals; simpa using h
    exact ⟨(fr_pool g h).2, h⟩
theorem lk_len (g : Good pool ps) (np : pool.Nodup) (hl : pool.length ≤ 26) (a : Str) : (lk (knownOf ps) a).length < 64 := by
  have := List.Nodup.length_le_of_subset (nodup_known ps a) (fun b hb => (fr_pool g (by unfold pals; simpa using hb : pals ps a b = true)).2 : lk (knownOf ps) a ⊆ pool)
  omega
theorem sort_ok {l : List Str} : op1 .sorted (.lst (l.map .str)) = some (.lst (sortL (l.map .str))) := by
  show (sortD (l.map D.str)).map D.lst = _
  have : sortD (l.map D.str) = some (sortL (l.map .str)) := by
    unfold sortD
    rw [if_pos]
    rw [Bool.or_eq_true, Bool.or_eq_true]
    refine .inl (.inr ?_)
    rw [List.all_eq_true]
    intro d hd
    obtain ⟨x, _, rfl⟩ := List.mem_map.mp hd
    rfl
  rw [this]
  rfl
theorem inner (g : Good pool ps) (hp : ps.length ≤ 1000) (mine : Str) (o0 o1 o4 o5 o9 o11 o12 : Option D) : ∀ (l : List Str) (o7 o8 o10 : Option D), ∃ o7' o8' o10',
    forLoop (.nm 7) (exs (callN prog wf (n + 3)) wf b_law_right_4) (l.map .str) [o0, o1, some (.str mine), some (.tup (ps.map pr)), o4, o5, some (.lst (ps.map prl)), o7, o8, o9, o10, o11, o12] =
      .nx [o0, o1, some (.str mine), some (.tup (ps.map pr)), o4, o5, some (.lst (ps.map prl)), o7', o8', o9, o10', o11, o12]
  | [], o7, o8, o10 => ⟨o7, o8, o10, rfl⟩
  | b :: l, o7, o8, o10 => by
    obtain ⟨o7', o8', o10', e⟩ := inner g hp mine o0 o1 o4 o5 o9 o11 o12 l (some (.str b)) (some (.bl (pals ps mine b))) (some (.lst [.bl (pals ps mine b), .bl (pals ps mine b)]))
    refine ⟨o7', o8', o10', ?_⟩
    rw [← e]
    have e1 := are_ok (wf := wf) (n := n + 2) ps mine b
    rw [fr_pals g] at e1
    have e2 := in_known (wf := wf) (n := n + 1) hp (.tup (ps.map pr)) pr (fun _ => .inl rfl) (.inl rfl) mine b
    have e3 := in_known (wf := wf) (n := n + 1) hp (.lst (ps.map prl)) prl (fun _ => .inr rfl) (.inr rfl) b mine
    rw [pals_sym ps b mine] at e3
    have e4 := same_at (wf := wf) (m := n + 3) 1 (d := .lst [.bl (pals ps mine b), .bl (pals ps mine b)]) (sml_l2 (sml_bl _) (sml_bl _)) (by omega)
    simp only [List.map_cons, b_law_right_4, z_bR, z_bO, z_tO, z_tR, z_tB, z_tC, z_l, z_n, z_v, z_m, z_rf, z_bk, z_pk, z_ld, z_var, z_mv, z_mref, z_own, z_cst, z_glb, z_dnew, z_tup, k_tup, z_lst, k_lst, z_op1, k_op1, z_op2, k_op2, k_op2b, z_slc, k_slc1, k_slc2, k_slc3, z_get, k_get1, k_get2, k_get3, p_e, z_meth, k_meth, z_and, k_and, k_and2, z_or, k_or, k_or2, p_t, p_f, z_nt, k_nt, k_nt2, z_ite, k_ite, k_ite2, z_chain, k_ch1, k_ch2, k_ch3, k_ch4, k_bl, p_ct, p_cf, z_call, k_call, k_call2, z_callK, k_callK, k_callK2, z_lend, z_lc, k_lc, z_on, z_os, k_os, z_cn, z_cs, k_tru, z_seq, k_seq, z_rng, k_rng, z_rng2, k_rng2, k_rng2b, z_enm, k_enm, z_zip, k_zip, k_zip2, z_e0, z_e1, k_cons, k_cons2, s_asg, k_asg, s_asgM, k_asgM, s_par, s_parT, k_par, s_app, p_o, k_app, s_ins, k_ins, k_ins2, s_setL, k_setL, k_setL2, s_setD, k_setD, k_setD2, s_sdd, k_sdd, k_sdd2, k_sdd3, s_ex, k_ex, s_if, k_if, k_if2, p_ot, p_of, s_fr, k_fr, s_whl, s_ret, k_ret, s_brk, s_cnt, s_pass, s_nil, s_cons, f_b, f_nx, f_ct, f_bk, f_rt, for_nil, for_cons, t_nm, t_tp2, t_tp2L, t_tp3, setAll, List.getElem?_cons_zero, List.getElem?_cons_succ, List.set_cons_zero, List.set_cons_succ, wipeE, backE, cond_true, cond_false, resolve, writeBack, permA, isDct, recvD, isI, isB, Option.map_some, Option.bind_some, Option.getD_some, Option.getD_none, seqOf, seqStr, o_andB, t_int, t_lst, t_tup, t_str, t_non, fl_int, fl_str, fl_bl, fl_non, fa_nil, fl_strT, o_len1, o_len2, o_len3, o_neg, o_list, o_list2, o_tup, o_tup2, o_isi, o_cutT, o_cutL, o_eq_int, o_eq_str, o_ne_int, o_ne_str, o_eq_bl, o_ne_bl, o_eq_strT, o_eq_strL, o_ne_strT, o_ne_strL, o_ne_nilL, o_eq_nilL, o_ne_nn, o_eq_nn, o_ne_tt, o_eq_tt, o_lt, o_gt, o_le, o_ge, o_add, o_sub, o_min, o_max, o_rep2, o_in_strT, o_in_strL, o_nin_strT, o_nin_strL, o_in_prT, o_in_prL, o_in_prT', o_in_prL', o_in_dct, o_nin_dct, o_ixT, o_ixL, o_ixT0, o_ixL0, o_ixT1, o_ixL1, o_ixTm, o_ixLm, o_indexT, o_indexL, Bool.and_self, Bool.and_true, Bool.true_and, Bool.and_false, Bool.false_and, Bool.not_true, Bool.not_false, Option.isNone_some, Option.isNone_none, lstAt, dctAt, isa_lt_n, isa_lt_b, isa_lt_i, isa_lt_s, isa_lt_t, isa_lt_l, isa_l_n, isa_l_b, isa_l_i, isa_l_s, isa_l_t, isa_l_l, isa_t_n, isa_t_b, isa_t_i, isa_t_s, isa_t_t, isa_t_l, isa_s_n, isa_s_b, isa_s_i, isa_s_s, isa_s_t, isa_s_l, isa_i_n, isa_i_b, isa_i_i, isa_i_s, isa_i_t, isa_i_l, isa_b_n, isa_b_b, isa_b_i, isa_b_s, isa_b_t, isa_b_l, o_is_n, o_isn_n, o_is_b, o_isn_b, o_is_i, o_isn_i, o_is_s, o_isn_s, o_is_t, o_isn_t, o_is_l, o_isn_l, zipD_tt, zipD_ll, z_pick, k_pick, pk_0, pk_1, s_asgP, k_asgP, ps_2, o_mulT0, o_mulT1, z_dc, k_dc, o_ixD, io_n, io_b, io_i, io_s, io_t, io_l, io_d, z_fld, k_fld, fd_o, z_fldM, f_e, fv_o, z_mcall, k_mc, k_mc2, k_mc3, rc_ok, rf_m, ic_o, Bool.true_or, Bool.or_true, z_new, k_new, nw_ok, z_lendL, z_ldL, fl_L, all_str, z_rev, k_rev, rv_l, z_lock, k_lock, lc_d, z_addL, k_addL, k_addL2, z_keys, k_keys, z_items, k_items, ky_L, it_L, o_in_dctL, o_nin_dctL, o_ixDL, o_lenD, o_lenDL, t_nst, o_sign, pf_e, pf_o, sp_n0, sp_ns, sp_c0, sp_cs, s_setF, k_setF, s_appF, k_appF, s_setDF, k_setDF, k_setDF2, s_delDF, k_delDF, s_augF, au_s, k_augF, s_revL, re_s, io_L, z_ixM, k_ixM, isd_e, isd_o, ixv_e, ixv_o, e1, e2, e3, e4]
theorem outer (g : Good pool ps) (np : pool.Nodup) (hl : pool.length ≤ 26) (hp : ps.length ≤ 1000) (alone : Str) (o0 o5 o11 o12 : Option D) : ∀ (l : List Str) (o2 o7 o8 o9 o10 : Option D), ∃ o2' o7' o8' o9' o10',
    forLoop (.nm 2) (exs (callN prog wf (n + 3)) wf b_law_right_7) (l.map .str) [o0, some (.lst (pool.map .str)), o2, some (.tup (ps.map pr)), some (.str alone), o5, some (.lst (ps.map prl)), o7, o8, o9, o10, o11, o12] =
      .nx [o0, some (.lst (pool.map .str)), o2', some (.tup (ps.map pr)), some (.str alone), o5, some (.lst (ps.map prl)), o7', o8', o9', o10', o11, o12]
  | [], o2, o7, o8, o9, o10 => ⟨o2, o7, o8, o9, o10, rfl⟩
  | mine :: l, o2, o7, o8, o9, o10 => by
    obtain ⟨a7, a8, a10, e0⟩ := inner (wf := wf) (n := n) g hp mine o0 (some (.lst (pool.map .str))) (some (.str alone)) o5 o9 o11 o12 (pool ++ [alone]) o7 o8 o10
    rw [List.map_append, List.map_cons, List.map_nil] at e0
    have e1 : compRun [7] (.nm 7) (evC (callN prog wf (n + 3)) c_law_right_5) (ev (callN prog wf (n + 3)) e_law_right_6) (pool.map .str) [o0, some (.lst (pool.map .str)), some (.str mine), some (.tup (ps.map pr)), some (.str alone), o5, some (.lst (ps.map prl)), a7, a8, o9, a10, o11, o12] = .ok (.lst ((pool.filter (pals ps mine)).map .str)) _ :=
      crun D.str (pals ps mine) D.str pool (by simp only [BIG]; omega) rfl fun b _ => ⟨_, t_nm, by
        have := are_ok (wf := wf) (n := n + 2) ps mine b
        rw [fr_pals g] at this
        simp only [c_law_right_5, z_bR, z_bO, z_tO, z_tR, z_tB, z_tC, z_l, z_n, z_v, z_m, z_rf, z_bk, z_pk, z_ld, z_var, z_mv, z_mref, z_own, z_cst, z_glb, z_dnew, z_tup, k_tup, z_lst, k_lst, z_op1, k_op1, z_op2, k_op2, k_op2b, z_slc, k_slc1, k_slc2, k_slc3, z_get, k_get1, k_get2, k_get3, p_e, z_meth, k_meth, z_and, k_and, k_and2, z_or, k_or, k_or2, p_t, p_f, z_nt, k_nt, k_nt2, z_ite, k_ite, k_ite2, z_chain, k_ch1, k_ch2, k_ch3, k_ch4, k_bl, p_ct, p_cf, z_call, k_call, k_call2, z_callK, k_callK, k_callK2, z_lend, z_lc, k_lc, z_on, z_os, k_os, z_cn, z_cs, k_tru, z_seq, k_seq, z_rng, k_rng, z_rng2, k_rng2, k_rng2b, z_enm, k_enm, z_zip, k_zip, k_zip2, z_e0, z_e1, k_cons, k_cons2, s_asg, k_asg, s_asgM, k_asgM, s_par, s_parT, k_par, s_app, p_o, k_app, s_ins, k_ins, k_ins2, s_setL, k_setL, k_setL2, s_setD, k_setD, k_setD2, s_sdd, k_sdd, k_sdd2, k_sdd3, s_ex, k_ex, s_if, k_if, k_if2, p_ot, p_of, s_fr, k_fr, s_whl, s_ret, k_ret, s_brk, s_cnt, s_pass, s_nil, s_cons, f_b, f_nx, f_ct, f_bk, f_rt, for_nil, for_cons, t_nm, t_tp2, t_tp2L, t_tp3, setAll, List.getElem?_cons_zero, List.getElem?_cons_succ, List.set_cons_zero, List.set_cons_succ, wipeE, backE, cond_true, cond_false, resolve, writeBack, permA, isDct, recvD, isI, isB, Option.map_some, Option.bind_some, Option.getD_some, Option.getD_none, seqOf, seqStr, o_andB, t_int, t_lst, t_tup, t_str, t_non, fl_int, fl_str, fl_bl, fl_non, fa_nil, fl_strT, o_len1, o_len2, o_len3, o_neg, o_list, o_list2, o_tup, o_tup2, o_isi, o_cutT, o_cutL, o_eq_int, o_eq_str, o_ne_int, o_ne_str, o_eq_bl, o_ne_bl, o_eq_strT, o_eq_strL, o_ne_strT, o_ne_strL, o_ne_nilL, o_eq_nilL, o_ne_nn, o_eq_nn, o_ne_tt, o_eq_tt, o_lt, o_gt, o_le, o_ge, o_add, o_sub, o_min, o_max, o_rep2, o_in_strT, o_in_strL, o_nin_strT, o_nin_strL, o_in_prT, o_in_prL, o_in_prT', o_in_prL', o_in_dct, o_nin_dct, o_ixT, o_ixL, o_ixT0, o_ixL0, o_ixT1, o_ixL1, o_ixTm, o_ixLm, o_indexT, o_indexL, Bool.and_self, Bool.and_true, Bool.true_and, Bool.and_false, Bool.false_and, Bool.not_true, Bool.not_false, Option.isNone_some, Option.isNone_none, lstAt, dctAt, isa_lt_n, isa_lt_b, isa_lt_i, isa_lt_s, isa_lt_t, isa_lt_l, isa_l_n, isa_l_b, isa_l_i, isa_l_s, isa_l_t, isa_l_l, isa_t_n, isa_t_b, isa_t_i, isa_t_s, isa_t_t, isa_t_l, isa_s_n, isa_s_b, isa_s_i, isa_s_s, isa_s_t, isa_s_l, isa_i_n, isa_i_b, isa_i_i, isa_i_s, isa_i_t, isa_i_l, isa_b_n, isa_b_b, isa_b_i, isa_b_s, isa_b_t, isa_b_l, o_is_n, o_isn_n, o_is_b, o_isn_b, o_is_i, o_isn_i, o_is_s, o_isn_s, o_is_t, o_isn_t, o_is_l, o_isn_l, zipD_tt, zipD_ll, z_pick, k_pick, pk_0, pk_1, s_asgP, k_asgP, ps_2, o_mulT0, o_mulT1, z_dc, k_dc, o_ixD, io_n, io_b, io_i, io_s, io_t, io_l, io_d, z_fld, k_fld, fd_o, z_fldM, f_e, fv_o, z_mcall, k_mc, k_mc2, k_mc3, rc_ok, rf_m, ic_o, Bool.true_or, Bool.or_true, z_new, k_new, nw_ok, z_lendL, z_ldL, fl_L, all_str, z_rev, k_rev, rv_l, z_lock, k_lock, lc_d, z_addL, k_addL, k_addL2, z_keys, k_keys, z_items, k_items, ky_L, it_L, o_in_dctL, o_nin_dctL, o_ixDL, o_lenD, o_lenDL, t_nst, o_sign, pf_e, pf_o, sp_n0, sp_ns, sp_c0, sp_cs, s_setF, k_setF, s_appF, k_appF, s_setDF, k_setDF, k_setDF2, s_delDF, k_delDF, s_augF, au_s, k_augF, s_revL, re_s, io_L, z_ixM, k_ixM, isd_e, isd_o, ixv_e, ixv_o, this], fun _ => by simp only [e_law_right_6, z_bR, z_bO, z_tO, z_tR, z_tB, z_tC, z_l, z_n, z_v, z_m, z_rf, z_bk, z_pk, z_ld, z_var, z_mv, z_mref, z_own, z_cst, z_glb, z_dnew, z_tup, k_tup, z_lst, k_lst, z_op1, k_op1, z_op2, k_op2, k_op2b, z_slc, k_slc1, k_slc2, k_slc3, z_get, k_get1, k_get2, k_get3, p_e, z_meth, k_meth, z_and, k_and, k_and2, z_or, k_or, k_or2, p_t, p_f, z_nt, k_nt, k_nt2, z_ite, k_ite, k_ite2, z_chain, k_ch1, k_ch2, k_ch3, k_ch4, k_bl, p_ct, p_cf, z_call, k_call, k_call2, z_callK, k_callK, k_callK2, z_lend, z_lc, k_lc, z_on, z_os, k_os, z_cn, z_cs, k_tru, z_seq, k_seq, z_rng, k_rng, z_rng2, k_rng2, k_rng2b, z_enm, k_enm, z_zip, k_zip, k_zip2, z_e0, z_e1, k_cons, k_cons2, s_asg, k_asg, s_asgM, k_asgM, s_par, s_parT, k_par, s_app, p_o, k_app, s_ins, k_ins, k_ins2, s_setL, k_setL, k_setL2, s_setD, k_setD, k_setD2, s_sdd, k_sdd, k_sdd2, k_sdd3, s_ex, k_ex, s_if, k_if, k_if2, p_ot, p_of, s_fr, k_fr, s_whl, s_ret, k_ret, s_brk, s_cnt, s_pass, s_nil, s_cons, f_b, f_nx, f_ct, f_bk, f_rt, for_nil, for_cons, t_nm, t_tp2, t_tp2L, t_tp3, setAll, List.getElem?_cons_zero, List.getElem?_cons_succ, List.set_cons_zero, List.set_cons_succ, wipeE, backE, cond_true, cond_false, resolve, writeBack, permA, isDct, recvD, isI, isB, Option.map_some, Option.bind_some, Option.getD_some, Option.getD_none, seqOf, seqStr, o_andB, t_int, t_lst, t_tup, t_str, t_non, fl_int, fl_str, fl_bl, fl_non, fa_nil, fl_strT, o_len1, o_len2, o_len3, o_neg, o_list, o_list2, o_tup, o_tup2, o_isi, o_cutT, o_cutL, o_eq_int, o_eq_str, o_ne_int, o_ne_str, o_eq_bl, o_ne_bl, o_eq_strT, o_eq_strL, o_ne_strT, o_ne_strL, o_ne_nilL, o_eq_nilL, o_ne_nn, o_eq_nn, o_ne_tt, o_eq_tt, o_lt, o_gt, o_le, o_ge, o_add, o_sub, o_min, o_max, o_rep2, o_in_strT, o_in_strL, o_nin_strT, o_nin_strL, o_in_prT, o_in_prL, o_in_prT', o_in_prL', o_in_dct, o_nin_dct, o_ixT, o_ixL, o_ixT0, o_ixL0, o_ixT1, o_ixL1, o_ixTm, o_ixLm, o_indexT, o_indexL, Bool.and_self, Bool.and_true, Bool.true_and, Bool.and_false, Bool.false_and, Bool.not_true, Bool.not_false, Option.isNone_some, Option.isNone_none, lstAt, dctAt, isa_lt_n, isa_lt_b, isa_lt_i, isa_lt_s, isa_lt_t, isa_lt_l, isa_l_n, isa_l_b, isa_l_i, isa_l_s, isa_l_t, isa_l_l, isa_t_n, isa_t_b, isa_t_i, isa_t_s, isa_t_t, isa_t_l, isa_s_n, isa_s_b, isa_s_i, isa_s_s, isa_s_t, isa_s_l, isa_i_n, isa_i_b, isa_i_i, isa_i_s, isa_i_t, isa_i_l, isa_b_n, isa_b_b, isa_b_i, isa_b_s, isa_b_t, isa_b_l, o_is_n, o_isn_n, o_is_b, o_isn_b, o_is_i, o_isn_i, o_is_s, o_isn_s, o_is_t, o_isn_t, o_is_l, o_isn_l, zipD_tt, zipD_ll, z_pick, k_pick, pk_0, pk_1, s_asgP, k_asgP, ps_2, o_mulT0, o_mulT1, z_dc, k_dc, o_ixD, io_n, io_b, io_i, io_s, io_t, io_l, io_d, z_fld, k_fld, fd_o, z_fldM, f_e, fv_o, z_mcall, k_mc, k_mc2, k_mc3, rc_ok, rf_m, ic_o, Bool.true_or, Bool.or_true, z_new, k_new, nw_ok, z_lendL, z_ldL, fl_L, all_str, z_rev, k_rev, rv_l, z_lock, k_lock, lc_d, z_addL, k_addL, k_addL2, z_keys, k_keys, z_items, k_items, ky_L, it_L, o_in_dctL, o_nin_dctL, o_ixDL, o_lenD, o_lenDL, t_nst, o_sign, pf_e, pf_o, sp_n0, sp_ns, sp_c0, sp_cs, s_setF, k_setF, s_appF, k_appF, s_setDF, k_setDF, k_setDF2, s_delDF, k_delDF, s_augF, au_s, k_augF, s_revL, re_s, io_L, z_ixM, k_ixM, isd_e, isd_o, ixv_e, ixv_o], rfl⟩
    have hk := lk_len g np hl mine
    have e2 := friends_of_ok (wf := wf) (n := n + 1) hp (.tup (ps.map pr)) pr (fun _ => .inl rfl) (.inl rfl) mine hk
    have e3 := friends_of_ok (wf := wf) (n := n + 1) hp (.lst (ps.map prl)) prl (fun _ => .inr rfl) (.inr rfl) mine hk
    obtain ⟨m, hm, em⟩ := sortL_strs (lk (knownOf ps) mine)
    have ep : palsOf ps mine = m.map .str := em
    have hml : m.length ≤ 1000 := by rw [hm.length_eq]; omega
    have e1' := due_ok g np mine
    rw [ep] at e1' e2 e3
    have e4 := same_at (wf := wf) (m := n + 3) 2 (sml_l2 (sml_strL (n := 0) (l := m) hml) (sml_strL (n := 0) (l := m) hml)) (by omega)
    have e5 := same_at (wf := wf) (m := n + 3) 1 (sml_strL (n := 0) (l := m) hml) (by omega)
    have hbig : (m.map D.str).length < BIG := by simp only [List.length_map, BIG]; omega
    have b1 : (pool.map D.str).length + [D.str alone].length ≤ BIG := by simp [BIG]; omega
    obtain ⟨o2', o7', o8', o9', o10', e⟩ := outer g np hl hp alone o0 o5 o11 o12 l (some (.str mine)) a7 (some (.lst (m.map .str))) (some (.lst (m.map .str ++ [.str alone]))) a10
    refine ⟨o2', o7', o8', o9', o10', ?_⟩
    rw [← e]
    simp only [List.map_cons, b_law_right_7, z_bR, z_bO, z_tO, z_tR, z_tB, z_tC, z_l, z_n, z_v, z_m, z_rf, z_bk, z_pk, z_ld, z_var, z_mv, z_mref, z_own, z_cst, z_glb, z_dnew, z_tup, k_tup, z_lst, k_lst, z_op1, k_op1, z_op2, k_op2, k_op2b, z_slc, k_slc1, k_slc2, k_slc3, z_get, k_get1, k_get2, k_get3, p_e, z_meth, k_meth, z_and, k_and, k_and2, z_or, k_or, k_or2, p_t, p_f, z_nt, k_nt, k_nt2, z_ite, k_ite, k_ite2, z_chain, k_ch1, k_ch2, k_ch3, k_ch4, k_bl, p_ct, p_cf, z_call, k_call, k_call2, z_callK, k_callK, k_callK2, z_lend, z_lc, k_lc, z_on, z_os, k_os, z_cn, z_cs, k_tru, z_seq, k_seq, z_rng, k_rng, z_rng2, k_rng2, k_rng2b, z_enm, k_enm, z_zip, k_zip, k_zip2, z_e0, z_e1, k_cons, k_cons2, s_asg, k_asg, s_asgM, k_asgM, s_par, s_parT, k_par, s_app, p_o, k_app, s_ins, k_ins, k_ins2, s_setL, k_setL, k_setL2, s_setD, k_setD, k_setD2, s_sdd, k_sdd, k_sdd2, k_sdd3, s_ex, k_ex, s_if, k_if, k_if2, p_ot, p_of, s_fr, k_fr, s_whl, s_ret, k_ret, s_brk, s_cnt, s_pass, s_nil, s_cons, f_b, f_nx, f_ct, f_bk, f_rt, for_nil, for_cons, t_nm, t_tp2, t_tp2L, t_tp3, setAll, List.getElem?_cons_zero, List.getElem?_cons_succ, List.set_cons_zero, List.set_cons_succ, wipeE, backE, cond_true, cond_false, resolve, writeBack, permA, isDct, recvD, isI, isB, Option.map_some, Option.bind_some, Option.getD_some, Option.getD_none, seqOf, seqStr, o_andB, t_int, t_lst, t_tup, t_str, t_non, fl_int, fl_str, fl_bl, fl_non, fa_nil, fl_strT, o_len1, o_len2, o_len3, o_neg, o_list, o_list2, o_tup, o_tup2, o_isi, o_cutT, o_cutL, o_eq_int, o_eq_str, o_ne_int, o_ne_str, o_eq_bl, o_ne_bl, o_eq_strT, o_eq_strL, o_ne_strT, o_ne_strL, o_ne_nilL, o_eq_nilL, o_ne_nn, o_eq_nn, o_ne_tt, o_eq_tt, o_lt, o_gt, o_le, o_ge, o_add, o_sub, o_min, o_max, o_rep2, o_in_strT, o_in_strL, o_nin_strT, o_nin_strL, o_in_prT, o_in_prL, o_in_prT', o_in_prL', o_in_dct, o_nin_dct, o_ixT, o_ixL, o_ixT0, o_ixL0, o_ixT1, o_ixL1, o_ixTm, o_ixLm, o_indexT, o_indexL, Bool.and_self, Bool.and_true, Bool.true_and, Bool.and_false, Bool.false_and, Bool.not_true, Bool.not_false, Option.isNone_some, Option.isNone_none, lstAt, dctAt, isa_lt_n, isa_lt_b, isa_lt_i, isa_lt_s, isa_lt_t, isa_lt_l, isa_l_n, isa_l_b, isa_l_i, isa_l_s, isa_l_t, isa_l_l, isa_t_n, isa_t_b, isa_t_i, isa_t_s, isa_t_t, isa_t_l, isa_s_n, isa_s_b, isa_s_i, isa_s_s, isa_s_t, isa_s_l, isa_i_n, isa_i_b, isa_i_i, isa_i_s, isa_i_t, isa_i_l, isa_b_n, isa_b_b, isa_b_i, isa_b_s, isa_b_t, isa_b_l, o_is_n, o_isn_n, o_is_b, o_isn_b, o_is_i, o_isn_i, o_is_s, o_isn_s, o_is_t, o_isn_t, o_is_l, o_isn_l, zipD_tt, zipD_ll, z_pick, k_pick, pk_0, pk_1, s_asgP, k_asgP, ps_2, o_mulT0, o_mulT1, z_dc, k_dc, o_ixD, io_n, io_b, io_i, io_s, io_t, io_l, io_d, z_fld, k_fld, fd_o, z_fldM, f_e, fv_o, z_mcall, k_mc, k_mc2, k_mc3, rc_ok, rf_m, ic_o, Bool.true_or, Bool.or_true, z_new, k_new, nw_ok, z_lendL, z_ldL, fl_L, all_str, z_rev, k_rev, rv_l, z_lock, k_lock, lc_d, z_addL, k_addL, k_addL2, z_keys, k_keys, z_items, k_items, ky_L, it_L, o_in_dctL, o_nin_dctL, o_ixDL, o_lenD, o_lenDL, t_nst, o_sign, pf_e, pf_o, sp_n0, sp_ns, sp_c0, sp_cs, s_setF, k_setF, s_appF, k_appF, s_setDF, k_setDF, k_setDF2, s_delDF, k_delDF, s_augF, au_s, k_augF, s_revL, re_s, io_L, z_ixM, k_ixM, isd_e, isd_o, ixv_e, ixv_o, o_addL b1, e0, e1, sort_ok, e1', e2, e3, e4, e5, appE, if_pos hbig]
theorem right_ok (x : Box) : ∃ d, callN prog wf (n + 4) "_law_right" [x.d] = .ok (.bl true) [d] := by
  obtain ⟨v, x1, h0, h1, e1⟩ := take_any (wf := wf) (n := n + 2) x 12 (by decide) (by decide)
  obtain ⟨v, rfl⟩ : ∃ i : Nat, v = i := ⟨v.toNat, by omega⟩
  obtain ⟨x2, pool, np, hn, hnm, hstem, e2⟩ := names_okS (wf := wf) (n := n + 1) x1 (1 + v) (by omega)
  obtain ⟨x3, ps, g, hp, e3⟩ := pals_ok (wf := wf) (n := n + 1) x2 pool np (by omega)
  have c1 : (1 : Int) + v = ((1 + v : Nat) : Int) := by omega
  obtain ⟨two, etwo⟩ : ∃ two : List Str, two = [("zzzzzzzz" : Str), ("yyyyyyyy" : Str)] := ⟨_, rfl⟩
  have e4 : compRun [12] (.nm 12) (evC (callN prog wf (n + 3)) c_law_right_1) (ev (callN prog wf (n + 3)) e_law_right_2) (two.map .str) [some x3.d, some (.lst (pool.map .str)), none, none, none, none, none, none, none, none, none, none, none] = .ok (.lst ((two.filter fun a => !decide (a ∈ pool)).map .str)) _ :=
    crun D.str (fun a => !decide (a ∈ pool)) D.str two (by rw [etwo]; decide) rfl fun b _ => ⟨_, t_nm, by simp only [c_law_right_1, z_bR, z_bO, z_tO, z_tR, z_tB, z_tC, z_l, z_n, z_v, z_m, z_rf, z_bk, z_pk, z_ld, z_var, z_mv, z_mref, z_own, z_cst, z_glb, z_dnew, z_tup, k_tup, z_lst, k_lst, z_op1, k_op1, z_op2, k_op2, k_op2b, z_slc, k_slc1, k_slc2, k_slc3, z_get, k_get1, k_get2, k_get3, p_e, z_meth, k_meth, z_and, k_and, k_and2, z_or, k_or, k_or2, p_t, p_f, z_nt, k_nt, k_nt2, z_ite, k_ite, k_ite2, z_chain, k_ch1, k_ch2, k_ch3, k_ch4, k_bl, p_ct, p_cf, z_call, k_call, k_call2, z_callK, k_callK, k_callK2, z_lend, z_lc, k_lc, z_on, z_os, k_os, z_cn, z_cs, k_tru, z_seq, k_seq, z_rng, k_rng, z_rng2, k_rng2, k_rng2b, z_enm, k_enm, z_zip, k_zip, k_zip2, z_e0, z_e1, k_cons, k_cons2, s_asg, k_asg, s_asgM, k_asgM, s_par, s_parT, k_par, s_app, p_o, k_app, s_ins, k_ins, k_ins2, s_setL, k_setL, k_setL2, s_setD, k_setD, k_setD2, s_sdd, k_sdd, k_sdd2, k_sdd3, s_ex, k_ex, s_if, k_if, k_if2, p_ot, p_of, s_fr, k_fr, s_whl, s_ret, k_ret, s_brk, s_cnt, s_pass, s_nil, s_cons, f_b, f_nx, f_ct, f_bk, f_rt, for_nil, for_cons, t_nm, t_tp2, t_tp2L, t_tp3, setAll, List.getElem?_cons_zero, List.getElem?_cons_succ, List.set_cons_zero, List.set_cons_succ, wipeE, backE, cond_true, cond_false, resolve, writeBack, permA, isDct, recvD, isI, isB, Option.map_some, Option.bind_some, Option.getD_some, Option.getD_none, seqOf, seqStr, o_andB, t_int, t_lst, t_tup, t_str, t_non, fl_int, fl_str, fl_bl, fl_non, fa_nil, fl_strT, o_len1, o_len2, o_len3, o_neg, o_list, o_list2, o_tup, o_tup2, o_isi, o_cutT, o_cutL, o_eq_int, o_eq_str, o_ne_int, o_ne_str, o_eq_bl, o_ne_bl, o_eq_strT, o_eq_strL, o_ne_strT, o_ne_strL, o_ne_nilL, o_eq_nilL, o_ne_nn, o_eq_nn, o_ne_tt, o_eq_tt, o_lt, o_gt, o_le, o_ge, o_add, o_sub, o_min, o_max, o_rep2, o_in_strT, o_in_strL, o_nin_strT, o_nin_strL, o_in_prT, o_in_prL, o_in_prT', o_in_prL', o_in_dct, o_nin_dct, o_ixT, o_ixL, o_ixT0, o_ixL0, o_ixT1, o_ixL1, o_ixTm, o_ixLm, o_indexT, o_indexL, Bool.and_self, Bool.and_true, Bool.true_and, Bool.and_false, Bool.false_and, Bool.not_true, Bool.not_false, Option.isNone_some, Option.isNone_none, lstAt, dctAt, isa_lt_n, isa_lt_b, isa_lt_i, isa_lt_s, isa_lt_t, isa_lt_l, isa_l_n, isa_l_b, isa_l_i, isa_l_s, isa_l_t, isa_l_l, isa_t_n, isa_t_b, isa_t_i, isa_t_s, isa_t_t, isa_t_l, isa_s_n, isa_s_b, isa_s_i, isa_s_s, isa_s_t, isa_s_l, isa_i_n, isa_i_b, isa_i_i, isa_i_s, isa_i_t, isa_i_l, isa_b_n, isa_b_b, isa_b_i, isa_b_s, isa_b_t, isa_b_l, o_is_n, o_isn_n, o_is_b, o_isn_b, o_is_i, o_isn_i, o_is_s, o_isn_s, o_is_t, o_isn_t, o_is_l, o_isn_l, zipD_tt, zipD_ll, z_pick, k_pick, pk_0, pk_1, s_asgP, k_asgP, ps_2, o_mulT0, o_mulT1, z_dc, k_dc, o_ixD, io_n, io_b, io_i, io_s, io_t, io_l, io_d, z_fld, k_fld, fd_o, z_fldM, f_e, fv_o, z_mcall, k_mc, k_mc2, k_mc3, rc_ok, rf_m, ic_o, Bool.true_or, Bool.or_true, z_new, k_new, nw_ok, z_lendL, z_ldL, fl_L, all_str, z_rev, k_rev, rv_l, z_lock, k_lock, lc_d, z_addL, k_addL, k_addL2, z_keys, k_keys, z_items, k_items, ky_L, it_L, o_in_dctL, o_nin_dctL, o_ixDL, o_lenD, o_lenDL, t_nst, o_sign, pf_e, pf_o, sp_n0, sp_ns, sp_c0, sp_cs, s_setF, k_setF, s_appF, k_appF, s_setDF, k_setDF, k_setDF2, s_delDF, k_delDF, s_augF, au_s, k_augF, s_revL, re_s, io_L, z_ixM, k_ixM, isd_e, isd_o, ixv_e, ixv_o], fun _ => by simp only [e_law_right_2, z_bR, z_bO, z_tO, z_tR, z_tB, z_tC, z_l, z_n, z_v, z_m, z_rf, z_bk, z_pk, z_ld, z_var, z_mv, z_mref, z_own, z_cst, z_glb, z_dnew, z_tup, k_tup, z_lst, k_lst, z_op1, k_op1, z_op2, k_op2, k_op2b, z_slc, k_slc1, k_slc2, k_slc3, z_get, k_get1, k_get2, k_get3, p_e, z_meth, k_meth, z_and, k_and, k_and2, z_or, k_or, k_or2, p_t, p_f, z_nt, k_nt, k_nt2, z_ite, k_ite, k_ite2, z_chain, k_ch1, k_ch2, k_ch3, k_ch4, k_bl, p_ct, p_cf, z_call, k_call, k_call2, z_callK, k_callK, k_callK2, z_lend, z_lc, k_lc, z_on, z_os, k_os, z_cn, z_cs, k_tru, z_seq, k_seq, z_rng, k_rng, z_rng2, k_rng2, k_rng2b, z_enm, k_enm, z_zip, k_zip, k_zip2, z_e0, z_e1, k_cons, k_cons2, s_asg, k_asg, s_asgM, k_asgM, s_par, s_parT, k_par, s_app, p_o, k_app, s_ins, k_ins, k_ins2, s_setL, k_setL, k_setL2, s_setD, k_setD, k_setD2, s_sdd, k_sdd, k_sdd2, k_sdd3, s_ex, k_ex, s_if, k_if, k_if2, p_ot, p_of, s_fr, k_fr, s_whl, s_ret, k_ret, s_brk, s_cnt, s_pass, s_nil, s_cons, f_b, f_nx, f_ct, f_bk, f_rt, for_nil, for_cons, t_nm, t_tp2, t_tp2L, t_tp3, setAll, List.getElem?_cons_zero, List.getElem?_cons_succ, List.set_cons_zero, List.set_cons_succ, wipeE, backE, cond_true, cond_false, resolve, writeBack, permA, isDct, recvD, isI, isB, Option.map_some, Option.bind_some, Option.getD_some, Option.getD_none, seqOf, seqStr, o_andB, t_int, t_lst, t_tup, t_str, t_non, fl_int, fl_str, fl_bl, fl_non, fa_nil, fl_strT, o_len1, o_len2, o_len3, o_neg, o_list, o_list2, o_tup, o_tup2, o_isi, o_cutT, o_cutL, o_eq_int, o_eq_str, o_ne_int, o_ne_str, o_eq_bl, o_ne_bl, o_eq_strT, o_eq_strL, o_ne_strT, o_ne_strL, o_ne_nilL, o_eq_nilL, o_ne_nn, o_eq_nn, o_ne_tt, o_eq_tt, o_lt, o_gt, o_le, o_ge, o_add, o_sub, o_min, o_max, o_rep2, o_in_strT, o_in_strL, o_nin_strT, o_nin_strL, o_in_prT, o_in_prL, o_in_prT', o_in_prL', o_in_dct, o_nin_dct, o_ixT, o_ixL, o_ixT0, o_ixL0, o_ixT1, o_ixL1, o_ixTm, o_ixLm, o_indexT, o_indexL, Bool.and_self, Bool.and_true, Bool.true_and, Bool.and_false, Bool.false_and, Bool.not_true, Bool.not_false, Option.isNone_some, Option.isNone_none, lstAt, dctAt, isa_lt_n, isa_lt_b, isa_lt_i, isa_lt_s, isa_lt_t, isa_lt_l, isa_l_n, isa_l_b, isa_l_i, isa_l_s, isa_l_t, isa_l_l, isa_t_n, isa_t_b, isa_t_i, isa_t_s, isa_t_t, isa_t_l, isa_s_n, isa_s_b, isa_s_i, isa_s_s, isa_s_t, isa_s_l, isa_i_n, isa_i_b, isa_i_i, isa_i_s, isa_i_t, isa_i_l, isa_b_n, isa_b_b, isa_b_i, isa_b_s, isa_b_t, isa_b_l, o_is_n, o_isn_n, o_is_b, o_isn_b, o_is_i, o_isn_i, o_is_s, o_isn_s, o_is_t, o_isn_t, o_is_l, o_isn_l, zipD_tt, zipD_ll, z_pick, k_pick, pk_0, pk_1, s_asgP, k_asgP, ps_2, o_mulT0, o_mulT1, z_dc, k_dc, o_ixD, io_n, io_b, io_i, io_s, io_t, io_l, io_d, z_fld, k_fld, fd_o, z_fldM, f_e, fv_o, z_mcall, k_mc, k_mc2, k_mc3, rc_ok, rf_m, ic_o, Bool.true_or, Bool.or_true, z_new, k_new, nw_ok, z_lendL, z_ldL, fl_L, all_str, z_rev, k_rev, rv_l, z_lock, k_lock, lc_d, z_addL, k_addL, k_addL2, z_keys, k_keys, z_items, k_items, ky_L, it_L, o_in_dctL, o_nin_dctL, o_ixDL, o_lenD, o_lenDL, t_nst, o_sign, pf_e, pf_o, sp_n0, sp_ns, sp_c0, sp_cs, s_setF, k_setF, s_appF, k_appF, s_setDF, k_setDF, k_setDF2, s_delDF, k_delDF, s_augF, au_s, k_augF, s_revL, re_s, io_L, z_ixM, k_ixM, isd_e, isd_o, ixv_e, ixv_o], rfl⟩
  obtain ⟨alone, rest, ha⟩ : ∃ alone rest, (two.filter fun a => !decide (a ∈ pool)) = alone :: rest := by
    by_cases hz : ("zzzzzzzz" : Str) ∈ pool
    · by_cases hy : ("yyyyyyyy" : Str) ∈ pool
      · have := not_both hstem hz hy (by decide) (by decide)
        exact absurd this (by decide)
      · exact ⟨"yyyyyyyy", [], by rw [etwo]; simp [hz, hy]⟩
    · exact ⟨"zzzzzzzz", _, by rw [etwo, List.filter_cons_of_pos (by simp [hz])]⟩
  have hap : alone ∉ pool := by
    have : alone ∈ two.filter fun a => !decide (a ∈ pool) := by rw [ha]; exact List.mem_cons_self
    simpa using (List.mem_filter.mp this).2
  rw [ha, etwo] at e4
  have rk : ROk 2 1000000 (.tup (ps.map pr)) := (rok_tup pr ps fun p hp' => rok_pair (k := 0) (B := 10) (rok_name (by
    obtain ⟨x, hx, y, hy, _, rfl⟩ := g p hp'
    rcases nrm_cases x y with e | e <;> rw [e]
    · exact hnm _ hx
    · exact hnm _ hy)) (rok_name (by
    obtain ⟨x, hx, y, hy, _, rfl⟩ := g p hp'
    rcases nrm_cases x y with e | e <;> rw [e]
    · exact hnm _ hy
    · exact hnm _ hx))).mono (by omega) (by omega)
  have e5 := o_reprT (rok_ok rk (by omega) (by omega))
  obtain ⟨tx, etx⟩ : ∃ tx, tx = (D.toPy (.tup (ps.map pr))).shown := ⟨_, rfl⟩
  rw [← etx] at e5
  have e6 : compRun [11] (.nm 11) (evC (callN prog wf (n + 3)) none) (ev (callN prog wf (n + 3)) e_law_right_3) (ps.map pr) [some x3.d, some (.lst (pool.map .str)), none, some (.tup (ps.map pr)), some (.str alone), none, none, none, none, none, none, none, none] = .ok (.lst (ps.map prl)) _ :=
    crun1 pr prl ps (by simp only [BIG]; omega) rfl fun c hc => ⟨_, t_nm, by simp only [e_law_right_3, pr, z_bR, z_bO, z_tO, z_tR, z_tB, z_tC, z_l, z_n, z_v, z_m, z_rf, z_bk, z_pk, z_ld, z_var, z_mv, z_mref, z_own, z_cst, z_glb, z_dnew, z_tup, k_tup, z_lst, k_lst, z_op1, k_op1, z_op2, k_op2, k_op2b, z_slc, k_slc1, k_slc2, k_slc3, z_get, k_get1, k_get2, k_get3, p_e, z_meth, k_meth, z_and, k_and, k_and2, z_or, k_or, k_or2, p_t, p_f, z_nt, k_nt, k_nt2, z_ite, k_ite, k_ite2, z_chain, k_ch1, k_ch2, k_ch3, k_ch4, k_bl, p_ct, p_cf, z_call, k_call, k_call2, z_callK, k_callK, k_callK2, z_lend, z_lc, k_lc, z_on, z_os, k_os, z_cn, z_cs, k_tru, z_seq, k_seq, z_rng, k_rng, z_rng2, k_rng2, k_rng2b, z_enm, k_enm, z_zip, k_zip, k_zip2, z_e0, z_e1, k_cons, k_cons2, s_asg, k_asg, s_asgM, k_asgM, s_par, s_parT, k_par, s_app, p_o, k_app, s_ins, k_ins, k_ins2, s_setL, k_setL, k_setL2, s_setD, k_setD, k_setD2, s_sdd, k_sdd, k_sdd2, k_sdd3, s_ex, k_ex, s_if, k_if, k_if2, p_ot, p_of, s_fr, k_fr, s_whl, s_ret, k_ret, s_brk, s_cnt, s_pass, s_nil, s_cons, f_b, f_nx, f_ct, f_bk, f_rt, for_nil, for_cons, t_nm, t_tp2, t_tp2L, t_tp3, setAll, List.getElem?_cons_zero, List.getElem?_cons_succ, List.set_cons_zero, List.set_cons_succ, wipeE, backE, cond_true, cond_false, resolve, writeBack, permA, isDct, recvD, isI, isB, Option.map_some, Option.bind_some, Option.getD_some, Option.getD_none, seqOf, seqStr, o_andB, t_int, t_lst, t_tup, t_str, t_non, fl_int, fl_str, fl_bl, fl_non, fa_nil, fl_strT, o_len1, o_len2, o_len3, o_neg, o_list, o_list2, o_tup, o_tup2, o_isi, o_cutT, o_cutL, o_eq_int, o_eq_str, o_ne_int, o_ne_str, o_eq_bl, o_ne_bl, o_eq_strT, o_eq_strL, o_ne_strT, o_ne_strL, o_ne_nilL, o_eq_nilL, o_ne_nn, o_eq_nn, o_ne_tt, o_eq_tt, o_lt, o_gt, o_le, o_ge, o_add, o_sub, o_min, o_max, o_rep2, o_in_strT, o_in_strL, o_nin_strT, o_nin_strL, o_in_prT, o_in_prL, o_in_prT', o_in_prL', o_in_dct, o_nin_dct, o_ixT, o_ixL, o_ixT0, o_ixL0, o_ixT1, o_ixL1, o_ixTm, o_ixLm, o_indexT, o_indexL, Bool.and_self, Bool.and_true, Bool.true_and, Bool.and_false, Bool.false_and, Bool.not_true, Bool.not_false, Option.isNone_some, Option.isNone_none, lstAt, dctAt, isa_lt_n, isa_lt_b, isa_lt_i, isa_lt_s, isa_lt_t, isa_lt_l, isa_l_n, isa_l_b, isa_l_i, isa_l_s, isa_l_t, isa_l_l, isa_t_n, isa_t_b, isa_t_i, isa_t_s, isa_t_t, isa_t_l, isa_s_n, isa_s_b, isa_s_i, isa_s_s, isa_s_t, isa_s_l, isa_i_n, isa_i_b, isa_i_i, isa_i_s, isa_i_t, isa_i_l, isa_b_n, isa_b_b, isa_b_i, isa_b_s, isa_b_t, isa_b_l, o_is_n, o_isn_n, o_is_b, o_isn_b, o_is_i, o_isn_i, o_is_s, o_isn_s, o_is_t, o_isn_t, o_is_l, o_isn_l, zipD_tt, zipD_ll, z_pick, k_pick, pk_0, pk_1, s_asgP, k_asgP, ps_2, o_mulT0, o_mulT1, z_dc, k_dc, o_ixD, io_n, io_b, io_i, io_s, io_t, io_l, io_d, z_fld, k_fld, fd_o, z_fldM, f_e, fv_o, z_mcall, k_mc, k_mc2, k_mc3, rc_ok, rf_m, ic_o, Bool.true_or, Bool.or_true, z_new, k_new, nw_ok, z_lendL, z_ldL, fl_L, all_str, z_rev, k_rev, rv_l, z_lock, k_lock, lc_d, z_addL, k_addL, k_addL2, z_keys, k_keys, z_items, k_items, ky_L, it_L, o_in_dctL, o_nin_dctL, o_ixDL, o_lenD, o_lenDL, t_nst, o_sign, pf_e, pf_o, sp_n0, sp_ns, sp_c0, sp_cs, s_setF, k_setF, s_appF, k_appF, s_setDF, k_setDF, k_setDF2, s_delDF, k_delDF, s_augF, au_s, k_augF, s_revL, re_s, io_L, z_ixM, k_ixM, isd_e, isd_o, ixv_e, ixv_o, prl], rfl⟩
  obtain ⟨a2, a7, a8, a9, a10, e7⟩ := outer (wf := wf) (n := n) g np (by omega) hp alone (some x3.d) (some (.str tx)) none none pool none none none none none
  have hla : lk (knownOf ps) alone = [] := by
    cases hq : lk (knownOf ps) alone with
    | nil => rfl
    | cons b r =>
      have : pals ps alone b = true := by unfold pals; simp [hq]
      exact absurd (fr_pool g this).1 hap
  have e8 := friends_of_ok (wf := wf) (n := n + 1) hp (.tup (ps.map pr)) pr (fun _ => .inl rfl) (.inl rfl) alone (by rw [hla]; decide)
  rw [show palsOf ps alone = [] by unfold palsOf; rw [hla]; rfl] at e8
  have e9 := same_at (wf := wf) (m := n + 3) 1 (d := .lst []) sml_nilL (by omega)
  refine ⟨x3.d, ?_⟩
  simp only [List.map_cons, List.map_nil] at e4
  simp only [at_law_right, bd_law_right, z_bR, z_bO, z_tO, z_tR, z_tB, z_tC, z_l, z_n, z_v, z_m, z_rf, z_bk, z_pk, z_ld, z_var, z_mv, z_mref, z_own, z_cst, z_glb, z_dnew, z_tup, k_tup, z_lst, k_lst, z_op1, k_op1, z_op2, k_op2, k_op2b, z_slc, k_slc1, k_slc2, k_slc3, z_get, k_get1, k_get2, k_get3, p_e, z_meth, k_meth, z_and, k_and, k_and2, z_or, k_or, k_or2, p_t, p_f, z_nt, k_nt, k_nt2, z_ite, k_ite, k_ite2, z_chain, k_ch1, k_ch2, k_ch3, k_ch4, k_bl, p_ct, p_cf, z_call, k_call, k_call2, z_callK, k_callK, k_callK2, z_lend, z_lc, k_lc, z_on, z_os, k_os, z_cn, z_cs, k_tru, z_seq, k_seq, z_rng, k_rng, z_rng2, k_rng2, k_rng2b, z_enm, k_enm, z_zip, k_zip, k_zip2, z_e0, z_e1, k_cons, k_cons2, s_asg, k_asg, s_asgM, k_asgM, s_par, s_parT, k_par, s_app, p_o, k_app, s_ins, k_ins, k_ins2, s_setL, k_setL, k_setL2, s_setD, k_setD, k_setD2, s_sdd, k_sdd, k_sdd2, k_sdd3, s_ex, k_ex, s_if, k_if, k_if2, p_ot, p_of, s_fr, k_fr, s_whl, s_ret, k_ret, s_brk, s_cnt, s_pass, s_nil, s_cons, f_b, f_nx, f_ct, f_bk, f_rt, for_nil, for_cons, t_nm, t_tp2, t_tp2L, t_tp3, setAll, List.getElem?_cons_zero, List.getElem?_cons_succ, List.set_cons_zero, List.set_cons_succ, wipeE, backE, cond_true, cond_false, resolve, writeBack, permA, isDct, recvD, isI, isB, Option.map_some, Option.bind_some, Option.getD_some, Option.getD_none, seqOf, seqStr, o_andB, t_int, t_lst, t_tup, t_str, t_non, fl_int, fl_str, fl_bl, fl_non, fa_nil, fl_strT, o_len1, o_len2, o_len3, o_neg, o_list, o_list2, o_tup, o_tup2, o_isi, o_cutT, o_cutL, o_eq_int, o_eq_str, o_ne_int, o_ne_str, o_eq_bl, o_ne_bl, o_eq_strT, o_eq_strL, o_ne_strT, o_ne_strL, o_ne_nilL, o_eq_nilL, o_ne_nn, o_eq_nn, o_ne_tt, o_eq_tt, o_lt, o_gt, o_le, o_ge, o_add, o_sub, o_min, o_max, o_rep2, o_in_strT, o_in_strL, o_nin_strT, o_nin_strL, o_in_prT, o_in_prL, o_in_prT', o_in_prL', o_in_dct, o_nin_dct, o_ixT, o_ixL, o_ixT0, o_ixL0, o_ixT1, o_ixL1, o_ixTm, o_ixLm, o_indexT, o_indexL, Bool.and_self, Bool.and_true, Bool.true_and, Bool.and_false, Bool.false_and, Bool.not_true, Bool.not_false, Option.isNone_some, Option.isNone_none, lstAt, dctAt, isa_lt_n, isa_lt_b, isa_lt_i, isa_lt_s, isa_lt_t, isa_lt_l, isa_l_n, isa_l_b, isa_l_i, isa_l_s, isa_l_t, isa_l_l, isa_t_n, isa_t_b, isa_t_i, isa_t_s, isa_t_t, isa_t_l, isa_s_n, isa_s_b, isa_s_i, isa_s_s, isa_s_t, isa_s_l, isa_i_n, isa_i_b, isa_i_i, isa_i_s, isa_i_t, isa_i_l, isa_b_n, isa_b_b, isa_b_i, isa_b_s, isa_b_t, isa_b_l, o_is_n, o_isn_n, o_is_b, o_isn_b, o_is_i, o_isn_i, o_is_s, o_isn_s, o_is_t, o_isn_t, o_is_l, o_isn_l, zipD_tt, zipD_ll, z_pick, k_pick, pk_0, pk_1, s_asgP, k_asgP, ps_2, o_mulT0, o_mulT1, z_dc, k_dc, o_ixD, io_n, io_b, io_i, io_s, io_t, io_l, io_d, z_fld, k_fld, fd_o, z_fldM, f_e, fv_o, z_mcall, k_mc, k_mc2, k_mc3, rc_ok, rf_m, ic_o, Bool.true_or, Bool.or_true, z_new, k_new, nw_ok, z_lendL, z_ldL, fl_L, all_str, z_rev, k_rev, rv_l, z_lock, k_lock, lc_d, z_addL, k_addL, k_addL2, z_keys, k_keys, z_items, k_items, ky_L, it_L, o_in_dctL, o_nin_dctL, o_ixDL, o_lenD, o_lenDL, t_nst, o_sign, pf_e, pf_o, sp_n0, sp_ns, sp_c0, sp_cs, s_setF, k_setF, s_appF, k_appF, s_setDF, k_setDF, k_setDF2, s_delDF, k_delDF, s_augF, au_s, k_augF, s_revL, re_s, io_L, z_ixM, k_ixM, isd_e, isd_o, ixv_e, ixv_o, e1, c1, e2, e3, e4, e5, e6, e7, e8, e9, decide_true, rt_law_right]
end
theorem law_plain : ∀ ns : List Int, ns.length ≤ 63 → ∃ ds, callN prog 100000 40 "law" [.scr ns] = .ok (.bl true) ds := fun ns hl => law_of_right (wf := 100000) (n := 36) (fun x => right_ok (n := 35) x) ns hl
end Lw
namespace Lw
open Pv PySem PySem.Spec PyProof.Rows L2
def top (i : Nat) : Stmt := PySem.Challenge.pw_letinrow_k02_who_are_friends.main.body.getD i (.Pass ⟨0, 0, 0, 0⟩)
theorem sc_d_friend_sets : scB d_friend_sets (defScope (top 1)) = true := by decide +kernel
theorem ms_d_friend_sets : mSs (d_friend_sets.mc (defScope (top 1)) (sigs prog pats) gcs clsL) d_friend_sets.pars.length d_friend_sets.ret d_friend_sets.body (defBody (top 1)) = true := by decide +kernel
theorem sc_d_are_friends : scB d_are_friends (defScope (top 2)) = true := by decide +kernel
theorem ms_d_are_friends : mSs (d_are_friends.mc (defScope (top 2)) (sigs prog pats) gcs clsL) d_are_friends.pars.length d_are_friends.ret d_are_friends.body (defBody (top 2)) = true := by decide +kernel
theorem sc_d_friends_of : scB d_friends_of (defScope (top 3)) = true := by decide +kernel
theorem ms_d_friends_of : mSs (d_friends_of.mc (defScope (top 3)) (sigs prog pats) gcs clsL) d_friends_of.pars.length d_friends_of.ret d_friends_of.body (defBody (top 3)) = true := by decide +kernel
theorem sc_d_law_box : scB d_law_box (defScope (top 5)) = true := by decide +kernel
theorem ms_d_law_box : mSs (d_law_box.mc (defScope (top 5)) (sigs prog pats) gcs clsL) d_law_box.pars.length d_law_box.ret d_law_box.body (defBody (top 5)) = true := by decide +kernel
theorem sc_d_law_take : scB d_law_take (defScope (top 6)) = true := by decide +kernel
theorem ms_d_law_take : mSs (d_law_take.mc (defScope (top 6)) (sigs prog pats) gcs clsL) d_law_take.pars.length d_law_take.ret d_law_take.body (defBody (top 6)) = true := by decide +kernel
theorem sc_d_law_cells : scB d_law_cells (defScope (top 7)) = true := by decide +kernel
theorem ms_d_law_cells : mSs (d_law_cells.mc (defScope (top 7)) (sigs prog pats) gcs clsL) d_law_cells.pars.length d_law_cells.ret d_law_cells.body (defBody (top 7)) = true := by decide +kernel
theorem sc_d_law_names : scB d_law_names (defScope (top 8)) = true := by decide +kernel
theorem ms_d_law_names : mSs (d_law_names.mc (defScope (top 8)) (sigs prog pats) gcs clsL) d_law_names.pars.length d_law_names.ret d_law_names.body (defBody (top 8)) = true := by decide +kernel
theorem sc_d_law_pals : scB d_law_pals (defScope (top 9)) = true := by decide +kernel
theorem ms_d_law_pals : mSs (d_law_pals.mc (defScope (top 9)) (sigs prog pats) gcs clsL) d_law_pals.pars.length d_law_pals.ret d_law_pals.body (defBody (top 9)) = true := by decide +kernel
theorem sc_d_law_are : scB d_law_are (defScope (top 10)) = true := by decide +kernel
theorem ms_d_law_are : mSs (d_law_are.mc (defScope (top 10)) (sigs prog pats) gcs clsL) d_law_are.pars.length d_law_are.ret d_law_are.body (defBody (top 10)) = true := by decide +kernel
theorem sc_d_law_same : scB d_law_same (defScope (top 11)) = true := by decide +kernel
theorem ms_d_law_same : mSs (d_law_same.mc (defScope (top 11)) (sigs prog pats) gcs clsL) d_law_same.pars.length d_law_same.ret d_law_same.body (defBody (top 11)) = true := by decide +kernel
theorem sc_d_law_right : scB d_law_right (defScope (top 12)) = true := by decide +kernel
theorem ms_d_law_right : mSs (d_law_right.mc (defScope (top 12)) (sigs prog pats) gcs clsL) d_law_right.pars.length d_law_right.ret d_law_right.body (defBody (top 12)) = true := by decide +kernel
theorem sc_d_law : scB d_law (defScope (top 13)) = true := by decide +kernel
theorem ms_d_law : mSs (d_law.mc (defScope (top 13)) (sigs prog pats) gcs clsL) d_law.pars.length d_law.ret d_law.body (defBody (top 13)) = true := by decide +kernel
def fn : List He.DefD := [mkD d_friend_sets (top 1), mkD d_are_friends (top 2), mkD d_friends_of (top 3), mkD d_law_box (top 5), mkD d_law_take (top 6), mkD d_law_cells (top 7), mkD d_law_names (top 8), mkD d_law_pals (top 9), mkD d_law_are (top 10), mkD d_law_same (top 11), mkD d_law_right (top 12), mkD d_law (top 13)]
def ts : List (PySem.W.Frag → Addr) := []
def fa : List He.Fa := [.glo "friend_sets", .glo "are_friends", .glo "friends_of", .glo "_law_box", .glo "_law_take", .glo "_law_cells", .glo "_law_names", .glo "_law_pals", .glo "_law_are", .glo "_law_same", .glo "_law_right", .glo "law", .free "abs", .free "int", .free "len", .free "list", .free "tuple", .free "sum", .free "all", .free "any", .free "sorted", .free "isinstance", .free "range", .free "enumerate", .free "zip", .free "min", .free "max", .free "str", .free "bool", .free "set", .free "repr"]
abbrev R : PySem.W.OpenRow := PySem.W.OpenLaw.row PySem.Challenge.rw_letinrow_k02_who_are_friends
abbrev hk : PySem.W.Hook := hookT 4 fa fn ts
def ob (s : PySem.W.SharedT) : Bool × He.AlD := obsT 4 fa fn ts (HandSHeadRun.getT s)
theorem ob_eq (s : PySem.W.SharedT) : ob s = hk.obs s.abs := obsT_eq (HandSHeadRun.getT_eq s)
def loose : List Str := [("friend_sets" : Str), ("are_friends" : Str), ("friends_of" : Str), ("_law_box" : Str), ("_law_take" : Str), ("_law_cells" : Str), ("_law_names" : Str), ("_law_pals" : Str), ("_law_are" : Str), ("_law_same" : Str), ("_law_right" : Str)]
theorem run (w : World) : HandSHeadRun.RunEq R (PySem.W.view R.prog [13]) hk ob 3000 loose w := by
  intro os
  kernel_rfl
section
variable {K : PySem.W.Frag} {h : Heap} {mg : Str → Option Value}
theorem t0_of (c : He.SaysD fa fn K) (ct : (ts.all fun a => tup0B K (a K)) = true) (i : Nat) {a : PySem.W.Frag → Addr} (h : ts[i]? = some a := by rfl) : tup0B K (a K) = true := List.all_eq_true.mp ct a (List.mem_of_getElem? h)
theorem at_d_friend_sets (X : K.In h) (G : h.Ns mainGlobals mg) (c : He.SaysD fa fn K) (ct : (ts.all fun a => tup0B K (a K)) = true) : At K mg prog pats gcs clsL d_friend_sets := by
  obtain ⟨fd, F⟩ := c.def_ 0 (d := mkD d_friend_sets (top 1)) rfl
  have b : d_friend_sets.kwo = false → Binds K fd d_friend_sets.pars [] := fun _ => FunD.bindsN (ps := d_friend_sets.pars) F fun _ _ _ _ _ _ us hl => match us, hl with | [_], _ => rfl
  exact ⟨_, _, _, _, _, _, _, fd, at_mk (g := d_friend_sets) F (He.glo_ok X G (c.fact 0 (f := .glo "friend_sets") rfl)) b (fun p hp => by cases hp) sc_d_friend_sets ms_d_friend_sets⟩
theorem pt_d_are_friends {f : Addr} {fd : FuncData} (F : FunD K d_are_friends.py d_are_friends.py (defArgs (top 2)) (defBody (top 2)) (defScope (top 2)) [] [] f fd) : ∀ p ∈ pats d_are_friends.name, PatOk K fd d_are_friends.pars p.1 p.2.1 p.2.2 := by
  have e : pats d_are_friends.name = ([(0, ["other", "one", "friends"], [(.arg 2), (.arg 1), (.arg 0)])] : List (Nat × List Str × List Par)) := by rfl
  rw [e]
  intro p hp
  simp only [List.mem_cons, List.not_mem_nil, or_false] at hp
  subst hp
  exact pat0 F rfl fun _ _ _ _ _ _ us ws h1 h2 => match us, ws, h1, h2 with | [], [_, _, _], _, _ => rfl
theorem at_d_are_friends (X : K.In h) (G : h.Ns mainGlobals mg) (c : He.SaysD fa fn K) (ct : (ts.all fun a => tup0B K (a K)) = true) : At K mg prog pats gcs clsL d_are_friends := by
  obtain ⟨fd, F⟩ := c.def_ 1 (d := mkD d_are_friends (top 2)) rfl
  have b : d_are_friends.kwo = false → Binds K fd d_are_friends.pars [] := fun _ => FunD.bindsN (ps := d_are_friends.pars) F fun _ _ _ _ _ _ us hl => match us, hl with | [_, _, _], _ => rfl
  exact ⟨_, _, _, _, _, _, _, fd, at_mk (g := d_are_friends) F (He.glo_ok X G (c.fact 1 (f := .glo "are_friends") rfl)) b (pt_d_are_friends F) sc_d_are_friends ms_d_are_friends⟩
theorem pt_d_friends_of {f : Addr} {fd : FuncData} (F : FunD K d_friends_of.py d_friends_of.py (defArgs (top 3)) (defBody (top 3)) (defScope (top 3)) [] [] f fd) : ∀ p ∈ pats d_friends_of.name, PatOk K fd d_friends_of.pars p.1 p.2.1 p.2.2 := by
  have e : pats d_friends_of.name = ([(0, ["who", "friends"], [(.arg 1), (.arg 0)])] : List (Nat × List Str × List Par)) := by rfl
  rw [e]
  intro p hp
  simp only [List.mem_cons, List.not_mem_nil, or_false] at hp
  subst hp
  exact pat0 F rfl fun _ _ _ _ _ _ us ws h1 h2 => match us, ws, h1, h2 with | [], [_, _], _, _ => rfl
theorem at_d_friends_of (X : K.In h) (G : h.Ns mainGlobals mg) (c : He.SaysD fa fn K) (ct : (ts.all fun a => tup0B K (a K)) = true) : At K mg prog pats gcs clsL d_friends_of := by
  obtain ⟨fd, F⟩ := c.def_ 2 (d := mkD d_friends_of (top 3)) rfl
  have b : d_friends_of.kwo = false → Binds K fd d_friends_of.pars [] := fun _ => FunD.bindsN (ps := d_friends_of.pars) F fun _ _ _ _ _ _ us hl => match us, hl with | [_, _], _ => rfl
  exact ⟨_, _, _, _, _, _, _, fd, at_mk (g := d_friends_of) F (He.glo_ok X G (c.fact 2 (f := .glo "friends_of") rfl)) b (pt_d_friends_of F) sc_d_friends_of ms_d_friends_of⟩
theorem at_d_law_box (X : K.In h) (G : h.Ns mainGlobals mg) (c : He.SaysD fa fn K) (ct : (ts.all fun a => tup0B K (a K)) = true) : At K mg prog pats gcs clsL d_law_box := by
  obtain ⟨fd, F⟩ := c.def_ 3 (d := mkD d_law_box (top 5)) rfl
  have b : d_law_box.kwo = false → Binds K fd d_law_box.pars [] := fun _ => FunD.bindsN (ps := d_law_box.pars) F fun _ _ _ _ _ _ us hl => match us, hl with | [_, _], _ => rfl
  exact ⟨_, _, _, _, _, _, _, fd, at_mk (g := d_law_box) F (He.glo_ok X G (c.fact 3 (f := .glo "_law_box") rfl)) b (fun p hp => by cases hp) sc_d_law_box ms_d_law_box⟩
theorem at_d_law_take (X : K.In h) (G : h.Ns mainGlobals mg) (c : He.SaysD fa fn K) (ct : (ts.all fun a => tup0B K (a K)) = true) : At K mg prog pats gcs clsL d_law_take := by
  obtain ⟨fd, F⟩ := c.def_ 4 (d := mkD d_law_take (top 6)) rfl
  have b : d_law_take.kwo = false → Binds K fd d_law_take.pars [] := fun _ => FunD.bindsN (ps := d_law_take.pars) F fun _ _ _ _ _ _ us hl => match us, hl with | [_, _], _ => rfl
  exact ⟨_, _, _, _, _, _, _, fd, at_mk (g := d_law_take) F (He.glo_ok X G (c.fact 4 (f := .glo "_law_take") rfl)) b (fun p hp => by cases hp) sc_d_law_take ms_d_law_take⟩
theorem at_d_law_cells (X : K.In h) (G : h.Ns mainGlobals mg) (c : He.SaysD fa fn K) (ct : (ts.all fun a => tup0B K (a K)) = true) : At K mg prog pats gcs clsL d_law_cells := by
  obtain ⟨fd, F⟩ := c.def_ 5 (d := mkD d_law_cells (top 7)) rfl
  have b : d_law_cells.kwo = false → Binds K fd d_law_cells.pars [] := fun _ => FunD.bindsN (ps := d_law_cells.pars) F fun _ _ _ _ _ _ us hl => match us, hl with | [_, _], _ => rfl
  exact ⟨_, _, _, _, _, _, _, fd, at_mk (g := d_law_cells) F (He.glo_ok X G (c.fact 5 (f := .glo "_law_cells") rfl)) b (fun p hp => by cases hp) sc_d_law_cells ms_d_law_cells⟩
theorem at_d_law_names (X : K.In h) (G : h.Ns mainGlobals mg) (c : He.SaysD fa fn K) (ct : (ts.all fun a => tup0B K (a K)) = true) : At K mg prog pats gcs clsL d_law_names := by
  obtain ⟨fd, F⟩ := c.def_ 6 (d := mkD d_law_names (top 8)) rfl
  have b : d_law_names.kwo = false → Binds K fd d_law_names.pars [] := fun _ => FunD.bindsN (ps := d_law_names.pars) F fun _ _ _ _ _ _ us hl => match us, hl with | [_, _], _ => rfl
  exact ⟨_, _, _, _, _, _, _, fd, at_mk (g := d_law_names) F (He.glo_ok X G (c.fact 6 (f := .glo "_law_names") rfl)) b (fun p hp => by cases hp) sc_d_law_names ms_d_law_names⟩
theorem at_d_law_pals (X : K.In h) (G : h.Ns mainGlobals mg) (c : He.SaysD fa fn K) (ct : (ts.all fun a => tup0B K (a K)) = true) : At K mg prog pats gcs clsL d_law_pals := by
  obtain ⟨fd, F⟩ := c.def_ 7 (d := mkD d_law_pals (top 9)) rfl
  have b : d_law_pals.kwo = false → Binds K fd d_law_pals.pars [] := fun _ => FunD.bindsN (ps := d_law_pals.pars) F fun _ _ _ _ _ _ us hl => match us, hl with | [_, _], _ => rfl
  exact ⟨_, _, _, _, _, _, _, fd, at_mk (g := d_law_pals) F (He.glo_ok X G (c.fact 7 (f := .glo "_law_pals") rfl)) b (fun p hp => by cases hp) sc_d_law_pals ms_d_law_pals⟩
theorem at_d_law_are (X : K.In h) (G : h.Ns mainGlobals mg) (c : He.SaysD fa fn K) (ct : (ts.all fun a => tup0B K (a K)) = true) : At K mg prog pats gcs clsL d_law_are := by
  obtain ⟨fd, F⟩ := c.def_ 8 (d := mkD d_law_are (top 10)) rfl
  have b : d_law_are.kwo = false → Binds K fd d_law_are.pars [] := fun _ => FunD.bindsN (ps := d_law_are.pars) F fun _ _ _ _ _ _ us hl => match us, hl with | [_, _, _], _ => rfl
  exact ⟨_, _, _, _, _, _, _, fd, at_mk (g := d_law_are) F (He.glo_ok X G (c.fact 8 (f := .glo "_law_are") rfl)) b (fun p hp => by cases hp) sc_d_law_are ms_d_law_are⟩
theorem at_d_law_same (X : K.In h) (G : h.Ns mainGlobals mg) (c : He.SaysD fa fn K) (ct : (ts.all fun a => tup0B K (a K)) = true) : At K mg prog pats gcs clsL d_law_same := by
  obtain ⟨fd, F⟩ := c.def_ 9 (d := mkD d_law_same (top 11)) rfl
  have b : d_law_same.kwo = false → Binds K fd d_law_same.pars [] := fun _ => FunD.bindsN (ps := d_law_same.pars) F fun _ _ _ _ _ _ us hl => match us, hl with | [_, _], _ => rfl
  exact ⟨_, _, _, _, _, _, _, fd, at_mk (g := d_law_same) F (He.glo_ok X G (c.fact 9 (f := .glo "_law_same") rfl)) b (fun p hp => by cases hp) sc_d_law_same ms_d_law_same⟩
theorem at_d_law_right (X : K.In h) (G : h.Ns mainGlobals mg) (c : He.SaysD fa fn K) (ct : (ts.all fun a => tup0B K (a K)) = true) : At K mg prog pats gcs clsL d_law_right := by
  obtain ⟨fd, F⟩ := c.def_ 10 (d := mkD d_law_right (top 12)) rfl
  have b : d_law_right.kwo = false → Binds K fd d_law_right.pars [] := fun _ => FunD.bindsN (ps := d_law_right.pars) F fun _ _ _ _ _ _ us hl => match us, hl with | [_], _ => rfl
  exact ⟨_, _, _, _, _, _, _, fd, at_mk (g := d_law_right) F (He.glo_ok X G (c.fact 10 (f := .glo "_law_right") rfl)) b (fun p hp => by cases hp) sc_d_law_right ms_d_law_right⟩
theorem at_d_law (X : K.In h) (G : h.Ns mainGlobals mg) (c : He.SaysD fa fn K) (ct : (ts.all fun a => tup0B K (a K)) = true) : At K mg prog pats gcs clsL d_law := by
  obtain ⟨fd, F⟩ := c.def_ 11 (d := mkD d_law (top 13)) rfl
  have b : d_law.kwo = false → Binds K fd d_law.pars [] := fun _ => FunD.bindsN (ps := d_law.pars) F fun _ _ _ _ _ _ us hl => match us, hl with | [_], _ => rfl
  exact ⟨_, _, _, _, _, _, _, fd, at_mk (g := d_law) F (He.glo_ok X G (c.fact 11 (f := .glo "law") rfl)) b (fun p hp => by cases hp) sc_d_law ms_d_law⟩
theorem all_at (X : K.In h) (G : h.Ns mainGlobals mg) (c : He.SaysD fa fn K) (ct : (ts.all fun a => tup0B K (a K)) = true) : ∀ g ∈ prog, At K mg prog pats gcs clsL g := by
  intro g hg
  simp only [prog, List.mem_cons, List.not_mem_nil, or_false] at hg
  rcases hg with rfl | rfl | rfl | rfl | rfl | rfl | rfl | rfl | rfl | rfl | rfl | rfl
  · exact at_d_friend_sets X G c ct
  · exact at_d_are_friends X G c ct
  · exact at_d_friends_of X G c ct
  · exact at_d_law_box X G c ct
  · exact at_d_law_take X G c ct
  · exact at_d_law_cells X G c ct
  · exact at_d_law_names X G c ct
  · exact at_d_law_pals X G c ct
  · exact at_d_law_are X G c ct
  · exact at_d_law_same X G c ct
  · exact at_d_law_right X G c ct
  · exact at_d_law X G c ct
theorem cls_all (c : He.SaysD fa fn K) : ∀ cn ∈ clsL, ClsK K cn := by
  intro x hx
  simp only [clsL, List.mem_cons, List.not_mem_nil, or_false] at hx
theorem free_all (X : K.In h) (G : h.Ns mainGlobals mg) (c : He.SaysD fa fn K) : ∀ x ∈ bltNames, mg x = none := by
  intro x hx
  simp only [bltNames, List.mem_cons, List.not_mem_nil, or_false] at hx
  rcases hx with rfl | rfl | rfl | rfl | rfl | rfl | rfl | rfl | rfl | rfl | rfl | rfl | rfl | rfl | rfl | rfl | rfl | rfl | rfl
  · exact He.free_ok X G (c.fact 12 (f := .free "abs") rfl)
  · exact He.free_ok X G (c.fact 13 (f := .free "int") rfl)
  · exact He.free_ok X G (c.fact 14 (f := .free "len") rfl)
  · exact He.free_ok X G (c.fact 15 (f := .free "list") rfl)
  · exact He.free_ok X G (c.fact 16 (f := .free "tuple") rfl)
  · exact He.free_ok X G (c.fact 17 (f := .free "sum") rfl)
  · exact He.free_ok X G (c.fact 18 (f := .free "all") rfl)
  · exact He.free_ok X G (c.fact 19 (f := .free "any") rfl)
  · exact He.free_ok X G (c.fact 20 (f := .free "sorted") rfl)
  · exact He.free_ok X G (c.fact 21 (f := .free "isinstance") rfl)
  · exact He.free_ok X G (c.fact 22 (f := .free "range") rfl)
  · exact He.free_ok X G (c.fact 23 (f := .free "enumerate") rfl)
  · exact He.free_ok X G (c.fact 24 (f := .free "zip") rfl)
  · exact He.free_ok X G (c.fact 25 (f := .free "min") rfl)
  · exact He.free_ok X G (c.fact 26 (f := .free "max") rfl)
  · exact He.free_ok X G (c.fact 27 (f := .free "str") rfl)
  · exact He.free_ok X G (c.fact 28 (f := .free "bool") rfl)
  · exact He.free_ok X G (c.fact 29 (f := .free "set") rfl)
  · exact He.free_ok X G (c.fact 30 (f := .free "repr") rfl)
theorem gc_all (X : K.In h) (G : h.Ns mainGlobals mg) (c : He.SaysD fa fn K) : ∀ x d, gcs.lookup x = some d → GcM mg x d := by
  intro x d hx
  unfold gcs at hx
  cases hx
end
theorem facts {P : Program} {w : World} {K : PySem.W.Frag} {h : Heap} {mg : Str → Option Value} {f : Addr} (X : K.In h) (G : h.Ns mainGlobals mg) (hfa : mg ("law" : Str) = some (.ref f)) (c : He.SaysD fa fn K) (ct : (ts.all fun a => tup0B K (a K)) = true) :
    ∃ fd : FuncData, (∀ (s : Shared) (v : Value), BindsTo s fd ⟨[v], []⟩ [("_law_script", v)]) ∧ ∀ base : Heap, FnG P w K mg base (L2.CX P w) (2 * 40) f fd ["_law_script"] (spS (zOf K prog 100000 noXR 40) d_law.shs d_law.ret (callN prog 100000 40 "law")) := by
  obtain ⟨fd, F⟩ := c.def_ 11 (d := mkD d_law (top 13)) rfl
  have e := hfa.symm.trans (He.glo_ok X G (c.fact 11 (f := .glo "law") rfl))
  cases e
  have b := FunD.bindsA (ps := ["_law_script"]) F fun _ _ _ _ _ _ us hl => match us, hl with | [_], _ => rfl
  have b' : d_law.kwo = false → Binds K fd d_law.pars [] := fun _ => FunD.bindsN (ps := d_law.pars) F fun _ _ _ _ _ _ us hl => match us, hl with | [_], _ => rfl
  exact ⟨fd, fun s v => b s [v] rfl, fun base => all_ok (cls := clsL) (free_all X G c) (cls_all c) (gc_all X G c) (look_all (all_at X G c ct)) 40 "law" d_law (by rfl) (at_mk (g := d_law) F hfa b' (fun p hp => by cases hp) sc_d_law ms_d_law)⟩
end Lw
open PySem PySem.W PySem.Calls PyProof.Rows
theorem PySem.Challenge.cw_letinrow_k02_who_are_friends_holds : PySem.Challenge.rw_letinrow_k02_who_are_friends.Holds := by
  w_on; o_law
  refine HandSHeadRun.head_any (r := OpenLaw.row PySem.Challenge.rw_letinrow_k02_who_are_friends) (q := view (OpenLaw.row PySem.Challenge.rw_letinrow_k02_who_are_friends).prog [13]) (H := Lw.hk) (ob := Lw.ob) (M := 3000) (loose := Lw.loose) (d := HandSHeadRun.topDef (OpenLaw.row PySem.Challenge.rw_letinrow_k02_who_are_friends).prog 13) (kwd := []) Lw.ob_eq
    (by kernel_rfl) (fun s => by kernel_rfl) Lw.run (by kernel_rfl) (by kernel_rfl) (by kernel_rfl) (by rfl) (by first | assumption | decide +kernel) (by decide +kernel) ⟨rfl, rfl, rfl, rfl, rfl, by decide +kernel⟩ ?hw ?hc
  case hw => w_witness2
  case hc =>
    refine Pv.walkG (l := PySem.Challenge.rw_letinrow_k02_who_are_friends) (n := 63) (k := 2 * 40) (x := "_law_script") rfl (by decide) (by kernel_rfl) ⟨rfl, by decide, by decide⟩ ?F
    intro w mg fa h Y G hmg0
    obtain ⟨K, KX, c, ct⟩ := Y
    have hmg : mg ("law" : PySem.Str) = some (.ref fa) := by
      have e : (HandSHeadRun.topDef (OpenLaw.row PySem.Challenge.rw_letinrow_k02_who_are_friends).prog 13).name = ("law" : PySem.Str) := by kernel_rfl
      rw [← e]
      exact hmg0
    obtain ⟨fd, hb, hF⟩ := Lw.facts (P := (PySem.Challenge.rw_letinrow_k02_who_are_friends).prog) (w := w) KX G hmg c ct
    exact ⟨K, fd, (fun vs H Q _ => Pv.spS (Pv.zOf K Lw.prog 100000 Pv.noXR 40) Lw.d_law.shs Lw.d_law.ret (Pv.callN Lw.prog 100000 40 "law") vs H Q fun _ _ _ => False), KX, hb, fun H a ns hl hS => Pv.law_says (g := Lw.d_law) rfl rfl Lw.law_plain hl hS, fun base => Pv.FnG.noX (hF base)⟩
