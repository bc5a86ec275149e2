import PyProof.Rows.All
import Wide.All
import OpenK.AllK
import Wide.FinOn
import HandS.ForMost
import HandS.Exc
import HandS.ExcOwn
import HandS.ExcCtx
import HandS.Hot
import HandS.HotCalls
import HandS.Wide
import HandS.CallSlots
import HandS.Gcd
import HandS.IsInst
import HandS.SortInts
import HandS.Defaults
import HandS.Comp
import HandS.HeadHook2
import HandS.ExcInit
import HandS.ExcIs
import HandS.ExcField
import KE.KExcSuper
import KE.KSuper
import KE.KExcIs
import HandS.Dict
import HandS.SetFor
import HandS.Small
import HandS.Words
import PyProof.Rows.CountFlat
import HandS.Codes
import HandS.Head3
import HandS.HeadEnd
import HandS.Ends
import HandS.Head0
import HandS.Head1
import HandS.Head2
import PySem.Challenge.RW_coinholes_k29_far_chains
-- Fx0
set_option Elab.async false
set_option linter.all false
set_option maxRecDepth 100000
set_option maxHeartbeats 2000000
/-! Fx0: data, what stands for it in the heap, the state of a def's body. -/
namespace Fx
open PySem PySem.Spec PyProof.Rows L2

/-- data -/
inductive D where
  | non | bl (b : Bool) | int (i : Int) | str (s : Str)
  | tup (xs : List D) | lst (xs : List D) | dic (t : Bool) (kvs : List (D × D))
  | ins (c : Str) (fs : List (Str × D))

/-- an exception: its class's name, its fields -/
structure Exn where
  c : Str
  fs : List (Str × D)

inductive R (α : Type) where
  | ok (a : α) | err (x : Exn) | bad
@[inline] def R.bind {α β : Type} (x : R α) (f : α → R β) : R β := match x with
  | .ok a => f a
  | .err x => .err x
  | .bad => .bad
@[simp] theorem R.bind_ok {α β : Type} (a : α) (f : α → R β) : (R.ok a).bind f = f a := rfl
@[simp] theorem R.bind_err {α β : Type} (x : Exn) (f : α → R β) : (R.err x : R α).bind f = .err x := rfl
@[simp] theorem R.bind_bad {α β : Type} (f : α → R β) : (R.bad : R α).bind f = .bad := rfl
theorem R.bind_is {α β : Type} {x : R α} {f : α → R β} {b : β} (h : x.bind f = .ok b) : ∃ a, x = .ok a ∧ f a = .ok b := by
  cases x with
  | ok a => exact ⟨a, rfl, h⟩
  | err x => cases h
  | bad => cases h

/-- what the names of the module stand for, the pins of the context -/
structure Sig where
  K : PySem.W.Frag
  mg : Str → Option Value

def Ex (H H' : Hp) : Prop := ∀ a o, H a = some o → H' a = some o
theorem Ex.refl (H : Hp) : Ex H H := fun _ _ h => h
theorem Ex.trans {H H1 H2 : Hp} (a : Ex H H1) (b : Ex H1 H2) : Ex H H2 := fun x o h => b x o (a x o h)
theorem Ex.new {H : Hp} {p : Addr} {o : HO} (h : H p = none) : Ex H (upd H p o) := fun a u e => by
  rw [upd_ne (ne_of_none e h)]
  exact e
/-- the heap without what is hidden -/
def hid (H : Hp) (G : Addr → Bool) : Hp := fun a => if G a = true then none else H a
theorem hid_no {H : Hp} {G : Addr → Bool} {a : Addr} (h : G a = false) : hid H G a = H a := by
  unfold hid
  rw [h, if_neg Bool.false_ne_true]
theorem hid_yes {H : Hp} {G : Addr → Bool} {a : Addr} (h : G a = true) : hid H G a = none := by
  unfold hid
  rw [if_pos h]
theorem hid_some {H : Hp} {G : Addr → Bool} {a : Addr} {o : HO} (h : hid H G a = some o) : G a = false ∧ H a = some o := by
  cases g : G a with
  | true => rw [hid_yes g] at h; cases h
  | false => rw [hid_no g] at h; exact ⟨rfl, h⟩
theorem hid_of {H : Hp} {G : Addr → Bool} {a : Addr} {o : HO} (g : G a = false) (h : H a = some o) : hid H G a = some o := by
  rw [hid_no g]; exact h
theorem hid_sub {H : Hp} {G : Addr → Bool} : Ex (hid H G) H := fun _ _ h => (hid_some h).2
theorem hid_ex {H H' : Hp} {G : Addr → Bool} (e : Ex H H') : Ex (hid H G) (hid H' G) := fun a o h => by
  obtain ⟨g, h⟩ := hid_some h
  exact hid_of g (e a o h)
theorem hid_anti {H : Hp} {G G' : Addr → Bool} (h : ∀ a, G' a = true → G a = true) : Ex (hid H G) (hid H G') := fun a o q => by
  obtain ⟨g, q⟩ := hid_some q
  refine hid_of ?_ q
  cases g' : G' a with
  | false => rfl
  | true => rw [h a g'] at g; cases g
def noG : Addr → Bool := fun _ => false
theorem hid_noG {H : Hp} : hid H noG = H := by
  funext a
  exact hid_no rfl
/-- an object that a body may change -/
def MutO : Option HO → Prop
  | some (.lst _) => True
  | some (.dK _) => True
  | some (.dT _) => True
  | _ => False

/-- the data of a key -/
def keyD : Key → D
  | .inl i => .int i
  | .inr x => .str x

inductive Rep (S : Sig) (H : Hp) : V → D → Prop
  | non : Rep S H .non .non
  | bl (b : Bool) : Rep S H (.bl b) (.bl b)
  | int (i : Int) : Rep S H (.int i) (.int i)
  | str (x : Str) : Rep S H (.str x) (.str x)
  | tup {a : Addr} {xs : List V} {ds : List D} : H a = some (.tup xs) → xs.length = ds.length → (∀ (i : Nat) (x : V) (d : D), xs[i]? = some x → ds[i]? = some d → Rep S H x d) → Rep S H (.ref a) (.tup ds)
  | lst {a : Addr} {xs : List V} {ds : List D} : Rd H a (.lst xs) → xs.length = ds.length → (∀ (i : Nat) (x : V) (d : D), xs[i]? = some x → ds[i]? = some d → Rep S H x d) → Rep S H (.ref a) (.lst ds)
  | dK {a : Addr} {kvs : List (Key × V)} {ds : List (D × D)} : H a = some (.dK kvs) → kvs.length = ds.length →
      (∀ (i : Nat) (k : Key) (x : V) (d e : D), kvs[i]? = some (k, x) → ds[i]? = some (d, e) → keyD k = d) → (∀ (i : Nat) (k : Key) (x : V) (d e : D), kvs[i]? = some (k, x) → ds[i]? = some (d, e) → Rep S H x e) → Rep S H (.ref a) (.dic false ds)
  | dT {a : Addr} {kvs : List (List Key × V)} {ds : List (D × D)} : H a = some (.dT kvs) → kvs.length = ds.length →
      (∀ (i : Nat) (k : List Key) (x : V) (d e : D), kvs[i]? = some (k, x) → ds[i]? = some (d, e) → D.tup (k.map keyD) = d) → (∀ (i : Nat) (k : List Key) (x : V) (d e : D), kvs[i]? = some (k, x) → ds[i]? = some (d, e) → Rep S H x e) → Rep S H (.ref a) (.dic true ds)
  | ins {a C dx : Addr} {c : Str} {fs : List (Str × V)} {ds : List (Str × D)} : H a = some (.ins C dx fs) → S.mg c = some (.ref C) → Cls S.K C → fs.length = ds.length →
      (∀ (i : Nat) (f g : Str) (x : V) (d : D), fs[i]? = some (f, x) → ds[i]? = some (g, d) → f = g) → (∀ (i : Nat) (f g : Str) (x : V) (d : D), fs[i]? = some (f, x) → ds[i]? = some (g, d) → Rep S H x d) → Rep S H (.ref a) (.ins c ds)

def Reps (S : Sig) (H : Hp) (xs : List V) (ds : List D) : Prop := xs.length = ds.length ∧ ∀ (i : Nat) (x : V) (d : D), xs[i]? = some x → ds[i]? = some d → Rep S H x d
/-- fields by name -/
def RepF (S : Sig) (H : Hp) (fs : List (Str × V)) (ds : List (Str × D)) : Prop := fs.length = ds.length ∧ (∀ (i : Nat) (f g : Str) (x : V) (d : D), fs[i]? = some (f, x) → ds[i]? = some (g, d) → f = g) ∧
  ∀ (i : Nat) (f g : Str) (x : V) (d : D), fs[i]? = some (f, x) → ds[i]? = some (g, d) → Rep S H x d

section
variable {S : Sig} {P : PX} {H H' : Hp}
theorem sqL_ex {K : PySem.W.Frag} {a : Addr} {xs : List V} (e : Ex H H') (h : SqL K H a xs) : SqL K H' a xs := by
  rcases h with (h | ⟨o, h⟩) | h
  · exact .inl (.inl (e _ _ h))
  · exact .inl (.inr ⟨o, e _ _ h⟩)
  · exact .inr h
theorem rd_ex {a : Addr} {u : HO} (e : Ex H H') (h : Rd H a u) : Rd H' a u := by
  rcases h with h | ⟨o, h⟩
  · exact .inl (e _ _ h)
  · exact .inr ⟨o, e _ _ h⟩
theorem sqT_ex {K : PySem.W.Frag} {a : Addr} {xs : List V} (e : Ex H H') (h : SqT K H a xs) : SqT K H' a xs := by
  rcases h with (h | ⟨o, h⟩) | h
  · exact .inl (.inl (e _ _ h))
  · exact .inl (.inr ⟨o, e _ _ h⟩)
  · exact .inr h
theorem Rep.ex (e : Ex H H') {v : V} {d : D} (h : Rep S H v d) : Rep S H' v d := by
  induction h with
  | non => exact .non
  | bl b => exact .bl b
  | int i => exact .int i
  | str x => exact .str x
  | tup hs hl _ ih => exact .tup (e _ _ hs) hl ih
  | lst hs hl _ ih => exact .lst (rd_ex e hs) hl ih
  | dK hs hl hk _ ih => exact .dK (e _ _ hs) hl hk ih
  | dT hs hl hk _ ih => exact .dT (e _ _ hs) hl hk ih
  | ins hs hc cl hl hk _ ih => exact .ins (e _ _ hs) hc cl hl hk ih
theorem Reps.ex (e : Ex H H') {xs : List V} {ds : List D} (h : Reps S H xs ds) : Reps S H' xs ds := ⟨h.1, fun i x d h1 h2 => (h.2 i x d h1 h2).ex e⟩
theorem Reps.nil : Reps S H [] [] := ⟨rfl, fun i x d h _ => by cases h⟩
theorem Reps.cons {x : V} {d : D} {xs : List V} {ds : List D} (h : Rep S H x d) (t : Reps S H xs ds) : Reps S H (x :: xs) (d :: ds) := ⟨by rw [List.length_cons, List.length_cons, t.1], fun i y e h1 h2 => by
  cases i with
  | zero => cases h1; cases h2; exact h
  | succ i => exact t.2 i y e h1 h2⟩
theorem Reps.head {x : V} {d : D} {xs : List V} {ds : List D} (h : Reps S H (x :: xs) (d :: ds)) : Rep S H x d := h.2 0 x d rfl rfl
theorem Reps.tail {x : V} {d : D} {xs : List V} {ds : List D} (h : Reps S H (x :: xs) (d :: ds)) : Reps S H xs ds := ⟨by have := h.1; simpa using this, fun i y e h1 h2 => h.2 (i + 1) y e h1 h2⟩
theorem Reps.append {xs ys : List V} {ds es : List D} (h : Reps S H xs ds) (t : Reps S H ys es) : Reps S H (xs ++ ys) (ds ++ es) := ⟨by rw [List.length_append, List.length_append, h.1, t.1], fun i y e h1 h2 => by
  by_cases q : i < xs.length
  · rw [List.getElem?_append_left q] at h1
    rw [List.getElem?_append_left (h.1 ▸ q)] at h2
    exact h.2 i y e h1 h2
  · rw [List.getElem?_append_right (Nat.le_of_not_lt q)] at h1
    rw [List.getElem?_append_right (by rw [← h.1]; exact Nat.le_of_not_lt q), ← h.1] at h2
    exact t.2 _ y e h1 h2⟩
theorem Reps.get {xs : List V} {ds : List D} {i : Nat} {d : D} (h : Reps S H xs ds) (q : ds[i]? = some d) : ∃ x, xs[i]? = some x ∧ Rep S H x d := by
  have hi : i < xs.length := by rw [h.1]; exact (List.getElem?_eq_some_iff.mp q).1
  exact ⟨xs[i], List.getElem?_eq_getElem hi, h.2 i _ d (List.getElem?_eq_getElem hi) q⟩
theorem Reps.getV {xs : List V} {ds : List D} {i : Nat} {x : V} (h : Reps S H xs ds) (q : xs[i]? = some x) : ∃ d, ds[i]? = some d ∧ Rep S H x d := by
  have hi : i < ds.length := by rw [← h.1]; exact (List.getElem?_eq_some_iff.mp q).1
  exact ⟨ds[i], List.getElem?_eq_getElem hi, h.2 i x _ q (List.getElem?_eq_getElem hi)⟩
theorem Reps.take {xs : List V} {ds : List D} (n : Nat) (h : Reps S H xs ds) : Reps S H (xs.take n) (ds.take n) := ⟨by rw [List.length_take, List.length_take, h.1], fun i x d h1 h2 => by
  rw [List.getElem?_take] at h1 h2
  split at h1
  · rename_i q
    rw [if_pos q] at h2
    exact h.2 i x d h1 h2
  · cases h1⟩
theorem Reps.drop {xs : List V} {ds : List D} (n : Nat) (h : Reps S H xs ds) : Reps S H (xs.drop n) (ds.drop n) := ⟨by rw [List.length_drop, List.length_drop, h.1], fun i x d h1 h2 => by
  rw [List.getElem?_drop] at h1 h2
  exact h.2 _ x d h1 h2⟩
theorem Reps.set {xs : List V} {ds : List D} {x : V} {d : D} (j : Nat) (h : Reps S H xs ds) (r : Rep S H x d) : Reps S H (xs.set j x) (ds.set j d) := ⟨by rw [List.length_set, List.length_set, h.1], fun i y e h1 h2 => by
  by_cases q : i = j
  · subst q
    by_cases hi : i < xs.length
    · rw [List.getElem?_set_self hi] at h1
      rw [List.getElem?_set_self (h.1 ▸ hi)] at h2
      cases h1; cases h2; exact r
    · rw [List.getElem?_eq_none (by rw [List.length_set]; omega)] at h1
      cases h1
  · rw [List.getElem?_set_ne (Ne.symm q)] at h1 h2
    exact h.2 i y e h1 h2⟩
theorem Reps.repl {x : V} {d : D} (n : Nat) (r : Rep S H x d) : Reps S H (List.replicate n x) (List.replicate n d) := ⟨by rw [List.length_replicate, List.length_replicate], fun i y e h1 h2 => by
  rw [List.getElem?_replicate] at h1 h2
  split at h1
  · rename_i q
    rw [if_pos q] at h2
    cases h1; cases h2; exact r
  · cases h1⟩
theorem Rep.mkT {a : Addr} {xs : List V} {ds : List D} (h : H a = some (.tup xs)) (r : Reps S H xs ds) : Rep S H (.ref a) (.tup ds) := .tup h r.1 r.2
theorem Rep.mkL {a : Addr} {xs : List V} {ds : List D} (h : Rd H a (.lst xs)) (r : Reps S H xs ds) : Rep S H (.ref a) (.lst ds) := .lst h r.1 r.2
/-- what stands for a datum, by its form -/
theorem Rep.is_int {v : V} {i : Int} (h : Rep S H v (.int i)) : v = .int i := by cases h; rfl
theorem Rep.is_bl {v : V} {b : Bool} (h : Rep S H v (.bl b)) : v = .bl b := by cases h; rfl
theorem Rep.is_non {v : V} (h : Rep S H v .non) : v = .non := by cases h; rfl
theorem Rep.is_str {v : V} {s : Str} (h : Rep S H v (.str s)) : v = .str s := by cases h; rfl
theorem Rep.is_tup {v : V} {ds : List D} (h : Rep S H v (.tup ds)) : ∃ a xs, v = .ref a ∧ H a = some (.tup xs) ∧ Reps S H xs ds := by
  cases h with
  | tup hs hl hr => exact ⟨_, _, rfl, hs, hl, hr⟩
theorem Rep.is_lst {v : V} {ds : List D} (h : Rep S H v (.lst ds)) : ∃ a xs, v = .ref a ∧ Rd H a (.lst xs) ∧ Reps S H xs ds := by
  cases h with
  | lst hs hl hr => exact ⟨_, _, rfl, hs, hl, hr⟩
theorem Reps.ints {ns : List Int} : ∀ {xs : List V}, Reps S H xs (ns.map D.int) → xs = ns.map V.int := fun {xs} h => by
  induction ns generalizing xs with
  | nil => cases xs with
    | nil => rfl
    | cons x xs => have := h.1; simp at this
  | cons n ns ih => cases xs with
    | nil => have := h.1; simp at this
    | cons x xs =>
      have e := (Reps.head (d := .int n) h).is_int
      rw [e, ih (Reps.tail (d := .int n) h)]
      rfl
theorem Reps.of_ints : ∀ (ns : List Int), Reps S H (ns.map V.int) (ns.map D.int)
  | [] => .nil
  | n :: ns => .cons (.int n) (Reps.of_ints ns)
end

/-! ### data without lists and dicts -/
mutual
def lf : D → Bool
  | .non => true
  | .bl _ => true
  | .int _ => true
  | .str _ => true
  | .tup ds => lfs ds
  | .lst _ => false
  | .dic _ _ => false
  | .ins _ fs => lff fs
def lfs : List D → Bool
  | [] => true
  | d :: ds => lf d && lfs ds
def lff : List (Str × D) → Bool
  | [] => true
  | p :: ds => lf p.2 && lff ds
end
theorem lfs_get : ∀ {ds : List D} {i : Nat} {d : D}, lfs ds = true → ds[i]? = some d → lf d = true
  | [], _, _, _, h => by cases h
  | e :: ds, 0, d, h, q => by
    cases q
    unfold lfs at h
    exact (Bool.and_eq_true_iff.mp h).1
  | e :: ds, i + 1, d, h, q => by
    unfold lfs at h
    exact lfs_get (Bool.and_eq_true_iff.mp h).2 (by simpa using q)
theorem lff_get : ∀ {ds : List (Str × D)} {i : Nat} {f : Str} {d : D}, lff ds = true → ds[i]? = some (f, d) → lf d = true
  | [], _, _, _, _, h => by cases h
  | e :: ds, 0, f, d, h, q => by
    cases q
    unfold lff at h
    exact (Bool.and_eq_true_iff.mp h).1
  | e :: ds, i + 1, f, d, h, q => by
    unfold lff at h
    exact lff_get (Bool.and_eq_true_iff.mp h).2 (by simpa using q)
theorem mutO_not {H : Hp} {G : Addr → Bool} (g : ∀ a, G a = true → MutO (H a)) {a : Addr} {o : HO} (h : H a = some o) (n : ¬ MutO (some o)) : hid H G a = some o := by
  cases q : G a with
  | false => exact hid_of q h
  | true =>
    have z := g a q
    rw [h] at z
    exact absurd z n
/-- data without lists do not see what is hidden -/
theorem Rep.lf {S : Sig} {H : Hp} {G : Addr → Bool} (g : ∀ a, G a = true → MutO (H a)) {v : V} {d : D} (h : Rep S H v d) : Fx.lf d = true → Rep S (hid H G) v d := by
  induction h with
  | non => exact fun _ => .non
  | bl b => exact fun _ => .bl b
  | int i => exact fun _ => .int i
  | str x => exact fun _ => .str x
  | tup hs hl _ ih =>
    intro q
    unfold Fx.lf at q
    exact .tup (mutO_not g hs fun z => z) hl fun i x d h1 h2 => ih i x d h1 h2 (lfs_get q h2)
  | lst hs hl _ ih => intro q; unfold Fx.lf at q; cases q
  | dK hs hl hk _ ih => intro q; unfold Fx.lf at q; cases q
  | dT hs hl hk _ ih => intro q; unfold Fx.lf at q; cases q
  | @ins a C dx c fs ds hs hc cl hl hk _ ih =>
    intro q
    unfold Fx.lf at q
    exact .ins (dx := dx) (mutO_not g hs fun z => z) hc cl hl hk fun i f g' x d h1 h2 => ih i f g' x d h1 h2 (lff_get q h2)

/-! ### the state of a body -/
/-- an exception: its class, its own dict -/
def RepX (S : Sig) (H : Hp) (cls : Value) (dd : Option Addr) (x : Exn) : Prop :=
  ∃ C, cls = .ref C ∧ S.mg x.c = some (.ref C) ∧ ((x.fs = [] ∧ dd = none) ∨ ∃ a fs, dd = some a ∧ H a = some (.xd fs) ∧ RepF S H fs x.fs)
theorem RepX.ex {S : Sig} {H H' : Hp} {cls : Value} {dd : Option Addr} {x : Exn} (e : Ex H H') (h : RepX S H cls dd x) : RepX S H' cls dd x := by
  obtain ⟨C, a, b, h⟩ := h
  refine ⟨C, a, b, ?_⟩
  rcases h with h | ⟨p, fs, q, r, l, n, z⟩
  · exact .inl h
  · exact .inr ⟨p, fs, q, e _ _ r, l, n, fun i f g x d h1 h2 => (z i f g x d h1 h2).ex e⟩

abbrev PX := Addr → Value → Option Addr → Prop
inductive Sl where
  | no | val (d : D) | lst (ds : List D) | dic (t : Bool) (kvs : List (D × D)) | exc (x : Exn)
abbrev Env := List Sl
/-- the def's entry: the heap, what the callers hide -/
structure Bs where
  H : Hp
  G : Addr → Bool
/-- a dict's object -/
def DicAt (S : Sig) (H : Hp) (o : HO) : Bool → List (D × D) → Prop
  | false, ds => ∃ kvs : List (Key × V), o = .dK kvs ∧ kvs.length = ds.length ∧ ∀ (i : Nat) (k : Key) (x : V) (d e : D), kvs[i]? = some (k, x) → ds[i]? = some (d, e) → keyD k = d ∧ Rep S H x e
  | true, ds => ∃ kvs : List (List Key × V), o = .dT kvs ∧ kvs.length = ds.length ∧ ∀ (i : Nat) (k : List Key) (x : V) (d e : D), kvs[i]? = some (k, x) → ds[i]? = some (d, e) → D.tup (k.map keyD) = d ∧ Rep S H x e
theorem DicAt.ex {S : Sig} {H H' : Hp} (e : Ex H H') {o : HO} {t : Bool} {ds : List (D × D)} (h : DicAt S H o t ds) : DicAt S H' o t ds := by
  cases t <;> exact (let ⟨kvs, a, b, c⟩ := h; ⟨kvs, a, b, fun i k x d e' h1 h2 => ⟨(c i k x d e' h1 h2).1, (c i k x d e' h1 h2).2.ex e⟩⟩)
theorem DicAt.rep {S : Sig} {H : Hp} {p : Addr} {o : HO} {t : Bool} {ds : List (D × D)} (h : DicAt S H o t ds) (hp : H p = some o) : Rep S H (.ref p) (.dic t ds) := by
  cases t
  · obtain ⟨kvs, rfl, b, c⟩ := h
    exact .dK hp b (fun i k x d e h1 h2 => (c i k x d e h1 h2).1) fun i k x d e h1 h2 => (c i k x d e h1 h2).2
  · obtain ⟨kvs, rfl, b, c⟩ := h
    exact .dT hp b (fun i k x d e h1 h2 => (c i k x d e h1 h2).1) fun i k x d e h1 h2 => (c i k x d e h1 h2).2
theorem DicAt.mut {S : Sig} {H : Hp} {o : HO} {t : Bool} {ds : List (D × D)} (h : DicAt S H o t ds) : MutO (some o) := by
  cases t <;> (obtain ⟨kvs, rfl, b, c⟩ := h; exact True.intro)
/-- an own slot's object -/
def OwnAt (S : Sig) (H : Hp) (G : Addr → Bool) (p : Addr) : Sl → Prop
  | .no => False
  | .val _ => False
  | .exc _ => False
  | .lst ds => ∃ xs, H p = some (.lst xs) ∧ Reps S (hid H G) xs ds
  | .dic t kvs => ∃ o, H p = some o ∧ DicAt S (hid H G) o t kvs
def Own : Sl → Bool
  | .lst _ => true
  | .dic _ _ => true
  | _ => false
structure Sts (S : Sig) (P : PX) (B : Bs) (G : Addr → Bool) (ρ : Env) (σ : L2.St) (H : Hp) : Prop where
  ex : Ex B.H H
  bg : ∀ a, B.G a = true → ∃ o, B.H a = some o
  gb : ∀ a, B.G a = true → G a = true
  gm : ∀ a, G a = true → MutO (H a)
  len : ρ.length = σ.length
  val : ∀ (i : Nat) (d : D), ρ[i]? = some (.val d) → ∃ v, σ[i]? = some (some v) ∧ Rep S (hid H G) v d
  own : ∀ (i : Nat) (s : Sl), ρ[i]? = some s → Own s = true → ∃ p, σ[i]? = some (some (.ref p)) ∧ G p = true ∧ B.H p = none ∧ OwnAt S H G p s
  sep : ∀ (i j : Nat) (s t : Sl) (p : Addr), ρ[i]? = some s → ρ[j]? = some t → Own s = true → Own t = true → σ[i]? = some (some (.ref p)) → σ[j]? = some (some (.ref p)) → i = j
  exc : ∀ (i : Nat) (x : Exn), ρ[i]? = some (.exc x) → ∃ a cls dd, σ[i]? = some (some (.ref a)) ∧ P a cls dd ∧ RepX S (hid H G) cls dd x
theorem OwnAt.mono {S : Sig} {H H' : Hp} {G G' : Addr → Bool} {p : Addr} {s : Sl} (h : OwnAt S H G p s) (hp : H' p = H p) (e : Ex (hid H G) (hid H' G')) : OwnAt S H' G' p s := by
  cases s with
  | no => exact h
  | val d => exact h
  | exc x => exact h
  | lst ds =>
    obtain ⟨xs, a, b⟩ := h
    exact ⟨xs, hp.trans a, b.ex e⟩
  | dic t kvs =>
    obtain ⟨o, a, b⟩ := h
    exact ⟨o, hp.trans a, b.ex e⟩
theorem OwnAt.some {S : Sig} {H : Hp} {G : Addr → Bool} {p : Addr} {s : Sl} (h : OwnAt S H G p s) : ∃ o, H p = some o ∧ MutO (some o) := by
  cases s with
  | no => exact h.elim
  | val d => exact h.elim
  | exc x => exact h.elim
  | lst ds =>
    obtain ⟨xs, a, b⟩ := h
    exact ⟨_, a, True.intro⟩
  | dic t kvs =>
    obtain ⟨o, a, b⟩ := h
    exact ⟨o, a, b.mut⟩
theorem Own.not_val {s : Sl} {d : D} (h : Own s = true) : s ≠ .val d := by
  rintro rfl
  cases h
section
variable {S : Sig} {P : PX} {B : Bs} {G G' : Addr → Bool} {ρ : Env} {σ : L2.St} {H H' : Hp}
theorem Sts.excs (I : Sts S P B G ρ σ H) {i : Nat} {t : Sl} {σ' : L2.St} (ht : ∀ x, t ≠ .exc x) (hσ : ∀ j, j ≠ i → σ'[j]? = σ[j]?) (e : Ex (hid H G) (hid H' G')) :
    ∀ (j : Nat) (x : Exn), (ρ.set i t)[j]? = some (.exc x) → ∃ a cls dd, σ'[j]? = some (some (.ref a)) ∧ P a cls dd ∧ RepX S (hid H' G') cls dd x := fun j x h => by
  by_cases q : j = i
  · subst q
    have hl : j < ρ.length := by
      have := (List.getElem?_eq_some_iff.mp h).1
      rwa [List.length_set] at this
    rw [List.getElem?_set_self hl] at h
    exact absurd (Option.some.inj h) (ht x)
  · rw [List.getElem?_set_ne (Ne.symm q)] at h
    obtain ⟨a, cls, dd, h1, h2, h3⟩ := I.exc j x h
    exact ⟨a, cls, dd, by rw [hσ j q]; exact h1, h2, h3.ex e⟩
theorem set_off {α : Type} {l : List α} {i : Nat} {v : α} : ∀ j, j ≠ i → (l.set i v)[j]? = l[j]? := fun j h => List.getElem?_set_ne (Ne.symm h)
theorem ne_exc_val {d : D} : ∀ x, Sl.val d ≠ .exc x := fun x h => by cases h
theorem ne_exc_no : ∀ x, Sl.no ≠ .exc x := fun x h => by cases h
theorem ne_exc_own {s : Sl} (h : Own s = true) : ∀ x, s ≠ .exc x := fun x e => by subst e; cases h
/-- the heap has grown -/
theorem Sts.grow (I : Sts S P B G ρ σ H) (e : Ex H H') : Sts S P B G ρ σ H' where
  ex := I.ex.trans e
  bg := I.bg
  gb := I.gb
  gm := fun a g => by
    have z := I.gm a g
    cases q : H a with
    | none => rw [q] at z; exact z.elim
    | some o => rw [q] at z; rw [e a o q]; exact z
  len := I.len
  val := fun i d h => by
    obtain ⟨v, a, b⟩ := I.val i d h
    exact ⟨v, a, b.ex (hid_ex e)⟩
  own := fun i s h o => by
    obtain ⟨p, a, b, c, d⟩ := I.own i s h o
    obtain ⟨u, hu, _⟩ := d.some
    exact ⟨p, a, b, c, d.mono ((e p u hu).trans hu.symm) (hid_ex e)⟩
  sep := I.sep
  exc := fun i x h => by
    obtain ⟨a, cls, dd, h1, h2, h3⟩ := I.exc i x h
    exact ⟨a, cls, dd, h1, h2, h3.ex (hid_ex e)⟩
/-- a slot takes a datum -/
theorem Sts.setVal (I : Sts S P B G ρ σ H) {i : Nat} {v : V} {d : D} (r : Rep S (hid H G) v d) : Sts S P B G (ρ.set i (.val d)) (σ.set i (some v)) H where
  exc := I.excs ne_exc_val set_off (Ex.refl _)
  ex := I.ex
  bg := I.bg
  gb := I.gb
  gm := I.gm
  len := by rw [List.length_set, List.length_set, I.len]
  val := fun j e h => by
    by_cases q : j = i
    · subst q
      have hl : j < ρ.length := by
        have := (List.getElem?_eq_some_iff.mp h).1
        rwa [List.length_set] at this
      rw [List.getElem?_set_self hl] at h
      cases h
      exact ⟨v, by rw [List.getElem?_set_self (I.len ▸ hl)], r⟩
    · rw [List.getElem?_set_ne (Ne.symm q)] at h
      obtain ⟨w, a, b⟩ := I.val j e h
      exact ⟨w, by rw [List.getElem?_set_ne (Ne.symm q)]; exact a, b⟩
  own := fun j s h o => by
    by_cases q : j = i
    · subst q
      have hl : j < ρ.length := by
        have := (List.getElem?_eq_some_iff.mp h).1
        rwa [List.length_set] at this
      rw [List.getElem?_set_self hl] at h
      cases h
      cases o
    · rw [List.getElem?_set_ne (Ne.symm q)] at h
      obtain ⟨p, a, b⟩ := I.own j s h o
      exact ⟨p, by rw [List.getElem?_set_ne (Ne.symm q)]; exact a, b⟩
  sep := fun j k s t p h1 h2 o1 o2 a1 a2 => by
    have nj : ∀ {m : Nat} {u : Sl}, (ρ.set i (.val d))[m]? = some u → Own u = true → m ≠ i := fun {m u} h o q => by
      subst q
      have hl : m < ρ.length := by
        have := (List.getElem?_eq_some_iff.mp h).1
        rwa [List.length_set] at this
      rw [List.getElem?_set_self hl] at h
      cases h
      cases o
    have n1 := nj h1 o1
    have n2 := nj h2 o2
    rw [List.getElem?_set_ne (Ne.symm n1)] at h1 a1
    rw [List.getElem?_set_ne (Ne.symm n2)] at h2 a2
    exact I.sep j k s t p h1 h2 o1 o2 a1 a2
/-- a slot is emptied -/
theorem Sts.setNo (I : Sts S P B G ρ σ H) {i : Nat} {o : Option V} : Sts S P B G (ρ.set i .no) (σ.set i o) H where
  exc := I.excs ne_exc_no set_off (Ex.refl _)
  ex := I.ex
  bg := I.bg
  gb := I.gb
  gm := I.gm
  len := by rw [List.length_set, List.length_set, I.len]
  val := fun j e h => by
    by_cases q : j = i
    · subst q
      have hl : j < ρ.length := by
        have := (List.getElem?_eq_some_iff.mp h).1
        rwa [List.length_set] at this
      rw [List.getElem?_set_self hl] at h
      cases h
    · rw [List.getElem?_set_ne (Ne.symm q)] at h
      obtain ⟨w, a, b⟩ := I.val j e h
      exact ⟨w, by rw [List.getElem?_set_ne (Ne.symm q)]; exact a, b⟩
  own := fun j s h o => by
    by_cases q : j = i
    · subst q
      have hl : j < ρ.length := by
        have := (List.getElem?_eq_some_iff.mp h).1
        rwa [List.length_set] at this
      rw [List.getElem?_set_self hl] at h
      cases h
      cases o
    · rw [List.getElem?_set_ne (Ne.symm q)] at h
      obtain ⟨p, a, b⟩ := I.own j s h o
      exact ⟨p, by rw [List.getElem?_set_ne (Ne.symm q)]; exact a, b⟩
  sep := fun j k s t p h1 h2 o1 o2 a1 a2 => by
    have nj : ∀ {m : Nat} {u : Sl}, (ρ.set i .no)[m]? = some u → Own u = true → m ≠ i := fun {m u} h o q => by
      subst q
      have hl : m < ρ.length := by
        have := (List.getElem?_eq_some_iff.mp h).1
        rwa [List.length_set] at this
      rw [List.getElem?_set_self hl] at h
      cases h
      cases o
    have n1 := nj h1 o1
    have n2 := nj h2 o2
    rw [List.getElem?_set_ne (Ne.symm n1)] at h1 a1
    rw [List.getElem?_set_ne (Ne.symm n2)] at h2 a2
    exact I.sep j k s t p h1 h2 o1 o2 a1 a2
/-- one more address is hidden -/
def addG (G : Addr → Bool) (p : Addr) : Addr → Bool := fun a => if a = p then true else G a
def delG (G : Addr → Bool) (p : Addr) : Addr → Bool := fun a => if a = p then false else G a
theorem addG_self {p : Addr} : addG G p p = true := if_pos rfl
theorem addG_ne {p a : Addr} (h : a ≠ p) : addG G p a = G a := if_neg h
theorem delG_self {p : Addr} : delG G p p = false := if_pos rfl
theorem delG_ne {p a : Addr} (h : a ≠ p) : delG G p a = G a := if_neg h
theorem addG_sub {p : Addr} : ∀ a, G a = true → addG G p a = true := fun a h => by
  unfold addG
  split
  · rfl
  · exact h
/-- what stood ahead of a new object is seen though the object is hidden -/
theorem hid_addG {p : Addr} (h : H p = none) (e : Ex H H') : Ex (hid H G) (hid H' (addG G p)) := fun a o q => by
  obtain ⟨g, q⟩ := hid_some q
  have ne : a ≠ p := fun z => by rw [z, h] at q; cases q
  exact hid_of (by rw [addG_ne ne]; exact g) (e a o q)
/-- a slot takes a new object as its own: I is the state ahead of the making -/
theorem Sts.setOwn (I : Sts S P B G ρ σ H) (e : Ex H H') {i : Nat} {p : Addr} {s : Sl} (hp : H p = none) (ho : Own s = true) (r : OwnAt S H' (addG G p) p s) : Sts S P B (addG G p) (ρ.set i s) (σ.set i (some (.ref p))) H' where
  exc := I.excs (ne_exc_own ho) set_off (hid_addG hp e)
  ex := I.ex.trans e
  bg := I.bg
  gb := fun a h => addG_sub a (I.gb a h)
  gm := fun a g => by
    by_cases q : a = p
    · subst q
      obtain ⟨o, h1, h2⟩ := r.some
      rw [h1]
      exact h2
    · rw [addG_ne q] at g
      exact (I.grow e).gm a g
  len := by rw [List.length_set, List.length_set, I.len]
  val := fun j d h => by
    by_cases q : j = i
    · subst q
      have hl : j < ρ.length := by
        have := (List.getElem?_eq_some_iff.mp h).1
        rwa [List.length_set] at this
      rw [List.getElem?_set_self hl] at h
      cases h
      cases ho
    · rw [List.getElem?_set_ne (Ne.symm q)] at h
      obtain ⟨w, a, b⟩ := I.val j d h
      exact ⟨w, by rw [List.getElem?_set_ne (Ne.symm q)]; exact a, b.ex (hid_addG hp e)⟩
  own := fun j t h o => by
    by_cases q : j = i
    · subst q
      have hl : j < ρ.length := by
        have := (List.getElem?_eq_some_iff.mp h).1
        rwa [List.length_set] at this
      rw [List.getElem?_set_self hl] at h
      cases h
      refine ⟨p, by rw [List.getElem?_set_self (I.len ▸ hl)], addG_self, ?_, r⟩
      cases z : B.H p with
      | none => rfl
      | some o =>
        rw [I.ex p o z] at hp
        cases hp
    · rw [List.getElem?_set_ne (Ne.symm q)] at h
      obtain ⟨p', a, b, c, d⟩ := I.own j t h o
      obtain ⟨u, hu, _⟩ := d.some
      exact ⟨p', by rw [List.getElem?_set_ne (Ne.symm q)]; exact a, addG_sub _ b, c, d.mono ((e p' u hu).trans hu.symm) (hid_addG hp e)⟩
  sep := fun j k t u p' h1 h2 o1 o2 a1 a2 => by
    have at_ : ∀ {m : Nat} {z : Sl}, m ≠ i → (ρ.set i s)[m]? = some z → Own z = true → (σ.set i (some (V.ref p)))[m]? ≠ some (some (.ref p)) := fun {m z} hm h o q => by
      rw [List.getElem?_set_ne (Ne.symm hm)] at h q
      obtain ⟨p2, a, _, _, d⟩ := I.own m z h o
      obtain ⟨u, hu, _⟩ := d.some
      rw [q] at a
      cases a
      rw [hp] at hu
      cases hu
    have self : ∀ {m : Nat} {z : Sl}, m = i → (ρ.set i s)[m]? = some z → (σ.set i (some (V.ref p)))[m]? = some (some (.ref p)) := fun {m z} hm h => by
      subst hm
      have hl : m < ρ.length := by
        have := (List.getElem?_eq_some_iff.mp h).1
        rwa [List.length_set] at this
      rw [List.getElem?_set_self (I.len ▸ hl)]
    by_cases q1 : j = i
    · by_cases q2 : k = i
      · rw [q1, q2]
      · exfalso
        have z := self q1 h1
        rw [a1] at z
        have z' : V.ref p' = V.ref p := Option.some.inj (Option.some.inj z)
        rw [z'] at a2
        exact at_ q2 h2 o2 a2
    · by_cases q2 : k = i
      · exfalso
        have z := self q2 h2
        rw [a2] at z
        have z' : V.ref p' = V.ref p := Option.some.inj (Option.some.inj z)
        rw [z'] at a1
        exact at_ q1 h1 o1 a1
      · rw [List.getElem?_set_ne (Ne.symm q1)] at h1 a1
        rw [List.getElem?_set_ne (Ne.symm q2)] at h2 a2
        exact I.sep j k t u p' h1 h2 o1 o2 a1 a2
/-- an own object is changed -/
theorem Sts.write (I : Sts S P B G ρ σ H) {i : Nat} {p : Addr} {s t : Sl} {o : HO} (h : ρ[i]? = some s) (ho : Own s = true) (hσ : σ[i]? = some (some (.ref p))) (ht : Own t = true) (r : ∀ H', (∀ a, a ≠ p → H' a = H a) → H' p = some o → Ex (hid H G) (hid H' G) → OwnAt S H' G p t) :
    Sts S P B G (ρ.set i t) σ (upd H p o) := by
  obtain ⟨p0, a0, g0, b0, w0⟩ := I.own i s h ho
  rw [hσ] at a0
  cases a0
  have hne : ∀ a, a ≠ p → upd H p o a = H a := fun a q => upd_ne q
  have ex : Ex (hid H G) (hid (upd H p o) G) := fun a u q => by
    obtain ⟨g, q⟩ := hid_some q
    have ne : a ≠ p := fun z => by rw [z, g0] at g; cases g
    exact hid_of g ((hne a ne).trans q)
  have rt := r (upd H p o) hne upd_same ex
  have hl : i < ρ.length := (List.getElem?_eq_some_iff.mp h).1
  refine ⟨fun a u q => ?_, I.bg, I.gb, fun a g => ?_, by rw [List.length_set, I.len], fun j d q => ?_, fun j u q ou => ?_, fun j k u w p' h1 h2 o1 o2 a1 a2 => ?_, I.excs (ne_exc_own ht) (fun _ _ => rfl) ex⟩
  · have ne : a ≠ p := fun z => by rw [z, b0] at q; cases q
    rw [hne a ne]
    exact I.ex a u q
  · by_cases q : a = p
    · subst q
      obtain ⟨z, z1, z2⟩ := rt.some
      rw [z1]
      exact z2
    · rw [hne a q]
      exact I.gm a g
  · by_cases z : j = i
    · subst z
      rw [List.getElem?_set_self hl] at q
      cases q
      cases ht
    · rw [List.getElem?_set_ne (Ne.symm z)] at q
      obtain ⟨v, a, b⟩ := I.val j d q
      exact ⟨v, a, b.ex ex⟩
  · by_cases z : j = i
    · subst z
      rw [List.getElem?_set_self hl] at q
      cases q
      exact ⟨p, hσ, g0, b0, rt⟩
    · rw [List.getElem?_set_ne (Ne.symm z)] at q
      obtain ⟨p', a, b, c, d⟩ := I.own j u q ou
      have ne : p' ≠ p := fun e => by
        subst e
        exact z (I.sep j i u s p' q h ou ho a hσ)
      exact ⟨p', a, b, c, d.mono (hne p' ne) ex⟩
  · have back : ∀ {m : Nat} {z : Sl}, (ρ.set i t)[m]? = some z → Own z = true → ∃ z', ρ[m]? = some z' ∧ Own z' = true := fun {m z} q oz => by
      by_cases e : m = i
      · subst e
        exact ⟨s, h, ho⟩
      · rw [List.getElem?_set_ne (Ne.symm e)] at q
        exact ⟨z, q, oz⟩
    obtain ⟨u', q1, o1'⟩ := back h1 o1
    obtain ⟨w', q2, o2'⟩ := back h2 o2
    exact I.sep j k u' w' p' q1 q2 o1' o2' a1 a2
/-- an own list, an own dict is let go: from now on it is shared and stays -/
theorem Sts.freeze (I : Sts S P B G ρ σ H) {i : Nat} {p : Addr} {s : Sl} {d : D} (h : ρ[i]? = some s) (ho : Own s = true) (hσ : σ[i]? = some (some (.ref p))) (hd : Rep S (hid H (delG G p)) (.ref p) d) : Sts S P B (delG G p) (ρ.set i (.val d)) σ H := by
  have hB : B.G p = false := by
    obtain ⟨p0, a0, g0, b0, w0⟩ := I.own i s h ho
    rw [hσ] at a0
    cases a0
    cases z : B.G p with
    | false => rfl
    | true =>
      obtain ⟨o, q⟩ := I.bg p z
      rw [b0] at q
      cases q
  have hl : i < ρ.length := (List.getElem?_eq_some_iff.mp h).1
  have sub : ∀ a, delG G p a = true → G a = true := fun a q => by
    unfold delG at q
    split at q
    · cases q
    · exact q
  have ex : Ex (hid H G) (hid H (delG G p)) := hid_anti sub
  refine ⟨I.ex, I.bg, fun a q => ?_, fun a g => I.gm a (sub a g), by rw [List.length_set, I.len], fun j e q => ?_, fun j u q ou => ?_, fun j k u w p' h1 h2 o1 o2 a1 a2 => ?_, I.excs ne_exc_val (fun _ _ => rfl) ex⟩
  · have ne : a ≠ p := fun z => by rw [z, hB] at q; cases q
    rw [delG_ne ne]
    exact I.gb a q
  · by_cases z : j = i
    · subst z
      rw [List.getElem?_set_self hl] at q
      cases q
      exact ⟨_, hσ, hd⟩
    · rw [List.getElem?_set_ne (Ne.symm z)] at q
      obtain ⟨v, a, b⟩ := I.val j e q
      exact ⟨v, a, b.ex ex⟩
  · by_cases z : j = i
    · subst z
      rw [List.getElem?_set_self hl] at q
      cases q
      cases ou
    · rw [List.getElem?_set_ne (Ne.symm z)] at q
      obtain ⟨p', a, b, c, w⟩ := I.own j u q ou
      have ne : p' ≠ p := fun e => by
        subst e
        exact z (I.sep j i u s p' q h ou ho a hσ)
      exact ⟨p', a, by rw [delG_ne ne]; exact b, c, w.mono rfl ex⟩
  · have back : ∀ {m : Nat} {z : Sl}, (ρ.set i (.val d))[m]? = some z → Own z = true → ρ[m]? = some z := fun {m z} q oz => by
      by_cases e : m = i
      · subst e
        rw [List.getElem?_set_self hl] at q
        cases q
        cases oz
      · rw [List.getElem?_set_ne (Ne.symm e)] at q
        exact q
    exact I.sep j k u w p' (back h1 o1) (back h2 o2) o1 o2 a1 a2
/-- an own slot as a datum, seen with its object -/
def Sl.d : Sl → D
  | .no => .non
  | .val d => d
  | .exc _ => .non
  | .lst ds => .lst ds
  | .dic t kvs => .dic t kvs
theorem delG_sub {p : Addr} : ∀ a, delG G p a = true → G a = true := fun a q => by
  unfold delG at q
  split at q
  · cases q
  · exact q
theorem OwnAt.rep {p : Addr} {s : Sl} (h : OwnAt S H G p s) : Rep S (hid H (delG G p)) (.ref p) s.d := by
  have ex : Ex (hid H G) (hid H (delG G p)) := hid_anti delG_sub
  cases s with
  | no => exact h.elim
  | val d => exact h.elim
  | exc x => exact h.elim
  | lst ds =>
    obtain ⟨xs, a, b⟩ := h
    exact .mkL (Rd.of (hid_of delG_self a)) (b.ex ex)
  | dic t kvs =>
    obtain ⟨o, a, b⟩ := h
    exact (b.ex ex).rep (hid_of delG_self a)
end
end Fx

-- Fx1
set_option Elab.async false
set_option linter.all false
set_option maxRecDepth 100000
set_option maxHeartbeats 2000000
/-! Fx1: expressions. -/
namespace Fx
open PySem PySem.Spec PyProof.Rows L2

abbrev ME := Env → R D
abbrev MA := Env → R (List D)
abbrev MT := Env → R Bool
abbrev sg (X : Cx) : Sig := ⟨X.K, X.mg⟩
/-- the exceptions that the context bears -/
def pinP (pn : List (Addr × Obj)) : PX := fun a cls dd => ∃ oe, (a, oe) ∈ pn ∧ oe.cls = cls ∧ oe.dict = dd ∧ ∃ vs, oe.data = .fields vs
abbrev pp (X : Cx) : PX := pinP (X.pn.take 1)
def R.of {α : Type} : Option α → R α
  | some a => .ok a
  | none => .bad
@[simp] theorem R.of_some {α : Type} (a : α) : R.of (some a) = .ok a := rfl
@[simp] theorem R.of_none {α : Type} : R.of (none : Option α) = .bad := rfl
theorem R.of_err {α : Type} {o : Option α} {x : Exn} : R.of o ≠ .err x := by cases o <;> intro h <;> cases h

/-- clean, or an own object with clean entries -/
def RepC (S : Sig) (H : Hp) (G : Addr → Bool) : Bool → V → D → Prop
  | true, v, d => Rep S (hid H G) v d
  | false, v, d => Rep S (hid H G) v d ∨ ∃ a s, v = .ref a ∧ s.d = d ∧ G a = true ∧ OwnAt S H G a s
section
variable {S : Sig} {P : PX} {H H' : Hp} {G : Addr → Bool} {c : Bool} {v : V} {d : D}
theorem RepC.weak (h : RepC S H G c v d) : RepC S H G false v d := by
  cases c with
  | true => exact .inl h
  | false => exact h
theorem RepC.full (h : RepC S H G c v d) : Rep S H v d := by
  rcases h.weak with h | ⟨a, s, rfl, rfl, g, w⟩
  · exact h.ex hid_sub
  · exact w.rep.ex hid_sub
theorem RepC.grow (e : Ex H H') (h : RepC S H G c v d) : RepC S H' G c v d := by
  cases c with
  | true => exact Rep.ex (hid_ex e) h
  | false =>
    rcases h with h | ⟨a, s, rfl, rfl, g, w⟩
    · exact .inl (h.ex (hid_ex e))
    · obtain ⟨o, ho, _⟩ := w.some
      exact .inr ⟨a, s, rfl, rfl, g, w.mono ((e a o ho).trans ho.symm) (hid_ex e)⟩
theorem RepC.clean (h : RepC S H G c v d) (l : lf d = true) : Rep S (hid H G) v d := by
  rcases h.weak with h | ⟨a, s, rfl, rfl, g, w⟩
  · exact h
  · cases s with
    | no => exact w.elim
    | val d => exact w.elim
    | exc x => exact w.elim
    | lst ds => unfold Sl.d Fx.lf at l; cases l
    | dic t kvs => unfold Sl.d Fx.lf at l; cases l
theorem RepC.list {ds : List D} (h : RepC S H G c v (.lst ds)) : ∃ a xs, v = .ref a ∧ Rd H a (.lst xs) ∧ Reps S (hid H G) xs ds := by
  rcases h.weak with h | ⟨a, s, rfl, e, g, w⟩
  · obtain ⟨a, xs, rfl, r, q⟩ := h.is_lst
    exact ⟨a, xs, rfl, rd_ex hid_sub r, q⟩
  · cases s with
    | no => exact w.elim
    | val d => exact w.elim
    | exc x => exact w.elim
    | lst es =>
      cases e
      obtain ⟨xs, p, q⟩ := w
      exact ⟨a, xs, rfl, Rd.of p, q⟩
    | dic t kvs => cases e
theorem RepC.tuple {ds : List D} (h : RepC S H G c v (.tup ds)) : ∃ a xs, v = .ref a ∧ H a = some (.tup xs) ∧ Reps S (hid H G) xs ds := by
  rcases h.weak with h | ⟨a, s, rfl, e, g, w⟩
  · obtain ⟨a, xs, rfl, r, q⟩ := h.is_tup
    exact ⟨a, xs, rfl, hid_sub _ _ r, q⟩
  · cases s with
    | no => exact w.elim
    | val d => exact w.elim
    | exc x => exact w.elim
    | lst es => cases e
    | dic t kvs => cases e
theorem RepC.dict {t : Bool} {ds : List (D × D)} (h : RepC S H G c v (.dic t ds)) : ∃ a o, v = .ref a ∧ H a = some o ∧ DicAt S (hid H G) o t ds := by
  rcases h.weak with h | ⟨a, s, rfl, e, g, w⟩
  · cases h with
    | dK ho hl hk hr => exact ⟨_, _, rfl, hid_sub _ _ ho, ⟨_, rfl, hl, fun i k x d e h1 h2 => ⟨hk i k x d e h1 h2, hr i k x d e h1 h2⟩⟩⟩
    | dT ho hl hk hr => exact ⟨_, _, rfl, hid_sub _ _ ho, ⟨_, rfl, hl, fun i k x d e h1 h2 => ⟨hk i k x d e h1 h2, hr i k x d e h1 h2⟩⟩⟩
  · cases s with
    | no => exact w.elim
    | val d => exact w.elim
    | exc x => exact w.elim
    | lst es => cases e
    | dic t kvs =>
      cases e
      obtain ⟨o, p, q⟩ := w
      exact ⟨a, o, rfl, p, q⟩
end

def SndE (S : Sig) (P : PX) (W : WX) (c : Bool) (t : TE) (m : ME) : Prop :=
  ∀ (B : Bs) (G : Addr → Bool) (ρ : Env) (σ : L2.St) (H : Hp) (Q : VK), Sts S P B G ρ σ H → m ρ ≠ .bad → (∀ d, m ρ = .ok d → ∀ v H', Ex H H' → RepC S H' G c v d → Q v H') →
    (∀ x, m ρ = .err x → ∀ cls dd H', Ex H H' → RepX S (hid H' G) cls dd x → W cls dd σ H') → t σ H Q
def SndT (S : Sig) (P : PX) (W : WX) (t : TT) (m : MT) : Prop :=
  ∀ (B : Bs) (G : Addr → Bool) (ρ : Env) (σ : L2.St) (H : Hp) (Q : Bool → Hp → Prop), Sts S P B G ρ σ H → m ρ ≠ .bad → (∀ d, m ρ = .ok d → ∀ H', Ex H H' → Q d H') →
    (∀ x, m ρ = .err x → ∀ cls dd H', Ex H H' → RepX S (hid H' G) cls dd x → W cls dd σ H') → t σ H Q
def SndA (S : Sig) (P : PX) (W : WX) (c : Bool) (n : Nat) (t : TA) (m : MA) : Prop :=
  ∀ (B : Bs) (G : Addr → Bool) (ρ : Env) (σ : L2.St) (H : Hp) (Q : List V → Hp → Prop), Sts S P B G ρ σ H → m ρ ≠ .bad →
    (∀ ds, m ρ = .ok ds → ∀ vs H', Ex H H' → vs.length = n → vs.length = ds.length → (∀ (i : Nat) (v : V) (d : D), vs[i]? = some v → ds[i]? = some d → RepC S H' G c v d) → Q vs H') →
    (∀ x, m ρ = .err x → ∀ cls dd H', Ex H H' → RepX S (hid H' G) cls dd x → W cls dd σ H') → t σ H Q
/-- an expression that makes a list of its own -/
def SndF (S : Sig) (P : PX) (W : WX) (t : TE) (m : ME) : Prop :=
  ∀ (B : Bs) (G : Addr → Bool) (ρ : Env) (σ : L2.St) (H : Hp) (Q : VK), Sts S P B G ρ σ H → m ρ ≠ .bad →
    (∀ d, m ρ = .ok d → ∀ p s H', H p = none → Ex H H' → s.d = d → OwnAt S H' (addG G p) p s → Q (.ref p) H') →
    (∀ x, m ρ = .err x → ∀ cls dd H', Ex H H' → RepX S (hid H' G) cls dd x → W cls dd σ H') → t σ H Q
structure RE (X : Cx) (W : WX) (c : Bool) (e : Expr) (m : ME) : Prop where
  ex : ∃ t, PE X e t ∧ SndE (sg X) (pp X) W c t m
structure RF (X : Cx) (W : WX) (e : Expr) (m : ME) : Prop where
  ex : ∃ t, PE X e t ∧ SndF (sg X) (pp X) W t m
structure RT (X : Cx) (W : WX) (e : Expr) (m : MT) : Prop where
  ex : ∃ t, PT X e t ∧ SndT (sg X) (pp X) W t m
structure RW (X : Cx) (W : WX) (e : Expr) (m : MT) : Prop where
  ex : ∃ t, PW X e t ∧ SndT (sg X) (pp X) W t m
structure RA (X : Cx) (W : WX) (c : Bool) (es : List Expr) (m : MA) : Prop where
  ex : ∃ t, PA X es t ∧ SndA (sg X) (pp X) W c es.length t m

theorem R.bad_bind {α β : Type} {x : R α} {f : α → R β} (h : x.bind f ≠ .bad) : x ≠ .bad := by
  rintro rfl
  exact h rfl
section
variable {S : Sig} {P : PX} {W : WX} {c c1 c2 : Bool}
theorem SndF.clean {t : TE} {m : ME} (h : SndF S P W t m) : SndE S P W true t m := fun B G ρ σ H Q I nb k ke =>
  h B G ρ σ H Q I nb (fun d e p s H' hp x es w => by
    refine k d e _ H' x ?_
    have g : G p = false := by
      cases z : G p with
      | false => rfl
      | true =>
        have y := I.gm p z
        rw [hp] at y
        exact y.elim
    have eq : delG (addG G p) p = G := by
      funext a
      by_cases q : a = p
      · subst q
        rw [delG_self, g]
      · rw [delG_ne q, addG_ne q]
    have r := w.rep
    rw [eq, es] at r
    exact r) ke
theorem SndE.weak {t : TE} {m : ME} (h : SndE S P W c t m) : SndE S P W false t m := fun B G ρ σ H Q I nb k ke => h B G ρ σ H Q I nb (fun d e v H' x r => k d e v H' x r.weak) ke
/-- a datum without lists -/
def mLf (m : ME) : ME := fun ρ => (m ρ).bind fun d => if lf d = true then .ok d else .bad
theorem SndE.lf {t : TE} {m : ME} (h : SndE S P W c t m) : SndE S P W true t (mLf m) := fun B G ρ σ H Q I nb k ke => by
  unfold mLf at nb k ke
  refine h B G ρ σ H Q I (R.bad_bind nb) (fun d e v H' x r => ?_) (fun x e => ke x (by rw [e]; rfl))
  rw [e] at nb k
  rw [R.bind_ok] at nb k
  by_cases q : Fx.lf d = true
  · rw [if_pos q] at k
    exact k d rfl v H' x (r.clean q)
  · rw [if_neg q] at nb
    exact absurd rfl nb
/-- two in a row -/
theorem snd2 {ta tb : TE} {ma mb : ME} {f : D → D → R D} {R' : V → V → Hp → Prop} {B : Bs} {G : Addr → Bool} {ρ : Env} {σ : L2.St} {H : Hp} (ha : SndE S P W c1 ta ma) (hb : SndE S P W c2 tb mb) (I : Sts S P B G ρ σ H)
    (nb : ((ma ρ).bind fun x => (mb ρ).bind fun y => f x y) ≠ .bad) (ke : ∀ x, ((ma ρ).bind fun x => (mb ρ).bind fun y => f x y) = .err x → ∀ cls dd H', Ex H H' → RepX S (hid H' G) cls dd x → W cls dd σ H')
    (k : ∀ x y, ma ρ = .ok x → mb ρ = .ok y → f x y ≠ .bad → ∀ v u H', Ex H H' → RepC S H' G c1 v x → RepC S H' G c2 u y → R' v u H') : ta σ H fun v H1 => tb σ H1 fun u H2 => R' v u H2 := by
  refine ha B G ρ σ H _ I (R.bad_bind nb) (fun d e v H1 x1 r1 => ?_) (fun x e => ke x (by rw [e]; rfl))
  rw [e, R.bind_ok] at nb ke
  refine hb B G ρ σ H1 _ (I.grow x1) (R.bad_bind nb) (fun d2 e2 u H2 x2 r2 => ?_) (fun x e2 cls dd H' x2 => ke x (by rw [e2]; rfl) cls dd H' (x1.trans x2))
  rw [e2, R.bind_ok] at nb
  exact k d d2 e e2 nb v u H2 (x1.trans x2) (r1.grow x2) r2
end

/-! ### binary operations -/
/-- what an operation on values is, on data -/
def OpS (S : Sig) (r : R2) (g : D → D → Option D) : Prop := ∀ (H : Hp) (G : Addr → Bool) (x y : V) (dx dy d : D) (Q : VK), (∀ a, G a = true → MutO (H a)) → RepC S H G false x dx → RepC S H G false y dy → g dx dy = some d → (∀ v H', Ex H H' → Rep S (hid H' G) v d → Q v H') → r x y H Q
structure OpD (X : Cx) (f : Value → Value → Sem Value) (g : D → D → Option D) : Prop where
  ex : ∃ r, OpR X f r ∧ OpS (sg X) r g
theorem OpR.or {X : Cx} {f : Value → Value → Sem Value} {r r' : R2} (h : OpR X f r) (h' : OpR X f r') : OpR X f fun x y H Q => r x y H Q ∨ r' x y H Q := fun pins s σ H x y v u Q I rx ry q => by
  rcases q with q | q
  · exact h pins s σ H x y v u Q I rx ry q
  · exact h' pins s σ H x y v u Q I rx ry q
/-- one way or the other, by the data -/
theorem OpD.or {X : Cx} {f : Value → Value → Sem Value} {g g' : D → D → Option D} (h : OpD X f g) (h' : OpD X f g') : OpD X f fun x y => (g x y).orElse fun _ => g' x y := by
  obtain ⟨r, a, b⟩ := h.ex
  obtain ⟨r', a', b'⟩ := h'.ex
  refine ⟨_, OpR.or a a', fun H G x y dx dy d Q gm rx ry e k => ?_⟩
  dsimp only at e
  cases q : g dx dy with
  | some z =>
    rw [q] at e
    cases e
    exact .inl (b H G x y dx dy _ Q gm rx ry q k)
  | none =>
    rw [q] at e
    exact .inr (b' H G x y dx dy _ Q gm rx ry e k)
def mBin (g : D → D → Option D) (ma mb : ME) : ME := fun ρ => (ma ρ).bind fun x => (mb ρ).bind fun y => R.of (g x y)
theorem snd_bin {S : Sig} {P : PX} {W : WX} {c1 c2 : Bool} {r : R2} {g : D → D → Option D} {ta tb : TE} {ma mb : ME} (hr : OpS S r g) (ha : SndE S P W c1 ta ma) (hb : SndE S P W c2 tb mb) : SndE S P W true (tOp r ta tb) (mBin g ma mb) := fun B G ρ σ H Q I nb k ke => by
  refine snd2 (f := fun x y => R.of (g x y)) (R' := fun v u H2 => r v u H2 Q) ha hb I nb ke fun x y e1 e2 n v u H' x2 r1 r2 => ?_
  cases q : g x y with
  | none => rw [q] at n; exact absurd rfl n
  | some d => exact hr H' G v u x y d Q (I.grow x2).gm r1.weak r2.weak q fun w H2 x3 rw' => k d (by unfold mBin; rw [e1, e2, R.bind_ok, R.bind_ok, q]; rfl) w H2 (x2.trans x3) rw'
section
variable {X : Cx} {W : WX} {c c1 c2 : Bool} {a b : Expr} {ma mb : ME} {pos : Pos}
theorem re_bin {op : Operator} {g : D → D → Option D} (h : OpD X (binaryOp op) g) (ha : RE X W c1 a ma) (hb : RE X W c2 b mb) : RE X W true (.BinOp a op b pos) (mBin g ma mb) := by
  obtain ⟨r, h1, h2⟩ := h.ex
  obtain ⟨ta, a1, a2⟩ := ha.ex
  obtain ⟨tb, b1, b2⟩ := hb.ex
  exact ⟨_, pe_op h1 a1 b1, snd_bin h2 a2 b2⟩
theorem re_cmp {op : CmpOp} {g : D → D → Option D} (h : OpD X (compareOp op) g) (ha : RE X W c1 a ma) (hb : RE X W c2 b mb) (hm : behindInMarks op b = false) : RE X W true (.Compare a [op] [b] pos) (mBin g ma mb) := by
  obtain ⟨r, h1, h2⟩ := h.ex
  obtain ⟨ta, a1, a2⟩ := ha.ex
  obtain ⟨tb, b1, b2⟩ := hb.ex
  exact ⟨_, pe_cmpR h1 a1 b1 hm, snd_bin h2 a2 b2⟩
/-- a comparison as a test -/
def mBool (m : ME) : MT := fun ρ => (m ρ).bind fun d => match d with
  | .bl b => .ok b
  | _ => .bad
theorem snd_test {S : Sig} {P : PX} {t : TE} {m : ME} (h : SndE S P W c t m) : SndT S P W (tTest t) (mBool m) := fun B G ρ σ H Q I nb k ke => by
  unfold mBool at nb k ke
  refine h B G ρ σ H _ I (R.bad_bind nb) (fun d e v H' x r => ?_) (fun x e => ke x (by rw [e]; rfl))
  rw [e, R.bind_ok] at nb k
  cases d with
  | bl b =>
    have ev := r.full.is_bl
    subst ev
    exact ⟨b, rfl, k b rfl H' x⟩
  | _ => exact absurd rfl nb
theorem rt_cmp {op : CmpOp} {g : D → D → Option D} (h : OpD X (compareOp op) g) (ha : RE X W c1 a ma) (hb : RE X W c2 b mb) (hm : behindInMarks op b = false) : RT X W (.Compare a [op] [b] pos) (mBool (mBin g ma mb)) := by
  obtain ⟨r, h1, h2⟩ := h.ex
  obtain ⟨ta, a1, a2⟩ := ha.ex
  obtain ⟨tb, b1, b2⟩ := hb.ex
  exact ⟨_, pt_cmpR h1 a1 b1 hm, snd_test (snd_bin h2 a2 b2)⟩

/-! ### names, constants -/
theorem rep_okI {S : Sig} {H : Hp} {G : Addr → Bool} {v : V} {d : D} (h : Rep S (hid H G) v d) : RepC S H G true v d := h
def mC (d : D) : ME := fun _ => .ok d
theorem snd_c {S : Sig} {P : PX} {v : V} {d : D} (h : ∀ H, Rep S H v d) : SndE S P W true (tC v) (mC d) := fun B G ρ σ H Q I nb k ke => k d rfl v H (Ex.refl H) (h _)
theorem re_int {i : Int} {j pos} : RE X W true (.Constant (.int i) j pos) (mC (.int i)) := ⟨_, pe_int, snd_c fun _ => .int i⟩
theorem re_bl {i : Bool} {j pos} : RE X W true (.Constant (.bool i) j pos) (mC (.bl i)) := ⟨_, pe_bl, snd_c fun _ => .bl i⟩
theorem re_non {j pos} : RE X W true (.Constant .none j pos) (mC .non) := ⟨_, pe_non, snd_c fun _ => .non⟩
theorem re_str {x : Str} {j pos} : RE X W true (.Constant (.str x) j pos) (mC (.str x)) := ⟨_, pe_str, snd_c fun _ => .str x⟩
/-- a shared datum in slot i -/
def mV (i : Nat) : ME := fun ρ => match ρ[i]? with
  | some (.val d) => .ok d
  | _ => .bad
/-- an own object in slot i, looked at -/
def mO (i : Nat) : ME := fun ρ => match ρ[i]? with
  | some (.lst ds) => .ok (.lst ds)
  | some (.dic t ds) => .ok (.dic t ds)
  | _ => .bad
theorem snd_v {S : Sig} {P : PX} {i : Nat} : SndE S P W true (tVar i) (mV i) := fun B G ρ σ H Q I nb k ke => by
  unfold mV at nb k
  cases e : ρ[i]? with
  | none => rw [e] at nb; exact absurd rfl nb
  | some s =>
    rw [e] at nb k
    cases s with
    | val d =>
      obtain ⟨v, h1, h2⟩ := I.val i d e
      exact ⟨v, h1, k d rfl v H (Ex.refl H) h2⟩
    | _ => exact absurd rfl nb
theorem snd_o {S : Sig} {P : PX} {i : Nat} : SndE S P W false (tVar i) (mO i) := fun B G ρ σ H Q I nb k ke => by
  unfold mO at nb k
  cases e : ρ[i]? with
  | none => rw [e] at nb; exact absurd rfl nb
  | some s =>
    rw [e] at nb k
    cases s with
    | lst ds =>
      obtain ⟨p, h1, h2, h3, h4⟩ := I.own i _ e rfl
      exact ⟨_, h1, k _ rfl _ H (Ex.refl H) (.inr ⟨p, _, rfl, rfl, h2, h4⟩)⟩
    | dic t ds =>
      obtain ⟨p, h1, h2, h3, h4⟩ := I.own i _ e rfl
      exact ⟨_, h1, k _ rfl _ H (Ex.refl H) (.inr ⟨p, _, rfl, rfl, h2, h4⟩)⟩
    | _ => exact absurd rfl nb
theorem re_v (i : Nat) {x : Str} {pos : Pos} (hN : X.N[i]? = some x := by rfl) (hv : Vis X.env.scope x := by first | exact Or.inl rfl | exact Or.inr (Or.inl rfl) | exact Or.inr (Or.inr rfl)) (hd : (x == ("__debug__" : Str)) = false := by decide)
    (hcd : (x == ("__classdict__" : Str)) = false := by decide) : RE X W true (.Name x pos) (mV i) := ⟨_, pe_var hN hv hd hcd, snd_v⟩
theorem re_o (i : Nat) {x : Str} {pos : Pos} (hN : X.N[i]? = some x := by rfl) (hv : Vis X.env.scope x := by first | exact Or.inl rfl | exact Or.inr (Or.inl rfl) | exact Or.inr (Or.inr rfl)) (hd : (x == ("__debug__" : Str)) = false := by decide)
    (hcd : (x == ("__classdict__" : Str)) = false := by decide) : RE X W false (.Name x pos) (mO i) := ⟨_, pe_var hN hv hd hcd, snd_o⟩
/-- a module's constant -/
theorem re_gint {x : Str} {i : Int} {t : Tok} {pos : Pos} (hg : Gl X x) (hm : X.mg x = some (.int i t)) (hd : (x == ("__debug__" : Str)) = false := by decide) : RE X W true (.Name x pos) (mC (.int i)) :=
  ⟨_, pe_glob (v := .int i) hg hm ⟨_, rfl⟩ hd, snd_c fun _ => .int i⟩
theorem RF.re {e : Expr} {m : ME} (h : RF X W e m) : RE X W true e m := by
  obtain ⟨t, a, b⟩ := h.ex
  exact ⟨t, a, b.clean⟩
theorem RE.lf {e : Expr} {m : ME} (h : RE X W c e m) : RE X W true e (mLf m) := by
  obtain ⟨t, a, b⟩ := h.ex
  exact ⟨t, a, b.lf⟩
theorem RE.weak {e : Expr} {m : ME} (h : RE X W c e m) : RE X W false e m := by
  obtain ⟨t, a, b⟩ := h.ex
  exact ⟨t, a, b.weak⟩

/-! ### tests -/
def mAnd (m n : MT) : MT := fun ρ => (m ρ).bind fun k => if k = true then n ρ else .ok false
def mOr (m n : MT) : MT := fun ρ => (m ρ).bind fun k => if k = true then .ok true else n ρ
def mNot (m : MT) : MT := fun ρ => (m ρ).bind fun k => .ok (!k)
theorem snd_and {S : Sig} {P : PX} {t u : TT} {m n : MT} (h : SndT S P W t m) (h' : SndT S P W u n) : SndT S P W (tAnd t u) (mAnd m n) := fun B G ρ σ H Q I nb k ke => by
  unfold mAnd at nb k ke
  refine h B G ρ σ H _ I (R.bad_bind nb) (fun d e H' x => ?_) (fun x e => ke x (by rw [e]; rfl))
  rw [e, R.bind_ok] at nb k ke
  cases d with
  | true =>
    show (if true = true then u σ H' Q else Q false H')
    rw [if_pos rfl] at nb k ke ⊢
    exact h' B G ρ σ H' Q (I.grow x) nb (fun d e H2 x2 => k d e H2 (x.trans x2)) (fun y e cls dd H2 x2 => ke y e cls dd H2 (x.trans x2))
  | false =>
    show (if false = true then u σ H' Q else Q false H')
    rw [if_neg Bool.false_ne_true] at k ⊢
    exact k false rfl H' x
theorem snd_or {S : Sig} {P : PX} {t u : TT} {m n : MT} (h : SndT S P W t m) (h' : SndT S P W u n) : SndT S P W (tOr t u) (mOr m n) := fun B G ρ σ H Q I nb k ke => by
  unfold mOr at nb k ke
  refine h B G ρ σ H _ I (R.bad_bind nb) (fun d e H' x => ?_) (fun x e => ke x (by rw [e]; rfl))
  rw [e, R.bind_ok] at nb k ke
  cases d with
  | true =>
    show (if true = true then Q true H' else u σ H' Q)
    rw [if_pos rfl] at k ⊢
    exact k true rfl H' x
  | false =>
    show (if false = true then Q true H' else u σ H' Q)
    rw [if_neg Bool.false_ne_true] at nb k ke ⊢
    exact h' B G ρ σ H' Q (I.grow x) nb (fun d e H2 x2 => k d e H2 (x.trans x2)) (fun y e cls dd H2 x2 => ke y e cls dd H2 (x.trans x2))
variable {rest : List Expr} {m n : MT}
theorem rw_and1 (h : RT X W a m) : RW X W (.BoolOp .And [a] pos) m := by
  obtain ⟨t, h1, h2⟩ := h.ex
  exact ⟨t, pw_and1 h1, h2⟩
theorem rw_or1 (h : RT X W a m) : RW X W (.BoolOp .Or [a] pos) m := by
  obtain ⟨t, h1, h2⟩ := h.ex
  exact ⟨t, pw_or1 h1, h2⟩
theorem rw_and (h : RT X W a m) (h' : RW X W (.BoolOp .And (b :: rest) pos) n) : RW X W (.BoolOp .And (a :: b :: rest) pos) (mAnd m n) := by
  obtain ⟨t, h1, h2⟩ := h.ex
  obtain ⟨u, k1, k2⟩ := h'.ex
  exact ⟨_, pw_and h1 k1, snd_and h2 k2⟩
theorem rw_or (h : RT X W a m) (h' : RW X W (.BoolOp .Or (b :: rest) pos) n) : RW X W (.BoolOp .Or (a :: b :: rest) pos) (mOr m n) := by
  obtain ⟨t, h1, h2⟩ := h.ex
  obtain ⟨u, k1, k2⟩ := h'.ex
  exact ⟨_, pw_or h1 k1, snd_or h2 k2⟩
theorem RW.rt {e : Expr} (h : RW X W e m) : RT X W e m := by
  obtain ⟨t, h1, h2⟩ := h.ex
  exact ⟨t, h1.pt, h2⟩
theorem rt_not (h : RT X W a m) : RT X W (.UnaryOp .Not a pos) (mNot m) := by
  obtain ⟨t, h1, h2⟩ := h.ex
  refine ⟨_, pt_not h1, fun B G ρ σ H Q I nb k ke => ?_⟩
  unfold mNot at nb k ke
  refine h2 B G ρ σ H _ I (R.bad_bind nb) (fun d e H' x => ?_) (fun x e => ke x (by rw [e]; rfl))
  rw [e, R.bind_ok] at k
  exact k _ rfl H' x
/-- the truth of a datum -/
def truD : D → Option Bool
  | .non => some false
  | .bl b => some b
  | .int i => some (i != 0)
  | .str s => if s.length ≤ 1000000 then some ((s.length : Int) != 0) else none
  | .tup ds => some (!ds.isEmpty)
  | .lst ds => some (!ds.isEmpty)
  | _ => none
theorem empty_of {S : Sig} {H : Hp} {xs : List V} {ds : List D} (h : Reps S H xs ds) : xs.isEmpty = ds.isEmpty := by
  have e := h.1
  cases xs <;> cases ds <;> first | rfl | cases e
theorem truV_of {S : Sig} {H : Hp} {G : Addr → Bool} {v : V} {d : D} {k : Bool} (r : RepC S H G c v d) (e : truD d = some k) : TruV S.K v H k := by
  cases d with
  | non => cases e; rw [r.full.is_non]; rfl
  | bl b => cases e; rw [r.full.is_bl]; rfl
  | int i => cases e; rw [r.full.is_int]; rfl
  | str s =>
    unfold truD at e
    by_cases q : s.length ≤ 1000000
    · simp only [if_pos q] at e
      cases e
      rw [r.full.is_str]
      exact ⟨Nat.le_trans q (by rw [sizeLine_eq]; decide), rfl⟩
    · simp only [if_neg q] at e
      cases e
  | tup ds =>
    cases e
    obtain ⟨a, xs, rfl, h1, h2⟩ := r.tuple
    exact .inr (.inl ⟨xs, SqT.of h1, by rw [empty_of h2]⟩)
  | lst ds =>
    cases e
    obtain ⟨a, xs, rfl, h1, h2⟩ := r.list
    exact .inl ⟨xs, .inl h1, by rw [empty_of h2]⟩
  | dic t ds => cases e
  | ins c fs => cases e
def mTru (m : ME) : MT := fun ρ => (m ρ).bind fun d => R.of (truD d)
theorem rt_tru (h : RE X W c a ma) (he : ∀ whole, isTrue a X.env whole = (do let v ← whole; standAt a.pos; holding [v] (truthy v)) := by intro _; rfl) : RT X W a (mTru ma) := by
  obtain ⟨t, h1, h2⟩ := h.ex
  refine ⟨_, pt_truth h1 he, fun B G ρ σ H Q I nb k ke => ?_⟩
  unfold mTru at nb k ke
  refine h2 B G ρ σ H _ I (R.bad_bind nb) (fun d e v H' x r => ?_) (fun x e => ke x (by rw [e]; rfl))
  rw [e, R.bind_ok] at nb k
  cases q : truD d with
  | none => rw [q] at nb; exact absurd rfl nb
  | some b => exact ⟨b, truV_of r q, k b (by rw [q]; rfl) H' x⟩
/-- a if t else b -/
def mIf (m : MT) (a b : ME) : ME := fun ρ => (m ρ).bind fun k => if k = true then a ρ else b ρ
theorem re_if {e : Expr} (h : RT X W e m) (ha : RE X W c a ma) (hb : RE X W c b mb) : RE X W c (.IfExp e a b pos) (mIf m ma mb) := by
  obtain ⟨t, h1, h2⟩ := h.ex
  obtain ⟨ta, a1, a2⟩ := ha.ex
  obtain ⟨tb, b1, b2⟩ := hb.ex
  refine ⟨_, pe_ifExp h1 a1 b1, fun B G ρ σ H Q I nb k ke => ?_⟩
  unfold mIf at nb k ke
  refine h2 B G ρ σ H _ I (R.bad_bind nb) (fun d e H' x => ?_) (fun x e => ke x (by rw [e]; rfl))
  rw [e, R.bind_ok] at nb k ke
  cases d with
  | true =>
    show (if true = true then ta σ H' Q else tb σ H' Q)
    rw [if_pos rfl] at nb k ke ⊢
    exact a2 B G ρ σ H' Q (I.grow x) nb (fun d e v H2 x2 => k d e v H2 (x.trans x2)) (fun y e cls dd H2 x2 => ke y e cls dd H2 (x.trans x2))
  | false =>
    show (if false = true then ta σ H' Q else tb σ H' Q)
    rw [if_neg Bool.false_ne_true] at nb k ke ⊢
    exact b2 B G ρ σ H' Q (I.grow x) nb (fun d e v H2 x2 => k d e v H2 (x.trans x2)) (fun y e cls dd H2 x2 => ke y e cls dd H2 (x.trans x2))
/-- and, or, not as values: bools -/
def mAndV (a b : ME) : ME := fun ρ => (a ρ).bind fun d => match d with
  | .bl true => b ρ
  | .bl false => .ok (.bl false)
  | _ => .bad
def mOrV (a b : ME) : ME := fun ρ => (a ρ).bind fun d => match d with
  | .bl true => .ok (.bl true)
  | .bl false => b ρ
  | _ => .bad
def mNotV (a : ME) : ME := fun ρ => (a ρ).bind fun d => match d with
  | .bl k => .ok (.bl (!k))
  | _ => .bad
theorem re_one {op : BoolOp} (h : RE X W c a ma) : RE X W c (.BoolOp op [a] pos) ma := by
  obtain ⟨t, h1, h2⟩ := h.ex
  exact ⟨t, pe_one h1, h2⟩
theorem re_and (ha : RE X W c1 a ma) (hb : RE X W true (.BoolOp .And (b :: rest) pos) mb) : RE X W true (.BoolOp .And (a :: b :: rest) pos) (mAndV ma mb) := by
  obtain ⟨ta, a1, a2⟩ := ha.ex
  obtain ⟨tb, b1, b2⟩ := hb.ex
  refine ⟨_, pe_and a1 b1, fun B G ρ σ H Q I nb k ke => ?_⟩
  unfold mAndV at nb k ke
  refine a2 B G ρ σ H _ I (R.bad_bind nb) (fun d e v H' x r => ?_) (fun x e => ke x (by rw [e]; rfl))
  rw [e, R.bind_ok] at nb k ke
  cases d with
  | bl q =>
    have ev := r.full.is_bl
    subst ev
    cases q with
    | true => exact ⟨true, rfl, b2 B G ρ σ H' Q (I.grow x) nb (fun d e v H2 x2 => k d e v H2 (x.trans x2)) (fun y e cls dd H2 x2 => ke y e cls dd H2 (x.trans x2))⟩
    | false => exact ⟨false, rfl, k _ rfl _ H' x (.bl false)⟩
  | _ => exact absurd rfl nb
theorem re_or (ha : RE X W c1 a ma) (hb : RE X W true (.BoolOp .Or (b :: rest) pos) mb) : RE X W true (.BoolOp .Or (a :: b :: rest) pos) (mOrV ma mb) := by
  obtain ⟨ta, a1, a2⟩ := ha.ex
  obtain ⟨tb, b1, b2⟩ := hb.ex
  refine ⟨_, pe_or a1 b1, fun B G ρ σ H Q I nb k ke => ?_⟩
  unfold mOrV at nb k ke
  refine a2 B G ρ σ H _ I (R.bad_bind nb) (fun d e v H' x r => ?_) (fun x e => ke x (by rw [e]; rfl))
  rw [e, R.bind_ok] at nb k ke
  cases d with
  | bl q =>
    have ev := r.full.is_bl
    subst ev
    cases q with
    | false => exact ⟨false, rfl, b2 B G ρ σ H' Q (I.grow x) nb (fun d e v H2 x2 => k d e v H2 (x.trans x2)) (fun y e cls dd H2 x2 => ke y e cls dd H2 (x.trans x2))⟩
    | true => exact ⟨true, rfl, k _ rfl _ H' x (.bl true)⟩
  | _ => exact absurd rfl nb
theorem re_not (ha : RE X W c1 a ma) : RE X W true (.UnaryOp .Not a pos) (mNotV ma) := by
  obtain ⟨ta, a1, a2⟩ := ha.ex
  refine ⟨_, pe_not a1, fun B G ρ σ H Q I nb k ke => ?_⟩
  unfold mNotV at nb k ke
  refine a2 B G ρ σ H _ I (R.bad_bind nb) (fun d e v H' x r => ?_) (fun x e => ke x (by rw [e]; rfl))
  rw [e, R.bind_ok] at nb k
  cases d with
  | bl q =>
    have ev := r.full.is_bl
    subst ev
    exact ⟨q, rfl, k _ rfl _ H' x (.bl _)⟩
  | _ => exact absurd rfl nb

/-! ### argument lists, displays -/
def mNil : MA := fun _ => .ok []
def mCons (a : ME) (r : MA) : MA := fun ρ => (a ρ).bind fun x => (r ρ).bind fun xs => .ok (x :: xs)
theorem ra_nil : RA X W c [] mNil := ⟨_, pa_nil, fun B G ρ σ H Q I nb k ke => k [] rfl [] H (Ex.refl H) rfl rfl fun i v d h => by cases h⟩
theorem ra_cons {es : List Expr} {mr : MA} (ha : RE X W c a ma) (hr : RA X W c es mr) (hs : starEach (a :: es) X.env = (false, eval a X.env) :: starEach es X.env := by rfl) : RA X W c (a :: es) (mCons ma mr) := by
  obtain ⟨ta, a1, a2⟩ := ha.ex
  obtain ⟨tr, r1, r2⟩ := hr.ex
  refine ⟨_, pa_cons a1 r1 hs, fun B G ρ σ H Q I nb k ke => ?_⟩
  unfold mCons at nb k ke
  refine a2 B G ρ σ H _ I (R.bad_bind nb) (fun d e v H' x r => ?_) (fun x e => ke x (by rw [e]; rfl))
  rw [e, R.bind_ok] at nb k ke
  refine r2 B G ρ σ H' _ (I.grow x) (R.bad_bind nb) (fun ds e2 vs H2 x2 hn hl rs => ?_) (fun y e2 cls dd H2 x2 => ke y (by rw [e2]; rfl) cls dd H2 (x.trans x2))
  refine k (d :: ds) (by rw [e2]; rfl) _ H2 (x.trans x2) (by rw [List.length_cons, List.length_cons, hn]) (by rw [List.length_cons, List.length_cons, hl]) fun i w z h1 h2 => ?_
  cases i with
  | zero => cases h1; cases h2; exact r.grow x2
  | succ i => exact rs i w z h1 h2
theorem reps_of {S : Sig} {H : Hp} {G : Addr → Bool} {vs : List V} {ds : List D} (hl : vs.length = ds.length) (h : ∀ (i : Nat) (v : V) (d : D), vs[i]? = some v → ds[i]? = some d → RepC S H G true v d) : Reps S (hid H G) vs ds := ⟨hl, h⟩
def mTup (m : MA) : ME := fun ρ => (m ρ).bind fun ds => .ok (.tup ds)
def mLst (m : MA) : ME := fun ρ => (m ρ).bind fun ds => .ok (.lst ds)
theorem re_tup {es : List Expr} {mr : MA} {x1} (h : RA X W true es mr) (hz : es.length ≤ sizeLine := by first | exact Nat.le_of_ble_eq_true rfl | decide) : RE X W true (.Tuple es x1 pos) (mTup mr) := by
  obtain ⟨t, r1, r2⟩ := h.ex
  refine ⟨_, pe_tup r1, fun B G ρ σ H Q I nb k ke => ?_⟩
  unfold mTup at nb k ke
  refine r2 B G ρ σ H _ I (R.bad_bind nb) (fun ds e vs H' x hn hl rs => ⟨by rw [hn]; exact hz, fun p hp => ?_⟩) (fun x e => ke x (by rw [e]; rfl))
  rw [e, R.bind_ok] at k
  have g : G p = false := by
    cases z : G p with
    | false => rfl
    | true =>
      have y := (I.grow x).gm p z
      rw [hp] at y
      exact y.elim
  have e2 : Ex H' (upd H' p (.tup vs)) := Ex.new hp
  exact k _ rfl _ _ (x.trans e2) (Rep.mkT (hid_of g upd_same) ((reps_of hl rs).ex (hid_ex e2)))
theorem rf_lst {es : List Expr} {mr : MA} (h : RA X W true es mr) (hz : es.length ≤ sizeLine := by first | exact Nat.le_of_ble_eq_true rfl | decide) : RF X W (.List es pos) (mLst mr) := by
  obtain ⟨t, r1, r2⟩ := h.ex
  refine ⟨_, pe_lst r1, fun B G ρ σ H Q I nb k ke => ?_⟩
  unfold mLst at nb k ke
  refine r2 B G ρ σ H _ I (R.bad_bind nb) (fun ds e vs H' x hn hl rs => ⟨by rw [hn]; exact hz, fun p hp => ?_⟩) (fun x e => ke x (by rw [e]; rfl))
  rw [e, R.bind_ok] at k
  have hp0 : H p = none := by
    cases z : H p with
    | none => rfl
    | some o => rw [x p o z] at hp; cases hp
  have e2 : Ex H' (upd H' p (.lst vs)) := Ex.new hp
  exact k _ rfl p (.lst ds) _ hp0 (x.trans e2) rfl ⟨vs, upd_same, (reps_of hl rs).ex (hid_addG hp e2)⟩
/-! ### minus -/
def mNeg (a : ME) : ME := fun ρ => (a ρ).bind fun d => match d with
  | .int i => .ok (.int (-i))
  | _ => .bad
theorem re_neg (ha : RE X W c1 a ma) : RE X W true (.UnaryOp .USub a pos) (mNeg ma) := by
  obtain ⟨ta, a1, a2⟩ := ha.ex
  refine ⟨_, pe_un un_neg a1, fun B G ρ σ H Q I nb k ke => ?_⟩
  unfold mNeg at nb k ke
  refine a2 B G ρ σ H _ I (R.bad_bind nb) (fun d e v H' x r => ?_) (fun x e => ke x (by rw [e]; rfl))
  rw [e, R.bind_ok] at nb k
  cases d with
  | int q =>
    have ev := r.full.is_int
    subst ev
    exact ⟨q, rfl, k _ rfl _ H' x (.int _)⟩
  | _ => exact absurd rfl nb
end
end Fx

-- Fx2
set_option Elab.async false
set_option linter.all false
set_option maxRecDepth 100000
set_option maxHeartbeats 2000000
/-! Fx2: operators, comparisons, subscripts, slices, calls of built-ins. -/
namespace Fx
open PySem PySem.Spec PyProof.Rows L2

/-! ### ints -/
section
variable {X : Cx}
def gI (f : Int → Int → Option D) : D → D → Option D
  | .int i, .int j => f i j
  | _, _ => none
theorem gI_some {f : Int → Int → Option D} {x y d : D} (h : gI f x y = some d) : ∃ i j, x = .int i ∧ y = .int j ∧ f i j = some d := by
  cases x <;> cases y <;> first | exact ⟨_, _, rfl, rfl, h⟩ | cases h
/-- two ints under C -/
theorem opd_I {f : Value → Value → Sem Value} {C : Int → Int → Prop} {g : Int → Int → V} {k : Int → Int → Option D} (h : OpR X f (rI C g)) (hk : ∀ i j d, k i j = some d → C i j ∧ ∀ H, Rep (sg X) H (g i j) d) : OpD X f (gI k) :=
  ⟨_, h, fun H G x y dx dy d Q gm rx ry e q => by
    obtain ⟨i, j, rfl, rfl, e⟩ := gI_some e
    obtain ⟨c, r⟩ := hk i j d e
    exact ⟨i, j, rx.full.is_int, ry.full.is_int, c, q _ H (Ex.refl H) (r _)⟩⟩
theorem opd_I0 {f : Value → Value → Sem Value} {g : Int → Int → V} {k : Int → Int → Option D} (h : OpR X f (rI0 g)) (hk : ∀ i j d, k i j = some d → ∀ H, Rep (sg X) H (g i j) d) : OpD X f (gI k) :=
  ⟨_, h, fun H G x y dx dy d Q gm rx ry e q => by
    obtain ⟨i, j, rfl, rfl, e⟩ := gI_some e
    exact ⟨i, j, rx.full.is_int, ry.full.is_int, q _ H (Ex.refl H) (hk i j d e _)⟩⟩
def kInt (f : Int → Int → Int) : Int → Int → Option D := fun i j => some (.int (f i j))
def kBl (f : Int → Int → Bool) : Int → Int → Option D := fun i j => some (.bl (f i j))
theorem opd_lt : OpD X (compareOp .Lt) (gI (kBl fun i j => decide (i < j))) := opd_I0 op_lt fun i j d e H => by cases e; exact .bl _
theorem opd_le : OpD X (compareOp .LtE) (gI (kBl fun i j => decide (i ≤ j))) := opd_I0 op_le fun i j d e H => by cases e; exact .bl _
theorem opd_gt : OpD X (compareOp .Gt) (gI (kBl fun i j => decide (j < i))) := opd_I0 op_gt fun i j d e H => by cases e; exact .bl _
theorem opd_ge : OpD X (compareOp .GtE) (gI (kBl fun i j => decide (j ≤ i))) := opd_I0 op_ge fun i j d e H => by cases e; exact .bl _
theorem opd_sub : OpD X (binaryOp .Sub) (gI (kInt fun i j => i - j)) := opd_I0 op_sub fun i j d e H => by cases e; exact .int _
/-- bits below which a product, a divisor stays -/
def small (i : Int) : Bool := decide (i.natAbs.log2 < 8000)
def kMul : Int → Int → Option D := fun i j => if small i && small j then some (.int (i * j)) else none
theorem small_lt {i : Int} (h : small i = true) : i.natAbs.log2 < 8000 := of_decide_eq_true h
theorem opd_mul : OpD X (binaryOp .Mult) (gI kMul) := opd_I op_mulW fun i j d e => by
  unfold kMul at e
  split at e
  · rename_i h
    obtain ⟨h1, h2⟩ := Bool.and_eq_true_iff.mp h
    cases e
    refine ⟨?_, fun H => .int _⟩
    have h1 := small_lt h1
    have h2 := small_lt h2
    unfold CMulW
    omega
  · cases e
def kDiv : Int → Int → Option D := fun i j => if decide (0 < j) && small j then some (.int (i / j)) else none
theorem opd_div : OpD X (binaryOp .FloorDiv) (gI kDiv) := opd_I op_fdivW fun i j d e => by
  unfold kDiv at e
  split at e
  · rename_i h
    obtain ⟨h1, h2⟩ := Bool.and_eq_true_iff.mp h
    cases e
    exact ⟨⟨of_decide_eq_true h1, by have := small_lt h2; omega⟩, fun H => .int _⟩
  · cases e
def kMod : Int → Int → Option D := fun i j => if 0 < j then some (.int (i % j)) else none
theorem opd_mod : OpD X (binaryOp .Mod) (gI kMod) := opd_I op_mod fun i j d e => by
  unfold kMod at e
  split at e
  · rename_i h
    cases e
    exact ⟨h, fun H => .int _⟩
  · cases e
def kPow : Int → Int → Option D := fun i j => if decide (0 ≤ j) && (decide (j ≤ 1000) && decide (i.natAbs < 2 ^ 64)) then some (.int (i ^ j.toNat)) else none
theorem opd_pow : OpD X (binaryOp .Pow) (gI kPow) := opd_I op_pow fun i j d e => by
  unfold kPow at e
  split at e
  · rename_i h
    obtain ⟨h1, h⟩ := Bool.and_eq_true_iff.mp h
    obtain ⟨h2, h3⟩ := Bool.and_eq_true_iff.mp h
    cases e
    have h2 := of_decide_eq_true h2
    exact ⟨⟨of_decide_eq_true h1, by omega, of_decide_eq_true h3⟩, fun H => .int _⟩
  · cases e
end

/-! ### lists: +, * -/
section
variable {X : Cx} {pins : List (Addr × Obj)} {σ : L2.St} {H : Hp} {s : Shared} {l : Addr} {xs : List V}
theorem lstR (I : Inv X pins σ H s) (h : Rd H l (.lst xs)) : xs.length ≤ sizeLine ∧ ∃ (its : List Value) (n : Nat), Vals xs its ∧ xs.length = its.length ∧ s.heap.get? l = some { cls := .type "list", data := .seq its.toArray n } := by
  obtain ⟨z, its, n, r, e⟩ := h.ok I.hok
  exact ⟨z, its, n, r, r.length, e⟩
end
section
variable {X : Cx}
def rCatR : R2 := fun x y H Q => ∃ l b xs zs, x = .ref l ∧ y = .ref b ∧ Rd H l (.lst xs) ∧ Rd H b (.lst zs) ∧ xs.length + zs.length ≤ sizeLine ∧ ∀ p, H p = none → Q (.ref p) (upd H p (.lst (xs ++ zs)))
theorem op_catR : OpR X (binaryOp .Add) rCatR := by
  intro pins s σ H x y v u Q I rx ry h
  obtain ⟨l, b, xs, zs, rfl, rfl, hH, hB, hz, q⟩ := h
  cases rx
  cases ry
  obtain ⟨z, its, n, r, hl, e⟩ := lstR I hH
  obtain ⟨z2, its2, n2, r2, hl2, e2⟩ := lstR I hB
  refine PySem.P.add_list e e2 ?_ (by rw [List.size_toArray, List.size_toArray]; omega)
  have ea : its.toArray ++ its2.toArray = (its ++ its2).toArray := by simp
  rw [ea]
  exact ⟨.ref _, _, I.lnew (t' := s.toks) (r.append r2) (by rw [List.length_append]; omega), rfl, q _ I.fresh⟩
def szOk (n : Nat) : Bool := decide (n ≤ 10000000)
theorem szOk_le {n : Nat} (h : szOk n = true) : n ≤ sizeLine := Nat.le_trans (of_decide_eq_true h) (by rw [sizeLine_eq]; decide)
/-- a + b of ints, of lists -/
def gAdd : D → D → Option D
  | .int i, .int j => some (.int (i + j))
  | .lst a, .lst b => if szOk (a.length + b.length) then some (.lst (a ++ b)) else none
  | _, _ => none
def gCat : D → D → Option D
  | .lst a, .lst b => if szOk (a.length + b.length) then some (.lst (a ++ b)) else none
  | _, _ => none
def gMul : D → D → Option D
  | .int i, .int j => kMul i j
  | .lst a, .int k => if decide (k < 1000000) && szOk (a.length * k.toNat) then some (.lst (List.replicate k.toNat a).flatten) else none
  | _, _ => none
def gRep : D → D → Option D
  | .lst a, .int k => if decide (k < 1000000) && (decide (-1000000 < k) && szOk (a.length * k.toNat)) then some (.lst (List.replicate k.toNat a).flatten) else none
  | _, _ => none
/-- an operation that makes a list of its own -/
def OpSF (S : Sig) (r : R2) (g : D → D → Option D) : Prop := ∀ (H : Hp) (G : Addr → Bool) (x y : V) (dx dy d : D) (Q : VK), (∀ a, G a = true → MutO (H a)) → RepC S H G false x dx → RepC S H G false y dy → g dx dy = some d →
  (∀ p s H', H p = none → Ex H H' → s.d = d → OwnAt S H' (addG G p) p s → Q (.ref p) H') → r x y H Q
theorem snd_binF {S : Sig} {P : PX} {W : WX} {c1 c2 : Bool} {r : R2} {g : D → D → Option D} {ta tb : TE} {ma mb : ME} (hr : OpSF S r g) (ha : SndE S P W c1 ta ma) (hb : SndE S P W c2 tb mb) : SndF S P W (tOp r ta tb) (mBin g ma mb) := fun B G ρ σ H Q I nb k ke => by
  refine snd2 (f := fun x y => R.of (g x y)) (R' := fun v u H2 => r v u H2 Q) ha hb I nb ke fun x y e1 e2 n v u H' x2 r1 r2 => ?_
  cases q : g x y with
  | none => rw [q] at n; exact absurd rfl n
  | some d =>
    refine hr H' G v u x y d Q (I.grow x2).gm r1.weak r2.weak q fun p s H2 hp x3 es w => ?_
    · refine k d (by unfold mBin; rw [e1, e2, R.bind_ok, R.bind_ok, q]; rfl) p s H2 ?_ (x2.trans x3) es w
      cases z : H p with
      | none => rfl
      | some o => rw [x2 p o z] at hp; cases hp
theorem ops_cat {S : Sig} : OpSF S rCatR gCat := fun H G x y dx dy d Q gm rx ry e k => by
  cases dx with
  | lst a =>
    cases dy with
    | lst b =>
      unfold gCat at e
      dsimp only at e
      split at e
      · rename_i hz
        cases e
        obtain ⟨l, xs, rfl, h1, h2⟩ := rx.list
        obtain ⟨l', ys, rfl, h3, h4⟩ := ry.list
        refine ⟨l, l', xs, ys, rfl, rfl, h1, h3, by rw [h2.1, h4.1]; exact szOk_le hz, fun p hp => ?_⟩
        exact k p (.lst (a ++ b)) _ hp (Ex.new hp) rfl ⟨_, upd_same, (h2.append h4).ex (hid_addG hp (Ex.new hp))⟩
      · cases e
    | _ => cases e
  | _ => cases e
theorem ownAt_clean {S : Sig} {H H' : Hp} {G : Addr → Bool} {p : Addr} {s : Sl} (gm : ∀ a, G a = true → MutO (H a)) (hp : H p = none) (w : OwnAt S H' (addG G p) p s) : Rep S (hid H' G) (.ref p) s.d := by
  have g : G p = false := by
    cases z : G p with
    | false => rfl
    | true =>
      have y := gm p z
      rw [hp] at y
      exact y.elim
  have eq : delG (addG G p) p = G := by
    funext a
    by_cases q : a = p
    · subst q
      rw [delG_self, g]
    · rw [delG_ne q, addG_ne q]
  have r := w.rep
  rw [eq] at r
  exact r
theorem re_binF {W : WX} {c1 c2 : Bool} {op : Operator} {a b : Expr} {ma mb : ME} {pos : Pos} {g : D → D → Option D} {r : R2} (h : OpR X (binaryOp op) r) (hs : OpSF (sg X) r g) (ha : RE X W c1 a ma) (hb : RE X W c2 b mb) : RF X W (.BinOp a op b pos) (mBin g ma mb) := by
  obtain ⟨ta, a1, a2⟩ := ha.ex
  obtain ⟨tb, b1, b2⟩ := hb.ex
  exact ⟨_, pe_op h a1 b1, snd_binF hs a2 b2⟩
theorem rf_cat {W : WX} {c1 c2 : Bool} {a b : Expr} {ma mb : ME} {pos : Pos} (ha : RE X W c1 a ma) (hb : RE X W c2 b mb) : RF X W (.BinOp a .Add b pos) (mBin gCat ma mb) := re_binF op_catR ops_cat ha hb
def rRepR : R2 := fun x y H Q => ∃ l k xs, x = .ref l ∧ y = .int k ∧ H l = some (.lst xs) ∧ -(2 ^ 63) ≤ k ∧ k < 2 ^ 63 ∧ xs.length * k.toNat ≤ sizeLine ∧
  ∀ p, H p = none → Q (.ref p) (upd H p (.lst (List.replicate k.toNat xs).flatten))
theorem reps_flat {S : Sig} {H : Hp} {xs : List V} {ds : List D} (h : Reps S H xs ds) : ∀ n : Nat, Reps S H (List.replicate n xs).flatten (List.replicate n ds).flatten
  | 0 => .nil
  | n + 1 => by
    rw [List.replicate_succ, List.replicate_succ, List.flatten_cons, List.flatten_cons]
    exact h.append (reps_flat h n)
/-- [e] * k, the list a display's (or an own one) -/
theorem snd_rep {S : Sig} {P : PX} {W : WX} {c2 : Bool} {ta tb : TE} {ma mb : ME} (ha : SndF S P W ta ma) (hb : SndE S P W c2 tb mb) : SndF S P W (tOp rRep ta tb) (mBin gRep ma mb) := fun B G ρ σ H Q I nb k ke => by
  unfold mBin at nb k ke
  refine ha B G ρ σ H _ I (R.bad_bind nb) (fun d e p s H1 hp x1 es w => ?_) (fun x e => ke x (by rw [e]; rfl))
  rw [e, R.bind_ok] at nb k ke
  refine hb B G ρ σ H1 _ (I.grow x1) (R.bad_bind nb) (fun d2 e2 u H2 x2 r2 => ?_) (fun x e2 cls dd H' x2 => ke x (by rw [e2]; rfl) cls dd H' (x1.trans x2))
  rw [e2, R.bind_ok] at nb k
  cases q : gRep d d2 with
  | none => rw [q] at nb; exact absurd rfl nb
  | some z =>
    rw [q] at k
    cases d with
    | lst a =>
      cases d2 with
      | int i =>
        unfold gRep at q
        dsimp only at q
        split at q
        · rename_i hz
          obtain ⟨h1, hz⟩ := Bool.and_eq_true_iff.mp hz
          obtain ⟨h2, h3⟩ := Bool.and_eq_true_iff.mp hz
          have h1 := of_decide_eq_true h1
          have h2 := of_decide_eq_true h2
          cases q
          cases s with
          | lst es' =>
            cases es
            obtain ⟨xs, w1, w2⟩ := w
            have hp2 := x2 p _ w1
            refine ⟨p, i, xs, rfl, r2.full.is_int, hp2, by omega, by omega, by rw [w2.1]; exact szOk_le h3, fun p' hp' => ?_⟩
            have ne : p ≠ p' := fun e => by rw [← e, hp2] at hp'; cases hp'
            have hp0 : H p' = none := by
              cases z : H p' with
              | none => rfl
              | some o => rw [x2 p' o (x1 p' o z)] at hp'; cases hp'
            refine k _ rfl p' (.lst (List.replicate i.toNat a).flatten) _ hp0 ((x1.trans x2).trans (Ex.new hp')) rfl ⟨_, upd_same, ?_⟩
            refine reps_flat ?_ _
            refine (w2.ex (H' := hid H1 G) (hid_anti addG_sub)).ex ?_
            exact (hid_ex x2).trans (hid_addG hp' (Ex.new hp'))
          | val d => exact w.elim
          | exc x => cases es
          | no => cases es
          | dic t k => cases es
        · cases q
      | _ => cases q
    | _ => cases q
theorem rf_rep {W : WX} {c2 : Bool} {a b : Expr} {ma mb : ME} {pos : Pos} (ha : RF X W a ma) (hb : RE X W c2 b mb) : RF X W (.BinOp a .Mult b pos) (mBin gRep ma mb) := by
  obtain ⟨ta, a1, a2⟩ := ha.ex
  obtain ⟨tb, b1, b2⟩ := hb.ex
  exact ⟨_, pe_op op_rep a1 b1, snd_rep a2 b2⟩
theorem opd_add : OpD X (binaryOp .Add) gAdd := by
  refine ⟨_, OpR.or op_add op_catR, fun H G x y dx dy d Q gm rx ry e k => ?_⟩
  cases dx with
  | int i =>
    cases dy with
    | int j =>
      cases e
      exact .inl ⟨i, j, rx.full.is_int, ry.full.is_int, k _ H (Ex.refl H) (.int _)⟩
    | _ => cases e
  | lst a =>
    cases dy with
    | lst b =>
      unfold gAdd at e
      dsimp only at e
      split at e
      · rename_i hz
        cases e
        obtain ⟨l, xs, rfl, h1, h2⟩ := rx.list
        obtain ⟨l', ys, rfl, h3, h4⟩ := ry.list
        refine .inr ⟨l, l', xs, ys, rfl, rfl, h1, h3, by rw [h2.1, h4.1]; exact szOk_le hz, fun p hp => ?_⟩
        exact k _ _ (Ex.new hp) (ownAt_clean (s := .lst (a ++ b)) gm hp ⟨_, upd_same, (h2.append h4).ex (hid_addG hp (Ex.new hp))⟩)
      · cases e
    | _ => cases e
  | _ => cases e
end

/-! ### == and != of data -/
mutual
/-- data that == looks at: no dicts, no instances, at most n deep -/
def okE : D → Nat → Bool
  | .non, _ => true
  | .bl _, _ => true
  | .int _, _ => true
  | .str s, _ => PyData.strOk s
  | .tup _, 0 => false
  | .tup ds, n + 1 => okEs ds n
  | .lst _, 0 => false
  | .lst ds, n + 1 => okEs ds n
  | .dic _ _, _ => false
  | .ins _ _, _ => false
def okEs : List D → Nat → Bool
  | [], _ => true
  | d :: ds, n => okE d n && okEs ds n
end
mutual
def deq : D → D → Bool
  | .non, .non => true
  | .bl a, .bl b => a == b
  | .bl a, .int j => (if a then 1 else 0) == j
  | .int i, .bl b => i == (if b then 1 else 0)
  | .int i, .int j => i == j
  | .str x, .str y => x == y
  | .lst xs, .lst ys => deqs xs ys
  | .tup xs, .tup ys => deqs xs ys
  | _, _ => false
def deqs : List D → List D → Bool
  | [], [] => true
  | x :: xs, y :: ys => deq x y && deqs xs ys
  | _, _ => false
end
mutual
def toP : D → PyData
  | .non => .none
  | .bl b => .bool b
  | .int i => .int i
  | .str s => .str s
  | .tup ds => .tuple (toPs ds)
  | .lst ds => .list (toPs ds)
  | .dic _ _ => .none
  | .ins _ _ => .none
def toPs : List D → List PyData
  | [] => []
  | d :: ds => toP d :: toPs ds
end
mutual
theorem okE_shape : ∀ (d : D) (n : Nat), okE d n = true → (toP d).canLay0 = true ∧ (toP d).depth ≤ n
  | .non, _, _ => ⟨rfl, Nat.zero_le _⟩
  | .bl _, _, _ => ⟨rfl, Nat.zero_le _⟩
  | .int _, _, _ => ⟨rfl, Nat.zero_le _⟩
  | .str s, _, h => ⟨by unfold okE at h; exact h, Nat.zero_le _⟩
  | .tup _, 0, h => by unfold okE at h; cases h
  | .tup ds, n + 1, h => by
    unfold okE at h
    obtain ⟨a, b⟩ := okEs_shape ds n h
    exact ⟨a, Nat.succ_le_succ b⟩
  | .lst _, 0, h => by unfold okE at h; cases h
  | .lst ds, n + 1, h => by
    unfold okE at h
    obtain ⟨a, b⟩ := okEs_shape ds n h
    exact ⟨a, Nat.succ_le_succ b⟩
  | .dic _ _, _, h => by unfold okE at h; cases h
  | .ins _ _, _, h => by unfold okE at h; cases h
theorem okEs_shape : ∀ (ds : List D) (n : Nat), okEs ds n = true → PyData.canLayAll0 (toPs ds) = true ∧ PyData.depthAll (toPs ds) ≤ n
  | [], _, _ => ⟨rfl, Nat.zero_le _⟩
  | d :: ds, n, h => by
    unfold okEs at h
    obtain ⟨h1, h2⟩ := Bool.and_eq_true_iff.mp h
    obtain ⟨a, b⟩ := okE_shape d n h1
    obtain ⟨c, e⟩ := okEs_shape ds n h2
    refine ⟨?_, ?_⟩
    · show ((toP d).canLay0 && PyData.canLayAll0 (toPs ds)) = true
      rw [a, c]; rfl
    · show max (toP d).depth (PyData.depthAll (toPs ds)) ≤ n
      omega
end
mutual
theorem eqv_toP : ∀ (d e : D) (n m : Nat), okE d n = true → okE e m = true → PyData.eqv (toP d) (toP e) = deq d e
  | .non, e, _, m, _, h => by cases e <;> first | (unfold okE at h; cases h; done) | (unfold toP PyData.eqv deq; rfl)
  | .bl a, e, _, m, _, h => by cases e <;> first | (unfold okE at h; cases h; done) | (unfold toP PyData.eqv deq; rfl)
  | .int a, e, _, m, _, h => by cases e <;> first | (unfold okE at h; cases h; done) | (unfold toP PyData.eqv deq; rfl)
  | .str a, e, _, m, _, h => by cases e <;> first | (unfold okE at h; cases h; done) | (unfold toP PyData.eqv deq; rfl)
  | .tup _, _, 0, _, h, _ => by unfold okE at h; cases h
  | .lst _, _, 0, _, h, _ => by unfold okE at h; cases h
  | .dic _ _, _, _, _, h, _ => by unfold okE at h; cases h
  | .ins _ _, _, _, _, h, _ => by unfold okE at h; cases h
  | .tup xs, .tup ys, n + 1, 0, _, h => by unfold okE at h; cases h
  | .tup xs, .tup ys, n + 1, m + 1, h, h' => by
    unfold okE at h h'
    unfold toP PyData.eqv deq
    exact eqvs_toP xs ys n m h h'
  | .lst xs, .lst ys, n + 1, 0, _, h => by unfold okE at h; cases h
  | .lst xs, .lst ys, n + 1, m + 1, h, h' => by
    unfold okE at h h'
    unfold toP PyData.eqv deq
    exact eqvs_toP xs ys n m h h'
  | .tup xs, .non, n + 1, _, _, _ => by unfold toP PyData.eqv deq; rfl
  | .tup xs, .bl _, n + 1, _, _, _ => by unfold toP PyData.eqv deq; rfl
  | .tup xs, .int _, n + 1, _, _, _ => by unfold toP PyData.eqv deq; rfl
  | .tup xs, .str _, n + 1, _, _, _ => by unfold toP PyData.eqv deq; rfl
  | .tup xs, .lst _, n + 1, _, _, _ => by unfold toP PyData.eqv deq; rfl
  | .tup xs, .dic _ _, n + 1, _, _, h => by unfold okE at h; cases h
  | .tup xs, .ins _ _, n + 1, _, _, h => by unfold okE at h; cases h
  | .lst xs, .non, n + 1, _, _, _ => by unfold toP PyData.eqv deq; rfl
  | .lst xs, .bl _, n + 1, _, _, _ => by unfold toP PyData.eqv deq; rfl
  | .lst xs, .int _, n + 1, _, _, _ => by unfold toP PyData.eqv deq; rfl
  | .lst xs, .str _, n + 1, _, _, _ => by unfold toP PyData.eqv deq; rfl
  | .lst xs, .tup _, n + 1, _, _, _ => by unfold toP PyData.eqv deq; rfl
  | .lst xs, .dic _ _, n + 1, _, _, h => by unfold okE at h; cases h
  | .lst xs, .ins _ _, n + 1, _, _, h => by unfold okE at h; cases h
theorem eqvs_toP : ∀ (xs ys : List D) (n m : Nat), okEs xs n = true → okEs ys m = true → PyData.eqvAll (toPs xs) (toPs ys) = deqs xs ys
  | [], [], _, _, _, _ => by unfold toPs PyData.eqvAll deqs; rfl
  | [], y :: ys, _, _, _, _ => by unfold toPs PyData.eqvAll deqs; rfl
  | x :: xs, [], _, _, _, _ => by unfold toPs PyData.eqvAll deqs; rfl
  | x :: xs, y :: ys, n, m, h, h' => by
    unfold okEs at h h'
    obtain ⟨h1, h2⟩ := Bool.and_eq_true_iff.mp h
    obtain ⟨k1, k2⟩ := Bool.and_eq_true_iff.mp h'
    unfold toPs PyData.eqvAll deqs
    rw [eqv_toP x y n m h1 k1, eqvs_toP xs ys n m h2 k2]
end
mutual
theorem rep_dp {S : Sig} {H : Hp} : ∀ (d : D) (n : Nat) (v : V), okE d n = true → Rep S H v d → Dp S.K H v (toP d)
  | .non, _, v, _, r => by rw [r.is_non]; exact .non
  | .bl b, _, v, _, r => by rw [r.is_bl]; exact .bl b
  | .int i, _, v, _, r => by rw [r.is_int]; exact .int i
  | .str s, _, v, _, r => by rw [r.is_str]; exact .str s
  | .tup _, 0, _, h, _ => by unfold okE at h; cases h
  | .tup ds, n + 1, v, h, r => by
    unfold okE at h
    obtain ⟨a, xs, rfl, h1, h2⟩ := r.is_tup
    unfold toP
    exact .tup (SqT.of h1) (reps_dp ds n xs h h2)
  | .lst _, 0, _, h, _ => by unfold okE at h; cases h
  | .lst ds, n + 1, v, h, r => by
    unfold okE at h
    obtain ⟨a, xs, rfl, h1, h2⟩ := r.is_lst
    unfold toP
    exact .lst (.inl h1) (reps_dp ds n xs h h2)
  | .dic _ _, _, _, h, _ => by unfold okE at h; cases h
  | .ins _ _, _, _, h, _ => by unfold okE at h; cases h
theorem reps_dp {S : Sig} {H : Hp} : ∀ (ds : List D) (n : Nat) (xs : List V), okEs ds n = true → Reps S H xs ds → DpAll S.K H xs (toPs ds)
  | [], _, [], _, _ => by unfold toPs; exact .nil
  | [], _, _ :: _, _, r => by have := r.1; simp at this
  | d :: ds, _, [], _, r => by have := r.1; simp at this
  | d :: ds, n, x :: xs, h, r => by
    unfold okEs at h
    obtain ⟨h1, h2⟩ := Bool.and_eq_true_iff.mp h
    unfold toPs
    exact .cons (rep_dp d n x h1 r.head) (reps_dp ds n xs h2 r.tail)
end
theorem okE_shaped {d : D} (h : okE d 60 = true) : SeqAt.shaped (toP d) = true := by
  obtain ⟨a, b⟩ := okE_shape d 60 h
  unfold SeqAt.shaped
  rw [a, decide_eq_true (by omega : (toP d).depth ≤ 64)]
  rfl
def gEq : D → D → Option D := fun x y => if okE x 60 && okE y 60 then some (.bl (deq x y)) else none
def gNe : D → D → Option D := fun x y => if okE x 60 && okE y 60 then some (.bl (!deq x y)) else none
section
variable {X : Cx}
theorem opd_eq (hu : X.A.units + 64 < cLine) : OpD X (compareOp .Eq) gEq := ⟨_, op_eqD hu, fun H G x y dx dy d Q gm rx ry e k => by
  unfold gEq at e
  split at e
  · rename_i h
    obtain ⟨h1, h2⟩ := Bool.and_eq_true_iff.mp h
    cases e
    refine ⟨toP dx, toP dy, rep_dp dx 60 x h1 rx.full, rep_dp dy 60 y h2 ry.full, okE_shaped h1, okE_shaped h2, ?_⟩
    rw [eqv_toP dx dy 60 60 h1 h2]
    exact k _ H (Ex.refl H) (.bl _)
  · cases e⟩
theorem opd_ne (hu : X.A.units + 64 < cLine) : OpD X (compareOp .NotEq) gNe := ⟨_, op_neD hu, fun H G x y dx dy d Q gm rx ry e k => by
  unfold gNe at e
  split at e
  · rename_i h
    obtain ⟨h1, h2⟩ := Bool.and_eq_true_iff.mp h
    cases e
    refine ⟨toP dx, toP dy, rep_dp dx 60 x h1 rx.full, rep_dp dy 60 y h2 ry.full, okE_shaped h1, okE_shaped h2, ?_⟩
    rw [eqv_toP dx dy 60 60 h1 h2]
    exact k _ H (Ex.refl H) (.bl _)
  · cases e⟩
/-- x is None -/
def isNon : D → Bool
  | .non => true
  | _ => false
theorem isNon_of {S : Sig} {H : Hp} {v : V} {d : D} (r : Rep S H v d) : decide (v = .non) = isNon d := by
  cases r <;> rfl
def gIsN : D → D → Option D
  | x, .non => some (.bl (isNon x))
  | _, _ => none
def gNotN : D → D → Option D
  | x, .non => some (.bl (!isNon x))
  | _, _ => none
theorem opd_isN : OpD X (compareOp .Is) gIsN := ⟨_, op_isN, fun H G x y dx dy d Q gm rx ry e k => by
  cases dy with
  | non =>
    have ed : D.bl (isNon dx) = d := by cases dx <;> exact Option.some.inj e
    subst ed
    refine ⟨ry.full.is_non, ?_⟩
    rw [isNon_of rx.full]
    exact k _ H (Ex.refl H) (.bl _)
  | _ => cases dx <;> cases e⟩
theorem opd_notN : OpD X (compareOp .IsNot) gNotN := ⟨_, op_notN, fun H G x y dx dy d Q gm rx ry e k => by
  cases dy with
  | non =>
    have ed : D.bl (!isNon dx) = d := by cases dx <;> exact Option.some.inj e
    subst ed
    refine ⟨ry.full.is_non, ?_⟩
    rw [isNon_of rx.full]
    exact k _ H (Ex.refl H) (.bl _)
  | _ => cases dx <;> cases e⟩

/-! ### x[i] -/
def ixL (ds : List D) (i : Int) : Option D := if 0 ≤ i then ds[i.toNat]? else if -(ds.length : Int) ≤ i then ds[(i + ds.length).toNat]? else none
def gIx : D → D → Option D
  | .lst ds, .int i => ixL ds i
  | .tup ds, .int i => ixL ds i
  | _, _ => none
theorem atI_of {S : Sig} {H : Hp} {xs : List V} {ds : List D} {i : Int} {d : D} (r : Reps S H xs ds) (h : ixL ds i = some d) : ∃ x, atI xs i = some x ∧ Rep S H x d := by
  unfold ixL at h
  unfold atI ixN
  split at h
  · rename_i h0
    obtain ⟨x, h1, h2⟩ := r.get h
    have hl : i.toNat < xs.length := (List.getElem?_eq_some_iff.mp h1).1
    refine ⟨x, ?_, h2⟩
    rw [if_pos h0, if_pos (by omega)]
    exact h1
  · rename_i h0
    split at h
    · rename_i h3
      obtain ⟨x, h1, h2⟩ := r.get h
      refine ⟨x, ?_, h2⟩
      rw [if_neg h0, if_pos (by rw [r.1]; exact h3), r.1]
      exact h1
    · cases h
theorem snd_ix {S : Sig} {K : PySem.W.Frag} (hK : S.K = K) : OpS S (rIx K) gIx := fun H G x y dx dy d Q gm rx ry e k => by
  cases dy with
  | int i =>
    cases dx with
    | lst ds =>
      obtain ⟨a, xs, rfl, h1, h2⟩ := rx.list
      obtain ⟨v, h3, h4⟩ := atI_of h2 (show ixL ds i = some d from e)
      exact .inl ⟨a, xs, i, v, rfl, ry.full.is_int, .inl h1, h3, k v H (Ex.refl H) h4⟩
    | tup ds =>
      obtain ⟨a, xs, rfl, h1, h2⟩ := rx.tuple
      obtain ⟨v, h3, h4⟩ := atI_of h2 (show ixL ds i = some d from e)
      exact .inr (.inl ⟨a, xs, i, v, rfl, ry.full.is_int, SqT.of h1, h3, k v H (Ex.refl H) h4⟩)
    | _ => cases e
  | _ => cases dx <;> cases e
variable {W : WX} {c c1 c2 : Bool} {a b : Expr} {ma mb : ME} {pos p2 : Pos}
theorem re_ix (ha : RE X W c1 a ma) (hb : RE X W c2 b mb) (hs : PlainIx b := by exact fun _ _ => rfl) : RE X W true (.Subscript a b pos) (mBin gIx ma mb) := by
  obtain ⟨ta, a1, a2⟩ := ha.ex
  obtain ⟨tb, b1, b2⟩ := hb.ex
  exact ⟨_, pe_ix ix_seq a1 b1 hs, snd_bin (snd_ix rfl) a2 b2⟩

/-! ### x[i:j] -/
abbrev MO := Env → R (Option Int)
def SndO (S : Sig) (P : PX) (W : WX) (t : TO) (m : MO) : Prop :=
  ∀ (B : Bs) (G : Addr → Bool) (ρ : Env) (σ : L2.St) (H : Hp) (Q : Option Int → Hp → Prop), Sts S P B G ρ σ H → m ρ ≠ .bad → (∀ d, m ρ = .ok d → ∀ H', Ex H H' → Q d H') →
    (∀ x, m ρ = .err x → ∀ cls dd H', Ex H H' → RepX S (hid H' G) cls dd x → W cls dd σ H') → t σ H Q
structure RO (X : Cx) (W : WX) (e : Option Expr) (m : MO) : Prop where
  ex : ∃ t, PO X e t ∧ SndO (sg X) (pp X) W t m
def mNo : MO := fun _ => .ok none
def mPart (a : ME) : MO := fun ρ => (a ρ).bind fun d => match d with
  | .int i => .ok (some i)
  | _ => .bad
theorem ro_no : RO X W none mNo := ⟨_, po_none, fun B G ρ σ H Q I nb k ke => k none rfl H (Ex.refl H)⟩
theorem ro_part (ha : RE X W c a ma) : RO X W (some a) (mPart ma) := by
  obtain ⟨ta, a1, a2⟩ := ha.ex
  refine ⟨_, po_some a1, fun B G ρ σ H Q I nb k ke => ?_⟩
  unfold mPart at nb k ke
  refine a2 B G ρ σ H _ I (R.bad_bind nb) (fun d e v H' x r => ?_) (fun x e => ke x (by rw [e]; rfl))
  rw [e, R.bind_ok] at nb k
  cases d with
  | int i => exact ⟨i, r.full.is_int, k _ rfl H' x⟩
  | _ => exact absurd rfl nb
def cutD (ds : List D) (lo hi : Option Int) : List D := (ds.drop (HT.sIx ds.length 0 lo)).take (HT.sIx ds.length ds.length hi - HT.sIx ds.length 0 lo)
theorem cut_reps {S : Sig} {H : Hp} {xs : List V} {ds : List D} (r : Reps S H xs ds) (lo hi : Option Int) : Reps S H (cutV xs lo hi) (cutD ds lo hi) := by
  unfold cutV cutD
  rw [r.1]
  exact (r.drop _).take _
/-- a slice of a list -/
def mSl (a : ME) (l h : MO) : ME := fun ρ => (a ρ).bind fun d => (l ρ).bind fun i => (h ρ).bind fun j => match d with
  | .lst ds => .ok (.lst (cutD ds i j))
  | _ => .bad
theorem rf_sl {lo hi : Option Expr} {ml mh : MO} (ha : RE X W c a ma) (hl : RO X W lo ml) (hh : RO X W hi mh) : RF X W (.Subscript a (.Slice lo hi none p2) pos) (mSl ma ml mh) := by
  obtain ⟨ta, a1, a2⟩ := ha.ex
  obtain ⟨tl, l1, l2⟩ := hl.ex
  obtain ⟨th, h1, h2⟩ := hh.ex
  refine ⟨_, pe_slice sl_list a1 l1 h1, fun B G ρ σ H Q I nb k ke => ?_⟩
  unfold mSl at nb k ke
  refine a2 B G ρ σ H _ I (R.bad_bind nb) (fun d e v H1 x1 r => ?_) (fun x e => ke x (by rw [e]; rfl))
  rw [e, R.bind_ok] at nb k ke
  refine l2 B G ρ σ H1 _ (I.grow x1) (R.bad_bind nb) (fun i ei H2 x2 => ?_) (fun x e2 cls dd H' x2 => ke x (by rw [e2]; rfl) cls dd H' (x1.trans x2))
  rw [ei, R.bind_ok] at nb k ke
  refine h2 B G ρ σ H2 _ (I.grow (x1.trans x2)) (R.bad_bind nb) (fun j ej H3 x3 => ?_) (fun x e2 cls dd H' x3 => ke x (by rw [e2]; rfl) cls dd H' ((x1.trans x2).trans x3))
  rw [ej, R.bind_ok] at nb k
  cases d with
  | lst ds =>
    obtain ⟨p, xs, rfl, q1, q2⟩ := (r.grow (x2.trans x3)).list
    refine ⟨p, xs, rfl, .inl q1, fun l hl => ?_⟩
    have hp0 : H l = none := by
      cases z : H l with
      | none => rfl
      | some o => rw [((x1.trans x2).trans x3) l o z] at hl; cases hl
    exact k _ rfl l (.lst (cutD ds i j)) _ hp0 (((x1.trans x2).trans x3).trans (Ex.new hl)) rfl ⟨_, upd_same, (cut_reps q2 i j).ex (hid_addG hl (Ex.new hl))⟩
  | _ => exact absurd rfl nb
end

/-! ### calls of built-ins -/
def CallS (S : Sig) (r : List V → Hp → VK → Prop) (g : List D → Option D) : Prop := ∀ (H : Hp) (G : Addr → Bool) (vs : List V) (ds : List D) (d : D) (Q : VK), (∀ a, G a = true → MutO (H a)) → vs.length = ds.length →
  (∀ (i : Nat) (v : V) (e : D), vs[i]? = some v → ds[i]? = some e → RepC S H G false v e) → g ds = some d → (∀ v H', Ex H H' → Rep S (hid H' G) v d → Q v H') → r vs H Q
/-- that make a list of their own -/
def CallSF (S : Sig) (r : List V → Hp → VK → Prop) (g : List D → Option D) : Prop := ∀ (H : Hp) (G : Addr → Bool) (vs : List V) (ds : List D) (d : D) (Q : VK), (∀ a, G a = true → MutO (H a)) → vs.length = ds.length →
  (∀ (i : Nat) (v : V) (e : D), vs[i]? = some v → ds[i]? = some e → RepC S H G false v e) → g ds = some d → (∀ p s H', H p = none → Ex H H' → s.d = d → OwnAt S H' (addG G p) p s → Q (.ref p) H') → r vs H Q
def mCall (g : List D → Option D) (m : MA) : ME := fun ρ => (m ρ).bind fun ds => R.of (g ds)
theorem repc_f {S : Sig} {H : Hp} {G : Addr → Bool} {c : Bool} {vs : List V} {ds : List D} (h : ∀ (i : Nat) (v : V) (d : D), vs[i]? = some v → ds[i]? = some d → RepC S H G c v d) : ∀ (i : Nat) (v : V) (d : D), vs[i]? = some v → ds[i]? = some d → RepC S H G false v d :=
  fun i v d h1 h2 => (h i v d h1 h2).weak
theorem snd_call {S : Sig} {P : PX} {W : WX} {c : Bool} {n : Nat} {r : List V → Hp → VK → Prop} {g : List D → Option D} {t : TA} {m : MA} (hr : CallS S r g) (h : SndA S P W c n t m) : SndE S P W true (tCB r t) (mCall g m) := fun B G ρ σ H Q I nb k ke => by
  unfold mCall at nb k ke
  refine h B G ρ σ H _ I (R.bad_bind nb) (fun ds e vs H' x hn hl rs => ?_) (fun x e => ke x (by rw [e]; rfl))
  rw [e, R.bind_ok] at nb k
  cases q : g ds with
  | none => rw [q] at nb; exact absurd rfl nb
  | some d => exact hr H' G vs ds d Q (I.grow x).gm hl (repc_f rs) q fun v H2 x2 r2 => k d (by rw [q]; rfl) v H2 (x.trans x2) r2
theorem snd_callF {S : Sig} {P : PX} {W : WX} {c : Bool} {n : Nat} {r : List V → Hp → VK → Prop} {g : List D → Option D} {t : TA} {m : MA} (hr : CallSF S r g) (h : SndA S P W c n t m) : SndF S P W (tCB r t) (mCall g m) := fun B G ρ σ H Q I nb k ke => by
  unfold mCall at nb k ke
  refine h B G ρ σ H _ I (R.bad_bind nb) (fun ds e vs H' x hn hl rs => ?_) (fun x e => ke x (by rw [e]; rfl))
  rw [e, R.bind_ok] at nb k
  cases q : g ds with
  | none => rw [q] at nb; exact absurd rfl nb
  | some d =>
    refine hr H' G vs ds d Q (I.grow x).gm hl (repc_f rs) q fun p s H2 hp x2 es w => k d (by rw [q]; rfl) p s H2 ?_ (x.trans x2) es w
    cases z : H p with
    | none => rfl
    | some o => rw [x p o z] at hp; cases hp
theorem vs1 {vs : List V} {d : D} (h : vs.length = [d].length) : ∃ v, vs = [v] := by
  match vs, h with
  | [v], _ => exact ⟨v, rfl⟩
theorem vs2 {vs : List V} {d e : D} (h : vs.length = [d, e].length) : ∃ v u, vs = [v, u] := by
  match vs, h with
  | [v, u], _ => exact ⟨v, u, rfl⟩
section
variable {X : Cx} {W : WX} {c : Bool} {e : Expr} {es : List Expr} {m : MA} {x : Str} {p pos : Pos}
/-- a built-in function of a built-in name -/
theorem re_callB {id : String} {r : List V → Hp → VK → Prop} {g : List D → Option D} (hc : CallR X (.builtin id) r) (hs : CallS (sg X) r g) (hg : Gl X x) (hm : X.mg x = none) (hv : bootBuiltins x = some (.builtin id)) (ha : RA X W c (e :: es) m) (hn : x ≠ "__name__" := by decide)
    (hdb : (x == ("__debug__" : Str)) = false := by decide) (he : starEach (e :: es) X.env = (false, eval e X.env) :: starEach es X.env := by rfl) (hpl : (backTo pos (starEach es X.env)).any (·.1) = false := by rfl) : RE X W true (.Call (.Name x p) (e :: es) [] pos) (mCall g m) := by
  obtain ⟨t, a1, a2⟩ := ha.ex
  exact ⟨_, pe_callB hc hg hm hv a1 hn hdb he hpl, snd_call hs a2⟩
theorem re_callTy {T : String} {r : List V → Hp → VK → Prop} {g : List D → Option D} (hc : CallR X (.type T) r) (hs : CallS (sg X) r g) (hg : Gl X x) (hm : X.mg x = none) (hv : bootBuiltins x = some (.type T)) (ha : RA X W c (e :: es) m) (hn : x ≠ "__name__" := by decide)
    (hdb : (x == ("__debug__" : Str)) = false := by decide) (he : starEach (e :: es) X.env = (false, eval e X.env) :: starEach es X.env := by rfl) (hpl : (backTo pos (starEach es X.env)).any (·.1) = false := by rfl) : RE X W true (.Call (.Name x p) (e :: es) [] pos) (mCall g m) := by
  obtain ⟨t, a1, a2⟩ := ha.ex
  exact ⟨_, pe_callTy hc hg hm hv a1 hn hdb he hpl, snd_call hs a2⟩
theorem rf_callTy {T : String} {r : List V → Hp → VK → Prop} {g : List D → Option D} (hc : CallR X (.type T) r) (hs : CallSF (sg X) r g) (hg : Gl X x) (hm : X.mg x = none) (hv : bootBuiltins x = some (.type T)) (ha : RA X W c (e :: es) m) (hn : x ≠ "__name__" := by decide)
    (hdb : (x == ("__debug__" : Str)) = false := by decide) (he : starEach (e :: es) X.env = (false, eval e X.env) :: starEach es X.env := by rfl) (hpl : (backTo pos (starEach es X.env)).any (·.1) = false := by rfl) : RF X W (.Call (.Name x p) (e :: es) [] pos) (mCall g m) := by
  obtain ⟨t, a1, a2⟩ := ha.ex
  exact ⟨_, pe_callTy hc hg hm hv a1 hn hdb he hpl, snd_callF hs a2⟩
theorem rf_callB {id : String} {r : List V → Hp → VK → Prop} {g : List D → Option D} (hc : CallR X (.builtin id) r) (hs : CallSF (sg X) r g) (hg : Gl X x) (hm : X.mg x = none) (hv : bootBuiltins x = some (.builtin id)) (ha : RA X W c (e :: es) m) (hn : x ≠ "__name__" := by decide)
    (hdb : (x == ("__debug__" : Str)) = false := by decide) (he : starEach (e :: es) X.env = (false, eval e X.env) :: starEach es X.env := by rfl) (hpl : (backTo pos (starEach es X.env)).any (·.1) = false := by rfl) : RF X W (.Call (.Name x p) (e :: es) [] pos) (mCall g m) := by
  obtain ⟨t, a1, a2⟩ := ha.ex
  exact ⟨_, pe_callB hc hg hm hv a1 hn hdb he hpl, snd_callF hs a2⟩
/-- a module's built-in function (gcd) -/
theorem re_callM {id : String} {r : List V → Hp → VK → Prop} {g : List D → Option D} (hc : CallR X (.builtin id) r) (hs : CallS (sg X) r g) (hg : Gl X x) (hm : X.mg x = some (.builtin id)) (ha : RA X W c (e :: es) m)
    (hdb : (x == ("__debug__" : Str)) = false := by decide) (he : starEach (e :: es) X.env = (false, eval e X.env) :: starEach es X.env := by rfl) (hpl : (backTo pos (starEach es X.env)).any (·.1) = false := by rfl) : RE X W true (.Call (.Name x p) (e :: es) [] pos) (mCall g m) := by
  obtain ⟨t, a1, a2⟩ := ha.ex
  exact ⟨_, pe_callBfun hc hg hm a1 hdb he hpl, snd_call hs a2⟩
end
/-! ### len, list, tuple, int, gcd, max, min -/
def gLen : List D → Option D
  | [.lst ds] => some (.int ds.length)
  | [.tup ds] => some (.int ds.length)
  | _ => none
def rLenQ (K : PySem.W.Frag) : List V → Hp → VK → Prop := fun xs H Q => ∃ p ys, xs = [.ref p] ∧ (SqL K H p ys ∨ SqT K H p ys) ∧ Q (.int ys.length) H
theorem calls_len {S : Sig} : CallS S (rLenQ S.K) gLen := fun H G vs ds d Q gm hl rs e k => by
  match ds, e with
  | [.lst es], e =>
    cases e
    obtain ⟨v, rfl⟩ := vs1 hl
    obtain ⟨a, xs, rfl, h1, h2⟩ := (rs 0 v _ rfl rfl).list
    exact ⟨a, xs, rfl, .inl (.inl h1), by rw [h2.1]; exact k _ H (Ex.refl H) (.int _)⟩
  | [.tup es], e =>
    cases e
    obtain ⟨v, rfl⟩ := vs1 hl
    obtain ⟨a, xs, rfl, h1, h2⟩ := (rs 0 v _ rfl rfl).tuple
    exact ⟨a, xs, rfl, .inr (SqT.of h1), by rw [h2.1]; exact k _ H (Ex.refl H) (.int _)⟩
def gList : List D → Option D
  | [.lst ds] => some (.lst ds)
  | [.tup ds] => some (.lst ds)
  | _ => none
def rListQ (K : PySem.W.Frag) : List V → Hp → VK → Prop := fun xs H Q => ∃ p ys, xs = [.ref p] ∧ (SqL K H p ys ∨ SqT K H p ys) ∧ ∀ l, H l = none → Q (.ref l) (upd H l (.lst ys))
theorem calls_list {S : Sig} : CallSF S (rListQ S.K) gList := fun H G vs ds d Q gm hl rs e k => by
  match ds, e with
  | [.lst es], e =>
    cases e
    obtain ⟨v, rfl⟩ := vs1 hl
    obtain ⟨a, xs, rfl, h1, h2⟩ := (rs 0 v _ rfl rfl).list
    exact ⟨a, xs, rfl, .inl (.inl h1), fun l hl => k l (.lst es) _ hl (Ex.new hl) rfl ⟨_, upd_same, h2.ex (hid_addG hl (Ex.new hl))⟩⟩
  | [.tup es], e =>
    cases e
    obtain ⟨v, rfl⟩ := vs1 hl
    obtain ⟨a, xs, rfl, h1, h2⟩ := (rs 0 v _ rfl rfl).tuple
    exact ⟨a, xs, rfl, .inr (SqT.of h1), fun l hl => k l (.lst es) _ hl (Ex.new hl) rfl ⟨_, upd_same, h2.ex (hid_addG hl (Ex.new hl))⟩⟩
def gTuple : List D → Option D
  | [.lst ds] => some (.tup ds)
  | _ => none
def rTupleQ (K : PySem.W.Frag) : List V → Hp → VK → Prop := fun xs H Q => ∃ p ys, xs = [.ref p] ∧ ((SqL K H p ys ∧ ∀ l, H l = none → Q (.ref l) (upd H l (.tup ys))) ∨ (SqT K H p ys ∧ Q (.ref p) H))
theorem fresh_vis {G : Addr → Bool} {H : Hp} {p : Addr} (gm : ∀ a, G a = true → MutO (H a)) (hp : H p = none) : G p = false := by
  cases z : G p with
  | false => rfl
  | true =>
    have y := gm p z
    rw [hp] at y
    exact y.elim
theorem calls_tuple {S : Sig} : CallS S (rTupleQ S.K) gTuple := fun H G vs ds d Q gm hl rs e k => by
  match ds, e with
  | [.lst es], e =>
    cases e
    obtain ⟨v, rfl⟩ := vs1 hl
    obtain ⟨a, xs, rfl, h1, h2⟩ := (rs 0 v _ rfl rfl).list
    exact ⟨a, xs, rfl, .inl ⟨.inl h1, fun l hl => k _ _ (Ex.new hl) (Rep.mkT (hid_of (fresh_vis gm hl) upd_same) (h2.ex (hid_ex (Ex.new hl))))⟩⟩
def gInt : List D → Option D
  | [.int i] => some (.int i)
  | [.bl b] => some (.int (if b then 1 else 0))
  | _ => none
def rIntQ : List V → Hp → VK → Prop := fun xs H Q => (∃ i, xs = [.int i] ∧ Q (.int i) H) ∨ ∃ k, xs = [.bl k] ∧ Q (.int (if k then 1 else 0)) H
theorem calls_int {S : Sig} : CallS S rIntQ gInt := fun H G vs ds d Q gm hl rs e k => by
  match ds, e with
  | [.int i], e =>
    cases e
    obtain ⟨v, rfl⟩ := vs1 hl
    have ev := (rs 0 v _ rfl rfl).full.is_int
    subst ev
    exact .inl ⟨i, rfl, k _ H (Ex.refl H) (.int _)⟩
  | [.bl i], e =>
    cases e
    obtain ⟨v, rfl⟩ := vs1 hl
    have ev := (rs 0 v _ rfl rfl).full.is_bl
    subst ev
    exact .inr ⟨i, rfl, k _ H (Ex.refl H) (.int _)⟩
def gII (f : Int → Int → Int) : List D → Option D
  | [.int i, .int j] => some (.int (f i j))
  | _ => none
theorem calls_ii {S : Sig} {f : Int → Int → Int} : CallS S (fun xs H Q => ∃ i j, xs = [.int i, .int j] ∧ Q (.int (f i j)) H) (gII f) := fun H G vs ds d Q gm hl rs e k => by
  match ds, e with
  | [.int i, .int j], e =>
    cases e
    obtain ⟨v, u, rfl⟩ := vs2 hl
    have ev := (rs 0 v _ rfl rfl).full.is_int
    have eu := (rs 1 u _ rfl rfl).full.is_int
    subst ev eu
    exact ⟨i, j, rfl, k _ H (Ex.refl H) (.int _)⟩
def fGcd (a b : Int) : Int := ((Nat.gcd a.natAbs b.natAbs : Nat) : Int)
def fMax (i j : Int) : Int := if j > i then j else i
def fMin (i j : Int) : Int := if j < i then j else i
end Fx

-- Fx3
set_option Elab.async false
set_option linter.all false
set_option maxRecDepth 100000
set_option maxHeartbeats 2000000
/-! Fx3: statements. -/
namespace Fx
open PySem PySem.Spec PyProof.Rows L2

inductive Out where
  | nx (ρ : Env) | rt (d : D) | bk (ρ : Env) | ct (ρ : Env) | err (x : Exn) (ρ : Env) | bad
abbrev MS := Env → Out
/-- what is seen stays, and stays seen -/
def Fr (G : Addr → Bool) (H : Hp) (G' : Addr → Bool) (H' : Hp) : Prop := ∀ a o, G a = false → H a = some o → H' a = some o ∧ G' a = false
theorem Fr.refl (G : Addr → Bool) (H : Hp) : Fr G H G H := fun a o g h => ⟨h, g⟩
theorem Fr.trans {G G1 G2 : Addr → Bool} {H H1 H2 : Hp} (a : Fr G H G1 H1) (b : Fr G1 H1 G2 H2) : Fr G H G2 H2 := fun x o g h => by
  obtain ⟨h1, g1⟩ := a x o g h
  exact b x o g1 h1
theorem Fr.of_ex {G : Addr → Bool} {H H' : Hp} (e : Ex H H') : Fr G H G H' := fun a o g h => ⟨e a o h, g⟩
theorem Fr.ex {G G' : Addr → Bool} {H H' : Hp} (f : Fr G H G' H') : Ex (hid H G) (hid H' G') := fun a o h => by
  obtain ⟨g, h⟩ := hid_some h
  obtain ⟨h2, g2⟩ := f a o g h
  exact hid_of g2 h2
/-- what is wanted behind a statement, by the mirror's outcome; fr: a def that hands back a list of its own -/
def PostS (S : Sig) (P : PX) (W : WX) (fr : Bool) (B : Bs) (G : Addr → Bool) (H : Hp) (E : Ends) : Out → Prop
  | .nx ρ' => ∀ G' σ' H', Sts S P B G' ρ' σ' H' → Fr G H G' H' → E.nx σ' H'
  | .bk ρ' => ∀ G' σ' H', Sts S P B G' ρ' σ' H' → Fr G H G' H' → E.bk σ' H'
  | .ct ρ' => ∀ G' σ' H', Sts S P B G' ρ' σ' H' → Fr G H G' H' → E.ct σ' H'
  | .rt d => if fr = true then ∀ p s H', Ex B.H H' → B.H p = none → s.d = d → OwnAt S H' (addG B.G p) p s → E.rt (.ref p) H' else ∀ v H', Ex B.H H' → Rep S (hid H' B.G) v d → E.rt v H'
  | .err x ρ' => ∀ cls dd G' σ' H', Sts S P B G' ρ' σ' H' → Fr G H G' H' → RepX S (hid H' G') cls dd x → W cls dd σ' H'
  | .bad => False
theorem PostS.move {S : Sig} {P : PX} {W : WX} {fr : Bool} {B : Bs} {G G' : Addr → Bool} {H H' : Hp} {E : Ends} (f : Fr G H G' H') : ∀ {o : Out}, PostS S P W fr B G H E o → PostS S P W fr B G' H' E o
  | .nx _, h => fun G2 σ2 H2 I f2 => h G2 σ2 H2 I (f.trans f2)
  | .bk _, h => fun G2 σ2 H2 I f2 => h G2 σ2 H2 I (f.trans f2)
  | .ct _, h => fun G2 σ2 H2 I f2 => h G2 σ2 H2 I (f.trans f2)
  | .rt _, h => h
  | .err _ _, h => fun c dd G2 σ2 H2 I f2 => h c dd G2 σ2 H2 I (f.trans f2)
  | .bad, h => h
def SndS (S : Sig) (P : PX) (W : WX) (fr : Bool) (t : TS) (m : MS) : Prop := ∀ (B : Bs) (G : Addr → Bool) (ρ : Env) (σ : L2.St) (H : Hp) (E : Ends), Sts S P B G ρ σ H → PostS S P W fr B G H E (m ρ) → t E σ H
structure RS (X : Cx) (W : WX) (fr : Bool) (st : Stmt) (m : MS) : Prop where
  ex : ∃ t, PS X st t ∧ SndS (sg X) (pp X) W fr t m
structure RSs (X : Cx) (W : WX) (fr : Bool) (st : List Stmt) (m : MS) : Prop where
  ex : ∃ t, PSs X st t ∧ SndS (sg X) (pp X) W fr t m

/-- an expression's result, then -/
def R.out {α : Type} (ρ : Env) (r : R α) (k : α → Out) : Out := match r with
  | .ok a => k a
  | .err x => .err x ρ
  | .bad => .bad
@[simp] theorem R.out_ok {α : Type} (ρ : Env) (a : α) (k : α → Out) : (R.ok a).out ρ k = k a := rfl
@[simp] theorem R.out_err {α : Type} (ρ : Env) (x : Exn) (k : α → Out) : (R.err x : R α).out ρ k = .err x ρ := rfl
@[simp] theorem R.out_bad {α : Type} (ρ : Env) (k : α → Out) : (R.bad : R α).out ρ k = .bad := rfl
section
variable {S : Sig} {P : PX} {W : WX} {fr : Bool} {B : Bs} {G : Addr → Bool} {ρ : Env} {σ : L2.St} {H : Hp} {E : Ends} {α : Type} {r : R α} {k : α → Out}
theorem post_nb (h : PostS S P W fr B G H E (r.out ρ k)) : r ≠ .bad := by
  rintro rfl
  exact h
theorem post_err (I : Sts S P B G ρ σ H) (h : PostS S P W fr B G H E (r.out ρ k)) : ∀ x, r = .err x → ∀ cls dd H', Ex H H' → RepX S (hid H' G) cls dd x → W cls dd σ H' := fun x e cls dd H' x1 rx => by
  rw [e] at h
  exact h cls dd G σ H' (I.grow x1) (.of_ex x1) rx
theorem post_ok {a : α} (e : r = .ok a) (h : PostS S P W fr B G H E (r.out ρ k)) : PostS S P W fr B G H E (k a) := by
  rw [e] at h
  exact h
end

/-! ### blocks -/
def mNext : MS := fun ρ => .nx ρ
def mSeq (m n : MS) : MS := fun ρ => match m ρ with
  | .nx ρ' => n ρ'
  | o => o
section
variable {X : Cx} {W : WX} {fr : Bool} {st : Stmt} {rest : List Stmt} {m n : MS} {pos : Pos}
theorem rss_nil : RSs X W fr [] mNext := ⟨_, pss_nil, fun B G ρ σ H E I h => h G σ H I (Fr.refl G H)⟩
theorem snd_seq {S : Sig} {P : PX} {t u : TS} (h1 : SndS S P W fr t m) (h2 : SndS S P W fr u n) : SndS S P W fr (tSeq t u) (mSeq m n) := fun B G ρ σ H E I h => by
  refine h1 B G ρ σ H _ I ?_
  unfold mSeq at h
  cases q : m ρ with
  | nx ρ' => rw [q] at h; exact fun G' σ' H' I' f => h2 B G' ρ' σ' H' E I' (PostS.move f h)
  | rt d => rw [q] at h; exact h
  | bk ρ' => rw [q] at h; exact h
  | ct ρ' => rw [q] at h; exact h
  | err x ρ' => rw [q] at h; exact h
  | bad => rw [q] at h; exact h
theorem rss_cons (h1 : RS X W fr st m) (h2 : RSs X W fr rest n) : RSs X W fr (st :: rest) (mSeq m n) := by
  obtain ⟨t, a1, a2⟩ := h1.ex
  obtain ⟨u, b1, b2⟩ := h2.ex
  exact ⟨_, pss_cons a1 b1, snd_seq a2 b2⟩
theorem rss_one (h1 : RS X W fr st m) : RSs X W fr [st] m := by
  obtain ⟨t, a1, a2⟩ := h1.ex
  exact ⟨_, pss_one a1, a2⟩
theorem rs_pass : RS X W fr (.Pass pos) mNext := ⟨_, ps_pass, fun B G ρ σ H E I h => h G σ H I (Fr.refl G H)⟩
def mBreak : MS := fun ρ => .bk ρ
def mCont : MS := fun ρ => .ct ρ
theorem rs_break : RS X W fr (.Break pos) mBreak := ⟨_, ps_break, fun B G ρ σ H E I h => h G σ H I (Fr.refl G H)⟩
theorem rs_cont : RS X W fr (.Continue pos) mCont := ⟨_, ps_continue, fun B G ρ σ H E I h => h G σ H I (Fr.refl G H)⟩
def mIte (t : MT) (m n : MS) : MS := fun ρ => (t ρ).out ρ fun k => if k = true then m ρ else n ρ
theorem rs_if {c : Expr} {a b : List Stmt} {mt : MT} (hc : RT X W c mt) (ha : RSs X W fr a m) (hb : RSs X W fr b n) : RS X W fr (.If c a b pos) (mIte mt m n) := by
  obtain ⟨t, c1, c2⟩ := hc.ex
  obtain ⟨u, a1, a2⟩ := ha.ex
  obtain ⟨v, b1, b2⟩ := hb.ex
  refine ⟨_, ps_if c1 a1 b1, fun B G ρ σ H E I h => ?_⟩
  unfold mIte at h
  refine c2 B G ρ σ H _ I (post_nb h) (fun k e H' x => ?_) (post_err I h)
  have h := PostS.move (.of_ex x) (post_ok e h)
  cases k with
  | true =>
    show (if true = true then u E σ H' else v E σ H')
    rw [if_pos rfl] at h ⊢
    exact a2 B G ρ σ H' E (I.grow x) h
  | false =>
    show (if false = true then u E σ H' else v E σ H')
    rw [if_neg Bool.false_ne_true] at h ⊢
    exact b2 B G ρ σ H' E (I.grow x) h

/-! ### assignments -/
variable {e : Expr} {me : ME} {c : Bool}
def mSet (i : Nat) (m : ME) : MS := fun ρ => (m ρ).out ρ fun d => .nx (ρ.set i (.val d))
theorem snd_set {S : Sig} {P : PX} {t : TE} {i : Nat} (h : SndE S P W true t me) : SndS S P W fr (tAsg t (gName i)) (mSet i me) := fun B G ρ σ H E I h' => by
  unfold mSet at h'
  exact h B G ρ σ H _ I (post_nb h') (fun d e v H' x r => post_ok e h' G _ H' ((I.grow x).setVal r) (.of_ex x)) (post_err I h')
/-- name = e, e's value shared from now on -/
theorem rs_set {i : Nat} {x : Str} {pos' : Pos} (hN : X.N.Nodup) (hi : X.N[i]? = some x) (hx : Loc X.env.scope x) (he : RE X W true e me) (hs : swapsWith e (some (.Name x pos')) pos.line X.env = pure false := by rfl)
    (hf : X.fn x = true ∨ X.env.scope.names.lookup x = some .local := by first | exact .inl rfl | exact .inr rfl | assumption) : RS X W fr (.Assign [.Name x pos'] e pos) (mSet i me) := by
  obtain ⟨t, a1, a2⟩ := he.ex
  exact ⟨_, ps_set hN hi hx a1 hs hf, snd_set a2⟩
def slOf : D → Sl
  | .lst ds => .lst ds
  | .dic t kvs => .dic t kvs
  | d => .val d
theorem own_slOf {S : Sig} {H : Hp} {G : Addr → Bool} {p : Addr} {s : Sl} (w : OwnAt S H G p s) : slOf s.d = s ∧ Own s = true := by
  cases s with
  | no => exact w.elim
  | val d => exact w.elim
  | exc x => exact w.elim
  | lst ds => exact ⟨rfl, rfl⟩
  | dic t ds => exact ⟨rfl, rfl⟩
def mSetO (i : Nat) (m : ME) : MS := fun ρ => (m ρ).out ρ fun d => .nx (ρ.set i (slOf d))
theorem fr_own {G : Addr → Bool} {H H' : Hp} {p : Addr} (hp : H p = none) (e : Ex H H') : Fr G H (addG G p) H' := fun a o g h => by
  have ne : a ≠ p := fun z => by rw [z, hp] at h; cases h
  exact ⟨e a o h, by rw [addG_ne ne]; exact g⟩
theorem snd_setO {S : Sig} {P : PX} {t : TE} {i : Nat} (h : SndF S P W t me) : SndS S P W fr (tAsg t (gName i)) (mSetO i me) := fun B G ρ σ H E I h' => by
  unfold mSetO at h'
  refine h B G ρ σ H _ I (post_nb h') (fun d e p s H' hp x es w => ?_) (post_err I h')
  have h2 := post_ok e h'
  obtain ⟨e1, e2⟩ := own_slOf w
  rw [← es, e1] at h2
  exact h2 _ _ H' (I.setOwn x hp e2 w) (fr_own hp x)
/-- name = a list of its own -/
theorem rs_setO {i : Nat} {x : Str} {pos' : Pos} (hN : X.N.Nodup) (hi : X.N[i]? = some x) (hx : Loc X.env.scope x) (he : RF X W e me) (hs : swapsWith e (some (.Name x pos')) pos.line X.env = pure false := by rfl)
    (hf : X.fn x = true ∨ X.env.scope.names.lookup x = some .local := by first | exact .inl rfl | exact .inr rfl | assumption) : RS X W fr (.Assign [.Name x pos'] e pos) (mSetO i me) := by
  obtain ⟨t, a1, a2⟩ := he.ex
  exact ⟨_, ps_set hN hi hx a1 hs hf, snd_setO a2⟩
/-- an expression, dropped -/
def mDrop (m : ME) : MS := fun ρ => (m ρ).out ρ fun _ => .nx ρ
theorem rs_expr (he : RE X W c e me) (hs : swapsWith e none pos.line X.env = pure false := by rfl) : RS X W fr (.Expr e pos) (mDrop me) := by
  obtain ⟨t, a1, a2⟩ := he.ex
  refine ⟨_, ps_expr a1 hs, fun B G ρ σ H E I h => ?_⟩
  unfold mDrop at h
  exact a2 B G ρ σ H _ I (post_nb h) (fun d e v H' x r => post_ok e h G _ H' (I.grow x) (.of_ex x)) (post_err I h)
/-- name = name, the own object goes over -/
def mGive (i j : Nat) : MS := fun ρ => match ρ[j]? with
  | some (.lst ds) => .nx ((ρ.set j (.val (.lst ds))).set i (.val (.lst ds)))
  | some (.dic t ds) => .nx ((ρ.set j (.val (.dic t ds))).set i (.val (.dic t ds)))
  | _ => .bad
theorem Sts.give {S : Sig} {P : PX} {B : Bs} {G : Addr → Bool} {ρ : Env} {σ : L2.St} {H : Hp} {i : Nat} {s : Sl} (I : Sts S P B G ρ σ H) (h : ρ[i]? = some s) (ho : Own s = true) : ∃ p, σ[i]? = some (some (.ref p)) ∧ Sts S P B (delG G p) (ρ.set i (.val s.d)) σ H ∧ Rep S (hid H (delG G p)) (.ref p) s.d ∧ Fr G H (delG G p) H := by
  obtain ⟨p, a, b, c, d⟩ := I.own i s h ho
  refine ⟨p, a, I.freeze h ho a d.rep, d.rep, fun x o g q => ⟨q, ?_⟩⟩
  unfold delG
  split
  · rfl
  · exact g
theorem snd_give {S : Sig} {P : PX} {i j : Nat} : SndS S P W fr (tAsg (tVar j) (gName i)) (mGive i j) := fun B G ρ σ H E I h => by
  unfold mGive at h
  cases q : ρ[j]? with
  | none => rw [q] at h; exact h.elim
  | some s =>
    rw [q] at h
    have go : ∀ (ho : Own s = true), (∀ G' σ' H', Sts S P B G' ((ρ.set j (.val s.d)).set i (.val s.d)) σ' H' → Fr G H G' H' → E.nx σ' H') → tAsg (tVar j) (gName i) E σ H := fun ho h => by
      obtain ⟨p, h1, h2, h3, h4⟩ := I.give q ho
      exact ⟨_, h1, h _ _ H (h2.setVal h3) h4⟩
    cases s with
    | lst ds => exact go rfl h
    | dic t ds => exact go rfl h
    | _ => exact h.elim
theorem rs_give {i j : Nat} {x y : Str} {pos' p2 : Pos} (hN : X.N.Nodup) (hi : X.N[i]? = some x) (hx : Loc X.env.scope x) (he : PE X (.Name y p2) (tVar j)) (hs : swapsWith (.Name y p2) (some (.Name x pos')) pos.line X.env = pure false := by rfl)
    (hf : X.fn x = true ∨ X.env.scope.names.lookup x = some .local := by first | exact .inl rfl | exact .inr rfl | assumption) : RS X W fr (.Assign [.Name x pos'] (.Name y p2) pos) (mGive i j) :=
  ⟨_, ps_set hN hi hx he hs hf, snd_give⟩

/-! ### targets -/
abbrev MG := D → Env → Option Env
def SndG (S : Sig) (P : PX) (g : TG) (m : MG) : Prop := ∀ (B : Bs) (G : Addr → Bool) (ρ ρ' : Env) (σ : L2.St) (H : Hp) (v : V) (d : D) (Q : L2.St → Hp → Prop), Sts S P B G ρ σ H → Rep S (hid H G) v d → m d ρ = some ρ' → (∀ σ', Sts S P B G ρ' σ' H → Q σ' H) → g v σ H Q
structure RG (X : Cx) (e : Expr) (m : MG) : Prop where
  ex : ∃ g, PG X e g ∧ SndG (sg X) (pp X) g m
abbrev MGs := List D → Env → Option Env
def SndGs (S : Sig) (P : PX) (g : TGs) (m : MGs) : Prop := ∀ (B : Bs) (G : Addr → Bool) (ρ ρ' : Env) (σ : L2.St) (H : Hp) (vs : List V) (ds : List D) (Q : L2.St → Hp → Prop), Sts S P B G ρ σ H → Reps S (hid H G) vs ds → m ds ρ = some ρ' → (∀ σ', Sts S P B G ρ' σ' H → Q σ' H) → g vs σ H Q
structure RGs (X : Cx) (es : List Expr) (m : MGs) : Prop where
  ex : ∃ g, PGs X es g ∧ SndGs (sg X) (pp X) g m
def gSet (i : Nat) : MG := fun d ρ => some (ρ.set i (.val d))
theorem rg_name {i : Nat} {x : Str} (hN : X.N.Nodup) (hi : X.N[i]? = some x) (hx : Loc X.env.scope x) (hf : X.fn x = true ∨ X.env.scope.names.lookup x = some .local := by first | exact .inl rfl | exact .inr rfl | assumption) : RG X (.Name x pos) (gSet i) :=
  ⟨_, pg_name hN hi hx hf, fun B G ρ ρ' σ H v d Q I r e k => by
    cases e
    exact k _ (I.setVal r)⟩
def gsNil : MGs := fun ds ρ => match ds with
  | [] => some ρ
  | _ => none
def gsCons (g : MG) (r : MGs) : MGs := fun ds ρ => match ds with
  | d :: ds => (g d ρ).bind fun ρ' => r ds ρ'
  | [] => none
theorem rgs_nil : RGs X [] gsNil := ⟨_, pgs_nil, fun B G ρ ρ' σ H vs ds Q I r e k => by
  cases ds with
  | nil =>
    cases e
    have hl := r.1
    cases vs with
    | nil => exact ⟨rfl, k _ I⟩
    | cons v vs => cases hl
  | cons d ds => cases e⟩
theorem rgs_cons {x : Expr} {es : List Expr} {g : MG} {r : MGs} (h1 : RG X x g) (h2 : RGs X es r) (hs : (assignEach (x :: es) X.env).map (·.2) = assign x X.env :: (assignEach es X.env).map (·.2) := by rfl) : RGs X (x :: es) (gsCons g r) := by
  obtain ⟨t, a1, a2⟩ := h1.ex
  obtain ⟨u, b1, b2⟩ := h2.ex
  refine ⟨_, pgs_cons a1 b1 hs, fun B G ρ ρ' σ H vs ds Q I r e k => ?_⟩
  cases ds with
  | nil => cases e
  | cons d ds =>
    cases vs with
    | nil => have := r.1; simp at this
    | cons v vs =>
      obtain ⟨ρ1, e1, e2⟩ := Option.bind_eq_some_iff.mp (show (g d ρ).bind (fun ρ' => _) = some ρ' from e)
      exact ⟨v, vs, rfl, a2 B G ρ ρ1 σ H v d _ I r.head e1 fun σ' I' => b2 B G ρ1 ρ' σ' H vs ds Q I' r.tail e2 k⟩
def gTupM (n : Nat) (m : MGs) : MG := fun d ρ => match d with
  | .tup ds => if ds.length = n then m ds ρ else none
  | _ => none
theorem rg_tup {es : List Expr} {k : Nat} {m : MGs} {n : Nat} (hc : X.calm = true) (h : RGs X es m) (hn : (assignEach es X.env).length = n := by rfl) (hst : (assignEach es X.env).findIdx? (·.1) = none := by rfl) : RG X (.Tuple es k pos) (gTupM n m) := by
  obtain ⟨t, a1, a2⟩ := h.ex
  refine ⟨_, pg_tup hc a1 hn hst, fun B G ρ ρ' σ H v d Q I r e q => ?_⟩
  cases d with
  | tup ds =>
    unfold gTupM at e
    dsimp only at e
    split at e
    · rename_i hl
      obtain ⟨a, xs, rfl, h1, h2⟩ := r.is_tup
      exact ⟨a, xs, rfl, SqT.of (hid_sub _ _ h1), by rw [h2.1, hl], a2 B G ρ ρ' σ H xs ds Q I h2 e q⟩
    · cases e
  | _ => cases e
def mAsg (m : ME) (g : MG) : MS := fun ρ => (m ρ).out ρ fun d => match g d ρ with
  | some ρ' => .nx ρ'
  | none => .bad
theorem rs_asg {tg : Expr} {g : MG} (he : RE X W true e me) (hg : RG X tg g) (hs : swapsWithSole [tg] e pos.line X.env = pure false := by rfl) (hw : swappedStores [tg] e X.env = pure none := by rfl)
    (h1 : (assignEach [tg] X.env).map (·.2) = [assign tg X.env] := by rfl) : RS X W fr (.Assign [tg] e pos) (mAsg me g) := by
  obtain ⟨t, a1, a2⟩ := he.ex
  obtain ⟨u, b1, b2⟩ := hg.ex
  refine ⟨_, ps_asg a1 b1 hs hw h1, fun B G ρ σ H E I h => ?_⟩
  unfold mAsg at h
  refine a2 B G ρ σ H _ I (post_nb h) (fun d e v H' x r => ?_) (post_err I h)
  have h2 := post_ok e h
  cases q : g d ρ with
  | none => rw [q] at h2; exact h2.elim
  | some ρ' =>
    rw [q] at h2
    exact b2 B G ρ ρ' σ H' v d _ (I.grow x) r q fun σ' I' => h2 G σ' H' I' (.of_ex x)
/-- a, b = x, y -/
def mPar (i j : Nat) (ma mb : ME) : MS := fun ρ => (ma ρ).out ρ fun d => (mb ρ).out ρ fun d2 => .nx ((ρ.set i (.val d)).set j (.val d2))
theorem rs_par {i j : Nat} {x y : Str} {a b : Expr} {ma mb : ME} {px py pt : Pos} {kt k2 pt2} (hc : X.calm = true) (hN : X.N.Nodup) (hi : X.N[i]? = some x) (hj : X.N[j]? = some y) (hij : i ≠ j)
    (hx : X.env.scope.names.lookup x = some .local) (hy : X.env.scope.names.lookup y = some .local) (ha : RE X W true a ma) (hb : RE X W true b mb)
    (hw : swappedStores [.Tuple [.Name x px, .Name y py] kt pt] (.Tuple [a, b] k2 pt2) X.env = pure (some [x, y]) := by rfl)
    (hs : swapsWithSole [.Tuple [.Name x px, .Name y py] kt pt] (.Tuple [a, b] k2 pt2) pos.line X.env = pure false := by rfl)
    (h1 : starEach [a, b] X.env = (false, eval a X.env) :: starEach [b] X.env := by rfl) (h2 : starEach [b] X.env = (false, eval b X.env) :: starEach [] X.env := by rfl) :
    RS X W fr (.Assign [.Tuple [.Name x px, .Name y py] kt pt] (.Tuple [a, b] k2 pt2) pos) (mPar i j ma mb) := by
  obtain ⟨t, a1, a2⟩ := ha.ex
  obtain ⟨u, b1, b2⟩ := hb.ex
  refine ⟨_, ps_par hc hN hi hj hij hx hy (pa_cons a1 (pa_cons b1 pa_nil h2) h1) hw hs, fun B G ρ σ H E I h => ?_⟩
  unfold mPar at h
  refine a2 B G ρ σ H _ I (post_nb h) (fun d e v H' x r => ?_) (post_err I h)
  have h := PostS.move (.of_ex x) (post_ok e h)
  refine b2 B G ρ σ H' _ (I.grow x) (post_nb h) (fun d2 e2 v2 H2 x2 r2 => ?_) (post_err (I.grow x) h)
  have h := post_ok e2 h
  exact ⟨v, v2, rfl, h G _ H2 (((I.grow (x.trans x2)).setVal (Rep.ex (hid_ex x2) r)).setVal r2) (.of_ex x2)⟩

/-! ### return, raise -/
def mRet (m : ME) : MS := fun ρ => (m ρ).out ρ fun d => .rt d
theorem rs_ret (he : RE X W true e me) : RS X W false (.Return (some e) pos) (mRet me) := by
  obtain ⟨t, a1, a2⟩ := he.ex
  refine ⟨_, ps_ret a1, fun B G ρ σ H E I h => ?_⟩
  unfold mRet at h
  exact a2 B G ρ σ H _ I (post_nb h) (fun d e v H' x r => post_ok e h v H' (I.ex.trans x) (Rep.ex (hid_anti I.gb) r)) (post_err I h)
theorem rs_retF (he : RF X W e me) : RS X W true (.Return (some e) pos) (mRet me) := by
  obtain ⟨t, a1, a2⟩ := he.ex
  refine ⟨_, ps_ret a1, fun B G ρ σ H E I h => ?_⟩
  unfold mRet at h
  refine a2 B G ρ σ H _ I (post_nb h) (fun d e p s H' hp x es w => post_ok e h p s H' (I.ex.trans x) ?_ es (w.mono rfl (hid_anti fun a q => ?_))) (post_err I h)
  · cases z : B.H p with
    | none => rfl
    | some o => rw [I.ex p o z] at hp; cases hp
  · by_cases z : a = p
    · rw [z, addG_self]
    · rw [addG_ne z] at q ⊢
      exact I.gb a q
def mRetO (i : Nat) : MS := fun ρ => match ρ[i]? with
  | some (.lst ds) => .rt (.lst ds)
  | some (.dic t ds) => .rt (.dic t ds)
  | _ => .bad
theorem snd_retO {S : Sig} {P : PX} {i : Nat} : SndS S P W fr (tRet (tVar i)) (mRetO i) := fun B G ρ σ H E I h => by
  unfold mRetO at h
  cases q : ρ[i]? with
  | none => rw [q] at h; exact h.elim
  | some s =>
    rw [q] at h
    have go : ∀ (ho : Own s = true), PostS S P W fr B G H E (.rt s.d) → tRet (tVar i) E σ H := fun ho h => by
      obtain ⟨p, h1, h2, h3, h4⟩ := I.own i s q ho
      refine ⟨_, h1, ?_⟩
      have hB : B.G p = false := by
        cases z : B.G p with
        | false => rfl
        | true =>
          obtain ⟨o, q⟩ := I.bg p z
          rw [h3] at q
          cases q
      have sub : ∀ a, addG B.G p a = true → G a = true := fun a q => by
        by_cases z : a = p
        · rw [z]; exact h2
        · rw [addG_ne z] at q
          exact I.gb a q
      cases fr with
      | true => exact h p s H I.ex h3 rfl (h4.mono rfl (hid_anti sub))
      | false =>
        refine h _ H I.ex (h4.rep.ex (hid_anti fun a q => ?_))
        by_cases z : a = p
        · rw [z, hB] at q; cases q
        · rw [delG_ne z]; exact I.gb a q
    cases s with
    | lst ds => exact go rfl h
    | dic t ds => exact go rfl h
    | _ => exact h.elim
theorem rs_retO {i : Nat} (he : PE X e (tVar i)) : RS X W fr (.Return (some e) pos) (mRetO i) := ⟨_, ps_ret he, snd_retO⟩
theorem rs_retN : RS X W false (.Return none pos) (fun _ => .rt .non) := ⟨_, ps_retN, fun B G ρ σ H E I h => h .non H I.ex .non⟩
/-- an exception's making, on data -/
def SndX (S : Sig) (P : PX) (W : WX) (t : L2.St → Hp → XK → Prop) (m : Env → R Exn) : Prop :=
  ∀ (B : Bs) (G : Addr → Bool) (ρ : Env) (σ : L2.St) (H : Hp) (Q : XK), Sts S P B G ρ σ H → m ρ ≠ .bad → (∀ x, m ρ = .ok x → ∀ cls dd H', Ex H H' → RepX S (hid H' G) cls dd x → Q cls dd H') →
    (∀ x, m ρ = .err x → ∀ cls dd H', Ex H H' → RepX S (hid H' G) cls dd x → W cls dd σ H') → t σ H Q
structure RX (X : Cx) (W : WX) (e : Expr) (m : Env → R Exn) : Prop where
  ex : ∃ t, L2N.PMk X e t ∧ SndX (sg X) (pp X) W t m
def mRaise (m : Env → R Exn) : MS := fun ρ => (m ρ).out ρ fun x => .err x ρ
theorem rs_raise {mx : Env → R Exn} (hc : X.calm = true) (tk : L2N.Takes X W) (he : RX X W e mx) : RS X W fr (.Raise (some e) none pos) (mRaise mx) := by
  obtain ⟨t, a1, a2⟩ := he.ex
  refine ⟨_, L2N.ps_raise hc tk a1, fun B G ρ σ H E I h => ?_⟩
  unfold mRaise at h
  exact a2 B G ρ σ H _ I (post_nb h) (fun x e cls dd H' x1 r => post_ok e h cls dd G σ H' (I.grow x1) (.of_ex x1) r) (post_err I h)

/-! ### own lists changed -/
def mApp (i : Nat) (m : ME) : MS := fun ρ => match ρ[i]? with
  | some (.lst ds) => (m ρ).out ρ fun d => if szOk ds.length then .nx (ρ.set i (.lst (ds ++ [d]))) else .bad
  | _ => .bad
theorem szOk_lt {n : Nat} (h : szOk n = true) : n < sizeLine := Nat.lt_of_le_of_lt (of_decide_eq_true h) (by rw [sizeLine_eq]; decide)
theorem fr_write {G : Addr → Bool} {H : Hp} {p : Addr} {o : HO} (g : G p = true) : Fr G H G (upd H p o) := fun a u ga h => by
  have ne : a ≠ p := fun z => by rw [z, g] at ga; cases ga
  exact ⟨by rw [upd_ne ne]; exact h, ga⟩
theorem snd_app {S : Sig} {P : PX} {t : TE} {i : Nat} (h : SndE S P W true t me) : SndS S P W fr (tDrop (tBM S.K "list" rAppend (tVar i) (tCons t tNil))) (mApp i me) := fun B G ρ σ H E I h' => by
  unfold mApp at h'
  cases q : ρ[i]? with
  | none => rw [q] at h'; exact h'.elim
  | some s =>
    rw [q] at h'
    cases s with
    | lst ds =>
      dsimp only at h'
      obtain ⟨p, h1, h2, h3, xs, h4, h5⟩ := I.own i _ q rfl
      refine ⟨_, h1, .inl ⟨rfl, xs, SqL.of h4⟩, ?_⟩
      refine h B G ρ σ H _ I (post_nb h') (fun d e v H' x r => ?_) (post_err I h')
      have hz := post_ok e h'
      split at hz
      · rename_i z
        have h6 := x p _ h4
        have h7 := Reps.ex (hid_ex (G := G) x) h5
        refine ⟨p, xs, v, rfl, rfl, h6, by rw [h5.1]; exact szOk_lt z, ?_⟩
        have J := I.grow x
        exact hz G σ _ (J.write q rfl h1 rfl fun H2 ne e2 ex => ⟨xs ++ [v], e2, (h7.ex ex).append (.cons (Rep.ex ex r) .nil)⟩) ((Fr.of_ex x).trans (fr_write h2))
      · exact hz.elim
    | _ => exact h'.elim
/-- x.append(e) -/
theorem rs_app {i : Nat} {o : Expr} {apos cpos : Pos} (ho : PE X o (tVar i)) (he : RE X W true e me)
    (hbase : attributeBase o "append" X.env (eval o X.env) = eval o X.env := by rfl)
    (hfew : ((backTo cpos (starEach [e] X.env)).all (fun x => !x.1) && (backToKw cpos (keywordEach [] X.env)).all (fun x => x.1.isSome)
      && decide (([e] : List Expr).length + ([] : List Keyword).length + (if ([] : List Keyword).isEmpty then 0 else 1) < 30)) = true := by rfl)
    (hline : (apos.endLine == cpos.line) = true := by rfl) (hs : starEach [e] X.env = (false, eval e X.env) :: starEach [] X.env := by rfl) (hplain : (backTo cpos (starEach [] X.env)).any (·.1) = false := by rfl)
    (hsw : swapsWith (.Call (.Attribute o "append" apos) [e] [] cpos) none pos.line X.env = pure false := by rfl) : RS X W fr (.Expr (.Call (.Attribute o "append" apos) [e] [] cpos) pos) (mApp i me) := by
  obtain ⟨t, a1, a2⟩ := he.ex
  exact ⟨_, ps_expr (pe_bm PySem.F.plainAttrs_list PySem.F.slot_list_append PySem.F.type_list_append mt_append ho (pa_cons a1 pa_nil hs) hbase hfew hline hs hplain) hsw, snd_app (S := sg X) a2⟩
/-- x[k] = e -/
def ixS (n : Nat) (i : Int) : Option Nat := if 0 ≤ i then (if i.toNat < n then some i.toNat else none) else if -(n : Int) ≤ i then some (i + n).toNat else none
def mPutL (i : Nat) (mk me : ME) : MS := fun ρ => (me ρ).out ρ fun d => match ρ[i]? with
  | some (.lst ds) => (mk ρ).out ρ fun k => match k with
    | .int j => (match ixS ds.length j with
      | some n => .nx (ρ.set i (.lst (ds.set n d)))
      | none => .bad)
    | _ => .bad
  | _ => .bad
theorem ixS_ixN {n : Nat} {i : Int} {j : Nat} (h : ixS n i = some j) : ixN n i = some j := by
  unfold ixS at h
  unfold ixN
  by_cases h0 : 0 ≤ i
  · rw [if_pos h0] at h ⊢
    by_cases h1 : i.toNat < n
    · rw [if_pos h1] at h
      rw [if_pos (by omega)]
      exact h
    · rw [if_neg h1] at h; cases h
  · rw [if_neg h0] at h ⊢
    exact h
theorem snd_putL {S : Sig} {P : PX} {t tk : TE} {i : Nat} {c2 : Bool} {mk : ME} (h : SndE S P W true t me) (hk : SndE S P W c2 tk mk) : SndS S P W fr (tAsg t (gSub (tVar i) tk rSetL)) (mPutL i mk me) := fun B G ρ σ H E I h' => by
  unfold mPutL at h'
  refine h B G ρ σ H _ I (post_nb h') (fun d e v H' x r => ?_) (post_err I h')
  have h' := PostS.move (.of_ex x) (post_ok e h')
  have I := I.grow x
  cases q : ρ[i]? with
  | none => rw [q] at h'; exact h'.elim
  | some s =>
    rw [q] at h'
    cases s with
    | lst ds =>
      dsimp only at h'
      obtain ⟨p, h1, h2, h3, xs, h4, h5⟩ := I.own i _ q rfl
      refine ⟨_, h1, ?_⟩
      refine hk B G ρ σ H' _ I (post_nb h') (fun k e2 u H2 x2 r2 => ?_) (post_err I h')
      have hz := post_ok e2 h'
      cases k with
      | int j =>
        dsimp only at hz
        cases w : ixS ds.length j with
        | none => rw [w] at hz; exact hz.elim
        | some n =>
          rw [w] at hz
          have h6 := x2 p _ h4
          have h7 := Reps.ex (hid_ex (G := G) x2) h5
          refine ⟨p, xs, j, n, rfl, r2.full.is_int, h6, by rw [h5.1]; exact ixS_ixN w, ?_⟩
          exact hz G σ _ ((I.grow x2).write q rfl h1 rfl fun H3 ne e3 ex => ⟨xs.set n v, e3, (h7.ex ex).set n (Rep.ex ((hid_ex x2).trans ex) r)⟩) ((Fr.of_ex x2).trans (fr_write h2))
      | _ => exact hz.elim
    | _ => exact h'.elim
theorem rs_putL {i : Nat} {o k : Expr} {p2 : Pos} {c2 : Bool} {mk : ME} (ho : PE X o (tVar i)) (hk : RE X W c2 k mk) (he : RE X W true e me)
    (ha : ∀ v, assign (.Subscript o k p2) X.env v = (do
      let ov ← holding [v] (eval o X.env)
      let iv ← holding [v, ov] (eval k X.env)
      standAt p2
      holding [v, ov, iv] (setItem ov iv v)
      release [v, ov, iv] []) := by intro _; rfl)
    (hs : swapsWithSole [.Subscript o k p2] e pos.line X.env = pure false := by rfl) (hw : swappedStores [.Subscript o k p2] e X.env = pure none := by rfl)
    (h1 : (assignEach [.Subscript o k p2] X.env).map (·.2) = [assign (.Subscript o k p2) X.env] := by rfl) : RS X W fr (.Assign [.Subscript o k p2] e pos) (mPutL i mk me) := by
  obtain ⟨t, a1, a2⟩ := he.ex
  obtain ⟨u, b1, b2⟩ := hk.ex
  exact ⟨_, ps_asg a1 (pg_sub ho b1 set_list ha) hs hw h1, snd_putL a2 b2⟩

/-! ### loops -/
abbrev MI := Env → R (List D)
/-- what is walked gives the data ds, one a turn, as long as what is seen stays -/
def WalkD (S : Sig) (J : It) (G : Addr → Bool) (H1 : Hp) (ds : List D) : Prop := ∀ G' H', (∀ a, G' a = true → MutO (H' a)) → Fr G H1 G' H' →
  (∀ i, i < ds.length → J.go i H') ∧ (∀ i, ds.length ≤ i → J.stop i H') ∧ ∀ i d x H2, ds[i]? = some d → J.yld i H' x H2 → Ex H' H2 ∧ Rep S (hid H2 G') x d
def SndI (S : Sig) (P : PX) (W : WX) (wi : TI) (m : MI) : Prop :=
  ∀ (B : Bs) (G : Addr → Bool) (ρ : Env) (σ : L2.St) (H : Hp) (Q : It → Hp → Prop), Sts S P B G ρ σ H → m ρ ≠ .bad → (∀ ds, m ρ = .ok ds → ∀ J H', Ex H H' → WalkD S J G H' ds → Q J H') →
    (∀ x, m ρ = .err x → ∀ cls dd H', Ex H H' → RepX S (hid H' G) cls dd x → W cls dd σ H') → wi σ H Q
structure RI (X : Cx) (W : WX) (tg e : Expr) (m : MI) : Prop where
  ex : ∃ t, PI X tg e t ∧ SndI (sg X) (pp X) W t m
def mItems (m : ME) : MI := fun ρ => (m ρ).bind fun d => match d with
  | .lst ds => .ok ds
  | _ => .bad
def mItemsT (m : ME) : MI := fun ρ => (m ρ).bind fun d => match d with
  | .tup ds => .ok ds
  | _ => .bad
theorem ri_list {tg : Expr} (he : RE X W true e me) : RI X W tg e (mItems me) := by
  obtain ⟨t, a1, a2⟩ := he.ex
  refine ⟨_, pi_list a1, fun B G ρ σ H Q I nb k ke => ?_⟩
  unfold mItems at nb k ke
  refine a2 B G ρ σ H _ I (R.bad_bind nb) (fun d e v H' x r => ?_) (fun x e => ke x (by rw [e]; rfl))
  rw [e, R.bind_ok] at nb k
  cases d with
  | lst ds =>
    obtain ⟨a, xs, rfl, h1, h2⟩ := Rep.is_lst (H := hid H' G) r
    have at_ : ∀ {G2 : Addr → Bool} {H2 : Hp}, Fr G H' G2 H2 → Rd (hid H2 G2) a (.lst xs) := fun f => rd_ex f.ex h1
    refine ⟨a, rfl, ⟨xs, .inl (rd_ex hid_sub h1)⟩, k ds rfl _ H' x fun G2 H2 gm f => ?_⟩
    have q : SqL X.K H2 a xs := .inl (rd_ex hid_sub (at_ f))
    refine ⟨fun i hi => ?_, fun i hi => ⟨xs, q, by rw [h2.1]; exact hi⟩, fun i d x H3 hd hy => ?_⟩
    · have hi : i < xs.length := by rw [h2.1]; exact hi
      exact ⟨xs, xs[i], q, List.getElem?_eq_getElem hi⟩
    · obtain ⟨e, hy⟩ := hy
      subst e
      exact ⟨Ex.refl _, (h2.2 i x d (hy xs q) hd).ex f.ex⟩
  | _ => exact absurd rfl nb
theorem ri_tup {tg : Expr} (he : RE X W true e me) : RI X W tg e (mItemsT me) := by
  obtain ⟨t, a1, a2⟩ := he.ex
  refine ⟨_, pi_tup a1, fun B G ρ σ H Q I nb k ke => ?_⟩
  unfold mItemsT at nb k ke
  refine a2 B G ρ σ H _ I (R.bad_bind nb) (fun d e v H' x r => ?_) (fun x e => ke x (by rw [e]; rfl))
  rw [e, R.bind_ok] at nb k
  cases d with
  | tup ds =>
    obtain ⟨a, xs, rfl, h1, h2⟩ := Rep.is_tup (H := hid H' G) r
    refine ⟨a, rfl, ⟨xs, SqT.of (hid_sub _ _ h1)⟩, k ds rfl _ H' x fun G2 H2 gm f => ?_⟩
    have q : SqT X.K H2 a xs := SqT.of (hid_sub _ _ (f.ex _ _ h1))
    refine ⟨fun i hi => ?_, fun i hi => ⟨xs, q, by rw [h2.1]; exact hi⟩, fun i d x H3 hd hy => ?_⟩
    · have hi : i < xs.length := by rw [h2.1]; exact hi
      exact ⟨xs, xs[i], q, List.getElem?_eq_getElem hi⟩
    · obtain ⟨e, hy⟩ := hy
      subst e
      exact ⟨Ex.refl _, (h2.2 i x d (hy xs q) hd).ex f.ex⟩
  | _ => exact absurd rfl nb
/-- range(lo, hi) as data -/
def rangeD (lo hi : Int) : List D := (List.range (hi - lo).toNat).map fun i : Nat => .int (lo + (i : Int))
theorem rangeD_len (lo hi : Int) : (rangeD lo hi).length = (hi - lo).toNat := by unfold rangeD; rw [List.length_map, List.length_range]
theorem rangeD_get {lo hi : Int} {i : Nat} {d : D} (h : (rangeD lo hi)[i]? = some d) : d = .int (lo + (i : Int)) := by
  unfold rangeD at h
  rw [List.getElem?_map] at h
  cases q : (List.range (hi - lo).toNat)[i]? with
  | none => rw [q] at h; cases h
  | some j =>
    rw [q] at h
    have : j = i := by
      obtain ⟨h1, h2⟩ := List.getElem?_eq_some_iff.mp q
      rw [List.getElem_range] at h2
      exact h2.symm
    subst this
    exact (Option.some.inj h).symm
theorem walk_range {S : Sig} {G : Addr → Bool} {H : Hp} (lo hi : Int) : WalkD S (Itr lo (hi - lo).toNat) G H (rangeD lo hi) := fun G' H' gm f => by
  refine ⟨fun i h => ?_, fun i h => ?_, fun i d x H2 hd hy => ?_⟩
  · show i < (hi - lo).toNat
    rw [← rangeD_len]; exact h
  · show (hi - lo).toNat ≤ i
    rw [← rangeD_len]; exact h
  · obtain ⟨rfl, rfl⟩ := hy
    rw [rangeD_get hd]
    exact ⟨Ex.refl _, .int _⟩
def farOk (i : Int) : Bool := decide (-4000000000000000000 ≤ i) && decide (i < 4000000000000000000)
theorem farOk_of {i : Int} (h : farOk i = true) : -(2 ^ 62) ≤ i ∧ i < 2 ^ 62 := by
  obtain ⟨a, b⟩ := Bool.and_eq_true_iff.mp h
  have a := of_decide_eq_true a
  have b := of_decide_eq_true b
  omega
def mRange1 (m : ME) : MI := fun ρ => (m ρ).bind fun d => match d with
  | .int n => if farOk n then .ok (rangeD 0 n) else .bad
  | _ => .bad
def mRange2 (m n : ME) : MI := fun ρ => (m ρ).bind fun d => (n ρ).bind fun d2 => match d, d2 with
  | .int i, .int j => if farOk i && farOk j then .ok (rangeD i j) else .bad
  | _, _ => .bad
variable {p : Pos} {a b : Expr} {ma mb : ME} {c1 c2 : Bool}
theorem ri_range1 {tg : Expr} (hg : Gl X "range") (hm : X.mg "range" = none) (ha : RE X W c1 a ma) (hs : starEach [a] X.env = [(false, eval a X.env)] := by rfl) : RI X W tg (.Call (.Name "range" p) [a] [] pos) (mRange1 ma) := by
  obtain ⟨t, a1, a2⟩ := ha.ex
  refine ⟨_, pi_range1 hg hm (pa_cons a1 pa_nil hs) hs, fun B G ρ σ H Q I nb k ke => ?_⟩
  unfold mRange1 at nb k ke
  refine a2 B G ρ σ H _ I (R.bad_bind nb) (fun d e v H' x r => ?_) (fun x e => ke x (by rw [e]; rfl))
  rw [e, R.bind_ok] at nb k
  cases d with
  | int n =>
    dsimp only at nb k
    by_cases z : farOk n = true
    · rw [if_pos z] at k
      have ev := r.full.is_int
      subst ev
      obtain ⟨z1, z2⟩ := farOk_of z
      have w := walk_range (S := sg X) (G := G) (H := H') 0 n
      rw [Int.sub_zero] at w
      exact ⟨n, rfl, z1, z2, k _ rfl _ H' x w⟩
    · rw [if_neg z] at nb; exact absurd rfl nb
  | _ => exact absurd rfl nb
theorem ri_range2 {tg : Expr} (hg : Gl X "range") (hm : X.mg "range" = none) (ha : RE X W c1 a ma) (hb : RE X W c2 b mb) (hs : starEach [a, b] X.env = [(false, eval a X.env), (false, eval b X.env)] := by rfl) (hs2 : starEach [b] X.env = [(false, eval b X.env)] := by rfl) :
    RI X W tg (.Call (.Name "range" p) [a, b] [] pos) (mRange2 ma mb) := by
  obtain ⟨t, a1, a2⟩ := ha.ex
  obtain ⟨u, b1, b2⟩ := hb.ex
  refine ⟨_, pi_range2 hg hm (pa_cons a1 (pa_cons b1 pa_nil hs2) (by rw [hs, hs2])) hs hs2, fun B G ρ σ H Q I nb k ke => ?_⟩
  unfold mRange2 at nb k ke
  refine a2 B G ρ σ H _ I (R.bad_bind nb) (fun d e v H' x r => ?_) (fun x e => ke x (by rw [e]; rfl))
  rw [e, R.bind_ok] at nb k ke
  refine b2 B G ρ σ H' _ (I.grow x) (R.bad_bind nb) (fun d2 e2 v2 H2 x2 r2 => ?_) (fun y e2 cls dd H2 x2 => ke y (by rw [e2]; rfl) cls dd H2 (x.trans x2))
  rw [e2, R.bind_ok] at nb k
  cases d with
  | int i =>
    cases d2 with
    | int j =>
      dsimp only at nb k
      by_cases z : (farOk i && farOk j) = true
      · rw [if_pos z] at k
        obtain ⟨z1, z2⟩ := Bool.and_eq_true_iff.mp z
        have ev := r.full.is_int
        have eu := r2.full.is_int
        subst ev eu
        exact ⟨i, j, rfl, ⟨(farOk_of z1).1, (farOk_of z1).2, (farOk_of z2).1, (farOk_of z2).2⟩, k _ rfl _ H2 (x.trans x2) (walk_range i j)⟩
      · rw [if_neg z] at nb; exact absurd rfl nb
    | _ => exact absurd rfl nb
  | _ => cases d2 <;> exact absurd rfl nb
/-- the loop on data -/
def forL (g : MG) (body : MS) : List D → Env → Out
  | [], ρ => .nx ρ
  | d :: ds, ρ => match g d ρ with
    | none => .bad
    | some ρ1 => match body ρ1 with
      | .nx ρ2 => forL g body ds ρ2
      | .ct ρ2 => forL g body ds ρ2
      | .bk ρ2 => .nx ρ2
      | .rt d => .rt d
      | .err x ρ2 => .err x ρ2
      | .bad => .bad
def mFor (m : MI) (g : MG) (body : MS) : MS := fun ρ => (m ρ).out ρ fun ds => forL g body ds ρ
theorem snd_for {S : Sig} {P : PX} {wi : TI} {g : TG} {tb : TS} {mi : MI} {mg : MG} {body : MS} (hi : SndI S P W wi mi) (hg : SndG S P g mg) (hb : SndS S P W fr tb body) : SndS S P W fr (tFor wi g tb) (mFor mi mg body) := fun B G ρ σ H E I h => by
  unfold mFor at h
  refine hi B G ρ σ H _ I (post_nb h) (fun ds e J H1 x w => ?_) (post_err I h)
  have h := PostS.move (.of_ex x) (post_ok e h)
  have I := I.grow x
  refine ⟨fun i m σ' H' => m = ds.length - i ∧ i ≤ ds.length ∧ ∃ G' ρ', Sts S P B G' ρ' σ' H' ∧ Fr G H1 G' H' ∧ PostS S P W fr B G' H' E (forL mg body (ds.drop i) ρ'), ⟨ds.length, by rw [Nat.sub_zero], Nat.zero_le _, G, ρ, I, .refl _ _, h⟩, ?_⟩
  rintro i m σ' H' ⟨rfl, hi, G', ρ', I', f, h⟩
  obtain ⟨w1, w2, w3⟩ := w G' H' I'.gm f
  by_cases hlt : i < ds.length
  · right
    refine ⟨w1 i hlt, fun σ2 H2 => ∃ G2 ρ2, Sts S P B G2 ρ2 σ2 H2 ∧ Fr G H1 G2 H2 ∧ PostS S P W fr B G2 H2 E (forL mg body (ds.drop (i + 1)) ρ2), fun σ2 H2 n => ⟨ds.length - (i + 1), by omega, rfl, hlt, n⟩, fun v H2 y => ?_⟩
    obtain ⟨x2, r⟩ := w3 i _ v H2 (List.getElem?_eq_getElem hlt) y
    rw [List.drop_eq_getElem_cons hlt] at h
    unfold forL at h
    cases q : mg ds[i] ρ' with
    | none => rw [q] at h; exact h.elim
    | some ρ1 =>
      rw [q] at h
      dsimp only at h
      have h := PostS.move (.of_ex x2) h
      have f2 := f.trans (.of_ex x2)
      refine hg B G' ρ' ρ1 σ' H2 v _ _ (I'.grow x2) r q fun σ3 I3 => hb B G' ρ1 σ3 H2 _ I3 ?_
      cases z : body ρ1 with
      | nx ρ2 => rw [z] at h; exact fun G4 σ4 H4 I4 f4 => ⟨G4, ρ2, I4, f2.trans f4, PostS.move f4 h⟩
      | ct ρ2 => rw [z] at h; exact fun G4 σ4 H4 I4 f4 => ⟨G4, ρ2, I4, f2.trans f4, PostS.move f4 h⟩
      | bk ρ2 => rw [z] at h; exact fun G4 σ4 H4 I4 f4 => h G4 σ4 H4 I4 f4
      | rt d => rw [z] at h; exact h
      | err x ρ2 => rw [z] at h; exact h
      | bad => rw [z] at h; exact h
  · left
    have e : i = ds.length := by omega
    subst e
    rw [List.drop_length] at h
    exact ⟨w2 _ (Nat.le_refl _), h G' σ' H' I' (.refl _ _)⟩
theorem rs_for {tg iter : Expr} {body : List Stmt} {mi : MI} {g : MG} {mb : MS} (hp : PassesOwn (model X.prog X.w) X.A X.env X.xe) (hc : X.calm = true) (hi : RI X W tg iter mi) (hg : RG X tg g) (hb : RSs X W fr body mb)
    (hs : ∀ x, foldedSetIterable iter X.env x = pure x := by intro _; rfl) : RS X W fr (.For tg iter body [] pos) (mFor mi g mb) := by
  obtain ⟨t, a1, a2⟩ := hi.ex
  obtain ⟨u, b1, b2⟩ := hg.ex
  obtain ⟨v, c1, c2⟩ := hb.ex
  exact ⟨_, ps_for hp hc a1 b1 c1 hs, snd_for a2 b2 c2⟩
/-- while, at most n turns -/
def whileL (t : MT) (body : MS) : Nat → Env → Out
  | 0, _ => .bad
  | n + 1, ρ => match t ρ with
    | .ok true => (match body ρ with
      | .nx ρ2 => whileL t body n ρ2
      | .ct ρ2 => whileL t body n ρ2
      | .bk ρ2 => .nx ρ2
      | .rt d => .rt d
      | .err x ρ2 => .err x ρ2
      | .bad => .bad)
    | .ok false => .nx ρ
    | .err x => .err x ρ
    | .bad => .bad
def mWhile (n : Nat) (t : MT) (body : MS) : MS := fun ρ => whileL t body n ρ
theorem snd_while {S : Sig} {P : PX} {tc : TT} {tb : TS} {mt : MT} {body : MS} (n : Nat) (hc : SndT S P W tc mt) (hb : SndS S P W fr tb body) : SndS S P W fr (tWhile tc tb) (mWhile n mt body) := fun B G ρ σ H E I h => by
  refine ⟨fun m σ' H' => ∃ G' ρ', Sts S P B G' ρ' σ' H' ∧ PostS S P W fr B G' H' E (whileL mt body m ρ'), ⟨n, G, ρ, I, h⟩, ?_⟩
  rintro m σ' H' ⟨G', ρ', I', h⟩
  cases m with
  | zero => exact h.elim
  | succ m =>
    unfold whileL at h
    refine hc B G' ρ' σ' H' _ I' (fun e => by rw [e] at h; exact h) (fun k e H2 x => ?_) (fun y e cls dd H2 x r => by rw [e] at h; exact h cls dd G' σ' H2 (I'.grow x) (.of_ex x) r)
    rw [e] at h
    cases k with
    | true =>
      show (if true = true then _ else _)
      rw [if_pos rfl]
      dsimp only at h
      have h := PostS.move (.of_ex x) h
      refine ⟨fun σ2 H3 => ∃ G2 ρ2, Sts S P B G2 ρ2 σ2 H3 ∧ PostS S P W fr B G2 H3 E (whileL mt body m ρ2), fun σ2 H3 q => ⟨m, Nat.lt_succ_self m, q⟩, hb B G' ρ' σ' H2 _ (I'.grow x) ?_⟩
      cases z : body ρ' with
      | nx ρ2 => rw [z] at h; exact fun G4 σ4 H4 I4 f4 => ⟨G4, ρ2, I4, PostS.move f4 h⟩
      | ct ρ2 => rw [z] at h; exact fun G4 σ4 H4 I4 f4 => ⟨G4, ρ2, I4, PostS.move f4 h⟩
      | bk ρ2 => rw [z] at h; exact fun G4 σ4 H4 I4 f4 => h G4 σ4 H4 I4 f4
      | rt d => rw [z] at h; exact h
      | err x ρ2 => rw [z] at h; exact h
      | bad => rw [z] at h; exact h
    | false =>
      show (if false = true then _ else _)
      rw [if_neg Bool.false_ne_true]
      exact h G' σ' H2 (I'.grow x) (.of_ex x)
theorem rs_while (n : Nat) {t : Expr} {body : List Stmt} {mt : MT} {mb : MS} (hp : PassesOwn (model X.prog X.w) X.A X.env X.xe) (hc : RT X W t mt) (hb : RSs X W fr body mb) : RS X W fr (.While t body [] pos) (mWhile n mt mb) := by
  obtain ⟨u, a1, a2⟩ := hc.ex
  obtain ⟨v, b1, b2⟩ := hb.ex
  exact ⟨_, ps_while hp a1 b1, snd_while n a2 b2⟩
end
end Fx

-- Fx4
set_option Elab.async false
set_option linter.all false
set_option maxRecDepth 100000
set_option maxHeartbeats 2000000
/-! Fx4: defs and their calls. -/
namespace Fx
open PySem PySem.Spec PyProof.Rows L2

abbrev MF := List D → R D
/-- a def's promise, by its mirror -/
def spF (S : Sig) (fr : Bool) (n : Nat) (mf : MF) : Sp := fun vs H Q E => vs.length = n ∧ ∃ (G : Addr → Bool) (ds : List D), (∀ a, G a = true → MutO (H a)) ∧ Reps S (hid H G) vs ds ∧ mf ds ≠ .bad ∧
  (∀ d, mf ds = .ok d → if fr = true then ∀ p s H', Ex H H' → H p = none → s.d = d → OwnAt S H' (addG G p) p s → Q (.ref p) H' else ∀ v H', Ex H H' → Rep S (hid H' G) v d → Q v H') ∧
  (∀ x, mf ds = .err x → ∀ cls dd H', Ex H H' → RepX S (hid H' G) cls dd x → E cls dd H')
/-- the slots at the entry -/
def ent (N : Nat) (ds : List D) : Env := ds.map .val ++ List.replicate (N - ds.length) .no
/-- a def's result, from its body's -/
def Out.res (fr : Bool) : Out → R D
  | .rt d => .ok d
  | .nx _ => if fr = true then .bad else .ok .non
  | .err x _ => .err x
  | _ => .bad
def mfn (fr : Bool) (N : Nat) (m : MS) : MF := fun ds => (m (ent N ds)).res fr
theorem ent_get {N : Nat} {ds : List D} {i : Nat} {s : Sl} (h : (ent N ds)[i]? = some s) : (∃ d, ds[i]? = some d ∧ s = .val d) ∨ (ds.length ≤ i ∧ s = .no) := by
  unfold ent at h
  by_cases hi : i < ds.length
  · rw [List.getElem?_append_left (by simpa using hi), List.getElem?_map] at h
    cases q : ds[i]? with
    | none => rw [q] at h; cases h
    | some d => rw [q] at h; cases h; exact .inl ⟨d, rfl, rfl⟩
  · rw [List.getElem?_append_right (by simpa using hi), List.getElem?_replicate] at h
    split at h
    · cases h; exact .inr ⟨by omega, rfl⟩
    · cases h
theorem sts_start {S : Sig} {P : PX} {N : List Str} {H : Hp} {G : Addr → Bool} {vs : List V} {ds : List D} (gm : ∀ a, G a = true → MutO (H a)) (r : Reps S (hid H G) vs ds) : Sts S P ⟨H, G⟩ G (ent N.length ds) (L2.start N vs) H where
  ex := Ex.refl H
  bg := fun a g => by
    have := gm a g
    cases q : H a with
    | none => rw [q] at this; exact this.elim
    | some o => exact ⟨o, q⟩
  gb := fun a g => g
  gm := gm
  len := by
    unfold ent L2.start
    rw [List.length_append, List.length_append, List.length_map, List.length_map, List.length_replicate, List.length_replicate, r.1]
  val := fun i d h => by
    rcases ent_get h with ⟨d', h1, h2⟩ | ⟨_, h2⟩
    · cases h2
      obtain ⟨v, h3, h4⟩ := r.get h1
      refine ⟨v, ?_, h4⟩
      unfold L2.start
      have hi : i < vs.length := (List.getElem?_eq_some_iff.mp h3).1
      rw [List.getElem?_append_left (by simpa using hi), List.getElem?_map, h3]
      rfl
    · cases h2
  own := fun i s h ho => by
    rcases ent_get h with ⟨d', h1, rfl⟩ | ⟨_, rfl⟩ <;> cases ho
  sep := fun i j s t p h h' ho => by
    rcases ent_get h with ⟨d', h1, rfl⟩ | ⟨_, rfl⟩ <;> cases ho
  exc := fun i x h => by
    rcases ent_get h with ⟨d', h1, h2⟩ | ⟨_, h2⟩ <;> cases h2

section
variable {P : Program} {w : World} {K : PySem.W.Frag} {mg : Str → Option Value} {base : Heap} {x qual : Str} {params : Arguments} {body : List Stmt} {scope : Scope} {dvs : List V} {kws : List (Str × V)} {f : Addr} {fd : FuncData}
/-- a def by its body's mirror -/
theorem fx_fn {N ps : List Str} {k : Nat} {fr : Bool} {m : MS} (F : FunD K x qual params body scope dvs kws f fd) (S : FnScope N ps scope)
    (h : ∀ (cdv : Value) (A : Around) (outer : List PySem.Env) (s : Shared) (H : Hp) (E : XK), Room k (A.deeper (envOfC qual scope s.heap.objs.size f cdv)) →
      RSs (cxOf (L2N.CX P w) P w K mg base N qual scope f cdv A outer s H E) (fun cls d _ H => E cls d H) fr body m) :
    FnOk P w K mg base (L2N.CX P w) (k + 1) f fd ps (spF ⟨K, mg⟩ fr ps.length (mfn fr N.length m)) := by
  refine F.ok S (fun vs H Q E q => q.1) fun cdv A outer s H vs Q E hr hsp => ?_
  obtain ⟨t, h1, h2⟩ := (h cdv A outer s H E hr).ex
  refine ⟨t, h1, ?_⟩
  obtain ⟨hl, G, ds, gm, r, nb, k1, k2⟩ := hsp
  have I := sts_start (P := pinP []) (N := N) gm r
  refine h2 ⟨H, G⟩ G (ent N.length ds) (L2.start N vs) H _ I ?_
  unfold mfn at nb k1 k2
  cases q : m (ent N.length ds) with
  | nx ρ' =>
    rw [q] at nb k1
    intro G' σ' H' J fr'
    unfold Out.res at nb k1
    cases fr with
    | true => exact absurd rfl nb
    | false => exact k1 .non rfl .non H' J.ex .non
  | bk ρ' => rw [q] at nb; exact absurd rfl nb
  | ct ρ' => rw [q] at nb; exact absurd rfl nb
  | bad => rw [q] at nb; exact absurd rfl nb
  | rt d =>
    rw [q] at k1
    exact k1 d rfl
  | err y ρ' =>
    rw [q] at k2
    refine fun cls dd G' σ' H' J fr' rx => ?_
    refine k2 y rfl cls dd H' J.ex ?_
    exact rx.ex (hid_anti J.gb)
end

/-! ### calls -/
/-- a def that may be called by its name; dvs: values of the parameters that are not written -/
structure Cl (P : Program) (w : World) (K : PySem.W.Frag) (mg : Str → Option Value) (base : Heap) (k : Nat) (x : Str) (fr : Bool) (n : Nat) (mf : MF) : Prop where
  ex : ∃ (f : Addr) (fd : FuncData) (ps : List Str), FnOk P w K mg base (L2N.CX P w) k f fd ps (spF ⟨K, mg⟩ fr n mf) ∧ mg x = some (.ref f) ∧ PySem.W.keepIn K (.ref f) = true ∧ Binds K fd ps []
/-- the same with defaults: dvs, on data dd, behind the written ones -/
structure ClD (P : Program) (w : World) (K : PySem.W.Frag) (mg : Str → Option Value) (base : Heap) (k : Nat) (x : Str) (fr : Bool) (n : Nat) (dd : List D) (mf : MF) : Prop where
  ex : ∃ (f : Addr) (fd : FuncData) (ps : List Str) (dvs : List V) (ds : List Value), FnOk P w K mg base (L2N.CX P w) k f fd ps (spF ⟨K, mg⟩ fr n mf) ∧ mg x = some (.ref f) ∧ PySem.W.keepIn K (.ref f) = true ∧ Binds K fd ps ds ∧ Vals dvs ds ∧ (∀ H, Reps ⟨K, mg⟩ H dvs dd)
def mDef (mf : MF) (ma : MA) : ME := fun ρ => (ma ρ).bind mf
def mDefD (mf : MF) (dd : List D) (ma : MA) : ME := fun ρ => (ma ρ).bind fun ds => mf (ds ++ dd)
/-- a call that looks at own objects: its result has no lists -/
def lfR : R D → R D
  | .ok d => if lf d = true then .ok d else .bad
  | .err x => if lff x.fs = true then .err x else .bad
  | .bad => .bad
def mDefL (mf : MF) (ma : MA) : ME := fun ρ => (ma ρ).bind fun ds => lfR (mf ds)
theorem RepF.lf {S : Sig} {H : Hp} {G : Addr → Bool} (gm : ∀ a, G a = true → MutO (H a)) {fs : List (Str × V)} {ds : List (Str × D)} (h : RepF S H fs ds) (l : lff ds = true) : RepF S (hid H G) fs ds := by
  obtain ⟨h1, h2, h3⟩ := h
  exact ⟨h1, h2, fun i f g x d a b => (h3 i f g x d a b).lf gm (lff_get l b)⟩
theorem RepX.lf {S : Sig} {H : Hp} {G : Addr → Bool} (gm : ∀ a, G a = true → MutO (H a)) {cls : Value} {dd : Option Addr} {x : Exn} (h : RepX S H cls dd x) (l : lff x.fs = true) : RepX S (hid H G) cls dd x := by
  obtain ⟨C, a, b, h⟩ := h
  refine ⟨C, a, b, ?_⟩
  rcases h with h | ⟨p, fs, q, r, z⟩
  · exact .inl h
  · exact .inr ⟨p, fs, q, mutO_not gm r (fun m => m), z.lf gm l⟩
section
variable {X : Cx} {W : WX} {k j n : Nat} {x : Str} {mf : MF} {ma : MA} {e : Expr} {es : List Expr} {p pos : Pos} {fr : Bool} {dd : List D}
theorem snd_def {t : TA} (h : SndA (sg X) (pp X) W true n t ma) : SndE (sg X) (pp X) W true (tCallS (spF (sg X) false n mf) (WE W) t) (mDef mf ma) := fun B G ρ σ H Q I nb k ke => by
  unfold mDef at nb k ke
  refine h B G ρ σ H _ I (R.bad_bind nb) (fun ds e vs H' x hn hl rs => ?_) (fun x e => ke x (by rw [e]; rfl))
  rw [e, R.bind_ok] at nb k ke
  exact ⟨hn, G, ds, (I.grow x).gm, reps_of hl rs, nb, fun d e => by rw [if_neg Bool.false_ne_true]; exact fun v H2 x2 r => k d e v H2 (x.trans x2) r, fun y e cls dd H2 x2 r => ke y e cls dd H2 (x.trans x2) r⟩
theorem snd_defL {t : TA} (h : SndA (sg X) (pp X) W false n t ma) : SndE (sg X) (pp X) W true (tCallS (spF (sg X) false n mf) (WE W) t) (mDefL mf ma) := fun B G ρ σ H Q I nb k ke => by
  unfold mDefL at nb k ke
  refine h B G ρ σ H _ I (R.bad_bind nb) (fun ds e vs H' x hn hl rs => ?_) (fun x e => ke x (by rw [e]; rfl))
  rw [e, R.bind_ok] at nb k ke
  have e0 : hid H' noG = H' := hid_noG
  refine ⟨hn, noG, ds, (fun a g => by cases g), ⟨hl, fun i v d h1 h2 => by rw [e0]; exact (rs i v d h1 h2).full⟩, fun z => nb (by rw [z]; rfl), fun d e => ?_, fun y e cls dd H2 x2 r => ?_⟩
  · rw [if_neg Bool.false_ne_true]
    intro v H2 x2 r
    rw [e] at nb k
    unfold lfR at nb k
    by_cases q : lf d = true
    · simp only [if_pos q] at k
      have r : Rep (sg X) (hid H2 noG) v d := r
      rw [hid_noG] at r
      exact k d rfl v H2 (x.trans x2) (r.lf (I.grow (x.trans x2)).gm q)
    · simp only [if_neg q] at nb
      exact absurd rfl nb
  · rw [e] at nb ke
    unfold lfR at nb ke
    by_cases q : lff y.fs = true
    · simp only [if_pos q] at ke
      have r : RepX (sg X) (hid H2 noG) cls dd y := r
      rw [hid_noG] at r
      exact ke y rfl cls dd H2 (x.trans x2) (r.lf (I.grow (x.trans x2)).gm q)
    · simp only [if_neg q] at nb
      exact absurd rfl nb
theorem snd_defF {t : TA} (h : SndA (sg X) (pp X) W true n t ma) : SndF (sg X) (pp X) W (tCallS (spF (sg X) true n mf) (WE W) t) (mDef mf ma) := fun B G ρ σ H Q I nb k ke => by
  unfold mDef at nb k ke
  refine h B G ρ σ H _ I (R.bad_bind nb) (fun ds e vs H' x hn hl rs => ?_) (fun x e => ke x (by rw [e]; rfl))
  rw [e, R.bind_ok] at nb k ke
  refine ⟨hn, G, ds, (I.grow x).gm, reps_of hl rs, nb, fun d e => ?_, fun y e cls dd H2 x2 r => ke y e cls dd H2 (x.trans x2) r⟩
  rw [if_pos rfl]
  refine fun p s H2 x2 hp es w => k d e p s H2 ?_ (x.trans x2) es w
  cases z : H p with
  | none => rfl
  | some o => rw [x p o z] at hp; cases hp
theorem re_def (c : Cl X.prog X.w X.K X.mg X.base k x false (e :: es).length mf) (hr : Room j X.A) (hk : k ≤ j) (hg : Gl X x) (tk : L2N.Takes X W) (ha : RA X W true (e :: es) ma)
    (hdb : (x == ("__debug__" : Str)) = false := by decide) (he : starEach (e :: es) X.env = (false, eval e X.env) :: starEach es X.env := by rfl) (hpl : (backTo pos (starEach es X.env)).any (·.1) = false := by rfl) :
    RE X W true (.Call (.Name x p) (e :: es) [] pos) (mDef mf ma) := by
  obtain ⟨f, fd, ps, F, hm, hkp, hb⟩ := c.ex
  obtain ⟨t, a1, a2⟩ := ha.ex
  exact ⟨_, pe_callS F (hr.mono hk) hg hm hkp hb (L2N.passAt tk) a1 hdb he hpl, snd_def a2⟩
theorem re_defL (c : Cl X.prog X.w X.K X.mg X.base k x false (e :: es).length mf) (hr : Room j X.A) (hk : k ≤ j) (hg : Gl X x) (tk : L2N.Takes X W) (ha : RA X W false (e :: es) ma)
    (hdb : (x == ("__debug__" : Str)) = false := by decide) (he : starEach (e :: es) X.env = (false, eval e X.env) :: starEach es X.env := by rfl) (hpl : (backTo pos (starEach es X.env)).any (·.1) = false := by rfl) :
    RE X W true (.Call (.Name x p) (e :: es) [] pos) (mDefL mf ma) := by
  obtain ⟨f, fd, ps, F, hm, hkp, hb⟩ := c.ex
  obtain ⟨t, a1, a2⟩ := ha.ex
  exact ⟨_, pe_callS F (hr.mono hk) hg hm hkp hb (L2N.passAt tk) a1 hdb he hpl, snd_defL a2⟩
theorem rf_def (c : Cl X.prog X.w X.K X.mg X.base k x true (e :: es).length mf) (hr : Room j X.A) (hk : k ≤ j) (hg : Gl X x) (tk : L2N.Takes X W) (ha : RA X W true (e :: es) ma)
    (hdb : (x == ("__debug__" : Str)) = false := by decide) (he : starEach (e :: es) X.env = (false, eval e X.env) :: starEach es X.env := by rfl) (hpl : (backTo pos (starEach es X.env)).any (·.1) = false := by rfl) :
    RF X W (.Call (.Name x p) (e :: es) [] pos) (mDef mf ma) := by
  obtain ⟨f, fd, ps, F, hm, hkp, hb⟩ := c.ex
  obtain ⟨t, a1, a2⟩ := ha.ex
  exact ⟨_, pe_callS F (hr.mono hk) hg hm hkp hb (L2N.passAt tk) a1 hdb he hpl, snd_defF a2⟩
theorem rf_defD {n : Nat} (c : ClD X.prog X.w X.K X.mg X.base k x true n dd mf) (hn : (e :: es).length + dd.length = n) (hr : Room j X.A) (hk : k ≤ j) (hg : Gl X x) (tk : L2N.Takes X W) (ha : RA X W true (e :: es) ma)
    (hdb : (x == ("__debug__" : Str)) = false := by decide) (he : starEach (e :: es) X.env = (false, eval e X.env) :: starEach es X.env := by rfl) (hpl : (backTo pos (starEach es X.env)).any (·.1) = false := by rfl) :
    RF X W (.Call (.Name x p) (e :: es) [] pos) (mDefD mf dd ma) := by
  obtain ⟨f, fd, ps, dvs, ds, F, hm, hkp, hb, hd, hv⟩ := c.ex
  obtain ⟨t, a1, a2⟩ := ha.ex
  refine ⟨_, pe_callSD (E := WE W) F (hr.mono hk) hg hm hkp hb hd (L2N.passAt tk) a1 hdb he hpl, fun B G ρ σ H Q I nb k ke => ?_⟩
  unfold mDefD at nb k ke
  refine a2 B G ρ σ H _ I (R.bad_bind nb) (fun ds e vs H' x hn' hl rs => ?_) (fun x e => ke x (by rw [e]; rfl))
  rw [e, R.bind_ok] at nb k ke
  have r2 : Reps (sg X) (hid H' G) (vs ++ dvs) (ds ++ dd) := (reps_of hl rs).append (hv _)
  refine ⟨by rw [List.length_append, hn', ← hn, (hv H').1], G, ds ++ dd, (I.grow x).gm, r2, nb, fun d e => ?_, fun y e cls dd H2 x2 r => ke y e cls dd H2 (x.trans x2) r⟩
  rw [if_pos rfl]
  refine fun p s H2 x2 hp es w => k d e p s H2 ?_ (x.trans x2) es w
  cases z : H p with
  | none => rfl
  | some o => rw [x p o z] at hp; cases hp
end
end Fx

-- Fx5
set_option Elab.async false
set_option linter.all false
set_option maxRecDepth 100000
set_option maxHeartbeats 2000000
/-! Fx5: comprehensions. -/
namespace Fx
open PySem PySem.Spec PyProof.Rows L2

/-- the reading that a mirror stands for -/
def canE (S : Sig) (P : PX) (W : WX) (c : Bool) (m : ME) : TE := fun σ H Q => ∃ B G ρ, Sts S P B G ρ σ H ∧ m ρ ≠ .bad ∧ (∀ d, m ρ = .ok d → ∀ v H', Ex H H' → RepC S H' G c v d → Q v H') ∧
  (∀ x, m ρ = .err x → ∀ cls dd H', Ex H H' → RepX S (hid H' G) cls dd x → W cls dd σ H')
def canT (S : Sig) (P : PX) (W : WX) (m : MT) : TT := fun σ H Q => ∃ B G ρ, Sts S P B G ρ σ H ∧ m ρ ≠ .bad ∧ (∀ d, m ρ = .ok d → ∀ H', Ex H H' → Q d H') ∧
  (∀ x, m ρ = .err x → ∀ cls dd H', Ex H H' → RepX S (hid H' G) cls dd x → W cls dd σ H')
theorem RE.can {X : Cx} {W : WX} {c : Bool} {e : Expr} {m : ME} (h : RE X W c e m) : PE X e (canE (sg X) (pp X) W c m) := by
  obtain ⟨t, a, b⟩ := h.ex
  exact ⟨fun pins s σ H Q I ⟨B, G, ρ, J, nb, k, ke⟩ => a.run pins s σ H Q I (b B G ρ σ H Q J nb k ke)⟩
theorem RT.can {X : Cx} {W : WX} {e : Expr} {m : MT} (h : RT X W e m) : PT X e (canT (sg X) (pp X) W m) := by
  obtain ⟨t, a, b⟩ := h.ex
  exact ⟨fun pins s σ H Q I ⟨B, G, ρ, J, nb, k, ke⟩ => a.run pins s σ H Q I (b B G ρ σ H Q J nb k ke)⟩
/-- tests behind `if` in a comprehension: none or one -/
structure RTs (X : Cx) (W : WX) (ifs : List Expr) (m : MT) : Prop where
  ex : PTs X ifs (canT (sg X) (pp X) W m)
def mYes : MT := fun _ => .ok true
theorem rts_nil {X : Cx} {W : WX} : RTs X W [] mYes := ⟨⟨fun pins s σ H Q I ⟨B, G, ρ, J, nb, k, ke⟩ => (pts_nil (X := X)).run pins s σ H Q I (k true rfl H (Ex.refl H))⟩⟩
theorem rts_one {X : Cx} {W : WX} {e : Expr} {m : MT} (h : RT X W e m) : RTs X W [e] m := ⟨pts_one h.can⟩

/-- without the exceptions -/
def noE : Sl → Sl
  | .exc _ => .no
  | s => s
def noExc (ρ : Env) : Env := ρ.map noE
abbrev noX : WX := fun _ _ _ _ => False
def lcL (i : Nat) (t : MT) (e : ME) : List D → Env → R (List D)
  | [], _ => .ok []
  | d :: ds, ρ => match t (ρ.set i (.val d)) with
    | .ok true => (match e (ρ.set i (.val d)) with
      | .ok y => (match lcL i t e ds ρ with
        | .ok ys => .ok (y :: ys)
        | _ => .bad)
      | _ => .bad)
    | .ok false => lcL i t e ds ρ
    | _ => .bad
def mLc (i : Nat) (mi : MI) (t : MT) (e : ME) : ME := fun ρ => (mi ρ).bind fun ds => if szOk ds.length then (lcL i t e ds ((noExc ρ).set i .no)).bind fun ys => .ok (.lst ys) else .bad
theorem lcL_len {i : Nat} {t : MT} {e : ME} : ∀ {ds : List D} {ρ : Env} {ys : List D}, lcL i t e ds ρ = .ok ys → ys.length ≤ ds.length
  | [], ρ, ys, h => by cases h; exact Nat.le_refl _
  | d :: ds, ρ, ys, h => by
    unfold lcL at h
    split at h
    · split at h
      · split at h
        · rename_i q
          cases h
          exact Nat.succ_le_succ (lcL_len q)
        · cases h
      · cases h
    · exact Nat.le_succ_of_le (lcL_len h)
    · cases h
theorem noExc_get {ρ : Env} {i : Nat} {s : Sl} (h : (noExc ρ)[i]? = some s) : ∃ t, ρ[i]? = some t ∧ noE t = s := by
  unfold noExc at h
  rw [List.getElem?_map] at h
  cases q : ρ[i]? with
  | none => rw [q] at h; cases h
  | some t => rw [q] at h; exact ⟨t, rfl, Option.some.inj h⟩
theorem noE_val {t : Sl} {d : D} (h : noE t = .val d) : t = .val d := by cases t <;> first | exact h | cases h
theorem noE_own {t s : Sl} (h : noE t = s) (o : Own s = true) : t = s := by
  cases t with
  | exc x => subst h; cases o
  | _ => exact h
theorem Sts.noX {S : Sig} {P P' : PX} {B : Bs} {G : Addr → Bool} {ρ : Env} {σ : L2.St} {H : Hp} (I : Sts S P B G ρ σ H) : Sts S P' B G (noExc ρ) σ H where
  ex := I.ex
  bg := I.bg
  gb := I.gb
  gm := I.gm
  len := by unfold noExc; rw [List.length_map, I.len]
  val := fun i d h => by
    obtain ⟨t, h1, h2⟩ := noExc_get h
    exact I.val i d (by rw [h1, noE_val h2])
  own := fun i s h o => by
    obtain ⟨t, h1, h2⟩ := noExc_get h
    exact I.own i s (by rw [h1, noE_own h2 o]) o
  sep := fun i j s t p h h' o o' => by
    obtain ⟨t1, h1, h2⟩ := noExc_get h
    obtain ⟨t2, h3, h4⟩ := noExc_get h'
    exact I.sep i j s t p (by rw [h1, noE_own h2 o]) (by rw [h3, noE_own h4 o']) o o'
  exc := fun i x h => by
    obtain ⟨t, h1, h2⟩ := noExc_get h
    cases t <;> cases h2
/-- an own object on the side, in no slot -/
theorem Sts.side {S : Sig} {P : PX} {B : Bs} {G : Addr → Bool} {ρ : Env} {σ : L2.St} {H H' : Hp} {p : Addr} {ds : List D} {xs : List V} (I : Sts S P B G ρ σ H) (e : Ex H H') (hp : H p = none) (h : H' p = some (.lst xs)) (r : Reps S (hid H' (addG G p)) xs ds) : Sts S P B (addG G p) ρ σ H' := by
  have J := I.setOwn (i := ρ.length) (s := .lst ds) e hp rfl ⟨xs, h, r⟩
  rw [List.set_eq_of_length_le (Nat.le_refl _), List.set_eq_of_length_le (by rw [I.len]; exact Nat.le_refl _)] at J
  exact J
theorem wipe1 {σ : L2.St} {i : Nat} {v : Option V} : wipe (σ.set i v) [i] = wipe σ [i] := by
  show ((σ.set i v).set i none) = σ.set i none
  rw [List.set_set]
theorem snd_lc {S : Sig} {P : PX} {W : WX} {i : Nat} {wi : TI} {mi : MI} {mt : MT} {me : ME} (hi : SndI S P W wi mi) : SndF S P W (tLc wi (gName i) (canT S (pinP []) noX mt) (canE S (pinP []) noX true me) [i]) (mLc i mi mt me) := fun B G ρ σ H Q I nb k ke => by
  unfold mLc at nb k ke
  refine hi B G ρ σ H _ I (R.bad_bind nb) (fun ds e J H1 x1 wk => ?_) (fun x e => ke x (by rw [e]; rfl))
  rw [e, R.bind_ok] at nb k
  have I1 := I.grow x1
  intro L hL
  by_cases hz : szOk ds.length = true
  rotate_left
  · rw [if_neg hz] at nb; exact absurd rfl nb
  rw [if_pos hz] at nb k
  cases hy : lcL i mt me ds ((noExc ρ).set i .no) with
  | err y => 
    exfalso
    clear nb k ke
    -- never an error
    have : ∀ (ds : List D), ∀ y, lcL i mt me ds ((noExc ρ).set i .no) ≠ .err y := by
      intro ds
      induction ds with
      | nil => intro y h; cases h
      | cons d ds ih =>
        intro y h
        unfold lcL at h
        split at h
        · split at h
          · split at h <;> cases h
          · cases h
        · exact ih y h
        · cases h
    exact this ds y hy
  | bad => rw [hy] at nb; exact absurd rfl nb
  | ok ys =>
  rw [hy] at k
  have k := k _ rfl
  have Iw : Sts S (pinP []) B G ((noExc ρ).set i .no) (wipe σ [i]) H1 := I1.noX.setNo
  have hL0 : H L = none := by
    cases z : H L with
    | none => rfl
    | some o => rw [x1 L o z] at hL; cases hL
  refine ⟨fun j m H2 => m = ds.length - j ∧ j ≤ ds.length ∧ Ex H1 H2 ∧ ∃ (acc : List V) (ad rest : List D), H2 L = some (.lst acc) ∧ Reps S (hid H2 (addG G L)) acc ad ∧ acc.length ≤ j ∧ lcL i mt me (ds.drop j) ((noExc ρ).set i .no) = .ok rest ∧ ad ++ rest = ys,
    ⟨ds.length, by rw [Nat.sub_zero], Nat.zero_le _, Ex.new hL, [], [], ys, upd_same, Reps.nil, Nat.le_refl _, hy, rfl⟩, ?_⟩
  rintro j m H2 ⟨rfl, hj, ex, acc, ad, rest, hacc, hrep, hlen, hrest, hsum⟩
  have I2 : Sts S (pinP []) B (addG G L) ((noExc ρ).set i .no) (wipe σ [i]) H2 := Iw.side ex hL hacc hrep
  have f2 : Fr G H1 (addG G L) H2 := fr_own hL ex
  obtain ⟨w1, w2, w3⟩ := wk (addG G L) H2 I2.gm f2
  by_cases hlt : j < ds.length
  · refine .inr ⟨w1 j hlt, fun H3 => Ex H1 H3 ∧ ∃ (acc : List V) (ad rest : List D), H3 L = some (.lst acc) ∧ Reps S (hid H3 (addG G L)) acc ad ∧ acc.length ≤ j + 1 ∧ lcL i mt me (ds.drop (j + 1)) ((noExc ρ).set i .no) = .ok rest ∧ ad ++ rest = ys,
      fun H3 q => ⟨ds.length - (j + 1), by omega, rfl, hlt, q⟩, fun v H3 y => ?_⟩
    obtain ⟨x3, rv⟩ := w3 j _ v H3 (List.getElem?_eq_getElem hlt) y
    rw [List.drop_eq_getElem_cons hlt] at hrest
    have I3 : Sts S (pinP []) B (addG G L) (((noExc ρ).set i .no).set i (.val ds[j])) ((wipe σ [i]).set i (some v)) H3 := (I2.grow x3).setVal rv
    refine ⟨?_, ?_⟩
    · show ((σ.set i none).set i (some v)).set i none = σ.set i none
      rw [List.set_set, List.set_set]
    unfold lcL at hrest
    have keep : ∀ {H4 : Hp}, Ex H3 H4 → H4 L = some (.lst acc) := fun e4 => e4 _ _ (x3 _ _ hacc)
    have keepR : ∀ {H4 : Hp}, Ex H3 H4 → Reps S (hid H4 (addG G L)) acc ad := fun e4 => hrep.ex (hid_ex (x3.trans e4))
    refine ⟨B, addG G L, _, I3, (fun z => by rw [z] at hrest; cases hrest), fun b eb H4 x4 => ?_, (fun x ex' => by rw [ex'] at hrest; cases hrest)⟩
    rw [eb] at hrest
    cases b with
    | false =>
      rw [if_neg Bool.false_ne_true]
      exact ⟨(ex.trans x3).trans x4, acc, ad, rest, keep x4, keepR x4, Nat.le_succ_of_le hlen, hrest, hsum⟩
    | true =>
      rw [if_pos rfl]
      dsimp only at hrest
      refine ⟨B, addG G L, _, I3.grow x4, (fun z => by rw [z] at hrest; cases hrest), fun d ed u H5 x5 ru => ?_, (fun x ex' => by rw [ex'] at hrest; cases hrest)⟩
      rw [ed] at hrest
      dsimp only at hrest
      split at hrest
      · rename_i ys2 hq
        cases hrest
        refine ⟨acc, keep (x4.trans x5), Nat.lt_of_le_of_lt hlen (Nat.lt_trans hlt (szOk_lt hz)), fun a o h => ?_, acc ++ [u], ad ++ [d], ys2, upd_same, ?_, ?_, hq, ?_⟩
        · by_cases z : a = L
          · rw [z, hL] at h; cases h
          · rw [upd_ne z]
            exact (((ex.trans x3).trans x4).trans x5) a o h
        · have eh : hid (upd H5 L (.lst (acc ++ [u]))) (addG G L) = hid H5 (addG G L) := by
            funext a
            by_cases z : a = L
            · rw [hid_yes (by rw [z, addG_self]), hid_yes (by rw [z, addG_self])]
            · unfold hid
              rw [upd_ne z]
          rw [eh]
          exact (keepR (x4.trans x5)).append (.cons ru .nil)
        · rw [List.length_append]; exact Nat.succ_le_succ hlen
        · rw [List.append_assoc]; exact hsum
      · cases hrest
  · left
    have ej : j = ds.length := by omega
    subst ej
    rw [List.drop_length] at hrest
    cases hrest
    rw [List.append_nil] at hsum
    subst hsum
    exact ⟨w2 _ (Nat.le_refl _), k L (.lst ad) H2 hL0 (x1.trans ex) rfl ⟨acc, hacc, hrep⟩⟩
section
variable {X : Cx} {W : WX} {fr : Bool} {i : Nat} {x : Str} {px pos : Pos} {elt iter : Expr} {ifs : List Expr} {scope : Scope} {mi : MI} {mt : MT} {me : ME}
theorem takes_blk {s : Shared} {H : Hp} {cenv : PySem.Env} {fp : List Addr} : L2N.Takes (X.blk s H scope cenv fp) noX := fun u s' ⟨a, B, sI, pins, σ, H, cls, d, e, I, nb, up, sky, na, os, ag, w⟩ => w.elim
theorem rf_lc (hc : X.calm = true) (hN : X.N.Nodup) (hi : RI X W (.Name x px) iter mi) (ok : BlkOk X.N X.env.scope scope [(x, i)])
    (hg : ∀ (s : Shared) (H : Hp) (C : Addr) (cl : List (Str × Addr)) (fp : List Addr), PG (X.blk s H scope (compEnvC scope cl C X.env) fp) (.Name x px) (gName i))
    (ht : ∀ (s : Shared) (H : Hp) (C : Addr) (cl : List (Str × Addr)) (fp : List Addr), RTs (X.blk s H scope (compEnvC scope cl C X.env) fp) noX ifs mt)
    (he : ∀ (s : Shared) (H : Hp) (C : Addr) (cl : List (Str × Addr)) (fp : List Addr), RE (X.blk s H scope (compEnvC scope cl C X.env) fp) noX true elt me) (hs : ∀ x, foldedSetIterable iter X.env x = pure x := by intro _; rfl) :
    RF X W (.ListComp elt [⟨.Name x px, iter, ifs, 0⟩] scope pos) (mLc i mi mt me) := by
  obtain ⟨t, a1, a2⟩ := hi.ex
  exact ⟨_, pe_lc hc hN a1 ok hg (fun s H C cl fp => (ht s H C cl fp).ex) (fun s H C cl fp => (he s H C cl fp).can) hs, snd_lc a2⟩
/-- name = [..] -/
theorem rs_setLc {j : Nat} {y : Str} {py spos : Pos} (hc : X.calm = true) (hN : X.N.Nodup) (hy : X.N[j]? = some y) (hyl : X.env.scope.names.lookup y = some .local)
    (hsw : swapsWith (.ListComp elt [⟨.Name x px, iter, ifs, 0⟩] scope pos) (some (.Name y py)) spos.line X.env = pure true) (hi : RI X W (.Name x px) iter mi) (ok : BlkOk X.N X.env.scope scope [(x, i)])
    (hg : ∀ (s : Shared) (H : Hp) (C : Addr) (cl : List (Str × Addr)) (fp : List Addr), PG (X.blk s H scope (compEnvC scope cl C X.env) fp) (.Name x px) (gName i))
    (ht : ∀ (s : Shared) (H : Hp) (C : Addr) (cl : List (Str × Addr)) (fp : List Addr), RTs (X.blk s H scope (compEnvC scope cl C X.env) fp) noX ifs mt)
    (he : ∀ (s : Shared) (H : Hp) (C : Addr) (cl : List (Str × Addr)) (fp : List Addr), RE (X.blk s H scope (compEnvC scope cl C X.env) fp) noX true elt me) (hs : ∀ x, foldedSetIterable iter X.env x = pure x := by intro _; rfl) :
    RS X W fr (.Assign [.Name y py] (.ListComp elt [⟨.Name x px, iter, ifs, 0⟩] scope pos) spos) (mSetO j (mLc i mi mt me)) := by
  obtain ⟨t, a1, a2⟩ := hi.ex
  exact ⟨_, ps_setLc hc hN hy hyl hsw a1 ok hg (fun s H C cl fp => (ht s H C cl fp).ex) (fun s H C cl fp => (he s H C cl fp).can) hs, snd_setO (snd_lc a2)⟩
/-- .. shared at once -/
theorem rs_setLcV {j : Nat} {y : Str} {py spos : Pos} (hc : X.calm = true) (hN : X.N.Nodup) (hy : X.N[j]? = some y) (hyl : X.env.scope.names.lookup y = some .local)
    (hsw : swapsWith (.ListComp elt [⟨.Name x px, iter, ifs, 0⟩] scope pos) (some (.Name y py)) spos.line X.env = pure true) (hi : RI X W (.Name x px) iter mi) (ok : BlkOk X.N X.env.scope scope [(x, i)])
    (hg : ∀ (s : Shared) (H : Hp) (C : Addr) (cl : List (Str × Addr)) (fp : List Addr), PG (X.blk s H scope (compEnvC scope cl C X.env) fp) (.Name x px) (gName i))
    (ht : ∀ (s : Shared) (H : Hp) (C : Addr) (cl : List (Str × Addr)) (fp : List Addr), RTs (X.blk s H scope (compEnvC scope cl C X.env) fp) noX ifs mt)
    (he : ∀ (s : Shared) (H : Hp) (C : Addr) (cl : List (Str × Addr)) (fp : List Addr), RE (X.blk s H scope (compEnvC scope cl C X.env) fp) noX true elt me) (hs : ∀ x, foldedSetIterable iter X.env x = pure x := by intro _; rfl) :
    RS X W fr (.Assign [.Name y py] (.ListComp elt [⟨.Name x px, iter, ifs, 0⟩] scope pos) spos) (mSet j (mLc i mi mt me)) := by
  obtain ⟨t, a1, a2⟩ := hi.ex
  exact ⟨_, ps_setLc hc hN hy hyl hsw a1 ok hg (fun s H C cl fp => (ht s H C cl fp).ex) (fun s H C cl fp => (he s H C cl fp).can) hs, snd_set (snd_lc a2).clean⟩
end
end Fx

-- FxE
set_option Elab.async false
set_option linter.all false
set_option maxRecDepth 100000
set_option maxHeartbeats 2000000
/-! FxE: the making of own errors whose __init__ is super().__init__('..'); self.f = f .. -/
namespace FxEr

open PySem PySem.W PySem.Calls PyProof.Rows PySem.Spec

def supE (txt : Str) (j : Nat) (p0 p1 p2 p3 p4 : Pos) : PySem.Expr := .Call (.Attribute (.Call (.Name "super" p0) [] [] p1) "__init__" p2) [.Constant (.str txt) j p3] [] p4
def supS (txt : Str) (j : Nat) (p0 p1 p2 p3 p4 p5 : Pos) : Stmt := .Expr (supE txt j p0 p1 p2 p3 p4) p5
/-- how it is taken, wherever it runs -/
def SupOk (qual : Str) (scope : Scope) (txt : Str) (j : Nat) (p0 p1 p2 p3 p4 : Pos) : Prop := ∀ (L fI cda cc : Addr), ∃ pl : Sem Bool, eval (supE txt j p0 p1 p2 p3 p4) (ksEnv qual scope L fI (.ref cda) cc) = (do
  let ov ← attributeBase (.Call (.Name "super" p0) [] [] p1) "__init__" (ksEnv qual scope L fI (.ref cda) cc) (eval (.Call (.Name "super" p0) [] [] p1) (ksEnv qual scope L fI (.ref cda) cc))
  standAt p2.atName
  let (f, first) ← holding [ov] (getMethod ov "__init__" pl)
  callWith p4 f first (backTo p4 (starEach [.Constant (.str txt) j p3] (ksEnv qual scope L fI (.ref cda) cc))) [])
def asgS (f : Str) (q1 q2 q3 q4 : Pos) : Stmt := .Assign [.Attribute (.Name "self" q1) f q2] (.Name f q3) q4
/-- such a body -/
inductive InitB (qual : Str) (scope : Scope) : List Str → List Stmt → Prop
  | b0 (txt j p0 p1 p2 p3 p4 p5) : SupOk qual scope txt j p0 p1 p2 p3 p4 → InitB qual scope [] [supS txt j p0 p1 p2 p3 p4 p5]
  | b1 (f : Str) (txt j p0 p1 p2 p3 p4 p5 q1 q2 q3 q4) : SupOk qual scope txt j p0 p1 p2 p3 p4 → InitB qual scope [f] [supS txt j p0 p1 p2 p3 p4 p5, asgS f q1 q2 q3 q4]
  | b2 (f g : Str) (txt j p0 p1 p2 p3 p4 p5 q1 q2 q3 q4 r1 r2 r3 r4) : f ≠ g → SupOk qual scope txt j p0 p1 p2 p3 p4 → InitB qual scope [f, g] [supS txt j p0 p1 p2 p3 p4 p5, asgS f q1 q2 q3 q4, asgS g r1 r2 r3 r4]
/-- what the written part says of the class at C, of its __init__ at fI -/
structure Txt (prog : Program) (K : Frag) (mg : Str → Option Value) (x : Str) (C fI : Addr) (fs : List Str) : Prop where
  gC : mg x = some (.ref C)
  cls : ∃ nm q N bs bm sn sub ab col dd k0 k1 k2 k3 k5, K.lookup C = some (excClassObj nm q C N bs bm true sn sub ab col dd k0 k1 k2 k3 k5 "ValueError.__new__") ∧ HandSPX.refsVE bm = true
  sa : findIn K (.ref C) "__setattr__" = some (some (.builtin "object.__setattr__"))
  noN : ∀ f ∈ fs, findIn K (.ref C) f = some none
  iC : findIn K (.ref C) "__init__" = some (some (.ref fI))
  tC : typeIn K (.ref fI) = some (.type "function")
  kC : keepIn K (.ref C) = true
  exC : subIn K (.ref C) (.type "BaseException") = some true
  tyC : typeIn K (.ref C) = some (.type "type")
  iq : excInitIn K C He.veBase "ValueError.__new__" = true
  hm : ks_superIn K C C "__init__" = some (some (.builtin "ValueError.__init__"))
  hB : subIn K (.ref C) (.type "ValueError") = some true
  hsub : mroIn K C (.ref C) = some true
  hsup : nsIn K mainGlobals "super" = some none
  ho : nsIn K cStatics "thirdparty.any" = some none
  htop : (prog.main.scope.names.lookup ("super" : Str)).isSome = false
  fn : ∃ (oc : Value) (od : Option Addr) (osl : Array (Option Value)) (qual : Str) (params : Arguments) (body : List Stmt) (scope : Scope) (kV doc pm ct : Value) (an : Option Addr) (cda cc : Addr) (ccl : Value) (cdd : Option Addr) (vs : Array Value) (ccs : Array (Option Value)) (file : Str) (tf : Tok)
      (cl : Value) (cld : Option Addr) (csl : Array (Option Value)) (ar : Arg),
    K.lookup fI = some ⟨oc, od, .func (ksFn "__init__" qual params body scope .none kV doc pm an (.ref cda) ct cc), osl⟩ ∧ codeIn K (.ref cda) qual = true ∧ K.lookup cda = some ⟨ccl, cdd, .fields vs, ccs⟩ ∧ vs[2]? = some (.str file tf) ∧ ((prog.main.file : Str) == file) = true ∧
    K.lookup cc = some ⟨cl, cld, .cell (some (.ref C)), csl⟩ ∧ InitB qual scope fs body ∧ (params.posonlyargs ++ params.args).head? = some ar ∧ ar.arg = ("self" : Str) ∧
    (∀ y ∈ scope.names, y.2 ≠ .cell) ∧ scope.isCoroutine = false ∧ scope.isGenerator = false ∧ scope.kind = .function ∧ scope.names.lookup ("super" : Str) = some .globalImplicit ∧ scope.names.lookup ("__class__" : Str) = some .free ∧ scope.names.lookup ("self" : Str) = some .local ∧
    (∀ f ∈ fs, scope.names.lookup f = some .local ∧ f ≠ ("self" : Str) ∧ (f == ("__debug__" : Str)) = false) ∧
    ∀ us : List Value, us.length = fs.length + 1 → bindArgs (ksFn "__init__" qual params body scope .none kV doc pm an (.ref cda) ct cc) ⟨us, []⟩ = pure ((("self" : Str) :: fs).zip us)
section
variable {prog : Program} {w : World} {A : Around} {E : Value → Shared → Prop} {s : Shared} {h₀ : Heap} {L : Addr} {m mg mb : Str → Option Value} {news : List (Addr × Obj)} {K : Frag} {x C D f cc cda so : Addr} {ox : Obj} {odx : Option Obj}
/-- super(), where the module's names are known -/
theorem node0 {body : List Stmt} {q : Str} {scope : Scope} {p0 p1 : Pos} {attr : Str} {whole : Sem Value} {fd : FuncData} {ar : Arg} {vs : Array Value} {file : Str} {tf : Tok} {oc ccl cl : Value} {od cdd cld : Option Addr} {osl ccs csl : Array (Option Value)} {cdD : ClassData} {Q : Value → Shared → Prop}
    (F : Fr h₀ L s.heap m) (X₀ : K.In h₀) (N : News h₀ L s.heap news) (Tg : h₀.Ns mainGlobals mg) (Tb : h₀.Ns builtinsNs mb) (Tm : ∀ x : Str, x ≠ "__name__" → mb x = bootBuiltins x)
    (hf : K.lookup f = some ⟨oc, od, .func fd, osl⟩) (hp : (fd.params.posonlyargs ++ fd.params.args).head? = some ar) (hv : m ar.arg = some (.ref x)) (I : InstAt s.heap x ox C odx)
    (hcode : K.lookup cda = some ⟨ccl, cdd, .fields vs, ccs⟩) (hvs : vs[2]? = some (.str file tf)) (hfile : ((prog.main.file : Str) == file) = true)
    (hcell : K.lookup cc = some ⟨cl, cld, .cell (some (.ref D)), csl⟩) (hD : clsIn K D = some cdD) (hsub : mroIn K C (.ref D) = some true) (hsuper : nsIn K mainGlobals "super" = some none)
    (hat : (attr == ("__class__" : Str)) = false) (hks : scope.names.lookup ("super" : Str) = some .globalImplicit) (hkc : scope.names.lookup ("__class__" : Str) = some .free) (hka : scope.names.lookup ar.arg = some .local) (hk : scope.kind = .function)
    (htop : (prog.main.scope.names.lookup ("super" : Str)).isSome = false)
    (h : ∀ so h', Fr h₀ L h' m → News h₀ L h' ((so, ks_superObj D x C) :: news) → (∀ p ∈ news, p.1 < so) → Q (.ref so) { s with heap := h' }) :
    _root_.PySem.wpAt (model prog w) A (.func body (ksEnv q scope L f (.ref cda) cc)) (attributeBase (.Call (.Name "super" p0) [] [] p1) attr (ksEnv q scope L f (.ref cda) cc) whole) Q E s := by
  have X : K.In s.heap := X₀.keeps F.keep
  obtain ⟨hh, g, d, t, os⟩ := s
  obtain ⟨oD, hD1, hD2⟩ : ∃ oD, hh.get? D = some oD ∧ oD.data = .cls cdD := by
    unfold clsIn at hD
    split at hD
    · rename_i c d cd' sl ho
      cases hD
      exact ⟨_, X _ _ ho, rfl⟩
    · cases hD
  refine ks_wpAt_super_base (env := ksEnv q scope L f (.ref cda) cc) hks hkc hat rfl (X _ _ hf) rfl hp rfl (X _ _ hcode) rfl hvs hfile htop ?_
  refine ks_loadName_global hk hks (loadGlobal_builtin (env := ksEnv q scope L f (.ref cda) cc) (Tg.keeps F.keep) (mg_none_of X₀ Tg hsuper) (Tb.keeps F.keep) ((Tm _ (by decide +kernel)).trans (by first | boot_by_name | rfl | kernel_rfl)) ⟨rfl, ?_⟩)
  refine wpAny_loadName_free hk hkc rfl ⟨_, X _ _ hcell, rfl⟩ ?_
  refine wpAny_loadName_local hk hka F.ns hv ?_
  refine ks_wpAny_isType_cls hD1 hD2 ⟨rfl, ?_⟩
  refine ks_wpAny_call_super hD1 hD2 I.at_ I.cls (fun c e => ?_) (looks_mroIn X hsub) (fun h' e k => ?_)
  · have := I.no
    unfold notCls at this
    rw [e] at this
    exact Bool.noConfusion this
  · obtain ⟨F', N', l'⟩ := ks_newsPush (s := ⟨hh, g, d, t, os⟩) F N rfl e k
    exact h _ _ F' N' l'
end
theorem one_size (v : Value) : [v].length ≤ sizeLine := by
  rw [sizeLine_eq]
  exact (by decide : 1 ≤ 16777216)
section
variable {prog : Program} {w : World} {A : Around} {E : Value → Shared → Prop} {s : Shared} {h₀ : Heap} {L : Addr} {m mg mb : Str → Option Value} {K : Frag} {x C fI cc cda : Addr}
/-- super().__init__('..') -/
theorem sup_step {body : List Stmt} {qual : Str} {scope : Scope} {txt : Str} {j : Nat} {p0 p1 p2 p3 p4 p5 : Pos} {fd : FuncData} {ar : Arg} {vs : Array Value} {file : Str} {tf : Tok} {oc ccl cl : Value} {od cdd cld : Option Addr} {osl ccs csl : Array (Option Value)} {cdC : ClassData} {Q : Flow → Shared → Prop} {t0 : Addr}
    (F : Fr h₀ L s.heap m) (X₀ : K.In h₀) (N : News h₀ L s.heap [(x, excObj C t0 none .none)]) (Tg : h₀.Ns mainGlobals mg) (Tb : h₀.Ns builtinsNs mb) (Tm : ∀ x : Str, x ≠ "__name__" → mb x = bootBuiltins x)
    (sok : SupOk qual scope txt j p0 p1 p2 p3 p4) (hf : K.lookup fI = some ⟨oc, od, .func fd, osl⟩) (hp : (fd.params.posonlyargs ++ fd.params.args).head? = some ar) (ha : ar.arg = ("self" : Str)) (hv : m "self" = some (.ref x))
    (hcode : K.lookup cda = some ⟨ccl, cdd, .fields vs, ccs⟩) (hvs : vs[2]? = some (.str file tf)) (hfile : ((prog.main.file : Str) == file) = true)
    (hcell : K.lookup cc = some ⟨cl, cld, .cell (some (.ref C)), csl⟩) (hC : clsIn K C = some cdC) (hsub : mroIn K C (.ref C) = some true) (hsuper : nsIn K mainGlobals "super" = some none)
    (hks : scope.names.lookup ("super" : Str) = some .globalImplicit) (hkc : scope.names.lookup ("__class__" : Str) = some .free) (hka : scope.names.lookup ("self" : Str) = some .local) (hk : scope.kind = .function)
    (htop : (prog.main.scope.names.lookup ("super" : Str)).isSome = false) (ho : nsIn K cStatics "thirdparty.any" = some none) (hm : ks_superIn K C C "__init__" = some (some (.builtin "ValueError.__init__"))) (hB : subIn K (.ref C) (.type "ValueError") = some true)
    (iq : excInitIn K C He.veBase "ValueError.__new__" = true)
    (h : ∀ h' t' tk, Fr h₀ L h' m → News h₀ L h' [(x, excObj C t' none .none)] → Q .next { s with heap := h', toks := tk }) :
    _root_.PySem.wpAt (model prog w) A (.func body (ksEnv qual scope L fI (.ref cda) cc)) (exec (supS txt j p0 p1 p2 p3 p4 p5) (ksEnv qual scope L fI (.ref cda) cc)) Q E s := by
  have bk : (ksEnv qual scope L fI (.ref cda) cc).blockKind = .function := by unfold Env.blockKind; rw [show (ksEnv qual scope L fI (.ref cda) cc).scope.kind = .function from hk]; rfl
  obtain ⟨pl, hev⟩ := sok L fI cda cc
  refine ks_wpAt_Expr_any (ks_wpAt_MethodCall (pl := pl) ?_ hev) (by unfold interactive; rw [show (ksEnv qual scope L fI (.ref cda) cc).scope.kind = .function from hk]; rfl) (by rfl)
  refine node0 (C := C) (D := C) F X₀ N Tg Tb Tm hf hp (by rw [ha]; exact hv) (.of_exc0 N List.mem_cons_self) hcode hvs hfile hcell hC hsub hsuper (by decide) hks hkc (by rw [ha]; exact hka) hk htop fun so h1 F1 N1 l1 => ?_
  refine kxs_method kxs_ValueError (s := { s with heap := h1 }) F1 X₀ N1 List.mem_cons_self (.of_exc0 N1 (.tail _ List.mem_cons_self)) ho hm hB (by decide) fun q h2 F2 N2 l2 => ?_
  refine kxs_callWith1 N2 List.mem_cons_self (spliced_more (wpAny_Constant_str (spliced_none ⟨kxs_at (h := h2) N2 List.mem_cons_self, ?_⟩)) rfl) rfl rfl
  have n1 : q ≠ x := Nat.ne_of_gt (l2 (x, excObj C t0 none .none) (.tail _ List.mem_cons_self))
  have n2 : so ≠ x := Nat.ne_of_gt (l1 (x, excObj C t0 none .none) List.mem_cons_self)
  refine kxs_call (L := L) (m := m) (s := ⟨h2, s.gens, s.drawn, s.toks + 1 + 1, s.os⟩) F2 X₀ N2 PySem.F.excBase_ValueError iq List.mem_cons_self (.tail n1 (.tail n2 (.head fun p hp => nomatch hp))) (one_size _) fun t' h3 F3 N3 l3 => ?_
  exact h h3 t' _ F3 fun p hp => N3 p (by
    rcases List.mem_cons.mp hp with e | e
    · subst e; simp
    · cases e)
/-- what __init__ leaves -/
structure InitEnd (h₀ h' : Heap) (x C : Addr) (fs : List Str) (vs : List Value) : Prop where
  keep : ∀ b o, h₀.get? b = some o → h'.get? b = some o
  ex : ∃ (t1 : Addr) (dd : Option Addr), h'.get? x = some { cls := .ref C, dict := dd, data := .fields #[.ref t1, .none, .none, .none, .bool false, .none] } ∧
    ((fs = [] ∧ dd = none) ∨ fs ≠ [] ∧ ∃ (dx : Addr) (mA : Str → Option Value), dd = some dx ∧ h₀.objs.size ≤ dx ∧ dx ≠ x ∧ h'.Ns1 dx mA ∧ ∀ y, mA y = (fs.zip vs).lookup y)
theorem kept_but {h h' : Heap} (X : K.In h) (hx : K.lookup x = none) (k : ∀ b o, b ≠ x → h.get? b = some o → h'.get? b = some o) : K.In h' := fun a o e =>
  k a o (fun z => by rw [z, hx] at e; cases e) (X a o e)
theorem ldX {M : Model} {qual : Str} {scope : Scope} {cd : Value} {y : Str} {pos : Pos} {v : Value} {Q : Value → Shared → Prop} {f : Addr} (hn : s.heap.Ns L m) (hv : m y = some v) (h : Q v s)
    (hk : scope.kind = .function) (hl : scope.names.lookup y = some .local) (hd : (y == ("__debug__" : Str)) = false) :
    wpAny M A (eval (.Name y pos) (ksEnv qual scope L f cd cc)) Q E s := wpAny_Name (wpAny_loadName_local (env := ksEnv qual scope L f cd cc) hk hl hn hv h) hd
theorem init_run {fs : List Str} {vs : List Value} {R : Result → Shared → Prop} {y : Str} {t0 : Addr} (T : Txt prog K mg y C fI fs) (X₀ : K.In h₀) (k0 : ∀ b o, h₀.get? b = some o → s.heap.get? b = some o) (hsz : h₀.objs.size ≤ s.heap.objs.size) (hx0 : h₀.get? x = none) (hx : s.heap.get? x = some (excObj C t0 none .none)) (hlim : s.heap.NoLimit)
    (Tg : h₀.Ns mainGlobals mg) (Tb : h₀.Ns builtinsNs mb) (Tm : ∀ x : Str, x ≠ "__name__" → mb x = bootBuiltins x) (hvs : vs.length = fs.length) (hroom : A.depth < recursionLimit)
    (hq : ∀ h' tk, InitEnd h₀ h' x C fs vs → R (.ok (.ret .none)) { s with heap := h', toks := tk }) :
    codeAny (model prog w) A (.call (.ref fI) ⟨.ref x :: vs, []⟩) R s := by
  obtain ⟨oc, od, osl, qual, params, body, scope, kV, doc, pm, ct, an, cda, cc, ccl, cdd, cvs, ccs, file, tf, cl, cld, csl, ar, lk, hcd, lcode, hvf, hfile, lcell, hb, hp, ha, hnc, hco, hgen, hkind, hks, hkc, hka, hfs, hbind⟩ := T.fn
  obtain ⟨nm, q, N, bs, bm, sn, sub, ab, col, dd, k0', k1, k2, k3, k5, hC, hbm⟩ := T.cls
  have hcl : clsIn K C = some { name := nm, bases := bs, mro := .ref C :: bm, ns := N, qualname := q, hasDict := true, slotNames := sn, subclasses := sub, abstract := ab, collection := col, hasDel := false } := by unfold clsIn; rw [hC] <;> rfl
  have Xs : K.In s.heap := X₀.keeps k0
  have hnx : K.lookup x = none := by
    cases e : K.lookup x with
    | none => rfl
    | some o =>
      have z : h₀.get? x = some o := X₀ _ _ e
      rw [hx0] at z
      cases z
  have hlen : (Value.ref x :: vs).length = fs.length + 1 := by rw [List.length_cons, hvs]
  refine ks_codeAny_call_defAt (fd := ksFn "__init__" qual params body scope .none kV doc pm an (.ref cda) ct cc) (body := body) (binds := (("self" : Str) :: fs).zip (.ref x :: vs)) hroom (Xs _ _ lk) rfl hlim (codeRec_of Xs hcd) rfl (BindsTo.of_eq (hbind _ hlen)) hnc (fun z hz => ?_) (fun h₁ hns hk₁ => ?_) hco hgen hkind
  · rcases List.mem_cons.mp (List.of_mem_zip hz).1 with e | e
    · rw [e]; exact hka
    · exact (hfs _ e).1
  · have F : Fr h₀ s.heap.objs.size h₁ _ := ⟨hns, fun b o e => hk₁ b o (k0 b o e), hsz⟩
    have N : News h₀ s.heap.objs.size h₁ [(x, excObj C t0 none .none)] := fun p hp => by
      rcases List.mem_cons.mp hp with e | e
      · subst e
        exact ⟨hk₁ _ _ hx, Nat.ne_of_lt (Heap.lt_size hx), hx0⟩
      · cases e
    have mself : ((("self" : Str), Value.ref x) :: fs.zip vs).reverse.lookup ("self" : Str) = some (.ref x) := by
      rw [List.reverse_cons, List.lookup_append]
      have : (fs.zip vs).reverse.lookup ("self" : Str) = none := by
        rw [List.lookup_eq_none_iff]
        intro p hp
        have := (hfs _ (List.of_mem_zip (List.mem_reverse.mp hp)).1).2.1
        simpa using fun e => this e.symm
      rw [this]
      rfl
    show _root_.PySem.wpAt _ (A.deeper (ksEnv qual scope s.heap.objs.size fI (.ref cda) cc)) (.func body (ksEnv qual scope s.heap.objs.size fI (.ref cda) cc)) (execs body (ksEnv qual scope s.heap.objs.size fI (.ref cda) cc)) _ _ _
    have bL : h₀.objs.size ≤ s.heap.objs.size := hsz
    have step : ∀ {txt j p0 p1 p2 p3 p4 p5} {rest : List Stmt} {Q : Flow → Shared → Prop} {E : Value → Shared → Prop} {bd : List Stmt}, SupOk qual scope txt j p0 p1 p2 p3 p4 →
        (∀ h' t' tk, Fr h₀ s.heap.objs.size h' (fun z => ((("self" : Str) :: fs).zip (Value.ref x :: vs)).reverse.lookup z) → News h₀ s.heap.objs.size h' [(x, excObj C t' none .none)] →
          wpAny (model prog w) (A.deeper (ksEnv qual scope s.heap.objs.size fI (.ref cda) cc)) (execs rest (ksEnv qual scope s.heap.objs.size fI (.ref cda) cc)) Q E { s with heap := h', toks := tk }) →
        _root_.PySem.wpAt (model prog w) (A.deeper (ksEnv qual scope s.heap.objs.size fI (.ref cda) cc)) (.func bd (ksEnv qual scope s.heap.objs.size fI (.ref cda) cc)) (execs (supS txt j p0 p1 p2 p3 p4 p5 :: rest) (ksEnv qual scope s.heap.objs.size fI (.ref cda) cc)) Q E
          { s with heap := h₁, toks := s.toks + ((("self" : Str) :: fs).zip (Value.ref x :: vs)).length } := fun {txt j p0 p1 p2 p3 p4 p5 rest Q E bd} sok k =>
      ks_wpAt_execs_cons (sup_step (s := { s with heap := h₁, toks := s.toks + ((("self" : Str) :: fs).zip (Value.ref x :: vs)).length }) F X₀ N Tg Tb Tm sok lk hp ha mself lcode hvf hfile lcell hcl T.hsub T.hsup hks hkc hka hkind T.htop T.ho T.hm T.hB T.iq
        fun h' t' tk F' N' => wpAt_of_wpAny (k h' t' tk F' N'))
    have newDx : ∀ {h' : Heap} {dx : Addr}, Fr h₀ s.heap.objs.size h' (fun z => ((("self" : Str) :: fs).zip (Value.ref x :: vs)).reverse.lookup z) → h'.objs.size ≤ dx → h₀.objs.size ≤ dx := fun F' l => Nat.le_trans bL (Nat.le_trans (Nat.le_of_lt F'.ns.lt) l)
    cases hb with
    | b0 txt j p0 p1 p2 p3 p4 p5 sok =>
      refine step sok fun h' t' tk F' N' => wpAny_execs_nil ?_
      exact hq h' tk ⟨F'.keep, t', none, (N' _ List.mem_cons_self).1, .inl ⟨rfl, rfl⟩⟩
    | b1 f txt j p0 p1 p2 p3 p4 p5 q1 q2 q3 q4 sok =>
      refine step sok fun h' t' tk F' N' => wpAny_execs_cons (plainObj_wpAny_Assign_Attribute ?_ (by rfl))
      match vs, hvs with
      | [v], _ =>
        obtain ⟨hf1, hf2, hf3⟩ := hfs f List.mem_cons_self
        have nf : (("self" : Str) == f) = false := by simpa using fun e => hf2 e.symm
        refine ldX (cc := cc) (v := v) F'.ns (by simp [List.lookup]) ?_ hkind hf1 hf3
        refine ldX (cc := cc) (v := .ref x) F'.ns (by simp [List.lookup, nf]) ?_ hkind hka (by decide)
        have X₁ : K.In h' := X₀.keeps F'.keep
        have hx₁ := (N' _ List.mem_cons_self).1
        refine set_plain X₁ (ox := excObj C t' none .none) (od := none) ⟨hx₁, rfl, rfl, trivial⟩ T.sa ?_
        refine HandSPX.exc_osa X₁ hx₁ hcl (show HandSPX.refsVE (.ref C :: bm) = true from hbm) rfl (T.noN f List.mem_cons_self) (fun h₃ tk₃ dx k₃ dn dne hx₃ hn₃ => ?_)
        refine wpAny_execs_nil (hq h₃ _ ⟨fun b o e => k₃ b o (fun z => by rw [z, hx0] at e; cases e) (F'.keep b o e), t', some dx, hx₃, .inr ⟨List.cons_ne_nil _ _, dx, _, rfl, newDx F' dn, dne, hn₃, fun y => ?_⟩⟩)
        by_cases e : y = f
        · subst e; simp [List.lookup]
        · have : (y == f) = false := by simpa using e
          rw [if_neg e]; simp [List.lookup, this]
    | b2 f g txt j p0 p1 p2 p3 p4 p5 q1 q2 q3 q4 r1 r2 r3 r4 nfg sok =>
      refine step sok fun h' t' tk F' N' => wpAny_execs_cons (plainObj_wpAny_Assign_Attribute ?_ (by rfl))
      match vs, hvs with
      | [v, u], _ =>
        obtain ⟨hf1, hf2, hf3⟩ := hfs f List.mem_cons_self
        obtain ⟨hg1, hg2, hg3⟩ := hfs g (.tail _ List.mem_cons_self)
        have nf : (("self" : Str) == f) = false := by simpa using fun e => hf2 e.symm
        have ng : (("self" : Str) == g) = false := by simpa using fun e => hg2 e.symm
        have nfg' : (f == g) = false := by simpa using nfg
        refine ldX (cc := cc) (v := v) F'.ns (by simp [List.lookup, nfg']) ?_ hkind hf1 hf3
        refine ldX (cc := cc) (v := .ref x) F'.ns (by simp [List.lookup, nf, ng]) ?_ hkind hka (by decide)
        have X₁ : K.In h' := X₀.keeps F'.keep
        have hx₁ := (N' _ List.mem_cons_self).1
        have nL := (N' _ List.mem_cons_self).2.1
        refine set_plain X₁ (ox := excObj C t' none .none) (od := none) ⟨hx₁, rfl, rfl, trivial⟩ T.sa ?_
        refine HandSPX.exc_osa X₁ hx₁ hcl (show HandSPX.refsVE (.ref C :: bm) = true from hbm) rfl (T.noN f List.mem_cons_self) (fun h₃ tk₃ dx k₃ dn dne hx₃ hn₃ => ?_)
        refine wpAny_execs_cons (plainObj_wpAny_Assign_Attribute ?_ (by rfl))
        have keep3 : ∀ b o, h₀.get? b = some o → h₃.get? b = some o := fun b o e => k₃ b o (fun z => by rw [z, hx0] at e; cases e) (F'.keep b o e)
        have X₃ : K.In h₃ := X₀.keeps keep3
        have ns3 : h₃.Ns s.heap.objs.size (fun z => ((("self" : Str) :: [f, g]).zip (Value.ref x :: [v, u])).reverse.lookup z) := by
          obtain ⟨oL, es, ep, hL, r⟩ := F'.ns
          exact ⟨oL, es, ep, k₃ _ _ (Ne.symm nL) hL, r⟩
        refine ldX (s := ⟨h₃, s.gens, s.drawn, tk₃, s.os⟩) (cc := cc) (v := u) ns3 (by simp [List.lookup]) ?_ hkind hg1 hg3
        refine ldX (s := ⟨h₃, s.gens, s.drawn, tk₃, s.os⟩) (cc := cc) (v := .ref x) ns3 (by simp [List.lookup, nf, ng]) ?_ hkind hka (by decide)
        have hw : Within (fun y => if y = f then some v else none) [f] := Within.cons f v Within.nil
        obtain ⟨oD, _, _, hoD, _, _⟩ := hn₃.count hw
        refine set_plain X₃ (ox := { cls := .ref C, dict := some dx, data := .fields #[.ref t', .none, .none, .none, .bool false, .none] }) (od := some oD) ⟨hx₃, rfl, rfl, hoD⟩ T.sa ?_
        refine OEX.osa_old X₃ hx₃ hn₃ hw (by simp) hcl (show HandSPX.refsVE (.ref C :: bm) = true from hbm) rfl (T.noN g (.tail _ List.mem_cons_self)) (fun h₄ tk₄ k₄ hn₄ => ?_)
        refine wpAny_execs_nil (hq h₄ _ ⟨fun b o e => k₄ b o (fun z => ?_) (keep3 b o e), t', some dx, k₄ _ _ (Ne.symm dne) hx₃, .inr ⟨List.cons_ne_nil _ _, dx, _, rfl, newDx F' dn, dne, hn₄, fun y => ?_⟩⟩)
        · have y1 := Heap.lt_size e
          have y2 := newDx F' dn
          rw [z] at y1
          exact absurd (Nat.lt_of_lt_of_le y1 y2) (Nat.lt_irrefl _)
        · by_cases e : y = g
          · subst e
            have : (y == f) = false := by simpa using fun z => nfg z.symm
            simp [List.lookup, this]
          · have e1 : (y == g) = false := by simpa using e
            rw [if_neg e]
            by_cases e2 : y = f
            · subst e2; simp [List.lookup]
            · have e3 : (y == f) = false := by simpa using e2
              rw [if_neg e2]; simp [List.lookup, e3, e1]
/-- a made error -/
structure Made (h h' : Heap) (e C : Addr) (fs : List Str) (vs : List Value) : Prop where
  keep : ∀ b o, h.get? b = some o → h'.get? b = some o
  new : h.objs.size ≤ e
  ex : ∃ (t1 : Addr) (dd : Option Addr), h'.get? e = some { cls := .ref C, dict := dd, data := .fields #[.ref t1, .none, .none, .none, .bool false, .none] } ∧
    ((fs = [] ∧ dd = none) ∨ fs ≠ [] ∧ ∃ (dx : Addr) (mA : Str → Option Value), dd = some dx ∧ h.objs.size ≤ dx ∧ dx ≠ e ∧ h'.Ns1 dx mA ∧ ∀ y, mA y = (fs.zip vs).lookup y)
theorem made_run {fs : List Str} {vs : List Value} {R : Result → Shared → Prop} {y : Str} (T : Txt prog K mg y C fI fs) (X : K.In s.heap) (hlim : s.heap.NoLimit)
    (Tg : s.heap.Ns mainGlobals mg) (Tb : s.heap.Ns builtinsNs mb) (Tm : ∀ x : Str, x ≠ "__name__" → mb x = bootBuiltins x) (hvs : vs.length = fs.length) (hsz : vs.length ≤ 1000) (hroom : A.depth + 1 < recursionLimit)
    (hq : ∀ h' tk e, Made s.heap h' e C fs vs → R (.ok (.ret (.ref e))) { s with heap := h', toks := tk }) :
    codeAny (model prog w) A (.call (.ref C) ⟨vs, []⟩) R s := by
  obtain ⟨nm, q, N, bs, bm, sn, sub, ab, col, dd, k0, k1, k2, k3, k5, hC, hbm⟩ := T.cls
  obtain ⟨hp, g, dr, tk, os⟩ := s
  have k : ∀ b o, hp.get? b = some o → ((hp.push (kdv_tup vs)).push (HandSPX.excO C hp.objs.size)).get? b = some o := fun b o e => Heap.get?_push_of_some _ (Heap.get?_push_of_some _ e)
  have hget : ((hp.push (kdv_tup vs)).push (HandSPX.excO C hp.objs.size)).get? (hp.objs.size + 1) = some (HandSPX.excO C hp.objs.size) := by heap_get
  have hx0 : hp.get? (hp.objs.size + 1) = none := Heap.get?_none_of_le (Nat.le_succ _)
  have hz : vs.length ≤ sizeLine := Nat.le_trans hsz (by rw [sizeLine_eq]; decide)
  refine HandSPX.call_own F.excBase_ValueError (fun X => HandSPX.refsVE_contains X bm hbm) (X _ _ hC) (looks_findIn X T.iC) (fun self => bind_fn X self T.tC) hz ?_
  refine init_run (s := ⟨(hp.push (kdv_tup vs)).push (HandSPX.excO C hp.objs.size), g, dr, tk, os⟩) (h₀ := hp) (t0 := hp.objs.size) T X k (by rw [Heap.size_push, Heap.size_push]; omega) hx0 hget (hlim.keeps k) Tg Tb Tm hvs ?_ fun h' tk' I => ?_
  · show A.depth + 1 < recursionLimit
    exact hroom
  · exact ⟨rfl, hq h' tk' (hp.objs.size + 1) ⟨I.keep, Nat.le_succ _, I.ex⟩⟩
end
end FxEr

-- FxX
set_option Elab.async false
set_option linter.all false
set_option maxRecDepth 100000
set_option maxHeartbeats 2000000
/-! FxX: raising own errors. -/
namespace Fx
open PySem PySem.Spec PyProof.Rows L2

theorem lookup_zip : ∀ (fs : List Str) (vs : List V) (us : List Value) (f : Str), Vals vs us → vs.length = fs.length → RelO ((fs.zip vs).lookup f) ((fs.zip us).lookup f)
  | [], _, _, _, _, _ => by simp [List.lookup]; exact True.intro
  | _ :: _, [], _, _, _, h => by cases h
  | g :: fs, v :: vs, us, f, r, h => by
    cases r with
    | cons r1 r2 =>
      rename_i u us
      by_cases e : f = g
      · subst e
        simp [List.lookup]
        exact r1
      · have e2 : (f == g) = false := by simpa using e
        have := lookup_zip fs vs us f r2 (by simpa using h)
        simpa [List.lookup, e2] using this
def tMkE (C : Addr) (fs : List Str) (ta : TA) : L2.St → Hp → XK → Prop := fun σ H Q => ta σ H fun vs H1 => vs.length = fs.length ∧ vs.length ≤ 1000 ∧ ((fs = [] ∧ Q (.ref C) none H1) ∨ (fs ≠ [] ∧ ∀ d, H1 d = none → Q (.ref C) (some d) (upd H1 d (.xd (fs.zip vs)))))
section
variable {X : Cx} {C fI : Addr} {x : Str} {fs : List Str} {k : Nat} {p pos : Pos}
theorem mk_err {Q : XK} {pins : List (Addr × Obj)} {σ : L2.St} {H1 : Hp} {s1 : Shared} {vs : List V} {us : List Value} (T : FxEr.Txt X.prog X.K X.mg x C fI fs) (hr : X.A.depth + 1 < recursionLimit) (I1 : Inv X pins σ H1 s1) (r1 : Vals vs us) (hl : vs.length = fs.length) (hz : vs.length ≤ 1000)
    (q1 : (fs = [] ∧ Q (.ref C) none H1) ∨ (fs ≠ [] ∧ ∀ d, H1 d = none → Q (.ref C) (some d) (upd H1 d (.xd (fs.zip vs))))) : wpAny (model X.prog X.w) X.A (call (.ref C) us) (L2N.MkP X pins σ Q) X.xe s1 := by
  have hlim := I1.nolimit
  obtain ⟨mb, b1, b2⟩ := I1.ok.mod.blt
  have hul : us.length = fs.length := by rw [← r1.length, hl]
  refine wpAny_call (FxEr.made_run T I1.kIn hlim (I1.ok.mod.glob.keeps I1.bk) (b1.keeps I1.bk) b2 hul (by rw [hul, ← hl]; exact hz) hr fun h' tk' e M => ?_)
  obtain ⟨hp, g, dr, tk, os⟩ := s1
  show L2N.MkP X pins σ Q (.ref e) ⟨h', g, dr, tk', os⟩
  obtain ⟨t1, dd, hoe, hd⟩ := M.ex
  rcases hd with ⟨hf, rfl⟩ | ⟨fne, dx, mA, rfl, dbig, dne, hns, hm⟩
  · have q2 : Q (.ref C) none H1 := by
      rcases q1 with ⟨_, q⟩ | ⟨n, _⟩
      · exact q
      · exact absurd hf n
    exact ⟨e, _, _, ⟨hp, g, dr, tk, os⟩, H1, .ref C, none, rfl, I1, M.keep, Heap.get?_none_of_le M.new, hoe, ⟨rfl, rfl, fun vs e => by cases e; rfl⟩, rfl, rfl, I1.hok.fresh M.new, rfl, I1.bare, raises_own T.exC T.tyC, q2⟩
  · have q2 : ∀ d, H1 d = none → Q (.ref C) (some d) (upd H1 d (.xd (fs.zip vs))) := by
      rcases q1 with ⟨n, _⟩ | ⟨_, q⟩
      · exact absurd n fne
      · exact q
    obtain ⟨G', g1, g2⟩ := restrict h' fun b => decide (b ≠ e)
    have gk : ∀ b, b ≠ e → G'.get? b = h'.get? b := fun b hb => g1 b (decide_eq_true hb)
    have ge : G'.get? e = none := g2 e (by simp)
    have old : ∀ b o, hp.get? b = some o → G'.get? b = some o := fun b o q => (gk b (Nat.ne_of_lt (Nat.lt_of_lt_of_le (Heap.lt_size q) M.new))).trans (M.keep b o q)
    have ob : ObjOk X.prog X.w (upd H1 dx (.xd (fs.zip vs))) G' dx (.xd (fs.zip vs)) :=
      ⟨_, hns.at (fun o q => (gk dx dne).trans q), fun f => by rw [hm f]; exact lookup_zip fs vs us f r1 hl⟩
    have J : Inv X pins σ (upd H1 dx (.xd (fs.zip vs))) ⟨G', g, dr, tk', os⟩ := I1.laid (t' := tk') old dbig ob
    refine ⟨e, _, _, ⟨G', g, dr, tk', os⟩, _, .ref C, some dx, rfl, J, fun b o q => ?_, ge, hoe, ⟨rfl, rfl, fun vs e => by cases e; rfl⟩, rfl, rfl, ?_, rfl, I1.bare, raises_own T.exC T.tyC, q2 dx (I1.hok.fresh dbig)⟩
    · by_cases hb : b = e
      · have q' : G'.get? b = some o := q
        rw [hb, ge] at q'; cases q'
      · exact (gk b hb).symm.trans q
    · rw [upd_ne (Ne.symm dne)]
      exact I1.hok.fresh M.new
theorem pmk_err {e : Expr} {es : List Expr} {ta : TA} (T : FxEr.Txt X.prog X.K X.mg x C fI fs) (hr : Room k X.A) (hg : Gl X x) (ha : PA X (e :: es) ta) (hdb : (x == ("__debug__" : Str)) = false := by decide)
    (he : starEach (e :: es) X.env = (false, eval e X.env) :: starEach es X.env := by rfl) (hpl : (backTo pos (starEach es X.env)).any (·.1) = false := by rfl) :
    L2N.PMk X (.Call (.Name x p) (e :: es) [] pos) (tMkE C fs ta) := by
  intro pins s σ H Q I h
  refine wpAny_Call_Name_kw (ld_glob I hg T.gC ?_ hdb)
  refine PySem.W.callWith_K (h₀ := X.base) I.ok.mod.kin T.kC (thn (ha.run pos pins s σ H _ I h) fun us s1 ⟨vs, H1, I1, r1, hl, hz, q1⟩ => ⟨I1.kIn, ?_⟩) he hpl
  exact mk_err T (by have := hr.dp; omega) I1 r1 hl hz q1
theorem pmk_err0 (T : FxEr.Txt X.prog X.K X.mg x C fI []) (hr : Room k X.A) (hg : Gl X x) (hdb : (x == ("__debug__" : Str)) = false := by decide) :
    L2N.PMk X (.Call (.Name x p) [] [] pos) (fun _ H Q => Q (.ref C) none H) := by
  intro pins s σ H Q I h
  refine wpAny_Call_Name_kw (ld_glob I hg T.gC ?_ hdb)
  refine PySem.W.callWith_K0 I.kIn T.kC ?_
  exact mk_err (vs := []) T (by have := hr.dp; omega) I .nil rfl (Nat.zero_le _) (.inl ⟨rfl, h⟩)
/-- an own error, on data -/
def mErr (x : Str) (fs : List Str) (m : MA) : Env → R Exn := fun ρ => (m ρ).bind fun ds => .ok ⟨x, fs.zip ds⟩
theorem repF_zip {S : Sig} {H : Hp} : ∀ {fs : List Str} {vs : List V} {ds : List D}, Reps S H vs ds → vs.length = fs.length → RepF S H (fs.zip vs) (fs.zip ds) := fun {fs vs ds} r hl => by
  refine ⟨by rw [List.length_zip, List.length_zip, r.1], fun i f g y d h1 h2 => ?_, fun i f g y d h1 h2 => ?_⟩
  · rw [List.getElem?_zip_eq_some] at h1 h2
    have := h1.1.symm.trans h2.1
    exact Option.some.inj this
  · rw [List.getElem?_zip_eq_some] at h1 h2
    exact r.2 i y d h1.2 h2.2
variable {W : WX} {ma : MA}
theorem rx_err {e : Expr} {es : List Expr} (T : FxEr.Txt X.prog X.K X.mg x C fI fs) (hr : Room k X.A) (hg : Gl X x) (ha : RA X W true (e :: es) ma) (hn : (e :: es).length = fs.length := by rfl) (hz : (e :: es).length ≤ 1000 := by decide) (hdb : (x == ("__debug__" : Str)) = false := by decide)
    (he : starEach (e :: es) X.env = (false, eval e X.env) :: starEach es X.env := by rfl) (hpl : (backTo pos (starEach es X.env)).any (·.1) = false := by rfl) : RX X W (.Call (.Name x p) (e :: es) [] pos) (mErr x fs ma) := by
  obtain ⟨t, a1, a2⟩ := ha.ex
  refine ⟨_, pmk_err T hr hg a1 hdb he hpl, fun B G ρ σ H Q I nb k ke => ?_⟩
  unfold mErr at nb k ke
  refine a2 B G ρ σ H _ I (R.bad_bind nb) (fun ds e vs H' x1 hl hl2 rs => ?_) (fun x e => ke x (by rw [e]; rfl))
  rw [e, R.bind_ok] at k
  have hvl : vs.length = fs.length := by rw [hl, hn]
  have rp := reps_of hl2 rs
  refine ⟨hvl, by rw [hl]; exact hz, .inr ⟨fun z => (by rw [z] at hn; cases hn), fun d hd => ?_⟩⟩
  have e2 : Ex H' (upd H' d (.xd (fs.zip vs))) := Ex.new hd
  refine k _ rfl _ _ _ (x1.trans e2) ⟨C, rfl, T.gC, .inr ⟨d, fs.zip vs, rfl, hid_of (fresh_vis (I.grow x1).gm hd) upd_same, ?_⟩⟩
  exact repF_zip (rp.ex (hid_ex e2)) hvl
theorem rx_err0 (T : FxEr.Txt X.prog X.K X.mg x C fI []) (hr : Room k X.A) (hg : Gl X x) (hdb : (x == ("__debug__" : Str)) = false := by decide) : RX X W (.Call (.Name x p) [] [] pos) (fun _ => .ok ⟨x, []⟩) :=
  ⟨_, pmk_err0 T hr hg hdb, fun B G ρ σ H Q I nb k ke => k _ rfl _ _ H (Ex.refl H) ⟨C, rfl, T.gC, .inl ⟨rfl, rfl⟩⟩⟩
end
end Fx

-- Fx6
set_option Elab.async false
set_option linter.all false
set_option maxRecDepth 100000
set_option maxHeartbeats 2000000
/-! Fx6: try, except suites, defs called there, the caught exception. -/
namespace Fx
open PySem PySem.Spec PyProof.Rows L2

/-! ### the caught exception: its class, its fields -/
/-- the own errors: their names -/
structure ErrK (K : PySem.W.Frag) (mg : Str → Option Value) (nms : List Str) : Prop where
  one : ∀ c ∈ nms, ∃ D, mg c = some (.ref D) ∧ ExcC K D ∧ XfC K D ∧ (∀ T ∈ nms, ∀ A, mg T = some (.ref A) → PySem.W.kitOne K (.ref D) (.ref A) = some (c == T)) ∧ PySem.W.kitOne K (.ref D) (.type "ValueError") = some true
theorem inst_of {X : Cx} {pins : List (Addr × Obj)} {σ : L2.St} {H : Hp} {s : Shared} {a D : Addr} {dd : Option Addr} (I : Inv X pins σ H s) (hp : pinP (X.pn.take 1) a (.ref D) dd) (hd : dd = none ∨ ∃ d fs, dd = some d ∧ H d = some (.xd fs)) :
    ∃ oe od, PySem.W.InstAt s.heap a oe D od := by
  obtain ⟨oe, hm, hc, hdi, vs, hv⟩ := hp
  obtain ⟨hget, _⟩ := I.pin (a, oe) (List.mem_append.mpr (.inl (List.mem_of_mem_take hm)))
  obtain ⟨oc, oda, odt, osl⟩ := oe
  dsimp only at hc hdi hv
  subst hc hdi hv
  rcases hd with rfl | ⟨d, fs, rfl, ea⟩
  · exact ⟨_, none, hget, rfl, rfl, trivial⟩
  · obtain ⟨mA, hns, hr⟩ := (show ObjOk X.prog X.w H s.heap d (.xd fs) from I.hok d _ ea)
    obtain ⟨od, ho, hl⟩ := lookIn_ns hns
    exact ⟨_, some od, hget, rfl, rfl, ho⟩
/-- isinstance(e, c) of such an exception -/
def rIsX (K : PySem.W.Frag) (pn : List (Addr × Obj)) : List V → Hp → VK → Prop := fun xs H Q => ∃ (a D : Addr) (dd : Option Addr) (c : V) (cv : Value) (b : Bool), xs = [.ref a, c] ∧ pinP pn a (.ref D) dd ∧ ExcC K D ∧ (dd = none ∨ ∃ d fs, dd = some d ∧ H d = some (.xd fs)) ∧
  (∀ u, RelV c u → u = cv) ∧ PySem.W.kitOne K (.ref D) cv = some b ∧ Q (.bl b) H
def rIsXT (K : PySem.W.Frag) (pn : List (Addr × Obj)) : List V → Hp → VK → Prop := fun xs H Q => ∃ (a D : Addr) (dd : Option Addr) (tp : Addr) (cs : List V) (us : List Value) (b : Bool), xs = [.ref a, .ref tp] ∧ pinP pn a (.ref D) dd ∧ ExcC K D ∧ (dd = none ∨ ∃ d fs, dd = some d ∧ H d = some (.xd fs)) ∧
  H tp = some (.tup cs) ∧ Paired ClsV cs us ∧ PySem.W.kitAny K (.ref D) us = some b ∧ Q (.bl b) H
section
variable {X : Cx}
theorem call_isX : CallR X (.builtin "isinstance") (rIsX X.K (X.pn.take 1)) := by
  intro pins s σ H xs us Q I r h
  obtain ⟨a, D, dd, c, cv, b, rfl, hp, C, hd, hcv, e, q⟩ := h
  obtain ⟨u1, u2, rfl, r1, r2⟩ := vals2 r
  cases (show u1 = Value.ref a from r1)
  have ec := hcv _ r2
  subst ec
  obtain ⟨oe, od, J⟩ := inst_of I hp hd
  obtain ⟨cd, hcd, _⟩ := PySem.W.any_some C.hd
  exact PySem.W.kia_one (PySem.W.kitx_exc (od := od) (by rw [hcd]; rfl) C.hg C.hk C.hs C.ha C.hn C.ht C.hm) I.kIn J e (fun z => nomatch z) fun tk => ⟨.bl b, H, I.tok tk, rfl, q⟩
theorem call_isXT : CallR X (.builtin "isinstance") (rIsXT X.K (X.pn.take 1)) := by
  intro pins s σ H xs us Q I r h
  obtain ⟨a, D, dd, tp, cs, ws, b, rfl, hp, C, hd, hT, k, e, q⟩ := h
  obtain ⟨u1, u2, rfl, r1, r2⟩ := vals2 r
  cases (show u1 = Value.ref a from r1)
  cases (show u2 = Value.ref tp from r2)
  obtain ⟨oe, od, J⟩ := inst_of I hp hd
  obtain ⟨cd, hcd, _⟩ := PySem.W.any_some C.hd
  obtain ⟨_, its, rv, o, h1, h2, n, h3⟩ := (show ObjOk X.prog X.w H s.heap tp (.tup cs) from I.hok tp _ hT)
  have e3 := ClsV.all k rv
  subst e3
  obtain ⟨oc, od2, dt, sl⟩ := o
  simp only at h2 h3
  subst h2 h3
  exact PySem.W.kia_tup (PySem.W.kitx_exc (od := od) (by rw [hcd]; rfl) C.hg C.hk C.hs C.ha C.hn C.ht C.hm) I.kIn J h1 e (fun z => nomatch z) fun tk => ⟨.bl b, H, I.tok tk, rfl, q⟩
end
/-- what a mirror knows of the caught exception -/
def mX (nms : List Str) (i : Nat) (f : Exn → R D) : ME := fun ρ => match ρ[i]? with
  | some (.exc x) => if nms.contains x.c then f x else .bad
  | _ => .bad
theorem Sts.at_exc {S : Sig} {P : PX} {B : Bs} {G : Addr → Bool} {ρ : Env} {σ : L2.St} {H : Hp} {i : Nat} {nms : List Str} {f : Exn → R D} (I : Sts S P B G ρ σ H) (nb : mX nms i f ρ ≠ .bad) (F : ErrK S.K S.mg nms) :
    ∃ x a D dd, ρ[i]? = some (.exc x) ∧ mX nms i f ρ = f x ∧ x.c ∈ nms ∧ σ[i]? = some (some (.ref a)) ∧ P a (.ref D) dd ∧ RepX S (hid H G) (.ref D) dd x ∧ S.mg x.c = some (.ref D) ∧ ExcC S.K D ∧ XfC S.K D ∧
      (∀ T ∈ nms, ∀ A, S.mg T = some (.ref A) → PySem.W.kitOne S.K (.ref D) (.ref A) = some (x.c == T)) ∧ PySem.W.kitOne S.K (.ref D) (.type "ValueError") = some true ∧ (dd = none ∨ ∃ d fs, dd = some d ∧ H d = some (.xd fs)) := by
  unfold mX at nb ⊢
  cases e : ρ[i]? with
  | none => rw [e] at nb; exact absurd rfl nb
  | some s =>
    rw [e] at nb
    cases s with
    | exc x =>
      dsimp only at nb
      by_cases z : nms.contains x.c = true
      · obtain ⟨a, cls, dd, h1, h2, h3⟩ := I.exc i x e
        have hm : x.c ∈ nms := by simpa using z
        obtain ⟨D, g1, g2, g3, g4, g5⟩ := F.one x.c hm
        obtain ⟨C, c1, c2, c3⟩ := id h3
        rw [g1] at c2
        have eD : D = C := Value.ref.inj (Option.some.inj c2)
        subst eD
        subst c1
        refine ⟨x, a, D, dd, rfl, by simp only [if_pos z], hm, h1, h2, h3, g1, g2, g3, g4, g5, ?_⟩
        rcases c3 with ⟨_, rfl⟩ | ⟨p, fs, rfl, q, _⟩
        · exact .inl rfl
        · exact .inr ⟨p, fs, rfl, (hid_some q).2⟩
      · simp only [if_neg z] at nb
        exact absurd rfl nb
    | _ => exact absurd rfl nb
section
variable {X : Cx} {W : WX} {nms : List Str} {i : Nat} {e T : Str} {p p1 p2 pos : Pos}
theorem re_isE (F : ErrK X.K X.mg nms) (hT : T ∈ nms) (gT : Gl X T) (gI : Gl X "isinstance") (mI : X.mg "isinstance" = none) (he : PE X (.Name e p1) (tVar i)) (hdT : (T == ("__debug__" : Str)) = false := by decide)
    (hs : starEach [.Name e p1, .Name T p2] X.env = (false, eval (.Name e p1) X.env) :: starEach [.Name T p2] X.env := by rfl) (hs2 : starEach [.Name T p2] X.env = (false, eval (.Name T p2) X.env) :: starEach [] X.env := by rfl) (hpl : (backTo pos (starEach [.Name T p2] X.env)).any (·.1) = false := by rfl) :
    RE X W true (.Call (.Name "isinstance" p) [.Name e p1, .Name T p2] [] pos) (mX nms i fun x => .ok (.bl (x.c == T))) := by
  obtain ⟨A, hA, _⟩ := F.one T hT
  refine ⟨_, pe_callB call_isX gI mI PyProof.Rows.Boot.isinstance (pa_cons he (pa_cons (pe_glob (v := .ref A) gT hA rfl hdT) pa_nil hs2) hs) (by decide) (by decide) hs hpl, fun B G ρ σ H Q I nb k ke => ?_⟩
  obtain ⟨x, a, D, dd, h1, h2, h3, h4, h5, h6, h7, h8, h9, h10, h11, h12⟩ := I.at_exc nb F
  exact ⟨_, h4, a, D, dd, .ref A, .ref A, _, rfl, h5, h8, h12, (fun u r => r), h10 T hT A hA, k _ h2 _ H (Ex.refl H) (.bl _)⟩
theorem re_isV (F : ErrK X.K X.mg nms) (gT : Gl X "ValueError") (mT : X.mg "ValueError" = none) (gI : Gl X "isinstance") (mI : X.mg "isinstance" = none) (he : PE X (.Name e p1) (tVar i))
    (hs : starEach [.Name e p1, .Name "ValueError" p2] X.env = (false, eval (.Name e p1) X.env) :: starEach [.Name "ValueError" p2] X.env := by rfl) (hs2 : starEach [.Name "ValueError" p2] X.env = (false, eval (.Name "ValueError" p2) X.env) :: starEach [] X.env := by rfl) (hpl : (backTo pos (starEach [.Name "ValueError" p2] X.env)).any (·.1) = false := by rfl) :
    RE X W true (.Call (.Name "isinstance" p) [.Name e p1, .Name "ValueError" p2] [] pos) (mX nms i fun x => .ok (.bl true)) := by
  refine ⟨_, pe_callB call_isX gI mI PyProof.Rows.Boot.isinstance (pa_cons he (pa_cons (pe_bltn (v := .ty "ValueError") gT mT PyProof.Rows.Boot.ValueError rfl) pa_nil hs2) hs) (by decide) (by decide) hs hpl, fun B G ρ σ H Q I nb k ke => ?_⟩
  obtain ⟨x, a, D, dd, h1, h2, h3, h4, h5, h6, h7, h8, h9, h10, h11, h12⟩ := I.at_exc nb F
  exact ⟨_, h4, a, D, dd, .ty "ValueError", .type "ValueError", _, rfl, h5, h8, h12, (fun u r => r), h11, k _ h2 _ H (Ex.refl H) (.bl _)⟩
/-- classes' names in a display -/
inductive TyNs (X : Cx) (nms : List Str) : List Expr → List Str → Prop
  | nil : TyNs X nms [] []
  | cons {T : Str} {p : Pos} {es : List Expr} {Ts : List Str} : T ∈ nms → Gl X T → (T == ("__debug__" : Str)) = false → starEach (.Name T p :: es) X.env = (false, eval (.Name T p) X.env) :: starEach es X.env → TyNs X nms es Ts → TyNs X nms (.Name T p :: es) (T :: Ts)
def tRefs : List Addr → TA
  | [] => tNil
  | a :: as => tCons (tC (.ref a)) (tRefs as)
theorem tRefs_run {as : List Addr} : ∀ {σ : L2.St} {H : Hp} {Q : List V → Hp → Prop}, Q (as.map V.ref) H → tRefs as σ H Q := by
  induction as with
  | nil => intro σ H Q h; exact h
  | cons a as ih => intro σ H Q h; exact ih h
theorem tyNs_pa (F : ErrK X.K X.mg nms) {es : List Expr} {Ts : List Str} (h : TyNs X nms es Ts) : ∃ As : List Addr, PA X es (tRefs As) ∧ es.length = As.length ∧ ∀ (c : Str) (D : Addr), (∀ T ∈ nms, ∀ A, X.mg T = some (.ref A) → PySem.W.kitOne X.K (.ref D) (.ref A) = some (c == T)) → PySem.W.kitAny X.K (.ref D) (As.map Value.ref) = some (Ts.contains c) := by
  induction h with
  | nil => exact ⟨[], pa_nil, rfl, fun c D h => rfl⟩
  | @cons T p es Ts hT gT hd hs r ih =>
    obtain ⟨As, h1, h2, h3⟩ := ih
    obtain ⟨A, hA, _⟩ := F.one T hT
    refine ⟨A :: As, pa_cons (pe_glob (v := .ref A) gT hA rfl hd) h1 hs, by rw [List.length_cons, List.length_cons, h2], fun c D h => ?_⟩
    refine kitAny_cons (h T hT A hA) (fun z => ?_) fun z => ?_
    · rw [h3 c D h, List.contains_cons, z, Bool.false_or]
    · rw [List.contains_cons, z, Bool.true_or]
theorem paired_cls : ∀ As : List Addr, Paired ClsV (As.map V.ref) (As.map Value.ref)
  | [] => .nil
  | a :: as => .cons (.own a) (paired_cls as)
theorem re_isEs {es : List Expr} {Ts : List Str} {kt} {p2 : Pos} (F : ErrK X.K X.mg nms) (hT : TyNs X nms es Ts) (gI : Gl X "isinstance") (mI : X.mg "isinstance" = none) (he : PE X (.Name e p1) (tVar i)) (hz : es.length ≤ sizeLine := by first | exact Nat.le_of_ble_eq_true rfl | decide)
    (hs : starEach [.Name e p1, .Tuple es kt p2] X.env = (false, eval (.Name e p1) X.env) :: starEach [.Tuple es kt p2] X.env := by rfl) (hs2 : starEach [.Tuple es kt p2] X.env = (false, eval (.Tuple es kt p2) X.env) :: starEach [] X.env := by rfl) (hpl : (backTo pos (starEach [.Tuple es kt p2] X.env)).any (·.1) = false := by rfl) :
    RE X W true (.Call (.Name "isinstance" p) [.Name e p1, .Tuple es kt p2] [] pos) (mX nms i fun x => .ok (.bl (Ts.contains x.c))) := by
  obtain ⟨As, a1, a2, a3⟩ := tyNs_pa F hT
  refine ⟨_, pe_callB call_isXT gI mI PyProof.Rows.Boot.isinstance (pa_cons he (pa_cons (pe_tup a1) pa_nil hs2) hs) (by decide) (by decide) hs hpl, fun B G ρ σ H Q I nb k ke => ?_⟩
  obtain ⟨x, a, D, dd, h1, h2, h3, h4, h5, h6, h7, h8, h9, h10, h11, h12⟩ := I.at_exc nb F
  refine ⟨_, h4, tRefs_run ⟨by rw [List.length_map, ← a2]; exact hz, fun t ht => ?_⟩⟩
  have e2 : Ex H (upd H t (.tup (As.map V.ref))) := Ex.new ht
  refine ⟨a, D, dd, t, As.map V.ref, As.map Value.ref, _, rfl, h5, h8, ?_, upd_same, paired_cls As, a3 x.c D h10, k _ h2 _ _ e2 (.bl _)⟩
  rcases h12 with h | ⟨d, fs, h, z⟩
  · exact .inl h
  · exact .inr ⟨d, fs, h, e2 _ _ z⟩
/-- e.f -/
theorem repF_get {S : Sig} {H : Hp} : ∀ {fs : List (Str × V)} {ds : List (Str × D)} {f : Str} {d : D}, RepF S H fs ds → ds.lookup f = some d → ∃ v, fs.lookup f = some v ∧ Rep S H v d
  | [], [], _, _, _, h => by cases h
  | [], _ :: _, _, _, r, _ => by have := r.1; cases this
  | _ :: _, [], _, _, _, h => by cases h
  | (g, v) :: fs, (g', d') :: ds, f, d, r, h => by
    have eg : g = g' := r.2.1 0 g g' v d' rfl rfl
    subst eg
    by_cases e : f = g
    · subst e
      simp [List.lookup] at h
      subst h
      exact ⟨v, by simp [List.lookup], r.2.2 0 _ _ v d' rfl rfl⟩
    · have e2 : (f == g) = false := by simpa using e
      simp [List.lookup, e2] at h
      obtain ⟨u, h1, h2⟩ := repF_get (fs := fs) (ds := ds) (f := f) ⟨by have := r.1; simpa using this, fun i a b x y p q => r.2.1 (i + 1) a b x y p q, fun i a b x y p q => r.2.2 (i + 1) a b x y p q⟩ h
      exact ⟨u, by simp [List.lookup, e2]; exact h1, h2⟩
def tXf2 (K : PySem.W.Frag) (pn : List (Addr × Obj)) (n : Str) (te : TE) : TE := fun σ H Q => te σ H fun x H1 => ∃ (a C dd : Addr) (fs : List (Str × V)) (v : V), x = .ref a ∧ pinP pn a (.ref C) (some dd) ∧ XfC K C ∧ PySem.W.findIn K (.ref C) n = some none ∧ H1 dd = some (.xd fs) ∧ fs.lookup n = some v ∧ Q v H1
theorem pe_xf2 {e : Expr} {te : TE} {n : Str} (he : PE X e te) (hb : attributeBase e n X.env (eval e X.env) = eval e X.env) : PE X (.Attribute e n pos) (tXf2 X.K (X.pn.take 1) n te) := by
  refine ⟨fun pins s σ H Q I h => ?_⟩
  refine attr_of hb (thn (he.run pins s σ H _ I h) fun u s1 ⟨x, H1, I1, rx, a, C, dd, fs, v, ex, hp, T, hno, ea, l, q⟩ => ?_)
  subst ex
  obtain rfl : u = Value.ref a := rx
  obtain ⟨oe, hm, hc, hdi, vs, hv⟩ := hp
  obtain ⟨hget, _⟩ := I1.pin (a, oe) (List.mem_append.mpr (.inl (List.mem_of_mem_take hm)))
  obtain ⟨mA, hns, hr⟩ := (show ObjOk X.prog X.w H1 s1.heap dd (.xd fs) from I1.hok dd _ ea)
  obtain ⟨od, ho, hl⟩ := lookIn_ns hns
  obtain ⟨u, hu, ru⟩ := RelO.some_of (v := v) (o := mA n) (by rw [← l]; exact hr n)
  have J : PySem.W.InstAt s1.heap a oe C (some od) := ⟨hget, hc, by unfold PySem.W.notCls; rw [hv] <;> rfl, by rw [hdi]; exact ho⟩
  exact HandSPX.exc_get I1.kIn J T.ga T.gg T.exC (PySem.W.findObj_own T.hdC hno rfl (by rw [hl, hu])) (handed_of ru) ⟨v, H1, I1.tok _, ru, q⟩
theorem re_fld {n : Str} (F : ErrK X.K X.mg nms) (hno : ∀ c ∈ nms, ∀ D, X.mg c = some (.ref D) → PySem.W.findIn X.K (.ref D) n = some none) (he : PE X (.Name e p1) (tVar i)) (hb : attributeBase (.Name e p1) n X.env (eval (.Name e p1) X.env) = eval (.Name e p1) X.env := by rfl) :
    RE X W true (.Attribute (.Name e p1) n pos) (mX nms i fun x => R.of (x.fs.lookup n)) := by
  refine ⟨_, pe_xf2 he hb, fun B G ρ σ H Q I nb k ke => ?_⟩
  obtain ⟨x, a, D, dd, h1, h2, h3, h4, h5, h6, h7, h8, h9, h10, h11, h12⟩ := I.at_exc nb F
  obtain ⟨C, c1, c2, c3⟩ := h6
  cases hl : x.fs.lookup n with
  | none => rw [h2, hl] at nb; exact absurd rfl nb
  | some d =>
    rcases c3 with ⟨z, _⟩ | ⟨q, fs, rfl, hq, rf⟩
    · rw [z] at hl; cases hl
    · obtain ⟨v, hv, rv⟩ := repF_get rf hl
      exact ⟨_, h4, a, D, q, fs, v, rfl, h5, h9, hno x.c h3 D h7, (hid_some hq).2, hv, k d (by rw [h2, hl]; rfl) v H (Ex.refl H) rv⟩
end
end Fx

-- Fx7
set_option Elab.async false
set_option linter.all false
set_option maxRecDepth 100000
set_option maxHeartbeats 2000000
/-! Fx7: try, except suites; defs called there. -/
namespace Fx
open PySem PySem.Spec PyProof.Rows L2

/-! ### statements, canonical readings -/
def canS (S : Sig) (W : WX) (fr : Bool) (m : MS) : TS := fun E σ H => ∃ B G ρ, (∀ P, Sts S P B G ρ σ H) ∧ (∀ P, PostS S P W fr B G H E (m ρ))
theorem RSs.can {X : Cx} {W : WX} {fr : Bool} {st : List Stmt} {m : MS} (h : RSs X W fr st m) : PSs X st (canS (sg X) W fr m) := by
  obtain ⟨t, a, b⟩ := h.ex
  exact ⟨fun pins s σ H E I ⟨B, G, ρ, J, k⟩ => a.run pins s σ H E I (b B G ρ σ H E (J _) (k _))⟩
/-- .. within a suite: at a the caught exception -/
def canX (S : Sig) (fr : Bool) (m : MS) (a : Addr) (cls : Value) (d : Option Addr) : TS := fun E σ H => ∃ B G ρ, (∀ P : PX, P a cls d → Sts S P B G ρ σ H) ∧ (∀ P, PostS S P noX fr B G H E (m ρ))
theorem RSs.canX {X : Cx} {fr : Bool} {st : List Stmt} {m : MS} {a : Addr} {cls : Value} {d : Option Addr} (h : RSs X noX fr st m) (hp : pp X a cls d) : PSs X st (Fx.canX (sg X) fr m a cls d) := by
  obtain ⟨t, x, b⟩ := h.ex
  exact ⟨fun pins s σ H E I ⟨B, G, ρ, J, k⟩ => x.run pins s σ H E I (b B G ρ σ H E (J _ hp) (k _))⟩
theorem Sts.setExc {S : Sig} {P : PX} {B : Bs} {G : Addr → Bool} {ρ : Env} {σ : L2.St} {H : Hp} {i : Nat} {x : Exn} {a : Addr} {cls : Value} {dd : Option Addr} (I : Sts S P B G ρ σ H) (hp : P a cls dd) (r : RepX S (hid H G) cls dd x) : Sts S P B G (ρ.set i (.exc x)) (σ.set i (some (.ref a))) H := by
  have I0 : Sts S P B G (ρ.set i .no) (σ.set i (some (.ref a))) H := I.setNo
  have back : ∀ {j : Nat} {s : Sl}, (ρ.set i (.exc x))[j]? = some s → (∀ y, s ≠ .exc y) → (ρ.set i .no)[j]? = some s := fun {j s} h n => by
    by_cases q : j = i
    · subst q
      have hl : j < ρ.length := by
        have := (List.getElem?_eq_some_iff.mp h).1
        rwa [List.length_set] at this
      rw [List.getElem?_set_self hl] at h
      exact absurd (Option.some.inj h).symm (n x)
    · rw [List.getElem?_set_ne (Ne.symm q)] at h ⊢
      exact h
  refine ⟨I0.ex, I0.bg, I0.gb, I0.gm, by rw [List.length_set, List.length_set, I.len], fun j d h => I0.val j d (back h (fun y z => by cases z)), fun j s h o => I0.own j s (back h (ne_exc_own o)) o, fun j k s t p h1 h2 o1 o2 => I0.sep j k s t p (back h1 (ne_exc_own o1)) (back h2 (ne_exc_own o2)) o1 o2, fun j y h => ?_⟩
  by_cases q : j = i
  · subst q
    have hl : j < ρ.length := by
      have := (List.getElem?_eq_some_iff.mp h).1
      rwa [List.length_set] at this
    rw [List.getElem?_set_self hl] at h
    cases h
    exact ⟨a, cls, dd, by rw [List.getElem?_set_self (I.len ▸ hl)], hp, r⟩
  · rw [List.getElem?_set_ne (Ne.symm q)] at h
    obtain ⟨a', c', d', h1, h2, h3⟩ := I.exc j y h
    exact ⟨a', c', d', by rw [List.getElem?_set_ne (Ne.symm q)]; exact h1, h2, h3⟩

/-! ### try -/
def mTry (nms : List Str) (i : Nat) (mb ms : MS) : MS := fun ρ => match mb (noExc ρ) with
  | .nx ρ' => .nx (noExc ρ')
  | .rt d => .rt d
  | .bk ρ' => .bk (noExc ρ')
  | .ct ρ' => .ct (noExc ρ')
  | .err x ρ' => if nms.contains x.c then (match ms ((noExc ρ').set i (.exc x)) with
      | .nx ρ' => .nx (noExc (ρ'.set i .no))
      | .rt d => .rt d
      | .bk ρ' => .bk (noExc (ρ'.set i .no))
      | .ct ρ' => .ct (noExc (ρ'.set i .no))
      | _ => .bad) else .bad
  | .bad => .bad
section
variable {X : Cx} {W : WX} {fr : Bool} {nms : List Str} {i : Nat} {x n : Str} {body suite : List Stmt} {b₀ : Stmt} {np pos pos' : Pos} {mb ms : MS} {c : Value}
/-- try: body / except x as n: suite -/
theorem rs_try (hs : X.stack = X.env :: X.outer) (hf : X.env.frame = some X.env.locals) (hN : X.N.Nodup) (hi : X.N[i]? = some n) (hln : X.env.kindOf n = some .local) (hc : Names X x c) (tk : L2N.Takes X W)
    (hex : ∀ cn ∈ nms, ∀ D, X.mg cn = some (.ref D) → PySem.W.exmOne X.K (.ref D) c = some true)
    (hb : ∀ (W : WX) (pn : List (Addr × Obj)) (xe : Value → Shared → Prop), L2N.Takes (X.tr pn xe) W → PassesOwn (model X.prog X.w) X.A X.env xe → RSs (X.tr pn xe) W fr body mb)
    (hsu : ∀ (a : Addr) (oe : Obj) (cls : Value) (d : Option Addr) (pn : List (Addr × Obj)), L2N.Zn cls d oe → (∃ vs, oe.data = .fields vs) → RSs (X.suite a ((a, oe) :: pn)) noX fr (b₀ :: suite) ms) :
    RS X W fr (.Try body [.ExceptHandler (some (.Name x np)) (some n) (b₀ :: suite) pos'] [] [] pos) (mTry nms i mb ms) := by
  refine ⟨_, L2N.ps_try_as (tb := fun W => canS (sg X) W fr mb) (ts := canX (sg X) fr ms) hs hf hN hi hln hc tk (fun W pn xe t p => (hb W pn xe t p).can) (fun a oe cls d pn hz hv => (hsu a oe cls d pn hz hv).canX ⟨oe, by simp, hz.1, hz.2.1, hv⟩), fun B G ρ σ H E I h => ?_⟩
  unfold mTry at h
  refine ⟨B, G, noExc ρ, fun P => I.noX, fun P => ?_⟩
  cases q : mb (noExc ρ) with
  | nx ρ' => rw [q] at h; exact fun G' σ' H' I' f => h G' σ' H' I'.noX f
  | rt d => rw [q] at h; exact h
  | bk ρ' => rw [q] at h; exact fun G' σ' H' I' f => h G' σ' H' I'.noX f
  | ct ρ' => rw [q] at h; exact fun G' σ' H' I' f => h G' σ' H' I'.noX f
  | bad => rw [q] at h; exact h
  | err y ρ' =>
    rw [q] at h
    dsimp only at h
    by_cases z : nms.contains y.c = true
    · rw [if_pos z] at h
      intro cls dd G' σ' H' I' f rx
      obtain ⟨C, c1, c2, c3⟩ := id rx
      subst c1
      refine ⟨true, hex y.c (by simpa using z) C c2, fun _ a na => ?_, fun e => by cases e⟩
      refine ⟨B, G', (noExc ρ').set i (.exc y), fun P hp => I'.noX.setExc hp rx, fun P => ?_⟩
      cases q2 : ms ((noExc ρ').set i (.exc y)) with
      | nx ρ2 => rw [q2] at h; exact fun G2 σ2 H2 I2 f2 => h G2 _ H2 (I2.setNo.noX) (f.trans f2)
      | rt d => rw [q2] at h; exact h
      | bk ρ2 => rw [q2] at h; exact fun G2 σ2 H2 I2 f2 => h G2 _ H2 (I2.setNo.noX) (f.trans f2)
      | ct ρ2 => rw [q2] at h; exact fun G2 σ2 H2 I2 f2 => h G2 _ H2 (I2.setNo.noX) (f.trans f2)
      | err y ρ2 => rw [q2] at h; exact h.elim
      | bad => rw [q2] at h; exact h
    · rw [if_neg z] at h
      exact h.elim
end

/-! ### defs that are called within a suite -/
structure FnP (P : Program) (w : World) (K : PySem.W.Frag) (mg : Str → Option Value) (base : Heap) (CX : CXT) (k : Nat) (f : Addr) (fd : FuncData) (ps : List Str) (sp : Addr × Obj → Sp) : Prop where
  len : ∀ p vs H Q E, sp p vs H Q E → vs.length = ps.length
  run : ∀ (A : Around) (outer : List PySem.Env) (s : Shared) (H : Hp) (args : Args) (us : List Value) (vs : List V) (Q : VK) (E : XK) (p : Addr × Obj), L2H.RoomH k A → L2H.Hot1 A p → L2H.PinOk outer H s p → Env0 P w K mg base A outer s H → BindsTo s fd args (ps.zip us) → Vals vs us → sp p vs H Q E →
    codeAny (model P w) A (.call (.ref f) args) (CR CX outer P w H s Q E) s
theorem fn_ofP {CX : CXT} {P : Program} {w : World} {K : PySem.W.Frag} {mg : Str → Option Value} {base : Heap} {k : Nat} {f : Addr} {name qual : Str} {params : Arguments} {body : List Stmt} {scope : Scope} {dV kV doc pm cdv ct oc : Value} {an od : Option Addr}
    {osl : Array (Option Value)} {N ps : List Str} {sp : Addr × Obj → Sp} (lk : K.lookup f = some ⟨oc, od, .func (PySem.W.fnOf name qual params body scope dV kV doc pm an cdv ct), osl⟩) (hcd : PySem.W.codeIn K cdv qual = true) (S : FnScope N ps scope)
    (len : ∀ p vs H Q E, sp p vs H Q E → vs.length = ps.length)
    (hbody : ∀ (A : Around) (outer : List PySem.Env) (s : Shared) (H : Hp) (vs : List V) (Q : VK) (E : XK) (p : Addr × Obj), L2H.Hot1 A p → L2H.RoomH k (A.deeper (envOfC qual scope s.heap.objs.size f cdv)) → sp p vs H Q E →
      ∃ t, PSs (L2H.cxH CX P w K mg base N qual scope f cdv A outer s H E p) body t ∧ t { nx := fun _ H' => Q .non H', rt := Q } (L2.start N vs) H) :
    FnP P w K mg base CX (k + 1) f (PySem.W.fnOf name qual params body scope dV kV doc pm an cdv ct) ps sp := by
  refine ⟨len, fun A outer s H args us vs Q E p hr hot hpin e0 hb r hsp => ?_⟩
  have KX : K.In s.heap := e0.mod.kin.keeps fun b o e => (e0.bs b o e).1
  have lim : s.heap.NoLimit := e0.mod.nolimit.keeps fun b o e => (e0.bs b o e).1
  refine codeAny_call_function hr.depth (KX _ _ lk) rfl S.co S.gen rfl (PySem.W.codeRec_of KX hcd) (hb _ _ _ _ ?_)
  refine wpAny_newFunctionEnv_cells S.kind (fun ⟨n, v⟩ hy => (S.par n (List.of_mem_zip hy).1).imp id fun q => ⟨q, PySem.W.cellsFrom_some _ _ _ (.inl q)⟩) fun env he s1 x => ?_
  subst he
  obtain ⟨t, ht, hq⟩ := hbody A outer s H vs Q E p hot (hr.deeper _) hsp
  refine ⟨lim.keeps x.toInCall.keep, codeAny_func (wpAny_mono (ht.run [] s1 (L2.start N vs) H _ (L2H.inv_startH S hpin e0 (len _ _ _ _ _ hsp) r x) hq) (fun fl s' hs => ?_) fun e s' hs => hs)⟩
  cases fl with
  | ret u =>
    obtain ⟨v, σ', H', J, rv, q⟩ := hs
    exact ⟨v, H', J.os, J.bare, J.base, J.hok, rv, q⟩
  | next =>
    obtain ⟨σ', H', J, q⟩ := hs
    exact ⟨V.non, H', J.os, J.bare, J.base, J.hok, rfl, q⟩
  | brk =>
    obtain ⟨_, _, _, q⟩ := hs
    exact False.elim q
  | cont =>
    obtain ⟨_, _, _, q⟩ := hs
    exact False.elim q
section
variable {X : Cx} {CX : CXT} {k : Nat} {f : Addr} {fd : FuncData} {ps : List Str} {sp : Addr × Obj → Sp} {E : L2.St → XK} {x : Str} {q pos : Pos} {e : Expr} {es : List Expr} {ta : TA} {pr : Addr × Obj}
theorem pe_callP (F : FnP X.prog X.w X.K X.mg X.base CX k f fd ps sp) (hr : L2H.RoomH k X.A) (hot : L2H.Hot1 X.A pr) (hp : pr ∈ X.pn) (hg : Gl X x) (hm : X.mg x = some (.ref f)) (hk : PySem.W.keepIn X.K (.ref f) = true) (hb : Binds X.K fd ps []) (hx : ∀ σ, PassesAt CX X σ (E σ))
    (ha : PA X (e :: es) ta) (hdb : (x == ("__debug__" : Str)) = false := by decide) (he : starEach (e :: es) X.env = (false, eval e X.env) :: starEach es X.env := by rfl) (hpl : (backTo pos (starEach es X.env)).any (·.1) = false := by rfl) :
    PE X (.Call (.Name x q) (e :: es) [] pos) (tCallS (sp pr) E ta) := by
  refine ⟨fun pins s σ H Q I h => ?_⟩
  refine wpAny_Call_Name_kw (ld_glob I hg hm ?_ hdb)
  refine PySem.W.callWith_K (h₀ := X.base) I.ok.mod.kin hk (thn (ha.run pos pins s σ H _ I h) fun us s1 ⟨vs, H1, I1, r, q⟩ => ⟨I1.kIn, ?_⟩) he hpl
  have b := hb s1 us I1.kIn (by rw [List.append_nil, ← r.length]; exact F.len _ _ _ _ _ q)
  rw [List.append_nil] at b
  have P1 := I1.pin pr (List.mem_append_left _ hp)
  refine wpAny_call (codeAny_mono (F.run X.A X.stack s1 H1 ⟨us, []⟩ us vs Q (E σ) pr hr hot ⟨P1.1, P1.2.1, fun hm => (List.mem_cons.mp (I1.stkSub pr.1 hm)).elim P1.2.2.1 P1.2.2.2.1, P1.2.2.2.2⟩ I1.env0 b r q) fun r s' hq => ?_)
  cases r with
  | error e => exact hx σ pins H1 s1 e s' I1 hq
  | ok fl =>
    cases fl with
    | ret u => exact I1.after hq
    | next => exact False.elim hq
    | brk => exact False.elim hq
    | cont => exact False.elim hq
end
/-- the promise of a def that takes the caught exception -/
def spX (S : Sig) (mf : Exn → R D) (p : Addr × Obj) : Sp := fun vs H Q E => vs = [.ref p.1] ∧ ∃ (G : Addr → Bool) (x : Exn), (∀ a, G a = true → MutO (H a)) ∧ RepX S (hid H G) p.2.cls p.2.dict x ∧ (∃ vs, p.2.data = .fields vs) ∧ ∃ d, mf x = .ok d ∧ ∀ v H', Ex H H' → Rep S (hid H' G) v d → Q v H'
/-- the slots at its entry -/
def entX (N : Nat) (x : Exn) : Env := .exc x :: List.replicate (N - 1) .no
def mfnX (N : Nat) (m : MS) : Exn → R D := fun x => (m (entX N x)).res false
section
variable {P : Program} {w : World} {K : PySem.W.Frag} {mg : Str → Option Value} {base : Heap} {x qual : Str} {params : Arguments} {body : List Stmt} {scope : Scope} {dvs : List V} {kws : List (Str × V)} {f : Addr} {fd : FuncData}
theorem fx_fnX {N : List Str} {a : Str} {k : Nat} {m : MS} (F : FunD K x qual params body scope dvs kws f fd) (S : FnScope N [a] scope)
    (h : ∀ (cdv : Value) (A : Around) (outer : List PySem.Env) (s : Shared) (H : Hp) (E : XK) (p : Addr × Obj), L2H.Hot1 A p → L2H.RoomH k (A.deeper (envOfC qual scope s.heap.objs.size f cdv)) →
      RSs (L2H.cxH (L2N.CX P w) P w K mg base N qual scope f cdv A outer s H E p) noX false body m) :
    FnP P w K mg base (L2N.CX P w) (k + 1) f fd [a] (spX ⟨K, mg⟩ (mfnX N.length m)) := by
  obtain ⟨oc, od, dV, kV, doc, pm, an, cdv, ct, osl, rfl, lk, hcd, _, _⟩ := F.ex
  refine fn_ofP lk hcd S (fun p vs H Q E q => by rw [q.1]; rfl) fun A outer s H vs Q E p hot hr hsp => ?_
  obtain ⟨t, h1, h2⟩ := (h cdv A outer s H E p hot hr).ex
  refine ⟨t, h1, ?_⟩
  obtain ⟨hl, G, y, gm, r, hv, d, e1, k1⟩ := hsp
  subst hl
  have I : Sts ⟨K, mg⟩ (pinP [p]) ⟨H, G⟩ G (entX N.length y) (L2.start N [.ref p.1]) H := by
    have I0 : Sts ⟨K, mg⟩ (pinP [p]) ⟨H, G⟩ G ((ent N.length [.non]).set 0 .no) ((L2.start N [.ref p.1]).set 0 (some (.ref p.1))) H := by
      have z := sts_start (S := ⟨K, mg⟩) (P := pinP [p]) (N := N) (H := H) (G := G) (vs := [V.non]) (ds := [D.non]) gm (.cons .non .nil)
      exact z.setNo
    have z := I0.setExc (i := 0) (x := y) (a := p.1) (cls := p.2.cls) (dd := p.2.dict) ⟨p.2, List.mem_cons_self, rfl, rfl, hv⟩ r
    exact z
  unfold mfnX at e1
  refine h2 ⟨H, G⟩ G (entX N.length y) (L2.start N [.ref p.1]) H _ I ?_
  cases q : m (entX N.length y) with
  | nx ρ' =>
    rw [q] at e1
    cases e1
    exact fun G' σ' H' J f => k1 .non H' J.ex .non
  | rt d' => rw [q] at e1; cases e1; exact fun v H' e r => k1 v H' e r
  | _ => rw [q] at e1; cases e1
end
/-- a def that takes the caught exception, by its name -/
structure ClX (P : Program) (w : World) (K : PySem.W.Frag) (mg : Str → Option Value) (base : Heap) (k : Nat) (x : Str) (mf : Exn → R D) : Prop where
  ex : ∃ (f : Addr) (fd : FuncData) (a : Str), FnP P w K mg base (L2N.CX P w) k f fd [a] (spX ⟨K, mg⟩ mf) ∧ mg x = some (.ref f) ∧ PySem.W.keepIn K (.ref f) = true ∧ Binds K fd [a] []
def mDefX (i : Nat) (mf : Exn → R D) : ME := fun ρ => match ρ[i]? with
  | some (.exc x) => (match mf x with
    | .ok d => .ok d
    | _ => .bad)
  | _ => .bad
section
variable {X : Cx} {k j i : Nat} {x e : Str} {mf : Exn → R D} {p p1 pos : Pos} {pr : Addr × Obj}
/-- f(e), within the suite: pr the exception's place -/
theorem re_defX {rest : List (Addr × Obj)} (c : ClX X.prog X.w X.K X.mg X.base k x mf) (hr : L2H.RoomH j X.A) (hk : k ≤ j) (hot : L2H.Hot1 X.A pr) (hp : X.pn = pr :: rest) (hg : Gl X x) (tk : L2N.Takes X noX) (he : PE X (.Name e p1) (tVar i))
    (hdb : (x == ("__debug__" : Str)) = false := by decide) (hs : starEach [.Name e p1] X.env = (false, eval (.Name e p1) X.env) :: starEach [] X.env := by rfl) (hpl : (backTo pos (starEach [] X.env)).any (·.1) = false := by rfl) :
    RE X noX true (.Call (.Name x p) [.Name e p1] [] pos) (mDefX i mf) := by
  obtain ⟨f, fd, a, F, hm, hkp, hb⟩ := c.ex
  refine ⟨_, pe_callP (E := WE noX) F (hr.mono hk) hot (by rw [hp]; exact List.mem_cons_self) hg hm hkp hb (L2N.passAt tk) (pa_cons he pa_nil hs) hdb hs hpl, fun B G ρ σ H Q I nb k ke => ?_⟩
  unfold mDefX at nb k ke
  cases q : ρ[i]? with
  | none => rw [q] at nb; exact absurd rfl nb
  | some s =>
    rw [q] at nb k
    cases s with
    | exc y =>
      dsimp only at nb k
      obtain ⟨a, cls, dd, h1, h2, h3⟩ := I.exc i y q
      obtain ⟨oe, hmem, hc, hd, hv⟩ := h2
      rw [hp] at hmem
      have e : (a, oe) = pr := by simpa using hmem
      subst e
      cases z : mf y with
      | ok d =>
        rw [z] at k
        exact ⟨_, h1, rfl, G, y, I.gm, by rw [hc, hd]; exact h3, hv, d, z, fun v H' x r => k d rfl v H' x r⟩
      | err _ => rw [z] at nb; exact absurd rfl nb
      | bad => rw [z] at nb; exact absurd rfl nb
    | _ => exact absurd rfl nb
theorem hot_suite {A : Around} {a : Addr} {oe : Obj} {cls : Value} {d : Option Addr} (hz : L2N.Zn cls d oe) (hv : ∃ vs, oe.data = .fields vs) : L2H.Hot1 (A.mark (some (.ref a))) (a, oe) := by
  obtain ⟨vs, hv⟩ := hv
  exact ⟨rfl, vs, hv, hz.2.2 vs hv⟩
theorem room_suite {A : Around} {k : Nat} {v : Option Value} (hr : Room k A) : L2H.RoomH k (A.mark v) := ⟨hr.dp, hr.un⟩
theorem takes_suite {X : Cx} {a : Addr} {pn : List (Addr × Obj)} : L2N.Takes (X.suite a pn) noX := fun u s' ⟨a, B, sI, pins, σ, H, cls, d, e, I, nb, up, sky, na, os, ag, w⟩ => w.elim
end
end Fx

-- Fx8
set_option Elab.async false
set_option linter.all false
set_option maxRecDepth 100000
set_option maxHeartbeats 2000000
/-! Fx8: isinstance of data, own dicts, list.count, calls by keywords. -/
namespace Fx
open PySem PySem.Spec PyProof.Rows L2

/-! ### isinstance -/
def tyD : D → Option String
  | .non => some "NoneType" | .bl _ => some "bool" | .int _ => some "int" | .str _ => some "str" | .tup _ => some "tuple" | .lst _ => some "list" | .dic _ _ => some "dict" | .ins _ _ => none
def isiB (a b : String) : Bool := a == b || (a == "bool" && b == "int")
theorem kit_tab : ∀ a ∈ ["NoneType", "bool", "int", "str", "tuple", "list", "dict"], ∀ b ∈ ["int", "bool", "tuple", "list", "str", "dict"], kitB a b = some (isiB a b) := by decide +kernel
theorem tyX_of {S : Sig} {H : Hp} {v : V} {d : D} {t : String} (r : Rep S H v d) (h : tyD d = some t) : TyX S.K H v (.type t) ∧ t ∈ ["NoneType", "bool", "int", "str", "tuple", "list", "dict"] := by
  cases r with
  | non => cases h; exact ⟨.base .non, by decide⟩
  | bl b => cases h; exact ⟨.base (.bl b), by decide⟩
  | int b => cases h; exact ⟨.base (.int b), by decide⟩
  | str b => cases h; exact ⟨.base (.str b), by decide⟩
  | tup e _ _ => cases h; exact ⟨.base (.tup e), by decide⟩
  | lst e _ _ =>
    cases h
    rcases e with e | ⟨o, e⟩
    · exact ⟨.base (.lst e), by decide⟩
    · exact ⟨.base (.frz e), by decide⟩
  | dK e _ _ _ => cases h; exact ⟨.base (.dK e), by decide⟩
  | dT e _ _ _ => cases h; exact ⟨.base (.dT e), by decide⟩
  | ins _ _ _ _ _ _ => cases h
def mIsi (T : String) (m : ME) : ME := fun ρ => (m ρ).bind fun d => match tyD d with
  | some t => .ok (.bl (isiB t T))
  | none => .bad
section
variable {X : Cx} {W : WX} {c c1 c2 : Bool} {a b : Expr} {ma mb mk me : ME} {x : Str} {T : String} {p p2 pos pos' : Pos} {fr : Bool}
theorem re_isi (gI : Gl X "isinstance") (mI : X.mg "isinstance" = none) (gT : Gl X x) (mT : X.mg x = none) (hv : bootBuiltins x = some (.type T)) (hT : T ∈ ["int", "bool", "tuple", "list", "str", "dict"]) (ha : RE X W c a ma) (hn : x ≠ "__name__" := by decide) (hd : (x == ("__debug__" : Str)) = false := by decide)
    (hs : starEach [a, .Name x p2] X.env = (false, eval a X.env) :: starEach [.Name x p2] X.env := by rfl) (hs2 : starEach [.Name x p2] X.env = (false, eval (.Name x p2) X.env) :: starEach [] X.env := by rfl) (hpl : (backTo pos (starEach [.Name x p2] X.env)).any (·.1) = false := by rfl) :
    RE X W true (.Call (.Name "isinstance" p) [a, .Name x p2] [] pos) (mIsi T ma) := by
  obtain ⟨ta, a1, a2⟩ := ha.ex
  refine ⟨_, pe_callB call_isi gI mI PyProof.Rows.Boot.isinstance (pa_cons a1 (pa_cons (pe_bltn (v := .ty T) gT mT hv rfl hn hd) pa_nil hs2) hs) (by decide) (by decide) hs hpl, fun B G ρ σ H Q I nb k ke => ?_⟩
  unfold mIsi at nb k ke
  refine a2 B G ρ σ H _ I (R.bad_bind nb) (fun d e v H' x1 r => ?_) (fun x e => ke x (by rw [e]; rfl))
  rw [e, R.bind_ok] at nb k
  cases q : tyD d with
  | none => rw [q] at nb; exact absurd rfl nb
  | some t =>
    rw [q] at k
    obtain ⟨h1, h2⟩ := tyX_of r.full q
    exact ⟨v, .ty T, .type t, .type T, isiB t T, rfl, .ty T, h1, kit_ty (kit_tab t h2 T hT), k _ rfl _ H' x1 (.bl _)⟩

/-! ### dicts -/
def keyOf : D → Option Key
  | .int i => some (.inl i)
  | .str s => some (.inr s)
  | _ => none
def keysOf : List D → Option (List Key)
  | [] => some []
  | d :: ds => match keyOf d, keysOf ds with
    | some k, some ks => some (k :: ks)
    | _, _ => none
def kOf : D → Option (Key ⊕ List Key)
  | .tup ds => (keysOf ds).map .inr
  | d => (keyOf d).map .inl
def keq (a b : D) : Bool := match kOf a, kOf b with
  | some x, some y => decide (x = y)
  | _, _ => false
theorem keyOf_D (k : Key) : keyOf (keyD k) = some k := by cases k <;> rfl
theorem kOf_K (k : Key) : kOf (keyD k) = some (.inl k) := by cases k <;> rfl
theorem keysOf_D : ∀ ks : List Key, keysOf (ks.map keyD) = some ks
  | [] => rfl
  | k :: ks => by rw [List.map_cons]; unfold keysOf; rw [keyOf_D, keysOf_D ks]
theorem kOf_T (ks : List Key) : kOf (.tup (ks.map keyD)) = some (.inr ks) := by
  show (keysOf (ks.map keyD)).map Sum.inr = _
  rw [keysOf_D]
  rfl
theorem keyOf_is {d : D} {k : Key} (h : keyOf d = some k) : d = keyD k := by
  cases d <;> cases h <;> rfl
theorem keysOf_is : ∀ {ds : List D} {ks : List Key}, keysOf ds = some ks → ds = ks.map keyD
  | [], ks, h => by cases h; rfl
  | d :: ds, ks, h => by
    unfold keysOf at h
    cases e : keyOf d with
    | none => rw [e] at h; cases h
    | some k =>
      cases e2 : keysOf ds with
      | none => rw [e, e2] at h; cases h
      | some ks' =>
        rw [e, e2] at h
        cases h
        rw [List.map_cons, ← keyOf_is e, ← keysOf_is e2]
theorem keq_K (a b : Key) : keq (keyD a) (keyD b) = decide (a = b) := by unfold keq; rw [kOf_K, kOf_K]; simp
theorem keq_T (a b : List Key) : keq (.tup (a.map keyD)) (.tup (b.map keyD)) = decide (a = b) := by unfold keq; rw [kOf_T, kOf_T]; simp
def valD (kvs : List (D × D)) (k : D) : Option D := (kvs.find? fun kv => keq kv.1 k).map (·.2)
def putD (kvs : List (D × D)) (k v : D) : List (D × D) := if (kvs.any fun kv => keq kv.1 k) = true then kvs.map (fun kv => if keq kv.1 k = true then (kv.1, v) else kv) else kvs ++ [(k, v)]
/-- the key's form -/
def keyOk : Bool → D → Bool
  | false, d => (keyOf d).isSome
  | true, .tup ds => (keysOf ds).isSome
  | true, _ => false
section
variable {κ : Type} [DecidableEq κ] {f : κ → D} {R' : V → D → Prop}
/-- pair by pair -/
def PairR (f : κ → D) (R' : V → D → Prop) (kvs : List (κ × V)) (ds : List (D × D)) : Prop := kvs.length = ds.length ∧ ∀ (i : Nat) (k : κ) (x : V) (d e : D), kvs[i]? = some (k, x) → ds[i]? = some (d, e) → f k = d ∧ R' x e
theorem PairR.cons_iff {k : κ} {x : V} {d e : D} {kvs : List (κ × V)} {ds : List (D × D)} : PairR f R' ((k, x) :: kvs) ((d, e) :: ds) ↔ (f k = d ∧ R' x e) ∧ PairR f R' kvs ds := by
  constructor
  · intro h
    exact ⟨h.2 0 k x d e rfl rfl, by have := h.1; simpa using this, fun i a b c d h1 h2 => h.2 (i + 1) a b c d h1 h2⟩
  · intro h
    refine ⟨by rw [List.length_cons, List.length_cons, h.2.1], fun i a b c d h1 h2 => ?_⟩
    cases i with
    | zero => cases h1; cases h2; exact h.1
    | succ i => exact h.2.2 i a b c d h1 h2
theorem PairR.any (heq : ∀ a b, keq (f a) (f b) = decide (a = b)) (k : κ) : ∀ {kvs : List (κ × V)} {ds : List (D × D)}, PairR f R' kvs ds → (kvs.any fun kv => decide (kv.1 = k)) = ds.any fun de => keq de.1 (f k)
  | [], [], _ => rfl
  | [], _ :: _, h => by have := h.1; cases this
  | _ :: _, [], h => by have := h.1; cases this
  | (a, x) :: kvs, (d, e) :: ds, h => by
    obtain ⟨⟨h1, h2⟩, h3⟩ := PairR.cons_iff.mp h
    rw [List.any_cons, List.any_cons, PairR.any heq k h3, ← h1, heq]
theorem PairR.val (heq : ∀ a b, keq (f a) (f b) = decide (a = b)) (k : κ) : ∀ {kvs : List (κ × V)} {ds : List (D × D)}, PairR f R' kvs ds → (valV kvs k).isSome = (valD ds (f k)).isSome ∧ ∀ d, valD ds (f k) = some d → ∃ v, valV kvs k = some v ∧ R' v d
  | [], [], _ => ⟨rfl, fun d h => by cases h⟩
  | [], _ :: _, h => by have := h.1; cases this
  | _ :: _, [], h => by have := h.1; cases this
  | (a, x) :: kvs, (d, e) :: ds, h => by
    obtain ⟨⟨h1, h2⟩, h3⟩ := PairR.cons_iff.mp h
    obtain ⟨i1, i2⟩ := PairR.val heq k h3
    by_cases q : a = k
    · have q2 : keq d (f k) = true := by rw [← h1, heq]; exact decide_eq_true q
      rw [valV_pos (p := (a, x)) q]
      have ev : valD ((d, e) :: ds) (f k) = some e := by unfold valD; rw [List.find?_cons, q2]; rfl
      rw [ev]
      exact ⟨rfl, fun d' h => by cases h; exact ⟨x, rfl, h2⟩⟩
    · have q2 : keq d (f k) = false := by rw [← h1, heq]; exact decide_eq_false q
      rw [valV_neg (p := (a, x)) q]
      have ev : valD ((d, e) :: ds) (f k) = valD ds (f k) := by unfold valD; rw [List.find?_cons, q2]
      rw [ev]
      exact ⟨i1, i2⟩
theorem PairR.map (heq : ∀ a b, keq (f a) (f b) = decide (a = b)) {k : κ} {v : V} {vd : D} (rv : R' v vd) : ∀ {kvs : List (κ × V)} {ds : List (D × D)}, PairR f R' kvs ds → PairR f R' (kvs.map fun kv => if kv.1 = k then (kv.1, v) else kv) (ds.map fun de => if keq de.1 (f k) = true then (de.1, vd) else de)
  | [], [], h => h
  | [], _ :: _, h => by have := h.1; cases this
  | _ :: _, [], h => by have := h.1; cases this
  | (a, x) :: kvs, (d, e) :: ds, h => by
    obtain ⟨⟨h1, h2⟩, h3⟩ := PairR.cons_iff.mp h
    rw [List.map_cons, List.map_cons]
    by_cases q : a = k
    · have q2 : keq d (f k) = true := by rw [← h1, heq]; exact decide_eq_true q
      simp only [if_pos q, if_pos q2]
      exact PairR.cons_iff.mpr ⟨⟨h1, rv⟩, PairR.map heq rv h3⟩
    · have q2 : ¬ keq d (f k) = true := by rw [← h1, heq]; simpa using q
      simp only [if_neg q, if_neg q2]
      exact PairR.cons_iff.mpr ⟨⟨h1, h2⟩, PairR.map heq rv h3⟩
theorem PairR.snoc {k : κ} {v : V} {vd : D} (rv : R' v vd) : ∀ {kvs : List (κ × V)} {ds : List (D × D)}, PairR f R' kvs ds → PairR f R' (kvs ++ [(k, v)]) (ds ++ [(f k, vd)])
  | [], [], h => PairR.cons_iff.mpr ⟨⟨rfl, rv⟩, rfl, fun i a b c d h1 => by cases h1⟩
  | [], _ :: _, h => by have := h.1; cases this
  | _ :: _, [], h => by have := h.1; cases this
  | (a, x) :: kvs, (d, e) :: ds, h => by
    obtain ⟨h1, h3⟩ := PairR.cons_iff.mp h
    exact PairR.cons_iff.mpr ⟨h1, PairR.snoc rv h3⟩
theorem PairR.put (heq : ∀ a b, keq (f a) (f b) = decide (a = b)) {k : κ} {v : V} {vd : D} (rv : R' v vd) {kvs : List (κ × V)} {ds : List (D × D)} (h : PairR f R' kvs ds) : PairR f R' (putK kvs k v) (putD ds (f k) vd) := by
  unfold putK putD
  rw [PairR.any heq k h]
  split
  · exact PairR.map heq rv h
  · exact PairR.snoc rv h
end
theorem reps_keys {S : Sig} {H : Hp} : ∀ {xs : List V} {ks : List Key}, Reps S H xs (ks.map keyD) → xs = ks.map kV
  | [], [], _ => rfl
  | [], _ :: _, h => by have := h.1; cases this
  | _ :: _, [], h => by have := h.1; cases this
  | x :: xs, k :: ks, h => by
    have e : x = kV k := by
      have r := h.head
      cases k with
      | inl i => exact r.is_int
      | inr s => exact r.is_str
    rw [List.map_cons, ← e, reps_keys h.tail]
/-- looking into a dict, by data -/
theorem dget_of {S : Sig} {H : Hp} {G : Addr → Bool} {p : Addr} {o : HO} {t : Bool} {kvs : List (D × D)} {y : V} {k : D} (hp : H p = some o) (h : DicAt S (hid H G) o t kvs) (ry : Rep S H y k) (hk : keyOk t k = true) :
    ∃ ov, DGet H p y ov ∧ ov.isSome = (valD kvs k).isSome ∧ ∀ d, valD kvs k = some d → ∃ v, ov = some v ∧ Rep S (hid H G) v d := by
  cases t with
  | false =>
    obtain ⟨us, rfl, h1, h2⟩ := h
    unfold keyOk at hk
    obtain ⟨q, e⟩ := Option.isSome_iff_exists.mp hk
    have ek := keyOf_is e
    subst ek
    have ey : y = kV q := by cases q with
      | inl i => exact ry.is_int
      | inr s => exact ry.is_str
    subst ey
    obtain ⟨a1, a2⟩ := PairR.val (f := keyD) (R' := Rep S (hid H G)) keq_K q ⟨h1, h2⟩
    exact ⟨_, .k hp, a1, a2⟩
  | true =>
    obtain ⟨us, rfl, h1, h2⟩ := h
    cases k with
    | tup ds =>
      unfold keyOk at hk
      obtain ⟨q, e⟩ := Option.isSome_iff_exists.mp hk
      have ek := keysOf_is e
      subst ek
      obtain ⟨b, xs, rfl, hb, rx⟩ := ry.is_tup
      have ex := reps_keys rx
      subst ex
      obtain ⟨a1, a2⟩ := PairR.val (f := fun k : List Key => D.tup (k.map keyD)) (R' := Rep S (hid H G)) keq_T q ⟨h1, h2⟩
      exact ⟨_, .t hp hb, a1, a2⟩
    | _ => cases hk
theorem dput_of {S : Sig} {H : Hp} {G : Addr → Bool} {p : Addr} {o : HO} {t : Bool} {kvs : List (D × D)} {y v : V} {k d : D} (hp : H p = some o) (h : DicAt S (hid H G) o t kvs) (ry : Rep S H y k) (hk : keyOk t k = true) (hz : kvs.length < sizeLine) (rv : Rep S (hid H G) v d) :
    ∃ o', DPut H p y v (upd H p o') ∧ DicAt S (hid H G) o' t (putD kvs k d) := by
  cases t with
  | false =>
    obtain ⟨us, rfl, h1, h2⟩ := h
    unfold keyOk at hk
    obtain ⟨q, e⟩ := Option.isSome_iff_exists.mp hk
    have ek := keyOf_is e
    subst ek
    have ey : y = kV q := by cases q with
      | inl i => exact ry.is_int
      | inr s => exact ry.is_str
    subst ey
    have := PairR.put (f := keyD) (R' := Rep S (hid H G)) keq_K (k := q) rv ⟨h1, h2⟩
    exact ⟨_, .k hp (by rw [h1]; exact hz), _, rfl, this.1, this.2⟩
  | true =>
    obtain ⟨us, rfl, h1, h2⟩ := h
    cases k with
    | tup ds =>
      unfold keyOk at hk
      obtain ⟨q, e⟩ := Option.isSome_iff_exists.mp hk
      have ek := keysOf_is e
      subst ek
      obtain ⟨b, xs, rfl, hb, rx⟩ := ry.is_tup
      have ex := reps_keys rx
      subst ex
      have := PairR.put (f := fun k : List Key => D.tup (k.map keyD)) (R' := Rep S (hid H G)) keq_T (k := q) rv ⟨h1, h2⟩
      exact ⟨_, .t hp hb (by rw [h1]; exact hz), _, rfl, this.1, this.2⟩
    | _ => cases hk
/-- name = {} -/
def mNewD (t : Bool) : ME := fun _ => .ok (.dic t [])
theorem rf_newT : RF X W (.Dict [] [] pos) (mNewD true) := ⟨_, pe_dnewT, fun B G ρ σ H Q I nb k ke p hp => k _ rfl p (.dic true []) _ hp (Ex.new hp) rfl ⟨_, upd_same, [], rfl, rfl, fun i k x d e h => by cases h⟩⟩
theorem rf_newK : RF X W (.Dict [] [] pos) (mNewD false) := ⟨_, pe_dnewK, fun B G ρ σ H Q I nb k ke p hp => k _ rfl p (.dic false []) _ hp (Ex.new hp) rfl ⟨_, upd_same, [], rfl, rfl, fun i k x d e h => by cases h⟩⟩
/-- d[k] = e, d an own dict -/
def mPutD (i : Nat) (mk me : ME) : MS := fun ρ => (me ρ).out ρ fun d => match ρ[i]? with
  | some (.dic t kvs) => (mk ρ).out ρ fun k => if keyOk t k && szOk kvs.length then .nx (ρ.set i (.dic t (putD kvs k d))) else .bad
  | _ => .bad
theorem rs_putD {i : Nat} {o k e : Expr} (hu : X.A.units + 1 < cLine) (ho : PE X o (tVar i)) (hk : RE X W c2 k mk) (he : RE X W true e me) (hs : swapsWith e (some (.Subscript o k pos')) pos.line X.env = pure false := by rfl) :
    RS X W fr (.Assign [.Subscript o k pos'] e pos) (mPutD i mk me) := by
  obtain ⟨t, a1, a2⟩ := he.ex
  obtain ⟨u, b1, b2⟩ := hk.ex
  refine ⟨_, ps_dput hu ho b1 a1 hs, fun B G ρ σ H E I h' => ?_⟩
  unfold mPutD at h'
  refine a2 B G ρ σ H _ I (post_nb h') (fun d e v H' x r => ?_) (post_err I h')
  have h' := PostS.move (.of_ex x) (post_ok e h')
  have I := I.grow x
  cases q : ρ[i]? with
  | none => rw [q] at h'; exact h'.elim
  | some s =>
    rw [q] at h'
    cases s with
    | dic t kvs =>
      dsimp only at h'
      obtain ⟨p, h1, h2, h3, o, h4, h5⟩ := I.own i _ q rfl
      refine ⟨_, h1, ?_⟩
      refine b2 B G ρ σ H' _ I (post_nb h') (fun kd e2 y H2 x2 r2 => ?_) (post_err I h')
      have hz := post_ok e2 h'
      split at hz
      · rename_i z
        obtain ⟨z1, z2⟩ := Bool.and_eq_true_iff.mp z
        obtain ⟨o', g1, g2⟩ := dput_of (x2 p _ h4) (h5.ex (hid_ex x2)) r2.full z1 (szOk_lt z2) (Rep.ex (hid_ex x2) r)
        exact ⟨p, _, rfl, g1, hz G σ _ ((I.grow x2).write q rfl h1 rfl fun H3 ne e3 ex => ⟨_, e3, g2.ex ex⟩) ((Fr.of_ex x2).trans (fr_write h2))⟩
      · exact hz.elim
    | _ => exact h'.elim
/-- k in d, k not in d -/
def mIn (f : Bool → Bool) (mk md : ME) : ME := fun ρ => (mk ρ).bind fun k => (md ρ).bind fun d => match d with
  | .dic t kvs => if keyOk t k then .ok (.bl (f (valD kvs k).isSome)) else .bad
  | _ => .bad
theorem snd_in {S : Sig} {P : PX} {f : Bool → Bool} {tk td : TE} {md : ME} (hk : SndE S P W c1 tk mk) (hd : SndE S P W c2 td md) :
    SndE S P W true (fun σ H Q => tk σ H fun y H1 => td σ H1 fun x H2 => ∃ a o, x = .ref a ∧ DGet H2 a y o ∧ Q (.bl (f o.isSome)) H2) (mIn f mk md) := fun B G ρ σ H Q I nb k ke => by
  unfold mIn at nb k ke
  refine hk B G ρ σ H _ I (R.bad_bind nb) (fun kd e y H1 x1 r1 => ?_) (fun x e => ke x (by rw [e]; rfl))
  rw [e, R.bind_ok] at nb k ke
  refine hd B G ρ σ H1 _ (I.grow x1) (R.bad_bind nb) (fun dd e2 v H2 x2 r2 => ?_) (fun x e2 cls ddd H' x2 => ke x (by rw [e2]; rfl) cls ddd H' (x1.trans x2))
  rw [e2, R.bind_ok] at nb k
  cases dd with
  | dic t kvs =>
    dsimp only at nb k
    by_cases z : keyOk t kd = true
    · rw [if_pos z] at k
      obtain ⟨a, o, rfl, h1, h2⟩ := r2.dict
      obtain ⟨ov, g1, g2, g3⟩ := dget_of h1 h2 (r1.grow x2).full z
      refine ⟨a, ov, rfl, g1, ?_⟩
      rw [g2]
      exact k _ rfl _ H2 (x1.trans x2) (.bl _)
    · rw [if_neg z] at nb; exact absurd rfl nb
  | _ => exact absurd rfl nb
theorem re_in {md : ME} (hu : X.A.units + 1 < cLine) (hk : RE X W c1 a mk) (hd : RE X W c2 b md) (hm : behindInMarks .In b = false := by rfl) : RE X W true (.Compare a [.In] [b] pos) (mIn id mk md) := by
  obtain ⟨t, a1, a2⟩ := hk.ex
  obtain ⟨u, b1, b2⟩ := hd.ex
  exact ⟨_, pe_cmp (pc_din hu a1 b1) hm, snd_in a2 b2⟩
theorem re_notIn {md : ME} (hu : X.A.units + 1 < cLine) (hk : RE X W c1 a mk) (hd : RE X W c2 b md) (hm : behindInMarks .NotIn b = false := by rfl) : RE X W true (.Compare a [.NotIn] [b] pos) (mIn not mk md) := by
  obtain ⟨t, a1, a2⟩ := hk.ex
  obtain ⟨u, b1, b2⟩ := hd.ex
  exact ⟨_, pe_cmp (pc_dnotin hu a1 b1) hm, snd_in a2 b2⟩
theorem rt_in {md : ME} (hu : X.A.units + 1 < cLine) (hk : RE X W c1 a mk) (hd : RE X W c2 b md) (hm : behindInMarks .In b = false := by rfl) : RT X W (.Compare a [.In] [b] pos) (mBool (mIn id mk md)) := by
  obtain ⟨t, a1, a2⟩ := hk.ex
  obtain ⟨u, b1, b2⟩ := hd.ex
  exact ⟨_, pt_cmp (pc_din hu a1 b1) hm, snd_test (snd_in a2 b2)⟩
theorem rt_notIn {md : ME} (hu : X.A.units + 1 < cLine) (hk : RE X W c1 a mk) (hd : RE X W c2 b md) (hm : behindInMarks .NotIn b = false := by rfl) : RT X W (.Compare a [.NotIn] [b] pos) (mBool (mIn not mk md)) := by
  obtain ⟨t, a1, a2⟩ := hk.ex
  obtain ⟨u, b1, b2⟩ := hd.ex
  exact ⟨_, pt_cmp (pc_dnotin hu a1 b1) hm, snd_test (snd_in a2 b2)⟩
/-- d[k], there -/
def mGetD (md mk : ME) : ME := fun ρ => (md ρ).bind fun d => (mk ρ).bind fun k => match d with
  | .dic t kvs => if keyOk t k then R.of (valD kvs k) else .bad
  | _ => .bad
theorem re_getD {md : ME} (hu : X.A.units + 1 < cLine) (hd : RE X W c1 a md) (hk : RE X W c2 b mk) (hs : NoSl b := by exact fun _ _ => rfl) : RE X W true (.Subscript a b pos) (mGetD md mk) := by
  obtain ⟨t, a1, a2⟩ := hd.ex
  obtain ⟨u, b1, b2⟩ := hk.ex
  refine ⟨_, pe_dget hu a1 b1 hs, fun B G ρ σ H Q I nb k ke => ?_⟩
  unfold mGetD at nb k ke
  refine a2 B G ρ σ H _ I (R.bad_bind nb) (fun dd e v H1 x1 r1 => ?_) (fun x e => ke x (by rw [e]; rfl))
  rw [e, R.bind_ok] at nb k ke
  refine b2 B G ρ σ H1 _ (I.grow x1) (R.bad_bind nb) (fun kd e2 y H2 x2 r2 => ?_) (fun x e2 cls ddd H' x2 => ke x (by rw [e2]; rfl) cls ddd H' (x1.trans x2))
  rw [e2, R.bind_ok] at nb k
  cases dd with
  | dic t kvs =>
    dsimp only at nb k
    by_cases z : keyOk t kd = true
    · rw [if_pos z] at nb k
      obtain ⟨a, o, rfl, h1, h2⟩ := (r1.grow x2).dict
      obtain ⟨ov, g1, g2, g3⟩ := dget_of h1 h2 r2.full z
      cases q : valD kvs kd with
      | none => rw [q] at nb; exact absurd rfl nb
      | some d =>
        obtain ⟨v, e3, rv⟩ := g3 d q
        subst e3
        exact ⟨a, v, rfl, g1, k d (by rw [q]; rfl) v H2 (x1.trans x2) rv⟩
    · rw [if_neg z] at nb; exact absurd rfl nb
  | _ => exact absurd rfl nb
end
end Fx

-- Fx9
set_option Elab.async false
set_option linter.all false
set_option maxRecDepth 100000
set_option maxHeartbeats 2000000
/-! Fx9: list.count of bools, calls by keywords, plain defs called within suites. -/
namespace Fx
open PySem PySem.Spec PyProof.Rows L2

def rCntB (K : PySem.W.Frag) : V → List V → Hp → VK → Prop := fun x xs H Q => ∃ (p : Addr) (bs : List Bool) (k : Bool), x = .ref p ∧ xs = [.bl k] ∧ SqL K H p (bs.map V.bl) ∧ Q (.int (bs.count k : Nat)) H
theorem vals_bools : ∀ {bs : List Bool} {us : List Value}, Vals (bs.map V.bl) us → us = bs.map Value.bool
  | [], _, .nil => rfl
  | b :: bs, _, .cons r t => by rw [List.map_cons, ← vals_bools t]; cases r; rfl
theorem countP_bools (k : Bool) : ∀ bs : List Bool, (bs.map Value.bool).countP (isBoolOf k) = bs.count k
  | [] => rfl
  | b :: bs => by rw [List.map_cons, List.countP_cons, List.count_cons, countP_bools k bs]; rfl
theorem mt_countB {X : Cx} : MtR X "list.count" (rCntB X.K) := by
  intro pins s σ H x xs v us Q I rx rxs h
  obtain ⟨p, bs, k, rfl, rfl, hs, q⟩ := h
  cases rx
  obtain ⟨u, rfl, ru⟩ := rxs.one
  cases ru
  obtain ⟨its, rv, ⟨⟨cls, dd, data, sl⟩, n, ho, hc, hdn, hd⟩, hlen⟩ := I.list hs
  simp only at hc hd
  subst hc hd
  have ei := vals_bools rv
  subst ei
  refine call_meets PySem.F.slot_list_count ⟨_, ho, rfl⟩ PySem.F.entry_list_count (PySem.F.args_list_count_2 _ _)
    (SeqAt.list_countAt p _ n dd sl (.bool k) (isBoolOf k)) ⟨ho, fun y hy => ?_, ?_⟩
  · have hy' : y ∈ bs.map Value.bool := by simpa using hy
    obtain ⟨b, _, rfl⟩ := List.mem_map.mp hy'
    exact SeqAt.EqAt.bool_bool b k
  · refine ⟨.int (bs.count k : Nat), H, I.tok _, ⟨s.toks, ?_⟩, q⟩
    rw [← countP_bools k bs]
def boolsOf : List D → Option (List Bool)
  | [] => some []
  | .bl b :: ds => (boolsOf ds).map (b :: ·)
  | _ => none
theorem boolsOf_is : ∀ {ds : List D} {bs : List Bool}, boolsOf ds = some bs → ds = bs.map D.bl
  | [], bs, h => by cases h; rfl
  | .bl b :: ds, bs, h => by
    unfold boolsOf at h
    cases e : boolsOf ds with
    | none => rw [e] at h; cases h
    | some cs => rw [e] at h; cases h; rw [boolsOf_is e]; rfl
  | .non :: _, _, h => by cases h
  | .int _ :: _, _, h => by cases h
  | .str _ :: _, _, h => by cases h
  | .tup _ :: _, _, h => by cases h
  | .lst _ :: _, _, h => by cases h
  | .dic _ _ :: _, _, h => by cases h
  | .ins _ _ :: _, _, h => by cases h
theorem reps_bools {S : Sig} {H : Hp} : ∀ {bs : List Bool} {xs : List V}, Reps S H xs (bs.map D.bl) → xs = bs.map V.bl
  | [], [], _ => rfl
  | [], _ :: _, h => by have := h.1; cases this
  | _ :: _, [], h => by have := h.1; cases this
  | b :: bs, x :: xs, h => by rw [List.map_cons, reps_bools h.tail, h.head.is_bl]
/-- x.count(True) of a list of bools -/
def mCountB (m mk : ME) : ME := fun ρ => (m ρ).bind fun d => match d with
  | .lst ds => (mk ρ).bind fun k => match k with
    | .bl k => (match boolsOf ds with
      | some bs => .ok (.int (bs.count k : Nat))
      | none => .bad)
    | _ => .bad
  | _ => .bad
section
variable {X : Cx} {W : WX} {c c1 c2 : Bool} {o e : Expr} {mo me : ME} {apos cpos : Pos}
theorem re_countB (ho : RE X W c1 o mo) (he : RE X W c2 e me)
    (hbase : attributeBase o "count" X.env (eval o X.env) = eval o X.env := by rfl)
    (hfew : ((backTo cpos (starEach [e] X.env)).all (fun x => !x.1) && (backToKw cpos (keywordEach [] X.env)).all (fun x => x.1.isSome)
      && decide (([e] : List Expr).length + ([] : List Keyword).length + (if ([] : List Keyword).isEmpty then 0 else 1) < 30)) = true := by rfl)
    (hline : (apos.endLine == cpos.line) = true := by rfl) (hs : starEach [e] X.env = (false, eval e X.env) :: starEach [] X.env := by rfl) (hplain : (backTo cpos (starEach [] X.env)).any (·.1) = false := by rfl) :
    RE X W true (.Call (.Attribute o "count" apos) [e] [] cpos) (mCountB mo me) := by
  obtain ⟨t, a1, a2⟩ := ho.ex
  obtain ⟨u, b1, b2⟩ := he.ex
  refine ⟨_, pe_bm PySem.F.plainAttrs_list PySem.F.slot_list_count PySem.F.type_list_count mt_countB a1 (pa_cons b1 pa_nil hs) hbase hfew hline hs hplain, fun B G ρ σ H Q I nb k ke => ?_⟩
  unfold mCountB at nb k ke
  refine a2 B G ρ σ H _ I (R.bad_bind nb) (fun d e v H1 x1 r1 => ?_) (fun x e => ke x (by rw [e]; rfl))
  rw [e, R.bind_ok] at nb k ke
  cases d with
  | lst ds =>
    dsimp only at nb k ke
    obtain ⟨p, xs, rfl, h1, h2⟩ := r1.list
    refine ⟨?_, b2 B G ρ σ H1 _ (I.grow x1) (R.bad_bind nb) (fun kd e2 y H2 x2 r2 => ?_) (fun x e2 cls dd H' x2 => ke x (by rw [e2]; rfl) cls dd H' (x1.trans x2))⟩
    · exact .inl ⟨rfl, xs, .inl h1⟩
    · rw [e2, R.bind_ok] at nb k
      cases kd with
      | bl kb =>
        dsimp only at nb k
        cases q : boolsOf ds with
        | none => rw [q] at nb; exact absurd rfl nb
        | some bs =>
          rw [q] at k
          have ed := boolsOf_is q
          subst ed
          have ex := reps_bools h2
          subst ex
          exact ⟨p, bs, kb, rfl, by rw [r2.full.is_bl], .inl (rd_ex x2 h1), k _ rfl _ H2 (x1.trans x2) (.int _)⟩
      | _ => exact absurd rfl nb
  | _ => exact absurd rfl nb
end

/-! ### f(e, .., k = v, ..) -/
/-- a def with keyword-only defaults, called so: n values, keywords ks; g puts them in the parameters' order -/
structure ClK (P : Program) (w : World) (K : PySem.W.Frag) (mg : Str → Option Value) (base : Heap) (k : Nat) (x : Str) (fr : Bool) (n m : Nat) (ks : List Str) (gd : List D → List D → List D) (mf : MF) : Prop where
  ex : ∃ (f : Addr) (fd : FuncData) (ps : List Str) (g : List Value → List Value → List Value) (gV : List V → List V → List V), FnOk P w K mg base (L2N.CX P w) k f fd ps (spF ⟨K, mg⟩ fr n mf) ∧ mg x = some (.ref f) ∧ PySem.W.keepIn K (.ref f) = true ∧ KBn K fd ps m ks g gV ∧
    ∀ H vs zs ds es, vs.length = m → zs.length = ks.length → Reps ⟨K, mg⟩ H vs ds → Reps ⟨K, mg⟩ H zs es → Reps ⟨K, mg⟩ H (gV vs zs) (gd ds es) ∧ (gV vs zs).length = n
/-- keywords' values, on data -/
structure RK (X : Cx) (W : WX) (kws : List Keyword) (m : MA) : Prop where
  ex : ∃ t, PK X kws t ∧ SndA (sg X) (pp X) W true kws.length t m
section
variable {X : Cx} {W : WX} {k j n : Nat} {x : Str} {mf : MF} {ma mk : MA} {me : ME} {e : Expr} {es : List Expr} {p pos kpos : Pos} {ks : List Str} {kws : List Keyword} {gd : List D → List D → List D} {nm : Option Str} {fr : Bool}
theorem rk_nil : RK X W [] mNil := ⟨_, pk_nil, fun B G ρ σ H Q I nb k ke => k [] rfl [] H (Ex.refl H) rfl rfl fun i v d h => by cases h⟩
theorem rk_cons {mr : MA} (ha : RE X W true e me) (hr : RK X W kws mr) : RK X W (⟨nm, e, kpos⟩ :: kws) (mCons me mr) := by
  obtain ⟨ta, a1, a2⟩ := ha.ex
  obtain ⟨tr, r1, r2⟩ := hr.ex
  refine ⟨_, pk_cons a1 r1, fun B G ρ σ H Q I nb k ke => ?_⟩
  unfold mCons at nb k ke
  refine a2 B G ρ σ H _ I (R.bad_bind nb) (fun d e v H' x r => ?_) (fun x e => ke x (by rw [e]; rfl))
  rw [e, R.bind_ok] at nb k ke
  refine r2 B G ρ σ H' _ (I.grow x) (R.bad_bind nb) (fun ds e2 vs H2 x2 hn hl rs => ?_) (fun y e2 cls dd H2 x2 => ke y (by rw [e2]; rfl) cls dd H2 (x.trans x2))
  refine k (d :: ds) (by rw [e2]; rfl) _ H2 (x.trans x2) (by rw [List.length_cons, List.length_cons, hn]) (by rw [List.length_cons, List.length_cons, hl]) fun i w z h1 h2 => ?_
  cases i with
  | zero => cases h1; cases h2; exact r.grow x2
  | succ i => exact rs i w z h1 h2
def tCallKS (n m : Nat) (sp : Sp) (gV : List V → List V → List V) (E : L2.St → XK) (t tk : TA) : TE := fun σ H Q => t σ H fun vs H1 => tk σ H1 fun zs H2 => vs.length = n ∧ zs.length = m ∧ sp (gV vs zs) H2 Q (E σ)
theorem pe_callKS {CX : CXT} {f : Addr} {fd : FuncData} {ps : List Str} {sp : Sp} {E : L2.St → XK} {t tk : TA} {g : List Value → List Value → List Value} {gV : List V → List V → List V} (F : FnOk X.prog X.w X.K X.mg X.base CX k f fd ps sp) (hr : Room k X.A) (hg : Gl X x) (hm : X.mg x = some (.ref f)) (hk : PySem.W.keepIn X.K (.ref f) = true)
    (hb : KBn X.K fd ps n ks g gV) (hx : ∀ σ, PassesAt CX X σ (E σ)) (ha : PA X (e :: es) t) (hkw : PK X kws tk) (hall : (backToKw pos (keywordEach kws X.env)).all (·.1.isSome) = true) (hks : (backToKw pos (keywordEach kws X.env)).filterMap (·.1) = ks)
    (hdb : (x == ("__debug__" : Str)) = false) (he : starEach (e :: es) X.env = (false, eval e X.env) :: starEach es X.env) (hpl : ((backTo pos (starEach (e :: es) X.env)).any (·.1) || (backToKw pos (keywordEach kws X.env)).any (·.1.isNone)) = false) :
    PE X (.Call (.Name x p) (e :: es) kws pos) (tCallKS n ks.length sp gV E t tk) := by
  refine ⟨fun pins s σ H Q I h => wpAny_Call_Name_kw (ld_glob I hg hm (PySem.W.callWith_KW (h₀ := X.base) I.ok.mod.kin hk hall (thn (ha.run pos pins s σ H _ I h) fun us s1 ⟨vs, H1, I1, r, q⟩ => ?_) hpl he) hdb)⟩
  refine thn (hkw.run pos pins s1 σ H1 _ I1 q) fun ws s2 ⟨zs, H2, I2, rz, l1, l2, q2⟩ => ⟨I2.kIn, ?_⟩
  rw [hks]
  refine wpAny_call (codeAny_mono (F.run X.A X.stack s2 H2 ⟨us, ks.zip ws⟩ (g us ws) (gV vs zs) Q (E σ) hr I2.env0 (hb.to s2 us ws I2.kIn (r.length.symm.trans l1) (rz.length.symm.trans l2)) (hb.rel r rz) q2) fun r s' hq => ?_)
  cases r with
  | error e => exact hx σ pins H2 s2 e s' I2 hq
  | ok fl =>
    cases fl with
    | ret u => exact I2.after hq
    | next => exact False.elim hq
    | brk => exact False.elim hq
    | cont => exact False.elim hq
def mDefK (mf : MF) (gd : List D → List D → List D) (ma mk : MA) : ME := fun ρ => (ma ρ).bind fun ds => (mk ρ).bind fun es => mf (gd ds es)
theorem rf_defK (c : ClK X.prog X.w X.K X.mg X.base k x true n (e :: es).length ks gd mf) (hr : Room j X.A) (hk : k ≤ j) (hg : Gl X x) (tk : L2N.Takes X W) (ha : RA X W true (e :: es) ma) (hkw : RK X W kws mk) (hkl : kws.length = ks.length := by rfl)
    (hall : (backToKw pos (keywordEach kws X.env)).all (·.1.isSome) = true := by rfl) (hks : (backToKw pos (keywordEach kws X.env)).filterMap (·.1) = ks := by rfl)
    (hdb : (x == ("__debug__" : Str)) = false := by decide) (he : starEach (e :: es) X.env = (false, eval e X.env) :: starEach es X.env := by rfl)
    (hpl : ((backTo pos (starEach (e :: es) X.env)).any (·.1) || (backToKw pos (keywordEach kws X.env)).any (·.1.isNone)) = false := by rfl) :
    RF X W (.Call (.Name x p) (e :: es) kws pos) (mDefK mf gd ma mk) := by
  obtain ⟨f, fd, ps, g, gV, F, hm, hkp, hb, hrep⟩ := c.ex
  obtain ⟨t, a1, a2⟩ := ha.ex
  obtain ⟨u, b1, b2⟩ := hkw.ex
  refine ⟨_, pe_callKS (E := WE W) F (hr.mono hk) hg hm hkp hb (L2N.passAt tk) a1 b1 hall hks hdb he hpl, fun B G ρ σ H Q I nb k ke => ?_⟩
  unfold mDefK at nb k ke
  refine a2 B G ρ σ H _ I (R.bad_bind nb) (fun ds e vs H1 x1 hn hl rs => ?_) (fun x e => ke x (by rw [e]; rfl))
  rw [e, R.bind_ok] at nb k ke
  refine b2 B G ρ σ H1 _ (I.grow x1) (R.bad_bind nb) (fun es e2 zs H2 x2 hn2 hl2 rs2 => ?_) (fun y e2 cls dd H2 x2 => ke y (by rw [e2]; rfl) cls dd H2 (x1.trans x2))
  rw [e2, R.bind_ok] at nb k ke
  obtain ⟨q1, q2⟩ := hrep (hid H2 G) vs zs ds es hn (hn2.trans hkl) (Reps.ex (hid_ex x2) (reps_of hl rs)) (reps_of hl2 rs2)
  refine ⟨hn, hn2.trans hkl, q2, G, gd ds es, (I.grow (x1.trans x2)).gm, q1, nb, fun d e => ?_, fun y e cls dd H3 x3 r => ke y e cls dd H3 ((x1.trans x2).trans x3) r⟩
  rw [if_pos rfl]
  refine fun p s H3 x3 hp es w => k d e p s H3 ?_ ((x1.trans x2).trans x3) es w
  cases z : H p with
  | none => rfl
  | some o => rw [(x1.trans x2) p o z] at hp; cases hp
end
end Fx

-- Fx10
set_option Elab.async false
set_option linter.all false
set_option maxRecDepth 100000
set_option maxHeartbeats 2000000
/-! Fx10: built-ins by name, chains, shorthands. -/
namespace Fx
open PySem PySem.Spec PyProof.Rows L2
section
variable {X : Cx} {W : WX} {c c1 c2 c3 : Bool} {e a b d : Expr} {es : List Expr} {m : MA} {ma mb md : ME} {p pos : Pos}
theorem re_len (hg : Gl X "len") (hm : X.mg "len" = none) (ha : RA X W c (e :: es) m) (he : starEach (e :: es) X.env = (false, eval e X.env) :: starEach es X.env := by rfl) (hpl : (backTo pos (starEach es X.env)).any (·.1) = false := by rfl) : RE X W true (.Call (.Name "len" p) (e :: es) [] pos) (mCall gLen m) :=
  re_callB call_len_seq (calls_len (S := sg X)) hg hm PyProof.Rows.Boot.len ha (by decide) (by decide) he hpl
theorem rf_list (hg : Gl X "list") (hm : X.mg "list" = none) (ha : RA X W c (e :: es) m) (he : starEach (e :: es) X.env = (false, eval e X.env) :: starEach es X.env := by rfl) (hpl : (backTo pos (starEach es X.env)).any (·.1) = false := by rfl) : RF X W (.Call (.Name "list" p) (e :: es) [] pos) (mCall gList m) :=
  rf_callTy call_list_of (calls_list (S := sg X)) hg hm PyProof.Rows.Boot.list ha (by decide) (by decide) he hpl
theorem re_tuple (hg : Gl X "tuple") (hm : X.mg "tuple" = none) (ha : RA X W c (e :: es) m) (he : starEach (e :: es) X.env = (false, eval e X.env) :: starEach es X.env := by rfl) (hpl : (backTo pos (starEach es X.env)).any (·.1) = false := by rfl) : RE X W true (.Call (.Name "tuple" p) (e :: es) [] pos) (mCall gTuple m) :=
  re_callTy call_tuple_of (calls_tuple (S := sg X)) hg hm PyProof.Rows.Boot.tuple ha (by decide) (by decide) he hpl
theorem re_toInt (hg : Gl X "int") (hm : X.mg "int" = none) (ha : RA X W c (e :: es) m) (he : starEach (e :: es) X.env = (false, eval e X.env) :: starEach es X.env := by rfl) (hpl : (backTo pos (starEach es X.env)).any (·.1) = false := by rfl) : RE X W true (.Call (.Name "int" p) (e :: es) [] pos) (mCall gInt m) :=
  re_callTy call_int1 (calls_int (S := sg X)) hg hm PyProof.Rows.Boot.int ha (by decide) (by decide) he hpl
theorem re_max2 (hc : X.calm = true) (hg : Gl X "max") (hm : X.mg "max" = none) (ha : RA X W c (e :: es) m) (he : starEach (e :: es) X.env = (false, eval e X.env) :: starEach es X.env := by rfl) (hpl : (backTo pos (starEach es X.env)).any (·.1) = false := by rfl) : RE X W true (.Call (.Name "max" p) (e :: es) [] pos) (mCall (gII fMax) m) :=
  re_callB (call_max2 hc) (calls_ii (S := sg X) (f := fMax)) hg hm PyProof.Rows.Boot.max ha (by decide) (by decide) he hpl
theorem re_min2 (hc : X.calm = true) (hg : Gl X "min") (hm : X.mg "min" = none) (ha : RA X W c (e :: es) m) (he : starEach (e :: es) X.env = (false, eval e X.env) :: starEach es X.env := by rfl) (hpl : (backTo pos (starEach es X.env)).any (·.1) = false := by rfl) : RE X W true (.Call (.Name "min" p) (e :: es) [] pos) (mCall (gII fMin) m) :=
  re_callB (call_min2 hc) (calls_ii (S := sg X) (f := fMin)) hg hm PyProof.Rows.Boot.min ha (by decide) (by decide) he hpl
theorem re_gcd (hg : Gl X "gcd") (hm : X.mg "gcd" = some (.builtin "math.gcd")) (ha : RA X W c (e :: es) m) (he : starEach (e :: es) X.env = (false, eval e X.env) :: starEach es X.env := by rfl) (hpl : (backTo pos (starEach es X.env)).any (·.1) = false := by rfl) : RE X W true (.Call (.Name "gcd" p) (e :: es) [] pos) (mCall (gII fGcd) m) :=
  re_callM (r := fun xs H Q => ∃ i j, xs = [.int i, .int j] ∧ Q (.int (fGcd i j)) H) cr_gcd (calls_ii (S := sg X) (f := fGcd)) hg hm ha (by decide) he hpl
/-- a op b op' c -/
def mChain (g g' : D → D → Option D) (ma mb md : ME) : ME := fun ρ => (ma ρ).bind fun x => (mb ρ).bind fun y => match g x y with
  | some (.bl true) => (md ρ).bind fun z => R.of (g' y z)
  | some (.bl false) => .ok (.bl false)
  | _ => .bad
theorem snd_chain {S : Sig} {P : PX} {r r' : R2} {g g' : D → D → Option D} {ta tb tc : TE} (hr : OpS S r g) (hr' : OpS S r' g') (ha : SndE S P W c1 ta ma) (hb : SndE S P W c2 tb mb) (hd : SndE S P W c3 tc md) : SndE S P W true (tChain r r' ta tb tc) (mChain g g' ma mb md) := fun B G ρ σ H Q I nb k ke => by
  unfold mChain at nb k ke
  refine ha B G ρ σ H _ I (R.bad_bind nb) (fun x e v H1 x1 r1 => ?_) (fun x e => ke x (by rw [e]; rfl))
  rw [e, R.bind_ok] at nb k ke
  refine hb B G ρ σ H1 _ (I.grow x1) (R.bad_bind nb) (fun y e2 u H2 x2 r2 => ?_) (fun x e2 cls dd H' x2 => ke x (by rw [e2]; rfl) cls dd H' (x1.trans x2))
  rw [e2, R.bind_ok] at nb k ke
  have I2 := I.grow (x1.trans x2)
  cases q : g x y with
  | none => rw [q] at nb; exact absurd rfl nb
  | some z =>
    rw [q] at nb k ke
    refine hr H2 G v u x y z _ I2.gm (r1.grow x2).weak r2.weak q fun w H3 x3 rw' => ?_
    cases z with
    | bl t =>
      have ew := rw'.is_bl
      subst ew
      refine ⟨t, rfl, ?_⟩
      cases t with
      | true =>
        rw [if_pos rfl]
        dsimp only at nb k ke
        refine hd B G ρ σ H3 _ (I2.grow x3) (R.bad_bind nb) (fun z e4 w' H4 x4 r4 => ?_) (fun x e4 cls dd H' x4 => ke x (by rw [e4]; rfl) cls dd H' (((x1.trans x2).trans x3).trans x4))
        rw [e4, R.bind_ok] at nb k
        cases q2 : g' y z with
        | none => rw [q2] at nb; exact absurd rfl nb
        | some o => exact hr' H4 G u w' y z o Q (I2.grow (x3.trans x4)).gm (r2.grow (x3.trans x4)).weak r4.weak q2 fun w2 H5 x5 rw2 => k o (by rw [q2]; rfl) w2 H5 ((((x1.trans x2).trans x3).trans x4).trans x5) rw2
      | false =>
        rw [if_neg Bool.false_ne_true]
        exact k _ rfl _ H3 ((x1.trans x2).trans x3) (.bl _)
    | _ => exact absurd rfl nb
theorem rt_chain {op op' : CmpOp} {g g' : D → D → Option D} (h : OpD X (compareOp op) g) (h' : OpD X (compareOp op') g') (ha : RE X W c1 a ma) (hb : RE X W c2 b mb) (hd : RE X W c3 d md) (hm : lastMarks [op, op'] [b, d] = false := by with_unfolding_all rfl) :
    RT X W (.Compare a [op, op'] [b, d] pos) (mBool (mChain g g' ma mb md)) := by
  obtain ⟨r, h1, h2⟩ := h.ex
  obtain ⟨r', h3, h4⟩ := h'.ex
  obtain ⟨ta, a1, a2⟩ := ha.ex
  obtain ⟨tb, b1, b2⟩ := hb.ex
  obtain ⟨tc, c1, c2⟩ := hd.ex
  exact ⟨_, pt_chain h1 h3 a1 b1 c1 hm, snd_test (snd_chain h2 h4 a2 b2 c2)⟩
theorem re_chain {op op' : CmpOp} {g g' : D → D → Option D} (h : OpD X (compareOp op) g) (h' : OpD X (compareOp op') g') (ha : RE X W c1 a ma) (hb : RE X W c2 b mb) (hd : RE X W c3 d md) (hm : lastMarks [op, op'] [b, d] = false := by with_unfolding_all rfl) :
    RE X W true (.Compare a [op, op'] [b, d] pos) (mChain g g' ma mb md) := by
  obtain ⟨r, h1, h2⟩ := h.ex
  obtain ⟨r', h3, h4⟩ := h'.ex
  obtain ⟨ta, a1, a2⟩ := ha.ex
  obtain ⟨tb, b1, b2⟩ := hb.ex
  obtain ⟨tc, c1, c2⟩ := hd.ex
  exact ⟨_, pe_chain h1 h3 a1 b1 c1 hm, snd_chain h2 h4 a2 b2 c2⟩
end
/-! ### shorthands for whole defs -/
/-- the body of a def, in its context -/
abbrev cxF (P : Program) (w : World) (K : PySem.W.Frag) (mg : Str → Option Value) (base : Heap) (N : List Str) (qual : Str) (scope : Scope) (f : Addr) (cd : Value) (A : Around) (outer : List PySem.Env) (s : Shared) (H : Hp) (E : XK) : Cx := cxOf (L2N.CX P w) P w K mg base N qual scope f cd A outer s H E
theorem takesF {P : Program} {w : World} {K : PySem.W.Frag} {mg : Str → Option Value} {base : Heap} {N : List Str} {qual : Str} {scope : Scope} {f : Addr} {cd : Value} {A : Around} {outer : List PySem.Env} {s : Shared} {H : Hp} {E : XK} :
    L2N.Takes (cxF P w K mg base N qual scope f cd A outer s H E) (fun cls d _ H => E cls d H) := L2N.takes_of rfl rfl rfl rfl
theorem passesF {P : Program} {w : World} {K : PySem.W.Frag} {mg : Str → Option Value} {base : Heap} {N : List Str} {qual : Str} {scope : Scope} {f : Addr} {cd : Value} {A : Around} {outer : List PySem.Env} {s : Shared} {H : Hp} {E : XK} :
    PassesOwn (model P w) (cxF P w K mg base N qual scope f cd A outer s H E).A (cxF P w K mg base N qual scope f cd A outer s H E).env (cxF P w K mg base N qual scope f cd A outer s H E).xe := PassesOwn.leaving
end Fx

-- Fx11
set_option Elab.async false
set_option linter.all false
set_option maxRecDepth 100000
set_option maxHeartbeats 2000000
/-! Fx11: an own object is let go between statements. -/
namespace Fx
open PySem PySem.Spec PyProof.Rows L2
def mFrz (i : Nat) : MS := fun ρ => match ρ[i]? with
  | some (.lst ds) => .nx (ρ.set i (.val (.lst ds)))
  | some (.dic t ds) => .nx (ρ.set i (.val (.dic t ds)))
  | _ => .bad
section
variable {X : Cx} {W : WX} {fr : Bool} {st : List Stmt} {m : MS}
theorem rss_frz (i : Nat) (h : RSs X W fr st m) : RSs X W fr st (mSeq (mFrz i) m) := by
  obtain ⟨t, a, b⟩ := h.ex
  refine ⟨t, a, fun B G ρ σ H E I h' => ?_⟩
  unfold mSeq mFrz at h'
  cases q : ρ[i]? with
  | none => rw [q] at h'; exact h'.elim
  | some s =>
    rw [q] at h'
    have go : ∀ (ho : Own s = true), PostS (sg X) (pp X) W fr B G H E (m (ρ.set i (.val s.d))) → t E σ H := fun ho h => by
      obtain ⟨p, h1, h2, h3, h4⟩ := I.own i s q ho
      refine b B (delG G p) (ρ.set i (.val s.d)) σ H E (I.freeze q ho h1 h4.rep) (PostS.move (fun x o g q => ⟨q, ?_⟩) h)
      unfold delG
      split
      · rfl
      · exact g
    cases s with
    | lst ds => exact go rfl h'
    | dic t ds => exact go rfl h'
    | _ => exact h'.elim
end
end Fx

-- Fx12
set_option Elab.async false
set_option linter.all false
set_option maxRecDepth 100000
set_option maxHeartbeats 2000000
/-! Fx12: told = [e1]; told.append(e2); for y in told: body (that may change y); rest. -/
namespace Fx
open PySem PySem.Spec PyProof.Rows L2

/-- another base -/
structure BsLe (B B' : Bs) : Prop where
  h : Ex B.H B'.H
  g : ∀ a, B.G a = true → B'.G a = true
theorem Sts.base {S : Sig} {P : PX} {B B' : Bs} {G : Addr → Bool} {ρ : Env} {σ : L2.St} {H : Hp} (I : Sts S P B' G ρ σ H) (l : BsLe B B') (bg : ∀ a, B.G a = true → ∃ o, B.H a = some o) : Sts S P B G ρ σ H where
  ex := l.h.trans I.ex
  bg := bg
  gb := fun a g => I.gb a (l.g a g)
  gm := I.gm
  len := I.len
  val := I.val
  own := fun i s h o => by
    obtain ⟨p, a, b, c, d⟩ := I.own i s h o
    refine ⟨p, a, b, ?_, d⟩
    cases z : B.H p with
    | none => rfl
    | some o => rw [l.h p o z] at c; cases c
  sep := I.sep
  exc := I.exc
theorem PostS.base {S : Sig} {P : PX} {W : WX} {fr : Bool} {B B' : Bs} {G : Addr → Bool} {H : Hp} {E : Ends} (l : BsLe B B') (bg : ∀ a, B.G a = true → ∃ o, B.H a = some o) : ∀ {o : Out}, PostS S P W fr B G H E o → PostS S P W fr B' G H E o
  | .nx _, h => fun G2 σ2 H2 I f => h G2 σ2 H2 (I.base l bg) f
  | .bk _, h => fun G2 σ2 H2 I f => h G2 σ2 H2 (I.base l bg) f
  | .ct _, h => fun G2 σ2 H2 I f => h G2 σ2 H2 (I.base l bg) f
  | .err _ _, h => fun c dd G2 σ2 H2 I f => h c dd G2 σ2 H2 (I.base l bg) f
  | .bad, h => h
  | .rt d, h => by
    unfold PostS at h ⊢
    cases fr with
    | true =>
      dsimp only at h ⊢
      rw [if_pos rfl] at h ⊢
      refine fun p s H' e hp es w => h p s H' (l.h.trans e) ?_ es (w.mono rfl (hid_anti fun a q => ?_))
      · cases z : B.H p with
        | none => rfl
        | some o => rw [l.h p o z] at hp; cases hp
      · by_cases z : a = p
        · rw [z, addG_self]
        · rw [addG_ne z] at q ⊢
          exact l.g a q
    | false =>
      dsimp only at h ⊢
      rw [if_neg Bool.false_ne_true] at h ⊢
      exact fun v H' e r => h v H' (l.h.trans e) (r.ex (hid_anti l.g))
/-- a new list on the side -/
theorem Sts.hide {S : Sig} {P : PX} {B : Bs} {G : Addr → Bool} {ρ : Env} {σ : L2.St} {H H' : Hp} {p : Addr} {xs : List V} (I : Sts S P B G ρ σ H) (e : Ex H H') (hp : H p = none) (h : H' p = some (.lst xs)) : Sts S P B (addG G p) ρ σ H' where
  ex := I.ex.trans e
  bg := I.bg
  gb := fun a g => addG_sub a (I.gb a g)
  gm := fun a g => by
    by_cases q : a = p
    · rw [q, h]; exact True.intro
    · rw [addG_ne q] at g; exact (I.grow e).gm a g
  len := I.len
  val := fun i d q => by
    obtain ⟨v, a, b⟩ := I.val i d q
    exact ⟨v, a, b.ex (hid_addG hp e)⟩
  own := fun i s q o => by
    obtain ⟨p', a, b, c, d⟩ := I.own i s q o
    obtain ⟨u, hu, _⟩ := d.some
    exact ⟨p', a, addG_sub _ b, c, d.mono ((e p' u hu).trans hu.symm) (hid_addG hp e)⟩
  sep := I.sep
  exc := fun i x q => by
    obtain ⟨a, cls, dd, h1, h2, h3⟩ := I.exc i x q
    exact ⟨a, cls, dd, h1, h2, h3.ex (hid_addG hp e)⟩
/-- a hidden list in no slot is changed -/
theorem Sts.poke {S : Sig} {P : PX} {B : Bs} {G : Addr → Bool} {ρ : Env} {σ : L2.St} {H : Hp} {q : Addr} {xs : List V} (I : Sts S P B G ρ σ H) (hq : G q = true) (hB : B.H q = none) (hs : ∀ (i : Nat) (s : Sl), ρ[i]? = some s → Own s = true → σ[i]? ≠ some (some (.ref q))) : Sts S P B G ρ σ (upd H q (.lst xs)) := by
  have ex : Ex (hid H G) (hid (upd H q (.lst xs)) G) := fun a o h => by
    obtain ⟨g, h⟩ := hid_some h
    have ne : a ≠ q := fun z => by rw [z, hq] at g; cases g
    exact hid_of g (by rw [upd_ne ne]; exact h)
  refine ⟨fun a o h => ?_, I.bg, I.gb, fun a g => ?_, I.len, fun i d h => ?_, fun i s h o => ?_, I.sep, fun i x h => ?_⟩
  · have ne : a ≠ q := fun z => by rw [z, hB] at h; cases h
    rw [upd_ne ne]; exact I.ex a o h
  · by_cases z : a = q
    · rw [z, upd_same]; exact True.intro
    · rw [upd_ne z]; exact I.gm a g
  · obtain ⟨v, a, b⟩ := I.val i d h
    exact ⟨v, a, b.ex ex⟩
  · obtain ⟨p, a, b, c, d⟩ := I.own i s h o
    have ne : p ≠ q := fun z => by rw [z] at a; exact hs i s h o a
    exact ⟨p, a, b, c, d.mono (upd_ne ne) ex⟩
  · obtain ⟨a, cls, dd, h1, h2, h3⟩ := I.exc i x h
    exact ⟨a, cls, dd, h1, h2, h3.ex ex⟩
/-- a slot takes a hidden object that the base keeps -/
theorem Sts.take {S : Sig} {P : PX} {B B' : Bs} {G : Addr → Bool} {ρ : Env} {σ : L2.St} {H : Hp} {i : Nat} {p : Addr} {s : Sl} (I : Sts S P B' G ρ σ H) (l : BsLe B B') (bg : ∀ a, B.G a = true → ∃ o, B.H a = some o) (hp : ∃ o, B'.H p = some o) (hp2 : B.H p = none) (g : G p = true) (ho : Own s = true) (w : OwnAt S H G p s) :
    Sts S P B G (ρ.set i s) (σ.set i (some (.ref p))) H := by
  have J := I.base l bg
  have not : ∀ {m : Nat} {z : Sl}, ρ[m]? = some z → Own z = true → σ[m]? ≠ some (some (.ref p)) := fun {m z} h o q => by
    obtain ⟨p2, a, _, c, _⟩ := I.own m z h o
    rw [q] at a
    cases a
    obtain ⟨o, e⟩ := hp
    rw [e] at c; cases c
  refine ⟨J.ex, J.bg, J.gb, J.gm, by rw [List.length_set, List.length_set, J.len], fun j d h => ?_, fun j t h o => ?_, fun j k t u p' h1 h2 o1 o2 a1 a2 => ?_, J.excs (ne_exc_own ho) set_off (Ex.refl _)⟩
  · by_cases q : j = i
    · subst q
      have hl : j < ρ.length := by
        have := (List.getElem?_eq_some_iff.mp h).1
        rwa [List.length_set] at this
      rw [List.getElem?_set_self hl] at h
      cases h
      cases ho
    · rw [List.getElem?_set_ne (Ne.symm q)] at h
      obtain ⟨w, a, b⟩ := J.val j d h
      exact ⟨w, by rw [List.getElem?_set_ne (Ne.symm q)]; exact a, b⟩
  · by_cases q : j = i
    · subst q
      have hl : j < ρ.length := by
        have := (List.getElem?_eq_some_iff.mp h).1
        rwa [List.length_set] at this
      rw [List.getElem?_set_self hl] at h
      cases h
      exact ⟨p, by rw [List.getElem?_set_self (J.len ▸ hl)], g, hp2, w⟩
    · rw [List.getElem?_set_ne (Ne.symm q)] at h
      obtain ⟨p', a, b, c, d⟩ := J.own j t h o
      exact ⟨p', by rw [List.getElem?_set_ne (Ne.symm q)]; exact a, b, c, d⟩
  · have self : ∀ {m : Nat} {z : Sl}, m = i → (ρ.set i s)[m]? = some z → (σ.set i (some (V.ref p)))[m]? = some (some (.ref p)) := fun {m z} hm h => by
      subst hm
      have hl : m < ρ.length := by
        have := (List.getElem?_eq_some_iff.mp h).1
        rwa [List.length_set] at this
      rw [List.getElem?_set_self (J.len ▸ hl)]
    have off : ∀ {m : Nat} {z : Sl}, m ≠ i → (ρ.set i s)[m]? = some z → Own z = true → (σ.set i (some (V.ref p)))[m]? ≠ some (some (.ref p)) := fun {m z} hm h o q => by
      rw [List.getElem?_set_ne (Ne.symm hm)] at h q
      exact not h o q
    by_cases q1 : j = i
    · by_cases q2 : k = i
      · rw [q1, q2]
      · exfalso
        have z := self q1 h1
        rw [a1] at z
        have z' : V.ref p' = V.ref p := Option.some.inj (Option.some.inj z)
        rw [z'] at a2
        exact off q2 h2 o2 a2
    · by_cases q2 : k = i
      · exfalso
        have z := self q2 h2
        rw [a2] at z
        have z' : V.ref p' = V.ref p := Option.some.inj (Option.some.inj z)
        rw [z'] at a1
        exact off q1 h1 o1 a1
      · rw [List.getElem?_set_ne (Ne.symm q1)] at h1 a1
        rw [List.getElem?_set_ne (Ne.symm q2)] at h2 a2
        exact J.sep j k t u p' h1 h2 o1 o2 a1 a2
/-- the base with an object kept besides -/
def addB (B : Bs) (p : Addr) (o : HO) : Bs := ⟨fun a => if a = p then some o else B.H a, addG B.G p⟩
theorem addB_le {B : Bs} {p : Addr} {o : HO} (h : B.H p = none) : BsLe B (addB B p o) := ⟨fun a u e => by
  have ne : a ≠ p := fun z => by rw [z, h] at e; cases e
  show (if a = p then some o else B.H a) = some u
  rw [if_neg ne]; exact e, fun a g => addG_sub a g⟩
theorem addB_bg {B : Bs} {p : Addr} {o : HO} (bg : ∀ a, B.G a = true → ∃ o, B.H a = some o) : ∀ a, (addB B p o).G a = true → ∃ u, (addB B p o).H a = some u := fun a g => by
  show ∃ u, (if a = p then some o else B.H a) = some u
  by_cases z : a = p
  · rw [if_pos z]; exact ⟨o, rfl⟩
  · rw [if_neg z]
    have g' : addG B.G p a = true := g
    rw [addG_ne z] at g'
    exact bg a g'
/-- an object that no slot owns is kept by the base -/
theorem Sts.keep {S : Sig} {P : PX} {B : Bs} {G : Addr → Bool} {ρ : Env} {σ : L2.St} {H : Hp} {p : Addr} {o : HO} (I : Sts S P B G ρ σ H) (hp : H p = some o) (g : G p = true) (hs : ∀ (i : Nat) (s : Sl), ρ[i]? = some s → Own s = true → σ[i]? ≠ some (some (.ref p))) : Sts S P (addB B p o) G ρ σ H where
  ex := fun a u e => by
    have e' : (if a = p then some o else B.H a) = some u := e
    by_cases z : a = p
    · rw [if_pos z] at e'; rw [z, hp]; exact e'
    · rw [if_neg z] at e'; exact I.ex a u e'
  bg := addB_bg I.bg
  gb := fun a q => by
    have q' : addG B.G p a = true := q
    by_cases z : a = p
    · rw [z]; exact g
    · rw [addG_ne z] at q'; exact I.gb a q'
  gm := I.gm
  len := I.len
  val := I.val
  own := fun i s h w => by
    obtain ⟨p', a, b, c, d⟩ := I.own i s h w
    refine ⟨p', a, b, ?_, d⟩
    show (if p' = p then some o else B.H p') = none
    have ne : p' ≠ p := fun z => by rw [z] at a; exact hs i s h w a
    rw [if_neg ne]; exact c
  sep := I.sep
  exc := I.exc
end Fx

-- Fx13
set_option Elab.async false
set_option linter.all false
set_option maxRecDepth 100000
set_option maxHeartbeats 2000000
namespace Fx
open PySem PySem.Spec PyProof.Rows L2
/-- the loop over two lists of its own, then the rest -/
def mTwo (i j : Nat) (m1 m2 : ME) (body rest : MS) : MS := fun ρ => if i < ρ.length then (m1 ρ).out ρ fun d1 => match d1 with
  | .lst l1 => (m2 (ρ.set i .no)).out (ρ.set i .no) fun d2 => match d2 with
    | .lst l2 => match body ((ρ.set i .no).set j (.lst l1)) with
      | .nx ρ1 => (match body (ρ1.set j (.lst l2)) with
        | .nx ρ2 => rest ρ2
        | .ct ρ2 => rest ρ2
        | .bk ρ2 => rest ρ2
        | .rt d => .rt d
        | .err x ρ2 => .err x ρ2
        | .bad => .bad)
      | .ct ρ1 => (match body (ρ1.set j (.lst l2)) with
        | .nx ρ2 => rest ρ2
        | .ct ρ2 => rest ρ2
        | .bk ρ2 => rest ρ2
        | .rt d => .rt d
        | .err x ρ2 => .err x ρ2
        | .bad => .bad)
      | .bk ρ1 => rest ρ1
      | .rt d => .rt d
      | .err x ρ1 => .err x ρ1
      | .bad => .bad
    | _ => .bad
  | _ => .bad else .bad
theorem hid_updG {H : Hp} {G : Addr → Bool} {q : Addr} {o : HO} (g : G q = true) : hid (upd H q o) G = hid H G := by
  funext a
  by_cases z : a = q
  · rw [hid_yes (by rw [z]; exact g), hid_yes (by rw [z]; exact g)]
  · unfold hid
    rw [upd_ne z]
section
variable {X : Cx} {W : WX} {fr : Bool} {i j : Nat} {x y : Str} {e1 e2 : Expr} {m1 m2 : ME} {body rest : List Stmt} {mb mr : MS} {p1 p2 p3 p4 p5 p6 p7 apos cpos pos : Pos}
theorem own_lst {S : Sig} {H : Hp} {G : Addr → Bool} {p : Addr} {s : Sl} {l : List D} (w : OwnAt S H G p s) (e : s.d = .lst l) : ∃ xs, H p = some (.lst xs) ∧ Reps S (hid H G) xs l := by
  cases s with
  | lst ds => cases e; exact w
  | no => exact w.elim
  | val d => exact w.elim
  | exc x => exact w.elim
  | dic t k => cases e
theorem mapOut {S : Sig} {P : PX} {fr : Bool} {B B1 : Bs} {G : Addr → Bool} {H : Hp} {E : Ends} {W : WX} {o : Out} {N K : L2.St → Hp → Prop} (two rest : Env → Out) (l : BsLe B B1) (bg : ∀ a, B.G a = true → ∃ o, B.H a = some o) (h : PostS S P W fr B G H E (match o with
      | .nx ρ1 => two ρ1
      | .ct ρ1 => two ρ1
      | .bk ρ1 => rest ρ1
      | .rt d => .rt d
      | .err x ρ1 => .err x ρ1
      | .bad => .bad)) (hn : ∀ ρ1 G' σ' H', PostS S P W fr B G' H' E (two ρ1) → Sts S P B1 G' ρ1 σ' H' → Fr G H G' H' → N σ' H') (hk : ∀ ρ1 G' σ' H', PostS S P W fr B G' H' E (rest ρ1) → Sts S P B1 G' ρ1 σ' H' → Fr G H G' H' → K σ' H') :
    PostS S P W fr B1 G H { nx := N, bk := K, ct := N, rt := E.rt } o := by
  cases o with
  | nx ρ1 => exact fun G' σ' H' I f => hn ρ1 G' σ' H' (PostS.move f h) I f
  | ct ρ1 => exact fun G' σ' H' I f => hn ρ1 G' σ' H' (PostS.move f h) I f
  | bk ρ1 => exact fun G' σ' H' I f => hk ρ1 G' σ' H' (PostS.move f h) I f
  | rt d => exact PostS.base (o := .rt d) l bg h
  | err x ρ1 => exact PostS.base (o := .err x ρ1) l bg h
  | bad => exact h
theorem rss_two (hij : i ≠ j) (hp : PassesOwn (model X.prog X.w) X.A X.env X.xe) (hc : X.calm = true) (hN : X.N.Nodup) (hi : X.N[i]? = some x) (hx : Loc X.env.scope x) (hj : X.N[j]? = some y) (hy : Loc X.env.scope y) (h1 : RF X W e1 m1) (h2 : RF X W e2 m2) (hv : PE X (.Name x p4) (tVar i)) (hv2 : PE X (.Name x p6) (tVar i)) (hb : RSs X W fr body mb) (hr : RSs X W fr rest mr)
    (hf : X.fn x = true ∨ X.env.scope.names.lookup x = some .local := by first | exact .inl rfl | exact .inr rfl) (hf2 : X.fn y = true ∨ X.env.scope.names.lookup y = some .local := by first | exact .inl rfl | exact .inr rfl)
    (hs1 : swapsWith (.List [e1] p2) (some (.Name x p1)) p3.line X.env = pure false := by rfl) (hst : starEach [e1] X.env = (false, eval e1 X.env) :: starEach [] X.env := by rfl)
    (hbase : attributeBase (.Name x p4) "append" X.env (eval (.Name x p4) X.env) = eval (.Name x p4) X.env := by rfl)
    (hfew : ((backTo cpos (starEach [e2] X.env)).all (fun x => !x.1) && (backToKw cpos (keywordEach [] X.env)).all (fun x => x.1.isSome)
      && decide (([e2] : List Expr).length + ([] : List Keyword).length + (if ([] : List Keyword).isEmpty then 0 else 1) < 30)) = true := by rfl)
    (hline : (apos.endLine == cpos.line) = true := by rfl) (hs : starEach [e2] X.env = (false, eval e2 X.env) :: starEach [] X.env := by rfl) (hplain : (backTo cpos (starEach [] X.env)).any (·.1) = false := by rfl)
    (hsw : swapsWith (.Call (.Attribute (.Name x p4) "append" apos) [e2] [] cpos) none p5.line X.env = pure false := by rfl) (hfs : ∀ z, foldedSetIterable (.Name x p6) X.env z = pure z := by intro _; rfl) :
    RSs X W fr (.Assign [.Name x p1] (.List [e1] p2) p3 :: .Expr (.Call (.Attribute (.Name x p4) "append" apos) [e2] [] cpos) p5 :: .For (.Name y p7) (.Name x p6) body [] pos :: rest) (mTwo i j m1 m2 mb mr) := by
  obtain ⟨t1, a1, b1⟩ := h1.ex
  obtain ⟨t2, a2, b2⟩ := h2.ex
  obtain ⟨tb, a3, b3⟩ := hb.ex
  obtain ⟨tr, a4, b4⟩ := hr.ex
  refine ⟨_, pss_cons (ps_set hN hi hx (pe_lst (pa_cons a1 pa_nil hst)) hs1 hf) (pss_cons (ps_expr (pe_bm PySem.F.plainAttrs_list PySem.F.slot_list_append PySem.F.type_list_append mt_append hv (pa_cons a2 pa_nil hs) hbase hfew hline hs hplain) hsw)
    (pss_cons (ps_for hp hc (pi_list hv2) (pg_name hN hj hy hf2) a3 hfs) a4)), fun B G ρ σ H E I h => ?_⟩
  unfold mTwo at h
  by_cases hil : i < ρ.length
  rotate_left
  · rw [if_neg hil] at h; exact h.elim
  rw [if_pos hil] at h
  refine b1 B G ρ σ H _ I (post_nb h) (fun d1 e1' q1 s1 H1 hq1 x1 es1 w1 => ?_) (post_err I h)
  have h := PostS.move (fr_own hq1 x1) (post_ok e1' h)
  refine ⟨Nat.le_trans (show [V.ref q1].length ≤ 1 from Nat.le_refl _) (by rw [sizeLine_eq]; decide), fun q hq => ?_⟩
  cases d1 with
  | lst l1 =>
    dsimp only at h
    obtain ⟨xs1, hx1, rp1⟩ := own_lst w1 es1
    have I1 := I.hide x1 hq1 hx1
    have hH : ∀ {a : Addr}, H1 a = none → H a = none := fun {a} n => by
      cases z : H a with
      | none => rfl
      | some o => rw [x1 a o z] at n; cases n
    have e2' : Ex H1 (upd H1 q (.lst [V.ref q1])) := Ex.new hq
    have I2 : Sts (sg X) (pp X) B (addG (addG G q1) q) (ρ.set i .no) (σ.set i (some (.ref q))) (upd H1 q (.lst [V.ref q1])) := (I1.hide e2' hq upd_same).setNo
    generalize hH2 : upd H1 q (.lst [V.ref q1]) = H2 at I2 e2' ⊢
    have hq2 : H2 q = some (.lst [V.ref q1]) := by rw [← hH2]; exact upd_same
    have hsi : (σ.set i (some (V.ref q)))[i]? = some (some (.ref q)) := List.getElem?_set_self (I.len ▸ hil)
    refine ⟨_, hsi, .inl ⟨rfl, _, SqL.of hq2⟩, ?_⟩
    have h := PostS.move (G' := addG (addG G q1) q) (H' := H2) (fr_own hq e2') h
    refine b2 B _ _ _ H2 _ I2 (post_nb h) (fun d2 e2x q2 s2 H3 hq2n x2 es2 w2 => ?_) (post_err I2 h)
    have h := PostS.move (fr_own hq2n x2) (post_ok e2x h)
    cases d2 with
    | lst l2 =>
      dsimp only at h
      obtain ⟨xs2, hx2, rp2⟩ := own_lst w2 es2
      have hq3 : H3 q = some (.lst [V.ref q1]) := x2 _ _ hq2
      refine ⟨q, [V.ref q1], .ref q2, rfl, rfl, hq3, Nat.lt_of_le_of_lt (show [V.ref q1].length ≤ 1 from Nat.le_refl _) (by rw [sizeLine_eq]; decide), ?_⟩
      -- addresses
      have nq1 : q ≠ q1 := fun z => by rw [z, hx1] at hq; cases hq
      have n1q2 : q1 ≠ q2 := fun z => by rw [← z, e2' _ _ hx1] at hq2n; cases hq2n
      have nqq2 : q ≠ q2 := fun z => by rw [← z, hq2] at hq2n; cases hq2n
      have fH1 : H q1 = none := hq1
      have fHq : H q = none := hH hq
      have fHq2 : H q2 = none := by
        cases z : H q2 with
        | none => rfl
        | some o => rw [e2' _ _ (x1 _ _ z)] at hq2n; cases hq2n
      have fB : ∀ {a : Addr}, H a = none → B.H a = none := fun {a} n => by
        cases z : B.H a with
        | none => rfl
        | some o => rw [I.ex a o z] at n; cases n
      have noslot : ∀ {a : Addr}, H a = none → ∀ (k : Nat) (s : Sl), (ρ.set i .no)[k]? = some s → Own s = true → (σ.set i (some (V.ref q)))[k]? ≠ some (some (.ref a)) := fun {a} n k s e o z => by
        by_cases hk : k = i
        · subst hk
          rw [List.getElem?_set_self hil] at e
          cases e
          cases o
        · rw [List.getElem?_set_ne (Ne.symm hk)] at e z
          obtain ⟨p, p1, _, _, p4⟩ := I.own k s e o
          rw [p1] at z
          cases z
          obtain ⟨u, hu, _⟩ := p4.some
          rw [n] at hu
          cases hu
      have I3 := I2.hide x2 hq2n hx2
      generalize hG4 : addG (addG (addG G q1) q) q2 = G4 at I3 h
      have g4q : G4 q = true := by rw [← hG4]; exact addG_sub _ addG_self
      have g4q1 : G4 q1 = true := by rw [← hG4]; exact addG_sub _ (addG_sub _ addG_self)
      have g4q2 : G4 q2 = true := by rw [← hG4]; exact addG_self
      have I4 := I3.poke (xs := [V.ref q1] ++ [V.ref q2]) g4q (fB fHq) (noslot fHq)
      have hid4 : hid (upd H3 q (.lst ([V.ref q1] ++ [V.ref q2]))) G4 = hid H3 G4 := hid_updG g4q
      have r1 : Reps (sg X) (hid (upd H3 q (.lst ([V.ref q1] ++ [V.ref q2]))) G4) xs1 l1 := by
        rw [hid4, ← hG4]
        exact (rp1.ex (hid_addG hq e2')).ex (hid_addG hq2n x2)
      have r2 : Reps (sg X) (hid (upd H3 q (.lst ([V.ref q1] ++ [V.ref q2]))) G4) xs2 l2 := by
        rw [hid4, ← hG4]
        exact rp2
      have hq4 : upd H3 q (.lst ([V.ref q1] ++ [V.ref q2])) q = some (.lst [V.ref q1, V.ref q2]) := upd_same
      have h14 : upd H3 q (.lst ([V.ref q1] ++ [V.ref q2])) q1 = some (.lst xs1) := by rw [upd_ne (Ne.symm nq1)]; exact x2 _ _ (e2' _ _ hx1)
      have h24 : upd H3 q (.lst ([V.ref q1] ++ [V.ref q2])) q2 = some (.lst xs2) := by rw [upd_ne (Ne.symm nqq2)]; exact hx2
      have h : PostS (sg X) (pp X) W fr B G4 (upd H3 q (.lst ([V.ref q1] ++ [V.ref q2]))) E _ := PostS.move (fr_write g4q) h
      generalize hH4 : upd H3 q (.lst ([V.ref q1] ++ [V.ref q2])) = H4 at I4 r1 r2 hq4 h14 h24 h
      show tSeq (tFor (iList X.K (tVar i)) (gName j) tb) tr E (σ.set i (some (V.ref q))) H4
      generalize hσ : σ.set i (some (V.ref q)) = σ2 at I4 hsi noslot ⊢
      generalize hρ : ρ.set i .no = ρ2 at I4 noslot h
      -- the loop
      have J1 := (I4.keep hq4 g4q (noslot fHq)).keep h24 g4q2 (noslot fHq2)
      have J2 := J1.keep h14 g4q1 (noslot fH1)
      have le0 : BsLe B (addB B q (.lst [V.ref q1, V.ref q2])) := addB_le (fB fHq)
      have bgq := addB_bg (p := q) (o := .lst [V.ref q1, V.ref q2]) I.bg
      have nB2 : (addB B q (.lst [V.ref q1, V.ref q2])).H q2 = none := by
        show (if q2 = q then _ else B.H q2) = none
        rw [if_neg (Ne.symm nqq2)]; exact fB fHq2
      have le1 : BsLe (addB B q (.lst [V.ref q1, V.ref q2])) (addB (addB B q (.lst [V.ref q1, V.ref q2])) q2 (.lst xs2)) := addB_le nB2
      have bg2 := addB_bg (p := q2) (o := .lst xs2) bgq
      have le01 : BsLe B (addB (addB B q (.lst [V.ref q1, V.ref q2])) q2 (.lst xs2)) := ⟨le0.h.trans le1.h, fun a g => le1.g a (le0.g a g)⟩
      have nB1 : (addB (addB B q (.lst [V.ref q1, V.ref q2])) q2 (.lst xs2)).H q1 = none := by
        show (if q1 = q2 then _ else if q1 = q then _ else B.H q1) = none
        rw [if_neg n1q2, if_neg (Ne.symm nq1)]; exact fB fH1
      refine ⟨_, hsi, q, rfl, ⟨_, SqL.of hq4⟩, ?_⟩
      generalize hB2 : addB B q (.lst [V.ref q1, V.ref q2]) = B2 at *
      generalize hB1 : addB B2 q2 (.lst xs2) = B1 at *
      have qB2 : B2.H q = some (.lst [V.ref q1, V.ref q2]) := by rw [← hB2]; exact if_pos rfl
      have qB1 : B1.H q = some (.lst [V.ref q1, V.ref q2]) := le1.h _ _ qB2
      have q2B1 : B1.H q2 = some (.lst xs2) := by rw [← hB1]; exact if_pos rfl
      have g2B1 : B1.G q2 = true := by rw [← hB1]; exact addG_self
      let two : Env → Out := fun ρ1 => match mb (ρ1.set j (.lst l2)) with
        | .nx ρ2 => mr ρ2
        | .ct ρ2 => mr ρ2
        | .bk ρ2 => mr ρ2
        | .rt d => .rt d
        | .err x ρ2 => .err x ρ2
        | .bad => .bad
      have go : ∀ {B' : Bs}, BsLe B B' → ∀ (ρ1 : Env) (G' : Addr → Bool) (σ' : L2.St) (H' : Hp), PostS (sg X) (pp X) W fr B G' H' E (mr ρ1) → Sts (sg X) (pp X) B' G' ρ1 σ' H' → tr E σ' H' := fun l ρ1 G' σ' H' h I' => b4 B G' ρ1 σ' H' E (I'.base l I.bg) h
      refine ⟨fun k m σ' H' => (k = 0 ∧ m = 2 ∧ σ' = σ2 ∧ H' = H4) ∨ (k = 1 ∧ m = 1 ∧ ∃ ρ1 G1, Sts (sg X) (pp X) B1 G1 ρ1 σ' H' ∧ Fr G4 H4 G1 H' ∧ PostS (sg X) (pp X) W fr B G1 H' E (two ρ1)) ∨ (k = 2 ∧ m = 0 ∧ ∃ ρ1 G1, Sts (sg X) (pp X) B2 G1 ρ1 σ' H' ∧ PostS (sg X) (pp X) W fr B G1 H' E (mr ρ1)),
        ⟨2, .inl ⟨rfl, rfl, rfl, rfl⟩⟩, ?_⟩
      rintro k m σ' H' (⟨rfl, rfl, rfl, rfl⟩ | ⟨rfl, rfl, ρ1, G1, S1, f1, h1⟩ | ⟨rfl, rfl, ρ1, G1, S1, h1⟩)
      · right
        refine ⟨⟨_, _, SqL.of hq4, rfl⟩, fun σ'' H'' => ∃ ρ1 G1, Sts (sg X) (pp X) B1 G1 ρ1 σ'' H'' ∧ Fr G4 H' G1 H'' ∧ PostS (sg X) (pp X) W fr B G1 H'' E (two ρ1), fun σ'' H'' ⟨ρ1, G1, z1, z2, z3⟩ => ⟨1, by decide, .inr (.inl ⟨rfl, rfl, ρ1, G1, z1, z2, z3⟩)⟩, fun v H'' y => ?_⟩
        obtain ⟨e0, hy⟩ := y
        subst e0
        have ev := hy _ (SqL.of hq4)
        cases ev
        refine b3 B1 G4 _ _ H'' _ (J2.take (s := .lst l1) (addB_le nB1) bg2 ⟨_, if_pos rfl⟩ nB1 g4q1 rfl ⟨xs1, h14, r1⟩) ?_
        exact mapOut (E := E) two mr le01 I.bg h (fun ρ1 G' σ3 H3 z1 z2 z3 => ⟨ρ1, G', z2, z3, z1⟩) fun ρ1 G' σ3 H3 z1 z2 z3 => go le01 ρ1 G' σ3 H3 z1 z2
      · right
        have hq' := S1.ex _ _ qB1
        refine ⟨⟨_, _, SqL.of hq', rfl⟩, fun σ'' H'' => ∃ ρ1 G1, Sts (sg X) (pp X) B2 G1 ρ1 σ'' H'' ∧ PostS (sg X) (pp X) W fr B G1 H'' E (mr ρ1), fun σ'' H'' ⟨ρ1, G1, z1, z2⟩ => ⟨0, by decide, .inr (.inr ⟨rfl, rfl, ρ1, G1, z1, z2⟩)⟩, fun v H'' y => ?_⟩
        obtain ⟨e0, hy⟩ := y
        subst e0
        have ev := hy _ (SqL.of hq')
        cases ev
        refine b3 B2 G1 _ _ H'' _ (S1.take (s := .lst l2) le1 bgq ⟨_, q2B1⟩ nB2 (S1.gb _ g2B1) rfl ⟨xs2, S1.ex _ _ q2B1, r2.ex f1.ex⟩) ?_
        exact mapOut (E := E) mr mr le0 I.bg h1 (fun ρ1 G' σ3 H3 z1 z2 z3 => ⟨ρ1, G', z2, z1⟩) fun ρ1 G' σ3 H3 z1 z2 z3 => go le0 ρ1 G' σ3 H3 z1 z2
      · left
        exact ⟨⟨_, SqL.of (S1.ex _ _ qB2), Nat.le_refl _⟩, go le0 ρ1 G1 σ' H' h1 S1⟩
    | _ => exact h.elim
  | _ => exact h.elim
end
end Fx

-- FxS
set_option Elab.async false
set_option linter.all false
set_option maxRecDepth 100000
set_option maxHeartbeats 2000000
/-! FxS: how mirrors compute. -/
namespace Fx
open PySem PySem.Spec PyProof.Rows L2
section
variable {ρ : Env} {d : D} {i j : Nat} {m n : ME} {t t2 : MT} {a : MA} {x y : D} {b : Bool} {e : Exn}
@[simp] theorem e_C : mC d ρ = .ok d := rfl
@[simp] theorem e_Nil : mNil ρ = .ok [] := rfl
@[simp] theorem e_Next : mNext ρ = .nx ρ := rfl
@[simp] theorem e_Break : mBreak ρ = .bk ρ := rfl
@[simp] theorem e_Cont : mCont ρ = .ct ρ := rfl
theorem e_V (h : ρ[i]? = some (.val d)) : mV i ρ = .ok d := by unfold mV; rw [h]
theorem e_O {ds : List D} (h : ρ[i]? = some (.lst ds)) : mO i ρ = .ok (.lst ds) := by unfold mO; rw [h]
theorem e_OD {t : Bool} {ds : List (D × D)} (h : ρ[i]? = some (.dic t ds)) : mO i ρ = .ok (.dic t ds) := by unfold mO; rw [h]
theorem e_bin {g : D → D → Option D} (h1 : m ρ = .ok x) (h2 : n ρ = .ok y) (h : g x y = some d) : mBin g m n ρ = .ok d := by unfold mBin; rw [h1, h2, R.bind_ok, R.bind_ok, h]; rfl
theorem e_bool (h : m ρ = .ok (.bl b)) : mBool m ρ = .ok b := by unfold mBool; rw [h]; rfl
theorem e_tup {ds : List D} (h : a ρ = .ok ds) : mTup a ρ = .ok (.tup ds) := by unfold mTup; rw [h]; rfl
theorem e_lst {ds : List D} (h : a ρ = .ok ds) : mLst a ρ = .ok (.lst ds) := by unfold mLst; rw [h]; rfl
theorem e_cons {ds : List D} (h : m ρ = .ok d) (h2 : a ρ = .ok ds) : mCons m a ρ = .ok (d :: ds) := by unfold mCons; rw [h, R.bind_ok, h2]; rfl
theorem e_call {g : List D → Option D} {ds : List D} (h : a ρ = .ok ds) (h2 : g ds = some d) : mCall g a ρ = .ok d := by unfold mCall; rw [h, R.bind_ok, h2]; rfl
theorem e_def {f : MF} {ds : List D} {r : R D} (h : a ρ = .ok ds) (h2 : f ds = r) : mDef f a ρ = r := by unfold mDef; rw [h, R.bind_ok, h2]
theorem e_defL {f : MF} {ds : List D} {r : R D} (h : a ρ = .ok ds) (h2 : lfR (f ds) = r) : mDefL f a ρ = r := by unfold mDefL; rw [h, R.bind_ok, h2]
theorem e_neg {k : Int} (h : m ρ = .ok (.int k)) : mNeg m ρ = .ok (.int (-k)) := by unfold mNeg; rw [h]; rfl
theorem e_lf (h : m ρ = .ok d) (h2 : lf d = true) : mLf m ρ = .ok d := by unfold mLf; rw [h, R.bind_ok, if_pos h2]
theorem e_tru (h : m ρ = .ok d) (h2 : truD d = some b) : mTru m ρ = .ok b := by unfold mTru; rw [h, R.bind_ok, h2]; rfl
theorem e_not (h : t ρ = .ok b) : mNot t ρ = .ok (!b) := by unfold mNot; rw [h]; rfl
theorem e_and1 (h : t ρ = .ok true) : mAnd t t2 ρ = t2 ρ := by unfold mAnd; rw [h, R.bind_ok, if_pos rfl]
theorem e_and0 (h : t ρ = .ok false) : mAnd t t2 ρ = .ok false := by unfold mAnd; rw [h, R.bind_ok, if_neg Bool.false_ne_true]
theorem e_or1 (h : t ρ = .ok true) : mOr t t2 ρ = .ok true := by unfold mOr; rw [h, R.bind_ok, if_pos rfl]
theorem e_or0 (h : t ρ = .ok false) : mOr t t2 ρ = t2 ρ := by unfold mOr; rw [h, R.bind_ok, if_neg Bool.false_ne_true]
end
section
variable {ρ ρ' : Env} {d : D} {i j k : Nat} {m : ME} {t : MT} {s s2 : MS} {b : Bool} {e : Exn} {o : Out}
theorem s_seq (h : s ρ = .nx ρ') : mSeq s s2 ρ = s2 ρ' := by unfold mSeq; rw [h]
theorem s_seqR (h : s ρ = .rt d) : mSeq s s2 ρ = .rt d := by unfold mSeq; rw [h]
theorem s_seqE (h : s ρ = .err e ρ') : mSeq s s2 ρ = .err e ρ' := by unfold mSeq; rw [h]
theorem s_seqB (h : s ρ = .bk ρ') : mSeq s s2 ρ = .bk ρ' := by unfold mSeq; rw [h]
theorem s_seqC (h : s ρ = .ct ρ') : mSeq s s2 ρ = .ct ρ' := by unfold mSeq; rw [h]
theorem s_set (h : m ρ = .ok d) : mSet i m ρ = .nx (ρ.set i (.val d)) := by unfold mSet; rw [h]; rfl
theorem s_setE (h : m ρ = .err e) : mSet i m ρ = .err e ρ := by unfold mSet; rw [h]; rfl
theorem s_setO (h : m ρ = .ok d) : mSetO i m ρ = .nx (ρ.set i (slOf d)) := by unfold mSetO; rw [h]; rfl
theorem s_ret (h : m ρ = .ok d) : mRet m ρ = .rt d := by unfold mRet; rw [h]; rfl
theorem s_retE (h : m ρ = .err e) : mRet m ρ = .err e ρ := by unfold mRet; rw [h]; rfl
theorem s_drop (h : m ρ = .ok d) : mDrop m ρ = .nx ρ := by unfold mDrop; rw [h]; rfl
theorem s_dropE (h : m ρ = .err e) : mDrop m ρ = .err e ρ := by unfold mDrop; rw [h]; rfl
theorem s_if1 (h : t ρ = .ok true) : mIte t s s2 ρ = s ρ := by unfold mIte; rw [h, R.out_ok, if_pos rfl]
theorem s_if0 (h : t ρ = .ok false) : mIte t s s2 ρ = s2 ρ := by unfold mIte; rw [h, R.out_ok, if_neg Bool.false_ne_true]
theorem s_raise {mx : Env → R Exn} (h : mx ρ = .ok e) : mRaise mx ρ = .err e ρ := by unfold mRaise; rw [h]; rfl
theorem e_err {x : Str} {fs : List Str} {a : MA} {ds : List D} (h : a ρ = .ok ds) : mErr x fs a ρ = .ok ⟨x, fs.zip ds⟩ := by unfold mErr; rw [h]; rfl
theorem s_par {ma mb : ME} {d2 : D} (h : ma ρ = .ok d) (h2 : mb ρ = .ok d2) : mPar i j ma mb ρ = .nx ((ρ.set i (.val d)).set j (.val d2)) := by unfold mPar; rw [h, R.out_ok, h2]; rfl
end
theorem kMul_ok {i j : Int} (h1 : small i = true) (h2 : small j = true) : kMul i j = some (.int (i * j)) := by unfold kMul; rw [h1, h2]; rfl
theorem kDiv_ok {i j : Int} (h1 : 0 < j) (h2 : small j = true) : kDiv i j = some (.int (i / j)) := by unfold kDiv; rw [h2, decide_eq_true h1]; rfl
theorem kMod_ok {i j : Int} (h1 : 0 < j) : kMod i j = some (.int (i % j)) := by unfold kMod; rw [if_pos h1]
theorem small_of {i : Int} (h : i.natAbs < 2 ^ 8000) : small i = true := by
  unfold small
  refine decide_eq_true ?_
  by_cases z : i.natAbs = 0
  · rw [z]; decide
  · exact (Nat.log2_lt z).mpr h
/-- below 10^100 -/
def Sm (i : Int) : Prop := -(10 ^ 100) < i ∧ i < 10 ^ 100
theorem big : (10 : Nat) ^ 100 < 2 ^ 8000 := by decide +kernel
theorem Sm.ok {i : Int} (h : Sm i) : small i = true := by
  obtain ⟨h1, h2⟩ := h
  refine small_of (Nat.lt_trans ?_ big)
  omega
/-! ### by simp -/
def farR (b : Bool) (ds : List D) : R (List D) := if b = true then .ok ds else .bad
def szN (b : Bool) (o : Out) : Out := if b = true then o else .bad
def szM (b : Bool) (r : R D) : R D := if b = true then r else .bad
@[simp] theorem farR_t {ds : List D} : farR true ds = .ok ds := rfl
@[simp] theorem szN_t {o : Out} : szN true o = o := rfl
@[simp] theorem szM_t {r : R D} : szM true r = r := rfl
section
variable {ρ : Env} {i j n : Nat} {m ma mb md mk : ME} {t t2 : MT} {a : MA} {b s s2 : MS} {d : D} {ds es : List D} {g g' : D → D → Option D} {f : MF} {fr : Bool} {N : Nat} {nms : List Str} {mi : MI} {mg : MG}
@[simp] theorem x_V : mV i ρ = (match ρ[i]? with | some (.val d) => .ok d | _ => .bad) := rfl
@[simp] theorem x_O : mO i ρ = (match ρ[i]? with | some (.lst ds) => .ok (.lst ds) | some (.dic t ds) => .ok (.dic t ds) | _ => .bad) := rfl
@[simp] theorem x_bin : mBin g ma mb ρ = (ma ρ).bind fun x => (mb ρ).bind fun y => R.of (g x y) := rfl
@[simp] theorem x_bool : mBool m ρ = (m ρ).bind fun d => (match d with | .bl b => .ok b | _ => .bad) := rfl
@[simp] theorem x_tup : mTup a ρ = (a ρ).bind fun ds => .ok (.tup ds) := rfl
@[simp] theorem x_lst : mLst a ρ = (a ρ).bind fun ds => .ok (.lst ds) := rfl
@[simp] theorem x_cons : mCons m a ρ = (m ρ).bind fun x => (a ρ).bind fun xs => .ok (x :: xs) := rfl
@[simp] theorem x_call {g : List D → Option D} : mCall g a ρ = (a ρ).bind fun ds => R.of (g ds) := rfl
@[simp] theorem x_def : mDef f a ρ = (a ρ).bind f := rfl
@[simp] theorem x_defL : mDefL f a ρ = (a ρ).bind fun ds => lfR (f ds) := rfl
@[simp] theorem x_defD : mDefD f es a ρ = (a ρ).bind fun ds => f (ds ++ es) := rfl
@[simp] theorem x_defK {gd : List D → List D → List D} {a2 : MA} : mDefK f gd a a2 ρ = (a ρ).bind fun ds => (a2 ρ).bind fun es => f (gd ds es) := rfl
@[simp] theorem x_neg : mNeg m ρ = (m ρ).bind fun d => (match d with | .int i => .ok (.int (-i)) | _ => .bad) := rfl
@[simp] theorem x_lf : mLf m ρ = (m ρ).bind fun d => if lf d = true then .ok d else .bad := rfl
@[simp] theorem x_tru : mTru m ρ = (m ρ).bind fun d => R.of (truD d) := rfl
@[simp] theorem x_not : mNot t ρ = (t ρ).bind fun k => .ok (!k) := rfl
@[simp] theorem x_and : mAnd t t2 ρ = (t ρ).bind fun k => if k = true then t2 ρ else .ok false := rfl
@[simp] theorem x_or : mOr t t2 ρ = (t ρ).bind fun k => if k = true then .ok true else t2 ρ := rfl
@[simp] theorem x_andV : mAndV ma mb ρ = (ma ρ).bind fun d => (match d with | .bl true => mb ρ | .bl false => .ok (.bl false) | _ => .bad) := rfl
@[simp] theorem x_orV : mOrV ma mb ρ = (ma ρ).bind fun d => (match d with | .bl true => .ok (.bl true) | .bl false => mb ρ | _ => .bad) := rfl
@[simp] theorem x_notV : mNotV ma ρ = (ma ρ).bind fun d => (match d with | .bl k => .ok (.bl (!k)) | _ => .bad) := rfl
@[simp] theorem x_if : mIf t ma mb ρ = (t ρ).bind fun k => if k = true then ma ρ else mb ρ := rfl
@[simp] theorem x_isi {T : String} : mIsi T m ρ = (m ρ).bind fun d => (match tyD d with | some t => .ok (.bl (isiB t T)) | none => .bad) := rfl
@[simp] theorem x_chain : mChain g g' ma mb md ρ = (ma ρ).bind fun x => (mb ρ).bind fun y => (match g x y with | some (.bl true) => (md ρ).bind fun z => R.of (g' y z) | some (.bl false) => .ok (.bl false) | _ => .bad) := rfl
@[simp] theorem x_sl {l h : MO} : mSl m l h ρ = (m ρ).bind fun d => (l ρ).bind fun i => (h ρ).bind fun j => (match d with | .lst ds => .ok (.lst (cutD ds i j)) | _ => .bad) := rfl
@[simp] theorem x_no : mNo ρ = .ok none := rfl
@[simp] theorem x_part : mPart m ρ = (m ρ).bind fun d => (match d with | .int i => .ok (some i) | _ => .bad) := rfl
@[simp] theorem x_X {f : Exn → R D} : mX nms i f ρ = (match ρ[i]? with | some (.exc x) => if nms.contains x.c then f x else .bad | _ => .bad) := rfl
@[simp] theorem x_defX {f : Exn → R D} : mDefX i f ρ = (match ρ[i]? with | some (.exc x) => (match f x with | .ok d => .ok d | _ => .bad) | _ => .bad) := rfl
@[simp] theorem x_seq : mSeq s s2 ρ = (match s ρ with | .nx ρ' => s2 ρ' | o => o) := rfl
@[simp] theorem x_set : mSet i m ρ = (m ρ).out ρ fun d => .nx (ρ.set i (.val d)) := rfl
@[simp] theorem x_setO : mSetO i m ρ = (m ρ).out ρ fun d => .nx (ρ.set i (slOf d)) := rfl
@[simp] theorem x_drop : mDrop m ρ = (m ρ).out ρ fun _ => .nx ρ := rfl
@[simp] theorem x_ite : mIte t s s2 ρ = (t ρ).out ρ fun k => if k = true then s ρ else s2 ρ := rfl
@[simp] theorem x_ret : mRet m ρ = (m ρ).out ρ fun d => .rt d := rfl
@[simp] theorem x_retO : mRetO i ρ = (match ρ[i]? with | some (.lst ds) => .rt (.lst ds) | some (.dic t ds) => .rt (.dic t ds) | _ => .bad) := rfl
@[simp] theorem x_raise {mx : Env → R Exn} : mRaise mx ρ = (mx ρ).out ρ fun x => .err x ρ := rfl
@[simp] theorem x_err {x : Str} {fs : List Str} : mErr x fs a ρ = (a ρ).bind fun ds => .ok ⟨x, fs.zip ds⟩ := rfl
@[simp] theorem x_par : mPar i j ma mb ρ = (ma ρ).out ρ fun d => (mb ρ).out ρ fun d2 => .nx ((ρ.set i (.val d)).set j (.val d2)) := rfl
@[simp] theorem x_asg : mAsg m mg ρ = (m ρ).out ρ fun d => (match mg d ρ with | some ρ' => .nx ρ' | none => .bad) := rfl
@[simp] theorem x_gSet : gSet i d ρ = some (ρ.set i (.val d)) := rfl
@[simp] theorem x_gTup {m : MGs} : gTupM n m (.tup ds) ρ = if ds.length = n then m ds ρ else none := rfl
@[simp] theorem x_gsNil : gsNil [] ρ = some ρ := rfl
@[simp] theorem x_gsCons {r : MGs} : gsCons mg r (d :: ds) ρ = (mg d ρ).bind fun ρ' => r ds ρ' := rfl
@[simp] theorem x_app : mApp i m ρ = (match ρ[i]? with | some (.lst ds) => (m ρ).out ρ fun d => szN (szOk ds.length) (.nx (ρ.set i (.lst (ds ++ [d])))) | _ => .bad) := rfl
@[simp] theorem x_frz : mFrz i ρ = (match ρ[i]? with | some (.lst ds) => .nx (ρ.set i (.val (.lst ds))) | some (.dic t ds) => .nx (ρ.set i (.val (.dic t ds))) | _ => .bad) := rfl
@[simp] theorem x_for : mFor mi mg b ρ = (mi ρ).out ρ fun ds => forL mg b ds ρ := rfl
@[simp] theorem x_items : mItems m ρ = (m ρ).bind fun d => (match d with | .lst ds => .ok ds | _ => .bad) := rfl
@[simp] theorem x_itemsT : mItemsT m ρ = (m ρ).bind fun d => (match d with | .tup ds => .ok ds | _ => .bad) := rfl
@[simp] theorem x_range1 : mRange1 m ρ = (m ρ).bind fun d => (match d with | .int n => farR (farOk n) (rangeD 0 n) | _ => .bad) := rfl
@[simp] theorem x_range2 : mRange2 ma mb ρ = (ma ρ).bind fun d => (mb ρ).bind fun d2 => (match d, d2 with | .int i, .int j => farR (farOk i && farOk j) (rangeD i j) | _, _ => .bad) := rfl
@[simp] theorem x_lc : mLc i mi t m ρ = (mi ρ).bind fun ds => szM (szOk ds.length) ((lcL i t m ds ((noExc ρ).set i .no)).bind fun ys => .ok (.lst ys)) := rfl
@[simp] theorem x_mfn : mfn fr N b ds = (b (ent N ds)).res fr := rfl
@[simp] theorem x_mfnX {x : Exn} : mfnX N b x = (b (entX N x)).res false := rfl
@[simp] theorem x_ent : ent N ds = ds.map .val ++ List.replicate (N - ds.length) .no := rfl
@[simp] theorem x_entX {x : Exn} : entX N x = .exc x :: List.replicate (N - 1) .no := rfl
@[simp] theorem r_rt : (Out.rt d).res fr = .ok d := rfl
@[simp] theorem r_nx : (Out.nx ρ).res false = .ok .non := rfl
@[simp] theorem r_err {x : Exn} : (Out.err x ρ).res fr = .err x := rfl
@[simp] theorem x_mYes : mYes ρ = .ok true := rfl
@[simp] theorem l_ok (h : lf d = true) : lfR (.ok d) = .ok d := by unfold lfR; simp [h]
@[simp] theorem x_noE1 : noE (.val d) = .val d := rfl
@[simp] theorem x_noE2 : noE .no = .no := rfl
@[simp] theorem x_noE3 : noE (.lst ds) = .lst ds := rfl
@[simp] theorem x_sl1 : slOf (.lst ds) = .lst ds := rfl
end
/-! ### loops -/
/-- while, with a measure -/
theorem while_run {t : MT} {body : MS} {I : Nat → Env → Prop} {Q : Env → Prop} (h : ∀ k ρ, I k ρ → (t ρ = .ok false ∧ Q ρ) ∨ (t ρ = .ok true ∧ ∃ ρ' k', body ρ = .nx ρ' ∧ k' < k ∧ I k' ρ')) :
    ∀ (n k : Nat) (ρ : Env), I k ρ → k < n → ∃ ρ', whileL t body n ρ = .nx ρ' ∧ Q ρ'
  | 0, k, ρ, _, hk => absurd hk (Nat.not_lt_zero _)
  | n + 1, k, ρ, i, hk => by
    rcases h k ρ i with ⟨h1, q⟩ | ⟨h1, ρ', k', h2, h3, h4⟩
    · exact ⟨ρ, by unfold whileL; rw [h1], q⟩
    · obtain ⟨ρ2, e, q⟩ := while_run h n k' ρ' h4 (by omega)
      exact ⟨ρ2, by unfold whileL; rw [h1]; dsimp only; rw [h2]; exact e, q⟩
/-- for with a break, with a measure; i the turn -/
theorem for_brk {g : MG} {body : MS} {ds : List D} {I : Nat → Nat → Env → Prop} {Q : Env → Prop} (h : ∀ i k ρ d, I i k ρ → ds[i]? = some d → ∃ ρ1, g d ρ = some ρ1 ∧ ((∃ ρ2, body ρ1 = .bk ρ2 ∧ Q ρ2) ∨ ∃ ρ2 k', body ρ1 = .nx ρ2 ∧ k' < k ∧ I (i + 1) k' ρ2)) :
    ∀ (m i k : Nat) (ρ : Env), m = ds.length - i → I i k ρ → k < m → ∃ ρ', forL g body (ds.drop i) ρ = .nx ρ' ∧ Q ρ'
  | 0, i, k, ρ, _, _, hk => absurd hk (Nat.not_lt_zero _)
  | m + 1, i, k, ρ, hm, hi, hk => by
    have hlt : i < ds.length := by omega
    rw [List.drop_eq_getElem_cons hlt]
    obtain ⟨ρ1, e1, h1⟩ := h i k ρ _ hi (List.getElem?_eq_getElem hlt)
    rcases h1 with ⟨ρ2, e2, q⟩ | ⟨ρ2, k', e2, hk', i2⟩
    · exact ⟨ρ2, by unfold forL; rw [e1]; dsimp only; rw [e2], q⟩
    · obtain ⟨ρ3, e3, q⟩ := for_brk h m (i + 1) k' ρ2 (by omega) i2 (by omega)
      exact ⟨ρ3, by unfold forL; rw [e1]; dsimp only; rw [e2]; exact e3, q⟩
/-- for, each turn going on -/
theorem for_all {g : MG} {body : MS} {ds : List D} {I : Nat → Env → Prop} (h : ∀ i ρ d, I i ρ → ds[i]? = some d → ∃ ρ1, g d ρ = some ρ1 ∧ ∃ ρ2, body ρ1 = .nx ρ2 ∧ I (i + 1) ρ2) :
    ∀ (m i : Nat) (ρ : Env), m = ds.length - i → i ≤ ds.length → I i ρ → ∃ ρ', forL g body (ds.drop i) ρ = .nx ρ' ∧ I ds.length ρ'
  | 0, i, ρ, hm, hl, hi => by
    have e : i = ds.length := by omega
    subst e
    rw [List.drop_length]
    exact ⟨ρ, rfl, hi⟩
  | m + 1, i, ρ, hm, hl, hi => by
    have hlt : i < ds.length := by omega
    rw [List.drop_eq_getElem_cons hlt]
    obtain ⟨ρ1, e1, ρ2, e2, i2⟩ := h i ρ _ hi (List.getElem?_eq_getElem hlt)
    obtain ⟨ρ3, e3, q⟩ := for_all h m (i + 1) ρ2 (by omega) (by omega) i2
    exact ⟨ρ3, by unfold forL; rw [e1]; dsimp only; rw [e2]; exact e3, q⟩
theorem for_all0 {g : MG} {body : MS} {ds : List D} {ρ : Env} {I : Nat → Env → Prop} (h : ∀ i ρ d, I i ρ → ds[i]? = some d → ∃ ρ1, g d ρ = some ρ1 ∧ ∃ ρ2, body ρ1 = .nx ρ2 ∧ I (i + 1) ρ2) (h0 : I 0 ρ) : ∃ ρ', forL g body ds ρ = .nx ρ' ∧ I ds.length ρ' := by
  have z := for_all h ds.length 0 ρ (by omega) (Nat.zero_le _) h0
  rw [List.drop_zero] at z
  exact z
theorem for_brk0 {g : MG} {body : MS} {ds : List D} {ρ : Env} {k : Nat} {I : Nat → Nat → Env → Prop} {Q : Env → Prop} (h : ∀ i k ρ d, I i k ρ → ds[i]? = some d → ∃ ρ1, g d ρ = some ρ1 ∧ ((∃ ρ2, body ρ1 = .bk ρ2 ∧ Q ρ2) ∨ ∃ ρ2 k', body ρ1 = .nx ρ2 ∧ k' < k ∧ I (i + 1) k' ρ2)) (h0 : I 0 k ρ) (hk : k < ds.length) : ∃ ρ', forL g body ds ρ = .nx ρ' ∧ Q ρ' := by
  have z := for_brk h ds.length 0 k ρ (by omega) h0 hk
  rw [List.drop_zero] at z
  exact z
end Fx

-- FxH
set_option Elab.async false
set_option linter.all false
set_option maxRecDepth 100000
set_option maxHeartbeats 2000000
/-! FxH: the head's facts, read by a Hook: defs, own errors. -/
namespace FxHd
open PySem PySem.Spec PyProof.Rows L2 He
abbrev Fg := PySem.W.Frag
def asX (g : Addr → Option Obj) : Nat → List Addr
  | 0 => [mainGlobals, cStatics]
  | n + 1 => growD g (asX g n)
abbrev ErrW : Type := Option (Str × Str × Arguments × FuncBody × Scope × Addr × List Str × Value × Addr)
def iAd (K : Fg) (x : Str) : Addr := ma K (ga K x) "__init__"
def errW (K : Fg) (x : Str) : ErrW := match K.lookup (iAd K x) with
  | some ⟨_, _, .func fd, _⟩ => some (fd.name, fd.qualname, fd.params, fd.body, fd.scope, fd.globals, fd.closure.map (·.1), fd.defaults, fd.builtins)
  | _ => none
/-- an own error: its name, its __init__'s qualified name, its text, its fields -/
structure ErrD where
  x : Str
  qual : Str
  st : Stmt
  fs : List Str
def ErrD.val (e : ErrD) : ErrW := some ("__init__", e.qual, defArgs e.st, .stmts (defBody e.st), defScope e.st, mainGlobals, ["__class__"], .none, builtinsNs)
def clsB (K : Fg) (C : Addr) : Bool := match K.lookup C with
  | some ⟨.type t, _, .cls cd, sl⟩ => decide (t = "type") && ((match cd.mro with
    | .ref C' :: bm => decide (C' = C) && PySem.HandSPX.refsVE bm
    | _ => false) && (cd.hasDict && (!cd.hasDel && (match sl.toList with
    | [_, _, _, _, some (.builtin n), _] => decide (n = "ValueError.__new__")
    | _ => false))))
  | _ => false
def codeB (K : Fg) (file : Str) (C : Addr) (fI : Addr) : Bool := match K.lookup fI with
  | some ⟨_, _, .func fd, _⟩ => PySem.W.codeIn K fd.code fd.qualname && ((match fd.code with
    | .ref cda => (match K.lookup cda with
      | some ⟨_, _, .fields vs, _⟩ => (match (vs[2]? : Option Value) with
        | some (Value.str f _) => file == f
        | _ => false)
      | _ => false)
    | _ => false) && (match fd.closure with
    | [(_, cc)] => (match K.lookup cc with
      | some ⟨_, _, .cell (some (.ref D)), _⟩ => decide (D = C)
      | _ => false)
    | _ => false))
  | _ => false
def errB (K : Fg) (file : Str) (x : Str) (fs : List Str) : Bool :=
  clsB K (ga K x) && (eqO (PySem.W.nsIn K mainGlobals x) (some (some (.ref (ga K x)))) && (eqO (PySem.W.findIn K (.ref (ga K x)) "__setattr__") (some (some (.builtin "object.__setattr__"))) && ((fs.all fun f => eqO (PySem.W.findIn K (.ref (ga K x)) f) (some none)) &&
  (eqO (PySem.W.findIn K (.ref (ga K x)) "__init__") (some (some (.ref (iAd K x)))) && (decide (PySem.W.typeIn K (.ref (iAd K x)) = some (.type "function")) && (PySem.W.keepIn K (.ref (ga K x)) && (decide (PySem.W.subIn K (.ref (ga K x)) (.type "BaseException") = some true) &&
  (decide (PySem.W.typeIn K (.ref (ga K x)) = some (.type "type")) && (PySem.W.excInitIn K (ga K x) veBase "ValueError.__new__" && (eqO (PySem.W.ks_superIn K (ga K x) (ga K x) "__init__") (some (some (.builtin "ValueError.__init__"))) &&
  (decide (PySem.W.subIn K (.ref (ga K x)) (.type "ValueError") = some true) && (decide (PySem.W.mroIn K (ga K x) (.ref (ga K x)) = some true) && codeB K file (ga K x) (iAd K x)))))))))))))
/-- what the text of such an __init__ says -/
structure InitT (e : ErrD) : Prop where
  b : FxEr.InitB e.qual (defScope e.st) e.fs (defBody e.st)
  ar : ∃ ar, ((defArgs e.st).posonlyargs ++ (defArgs e.st).args).head? = some ar ∧ ar.arg = ("self" : Str)
  nc : ∀ y ∈ (defScope e.st).names, y.2 ≠ .cell
  co : (defScope e.st).isCoroutine = false
  gen : (defScope e.st).isGenerator = false
  kind : (defScope e.st).kind = .function
  sup : (defScope e.st).names.lookup ("super" : Str) = some .globalImplicit
  cls : (defScope e.st).names.lookup ("__class__" : Str) = some .free
  self : (defScope e.st).names.lookup ("self" : Str) = some .local
  fld : ∀ f ∈ e.fs, (defScope e.st).names.lookup f = some .local ∧ f ≠ ("self" : Str) ∧ (f == ("__debug__" : Str)) = false
  bind : ∀ (kV doc pm ct : Value) (an : Option Addr) (cda cc : Addr) (us : List Value), us.length = e.fs.length + 1 → bindArgs (PySem.W.ksFn "__init__" e.qual (defArgs e.st) (defBody e.st) (defScope e.st) .none kV doc pm an (.ref cda) ct cc) ⟨us, []⟩ = pure ((("self" : Str) :: e.fs).zip us)
section
variable {K : Fg} {mg : Str → Option Value} {prog : Program}
theorem clsB_ok {C : Addr} (h : clsB K C = true) : ∃ nm q N bs bm sn sub ab col dd k0 k1 k2 k3 k5, K.lookup C = some (excClassObj nm q C N bs bm true sn sub ab col dd k0 k1 k2 k3 k5 "ValueError.__new__") ∧ PySem.HandSPX.refsVE bm = true := by
  unfold clsB at h
  split at h
  · rename_i t dd cd sl e
    obtain ⟨h1, h⟩ := ba h
    obtain ⟨h2, h⟩ := ba h
    obtain ⟨h3, h⟩ := ba h
    obtain ⟨h4, h5⟩ := ba h
    have h1 := of_decide_eq_true h1
    subst h1
    obtain ⟨nm, bs, mro, ns, qn, hd, sn, sb, ab, col, del⟩ := cd
    dsimp only at h2 h3 h4
    cases mro with
    | nil => cases h2
    | cons v bm =>
      cases v with
      | ref C' =>
        obtain ⟨e1, e2⟩ := ba h2
        have e1 := of_decide_eq_true e1
        subst e1
        have h4 : del = false := by cases del <;> first | rfl | cases h4
        subst h3 h4
        obtain ⟨l⟩ := sl
        match l, h5 with
        | [a, b, c, d, some (.builtin n), k], h5 =>
          have e3 := of_decide_eq_true h5
          subst e3
          exact ⟨nm, qn, ns, bs, bm, sn, sb, ab, col, dd, a, b, c, d, k, e, e2⟩
      | _ => cases h2
  · cases h
theorem err_ok {h : Heap} {e : ErrD} (X : K.In h) (G : h.Ns mainGlobals mg) (hb : errB K prog.main.file e.x e.fs = true) (hw : errW K e.x = e.val) (T : InitT e) (hsup : PySem.W.nsIn K mainGlobals "super" = some none) (ho : PySem.W.nsIn K cStatics "thirdparty.any" = some none) (htop : (prog.main.scope.names.lookup ("super" : Str)).isSome = false) :
    FxEr.Txt prog K mg e.x (ga K e.x) (iAd K e.x) e.fs := by
  unfold errB at hb
  obtain ⟨c0, hb⟩ := ba hb
  obtain ⟨c1, hb⟩ := ba hb
  obtain ⟨c2, hb⟩ := ba hb
  obtain ⟨c3, hb⟩ := ba hb
  obtain ⟨c4, hb⟩ := ba hb
  obtain ⟨c5, hb⟩ := ba hb
  obtain ⟨c6, hb⟩ := ba hb
  obtain ⟨c7, hb⟩ := ba hb
  obtain ⟨c8, hb⟩ := ba hb
  obtain ⟨c9, hb⟩ := ba hb
  obtain ⟨c10, hb⟩ := ba hb
  obtain ⟨c11, hb⟩ := ba hb
  obtain ⟨c12, c13⟩ := ba hb
  refine ⟨PySem.W.mg_of X G (eqO_ok c1), clsB_ok c0, eqO_ok c2, fun f hf => eqO_ok (List.all_eq_true.mp c3 f hf), eqO_ok c4, of_decide_eq_true c5, c6, of_decide_eq_true c7, of_decide_eq_true c8, c9, eqO_ok c10, of_decide_eq_true c11, of_decide_eq_true c12, hsup, ho, htop, ?_⟩
  unfold codeB at c13
  unfold errW at hw
  cases q : K.lookup (iAd K e.x) with
  | none => rw [q] at c13; cases c13
  | some o =>
    obtain ⟨oc, od, dt, osl⟩ := o
    rw [q] at c13 hw
    cases dt with
    | func fd =>
      obtain ⟨n1, n2, n3, n4, n5, n6, n7, n8, n9, n10, n11, n12, n13, n14, n15⟩ := fd
      have e2 : (some (n1, n2, n3, n4, n5, n6, n7.map (·.1), n8, n15) : ErrW) = (some (("__init__" : Str), e.qual, defArgs e.st, FuncBody.stmts (defBody e.st), defScope e.st, mainGlobals, [("__class__" : Str)], Value.none, builtinsNs) : ErrW) := hw
      simp only [Option.some.injEq, Prod.mk.injEq] at e2
      obtain ⟨h1, h2, h3, h4, h5, h6, h7, h8, h9⟩ := e2
      subst h1 h2 h3 h4 h5 h6 h8 h9
      dsimp only at c13
      obtain ⟨k1, c13⟩ := ba c13
      obtain ⟨k2, k3⟩ := ba c13
      cases n13 with
      | ref cda =>
        dsimp only at k2
        cases q2 : K.lookup cda with
        | none => rw [q2] at k2; cases k2
        | some oc2 =>
          obtain ⟨ccl, cdd, cdt, ccs⟩ := oc2
          rw [q2] at k2
          cases cdt with
          | fields vs =>
            dsimp only at k2
            cases q3 : vs[2]? with
            | none => rw [q3] at k2; cases k2
            | some fv =>
              rw [q3] at k2
              cases fv with
              | str f tf =>
                match n7, h7, k3 with
                | [(nn, cc)], h7, k3 =>
                  have hn : nn = ("__class__" : Str) := by
                    have z : [nn] = [("__class__" : Str)] := h7
                    injection z
                  subst hn
                  dsimp only at k3
                  cases q4 : K.lookup cc with
                  | none => rw [q4] at k3; cases k3
                  | some o4 =>
                    obtain ⟨cl, cld, cdt4, csl⟩ := o4
                    rw [q4] at k3
                    cases cdt4 with
                    | cell v =>
                      cases v with
                      | none => cases k3
                      | some v =>
                        cases v with
                        | ref D =>
                          have eD := of_decide_eq_true k3
                          subst eD
                          obtain ⟨ar, ha1, ha2⟩ := T.ar
                          exact ⟨oc, od, osl, e.qual, defArgs e.st, defBody e.st, defScope e.st, n9, n10, n11, n14, n12, cda, cc, ccl, cdd, vs, ccs, f, tf, cl, cld, csl, ar, rfl, k1, q2, q3, k2, q4, T.b, ha1, ha2, T.nc, T.co, T.gen, T.kind, T.sup, T.cls, T.self, T.fld, T.bind n9 n10 n11 n14 n12 cda cc⟩
                        | _ => cases k3
                    | _ => cases k3
              | _ => cases k2
          | _ => cases k2
      | _ => cases k2
    | _ => cases c13
/-! ### the errors as the suites look at them -/
def excB (K : Fg) (D : Addr) : Bool := eqO (PySem.W.findIn K (.ref D) "__getattribute__") (some (some (.builtin "BaseException.__getattribute__"))) && (eqO (PySem.W.findIn K (.ref D) "__getattr__") (some none) && (decide (PySem.W.subIn K (.ref D) (.type "BaseException") = some true) && (PySem.W.hasDictIn K D &&
  (eqO (PySem.W.findIn K (.ref D) "__class__") (some (some (.builtin "object.__class__"))) && (eqO (PySem.W.specialIn K (.builtin "object.__class__") "__get__") (some (some (.builtin "getset_descriptor.__get__"))) && (decide (PySem.W.takesIn K (.builtin "object.__class__") = some true) && decide (PySem.W.mroIn K D (.type "object") = some true)))))))
theorem excB_ok {D : Addr} (h : excB K D = true) : ExcC K D ∧ XfC K D := by
  obtain ⟨h1, h⟩ := ba h
  obtain ⟨h2, h⟩ := ba h
  obtain ⟨h3, h⟩ := ba h
  obtain ⟨h4, h⟩ := ba h
  obtain ⟨h5, h⟩ := ba h
  obtain ⟨h6, h⟩ := ba h
  obtain ⟨h7, h8⟩ := ba h
  exact ⟨⟨eqO_ok h1, eqO_ok h2, of_decide_eq_true h3, h4, eqO_ok h5, eqO_ok h6, of_decide_eq_true h7, of_decide_eq_true h8⟩, ⟨eqO_ok h1, eqO_ok h2, of_decide_eq_true h3, h4⟩⟩
/-- all of them: fl the fields that are read, top their common class -/
def allB (K : Fg) (nms : List Str) (fl : List Str) (top : Str) : Bool := nms.all fun c => eqO (PySem.W.nsIn K mainGlobals c) (some (some (.ref (ga K c)))) && (excB K (ga K c) && ((nms.all fun T => decide (PySem.W.kitOne K (.ref (ga K c)) (.ref (ga K T)) = some (c == T))) &&
  (decide (PySem.W.kitOne K (.ref (ga K c)) (.type "ValueError") = some true) && ((fl.all fun f => eqO (PySem.W.findIn K (.ref (ga K c)) f) (some none)) && decide (PySem.W.exmOne K (.ref (ga K c)) (.ref (ga K top)) = some true)))))
theorem all_ok {h : Heap} {nms fl : List Str} {top : Str} (X : K.In h) (G : h.Ns mainGlobals mg) (hb : allB K nms fl top = true) : Fx.ErrK K mg nms ∧ (∀ f ∈ fl, ∀ c ∈ nms, ∀ D, mg c = some (.ref D) → PySem.W.findIn K (.ref D) f = some none) ∧ ∀ c ∈ nms, ∀ D, mg c = some (.ref D) → PySem.W.exmOne K (.ref D) (.ref (ga K top)) = some true := by
  have one : ∀ c ∈ nms, mg c = some (.ref (ga K c)) ∧ ExcC K (ga K c) ∧ XfC K (ga K c) ∧ (∀ T ∈ nms, PySem.W.kitOne K (.ref (ga K c)) (.ref (ga K T)) = some (c == T)) ∧ PySem.W.kitOne K (.ref (ga K c)) (.type "ValueError") = some true ∧ (∀ f ∈ fl, PySem.W.findIn K (.ref (ga K c)) f = some none) ∧ PySem.W.exmOne K (.ref (ga K c)) (.ref (ga K top)) = some true := fun c hc => by
    have z := List.all_eq_true.mp hb c hc
    obtain ⟨z1, z⟩ := ba z
    obtain ⟨z2, z⟩ := ba z
    obtain ⟨z3, z⟩ := ba z
    obtain ⟨z4, z⟩ := ba z
    obtain ⟨z5, z6⟩ := ba z
    obtain ⟨w1, w2⟩ := excB_ok z2
    exact ⟨PySem.W.mg_of X G (eqO_ok z1), w1, w2, fun T hT => of_decide_eq_true (List.all_eq_true.mp z3 T hT), of_decide_eq_true z4, fun f hf => eqO_ok (List.all_eq_true.mp z5 f hf), of_decide_eq_true z6⟩
  have adr : ∀ c ∈ nms, ∀ D, mg c = some (.ref D) → D = ga K c := fun c hc D e => by
    rw [(one c hc).1] at e
    exact (Value.ref.inj (Option.some.inj e)).symm
  refine ⟨⟨fun c hc => ?_⟩, fun f hf c hc D e => ?_, fun c hc D e => ?_⟩
  · obtain ⟨o1, o2, o3, o4, o5, o6, o7⟩ := one c hc
    exact ⟨_, o1, o2, o3, fun T hT A e => by rw [adr T hT A e]; exact o4 T hT, o5⟩
  · rw [adr c hc D e]; exact (one c hc).2.2.2.2.2.1 f hf
  · rw [adr c hc D e]; exact (one c hc).2.2.2.2.2.2
end
/-! ### the Hook -/
abbrev AlX : Type := Bool × List FnW × List ErrW
/-- what the head looks at -/
structure Plan where
  fa : List Fa
  fn : List DefD
  er : List ErrD
  nms : List Str
  fl : List Str
  top : Str
  file : Str
  blt : List (Str × String)
def Plan.chk (p : Plan) (K : Fg) : Bool := (p.fa.all fun f => f.ok K) && ((p.fn.all fun d => d.ok K) && ((p.er.all fun e => errB K p.file e.x e.fs) && (allB K p.nms p.fl p.top && ((p.blt.all fun b => eqO (PySem.W.nsIn K mainGlobals b.1) (some (some (.builtin b.2)))) && (eqO (PySem.W.nsIn K mainGlobals "super") (some none) && eqO (PySem.W.nsIn K cStatics "thirdparty.any") (some none))))))
def obsX (p : Plan) (K : Fg) : AlX := (p.chk K, p.fn.map fun d => fnW K d.at_, p.er.map fun e => errW K e.x)
def valX (p : Plan) : AlX := (true, p.fn.map DefD.val, p.er.map ErrD.val)
def SaysX (p : Plan) (K : Fg) : Prop := obsX p K = valX p
/-- a list object: left out of the part of the heap that is told (the script is one) -/
def isL (o : Obj) : Bool := match o.data with
  | .seq _ _ => (match o.cls with
    | .type t => decide (t = "list")
    | _ => false)
  | _ => false
def noL (g : Addr → Option Obj) : Addr → Option Obj := fun a => match g a with
  | some o => if isL o = true then none else some o
  | none => none
theorem noL_at {g : Addr → Option Obj} {a : Addr} {o : Obj} (h : noL g a = some o) : g a = some o ∧ isL o = false := by
  unfold noL at h
  cases e : g a with
  | none => rw [e] at h; cases h
  | some o2 =>
    rw [e] at h
    dsimp only at h
    cases z : isL o2 with
    | true => rw [z, if_pos rfl] at h; cases h
    | false => rw [z, if_neg Bool.false_ne_true] at h; cases h; exact ⟨rfl, z⟩
def NoL (K : Fg) : Prop := ∀ (a : Addr) (o : Obj), K.lookup a = some o → isL o = false
theorem NoL.sq {K : Fg} (n : NoL K) {H : Hp} {a : Addr} {xs : List V} (h : SqL K H a xs) : Rd H a (.lst xs) := by
  rcases h with h | ⟨o, its, k, e1, e2, e3, e4, _⟩
  · exact h
  · have z := n a o e1
    unfold isL at z
    rw [e4, e2] at z
    have z2 : decide (("list" : String) = "list") = false := z
    rw [decide_eq_true rfl] at z2
    cases z2
def obsXG (n : Nat) (p : Plan) (g : Addr → Option Obj) : AlX := obsX p (frG (noL g) (asX (noL g) n))
def hookX (n : Nat) (p : Plan) : PySem.W.Hook where
  α := AlX
  obs := fun s => obsXG n p s.heap.get?
  val := fun _ => valX p
  says := fun _ h => ∃ K : Fg, K.In h ∧ SaysX p K ∧ NoL K
  of := fun _ _ e => ⟨_, fun _ _ z => (noL_at (frG_at _ z)).1, e, fun _ _ z => (noL_at (frG_at _ z)).2⟩
  keeps := fun _ _ _ ⟨K, hK, c, n⟩ k => ⟨K, PySem.W.Frag.In.keeps hK k, c, n⟩
theorem obsXG_eq {n : Nat} {p : Plan} {g : Addr → Option Obj} {s : Shared} (h : ∀ a, g a = s.heap.get? a) : obsXG n p g = (hookX n p).obs s := by
  have e : g = s.heap.get? := funext h
  rw [e] <;> rfl
section
variable {p : Plan} {K : Fg}
theorem SaysX.chk (c : SaysX p K) : p.chk K = true := congrArg (fun z : AlX => z.1) c
theorem SaysX.fact (c : SaysX p K) (i : Nat) {f : Fa} (h : p.fa[i]? = some f := by rfl) : f.ok K = true := List.all_eq_true.mp (ba c.chk).1 f (List.mem_of_getElem? h)
theorem SaysX.def_ (c : SaysX p K) (i : Nat) {d : DefD} (h : p.fn[i]? = some d := by rfl) : ∃ fd, FunD K d.name d.qual d.params d.body d.scope (d.dvs K) (d.kws K) (fAd K d.at_) fd := by
  have c2 := (ba (ba c.chk).2).1
  have e : p.fn.map (fun d => fnW K d.at_) = p.fn.map DefD.val := congrArg (fun z : AlX => z.2.1) c
  have e2 : (p.fn.map fun d => fnW K d.at_)[i]? = (p.fn.map DefD.val)[i]? := by rw [e]
  rw [List.getElem?_map, List.getElem?_map, h] at e2
  exact DefD.funD (Option.some.inj e2) (List.all_eq_true.mp c2 d (List.mem_of_getElem? h))
theorem SaysX.err {prog : Program} {mg : Str → Option Value} {h : Heap} (c : SaysX p K) (X : K.In h) (G : h.Ns mainGlobals mg) (hfile : p.file = prog.main.file) (htop : (prog.main.scope.names.lookup ("super" : Str)).isSome = false) (i : Nat) {e : ErrD} (T : InitT e) (he : p.er[i]? = some e := by rfl) :
    FxEr.Txt prog K mg e.x (ga K e.x) (iAd K e.x) e.fs := by
  obtain ⟨k1, c2⟩ := ba (ba (ba c.chk).2).2
  obtain ⟨k2, c2⟩ := ba c2
  obtain ⟨k3, c2⟩ := ba c2
  obtain ⟨k4, k5⟩ := ba c2
  have ee : p.er.map (fun e => errW K e.x) = p.er.map ErrD.val := congrArg (fun z : AlX => z.2.2) c
  have e2 : (p.er.map fun e => errW K e.x)[i]? = (p.er.map ErrD.val)[i]? := by rw [ee]
  rw [List.getElem?_map, List.getElem?_map, he] at e2
  have b := List.all_eq_true.mp k1 e (List.mem_of_getElem? he)
  rw [hfile] at b
  exact err_ok X G b (Option.some.inj e2) T (eqO_ok k4) (eqO_ok k5) htop
theorem SaysX.all {mg : Str → Option Value} {h : Heap} (c : SaysX p K) (X : K.In h) (G : h.Ns mainGlobals mg) : Fx.ErrK K mg p.nms ∧ (∀ f ∈ p.fl, ∀ c ∈ p.nms, ∀ D, mg c = some (.ref D) → PySem.W.findIn K (.ref D) f = some none) ∧ ∀ c ∈ p.nms, ∀ D, mg c = some (.ref D) → PySem.W.exmOne K (.ref D) (.ref (ga K p.top)) = some true :=
  all_ok X G (ba (ba (ba (ba c.chk).2).2).2).1
theorem SaysX.blt {mg : Str → Option Value} {h : Heap} (c : SaysX p K) (X : K.In h) (G : h.Ns mainGlobals mg) (i : Nat) {b : Str × String} (hb : p.blt[i]? = some b := by rfl) : mg b.1 = some (.builtin b.2) :=
  PySem.W.mg_of X G (eqO_ok (List.all_eq_true.mp (ba (ba (ba (ba (ba c.chk).2).2).2).2).1 b (List.mem_of_getElem? hb)))
end
end FxHd

-- FxN
set_option Elab.async false
set_option linter.all false
set_option maxRecDepth 100000
set_option maxHeartbeats 2000000
/-! FxN: from a law's mirror to the row. -/
namespace Fx
open PySem PySem.Spec PyProof.Rows L2
theorem sp_law {K : PySem.W.Frag} {mg : Str → Option Value} {H : Hp} {a : Addr} {ns : List Int} {mf : MF} (h : Rd H a (.lst (ns.map V.int))) (e : mf [.lst (ns.map .int)] = .ok (.bl true)) : spF ⟨K, mg⟩ false 1 mf [.ref a] H (fun v _ => v = .bl true) fun _ _ _ => False := by
  refine ⟨rfl, fun _ => false, [.lst (ns.map .int)], fun a z => absurd z Bool.false_ne_true, ?_, by rw [e]; exact (fun z => by cases z), fun d ed => ?_, fun x ex => by rw [e] at ex; cases ex⟩
  · have hh : hid H (fun _ => false) = H := by funext b; exact hid_no rfl
    rw [hh]
    exact .cons (.mkL h (.of_ints ns)) .nil
  · rw [e] at ed
    cases ed
    rw [if_neg Bool.false_ne_true]
    intro v H' _ r
    exact r.is_bl
theorem no_fly {P : Program} {w : World} (H : Hp) (s : Shared) (e : Value) (s' : Shared) : L2N.CX P w [] H s (fun _ _ _ => False) e s' → False := fun ⟨_, _, _, _, _, _, _, _, _, _, _, _, h⟩ => h
/-- the def law keeps its promise, at each world -/
def LawOk (P : Program) (k : Nat) (mf : MF) (hk : World → Heap → Prop) : Prop := ∀ (w : World) (mg : Str → Option Value) (fa : Addr) (h : Heap), hk w h → h.Ns mainGlobals mg → mg ("law" : Str) = some (.ref fa) →
  ∃ (K : PySem.W.Frag) (fd : FuncData), K.In h ∧ FxHd.NoL K ∧ (∀ (s : Shared) (u : Value), BindsTo s fd ⟨[u], []⟩ [("script", u)]) ∧ ∀ base : Heap, K.In base → base.Ns mainGlobals mg → FnOk P w K mg base (L2N.CX P w) k fa fd ["script"] (spF ⟨K, mg⟩ false 1 mf)
theorem walk_w {l : PySem.W.OpenLaw} {n k : Nat} {q : Program} {loose : List Str} {XP : (Str → Option Value) → Heap → Prop} {YP : World → Heap → Prop} {d : DefRec} {mf : MF}
    (hn : l.most = some n) (hn2 : n ≤ sizeLine) (hdf : d.params.defaults = []) (hr : Room k callerA) (hd : d.name = ("law" : Str)) (F : LawOk l.prog k mf YP)
    (ok : ∀ ns : List Int, ns.length ≤ n → mf [.lst (ns.map .int)] = .ok (.bl true)) : PySem.W.WalkO q loose XP YP l.row.toRowW d [] (fun f vs => PySem.call f vs) := by
  refine Att.attach_call hn hdf ?_
  intro w _ s1 mg _ fa _ _ _ _ a _ ns gr y _ _ _ hg ho hi hl g0
  rw [hd] at hg
  obtain ⟨K, fd, kin, nl, hb, hF⟩ := F w mg fa _ y gr.T.g hg
  exact law_call kin gr.T.g gr.T.b gr.T.builtins gr.T.nolimit g0 ho hi (Nat.le_trans hl hn2) hr hF hb (fun H _ hS => sp_law (nl.sq hS) (ok ns hl)) (fun H e s' => no_fly H s1 e s')
end Fx

-- Gk29
set_option Elab.async false
set_option linter.all false
set_option maxRecDepth 100000
set_option maxHeartbeats 4000000
namespace G
open PySem PySem.Spec PyProof.Rows L2 Fx
/-! printed by gen.py -/
def top (i : Nat) : Stmt := PySem.Challenge.pw_coinholes_k29_far_chains.main.body.getD i (.Pass ⟨0, 0, 0, 0⟩)
def nms : List Str := ["SizeError", "NumberError", "WideError", "TooMany", "FewCoins", "GrainError", "FlatError", "CrossError", "RowError", "NotMade", "NoCoin", "CoprimeError", "PlaceError", "WayError", "TradeError", "OtherLot", "HoleError", "PointError", "TextError", "EditError", "HistoryError"]
abbrev kwT := List (Str × V)
structure Ft (P : Program) (K : PySem.W.Frag) (mg : Str → Option Value) : Prop where
  d_look_number : ∃ fd, FunD K "look_number" "look_number" (defArgs (top 26)) (defBody (top 26)) (defScope (top 26)) [] [] (He.ga K "look_number") fd
  g_look_number : mg "look_number" = some (.ref (He.ga K "look_number"))
  d_look_list : ∃ fd, FunD K "look_list" "look_list" (defArgs (top 27)) (defBody (top 27)) (defScope (top 27)) [] [] (He.ga K "look_list") fd
  g_look_list : mg "look_list" = some (.ref (He.ga K "look_list"))
  d_look_numbers : ∃ fd, FunD K "look_numbers" "look_numbers" (defArgs (top 28)) (defBody (top 28)) (defScope (top 28)) [] [] (He.ga K "look_numbers") fd
  g_look_numbers : mg "look_numbers" = some (.ref (He.ga K "look_numbers"))
  d_look_pair : ∃ fd, FunD K "look_pair" "look_pair" (defArgs (top 29)) (defBody (top 29)) (defScope (top 29)) [] [] (He.ga K "look_pair") fd
  g_look_pair : mg "look_pair" = some (.ref (He.ga K "look_pair"))
  d_look_most : ∃ fd, FunD K "look_most" "look_most" (defArgs (top 30)) (defBody (top 30)) (defScope (top 30)) [] [] (He.ga K "look_most") fd
  g_look_most : mg "look_most" = some (.ref (He.ga K "look_most"))
  d_inverse_of : ∃ fd, FunD K "inverse_of" "inverse_of" (defArgs (top 32)) (defBody (top 32)) (defScope (top 32)) [] [] (He.ga K "inverse_of") fd
  g_inverse_of : mg "inverse_of" = some (.ref (He.ga K "inverse_of"))
  d_turn : ∃ fd, FunD K "turn" "turn" (defArgs (top 34)) (defBody (top 34)) (defScope (top 34)) [] [] (He.ga K "turn") fd
  g_turn : mg "turn" = some (.ref (He.ga K "turn"))
  d_u_primitive : ∃ fd, FunD K "_primitive" "_primitive" (defArgs (top 36)) (defBody (top 36)) (defScope (top 36)) [] [] (He.ga K "_primitive") fd
  g_u_primitive : mg "_primitive" = some (.ref (He.ga K "_primitive"))
  d_u_second_point : ∃ fd, FunD K "_second_point" "_second_point" (defArgs (top 37)) (defBody (top 37)) (defScope (top 37)) [] [] (He.ga K "_second_point") fd
  g_u_second_point : mg "_second_point" = some (.ref (He.ga K "_second_point"))
  d_cone_chain : ∃ fd, FunD K "cone_chain" "cone_chain" (defArgs (top 38)) (defBody (top 38)) (defScope (top 38)) [] [("most", .int 400)] (He.ga K "cone_chain") fd
  g_cone_chain : mg "cone_chain" = some (.ref (He.ga K "cone_chain"))
  d_u_law_cell : ∃ fd, FunD K "_law_cell" "_law_cell" (defArgs (top 40)) (defBody (top 40)) (defScope (top 40)) [] [] (He.ga K "_law_cell") fd
  g_u_law_cell : mg "_law_cell" = some (.ref (He.ga K "_law_cell"))
  d_u_law_turn : ∃ fd, FunD K "_law_turn" "_law_turn" (defArgs (top 41)) (defBody (top 41)) (defScope (top 41)) [] [] (He.ga K "_law_turn") fd
  g_u_law_turn : mg "_law_turn" = some (.ref (He.ga K "_law_turn"))
  d_u_law_integer : ∃ fd, FunD K "_law_integer" "_law_integer" (defArgs (top 42)) (defBody (top 42)) (defScope (top 42)) [] [] (He.ga K "_law_integer") fd
  g_u_law_integer : mg "_law_integer" = some (.ref (He.ga K "_law_integer"))
  d_u_law_is_pair : ∃ fd, FunD K "_law_is_pair" "_law_is_pair" (defArgs (top 43)) (defBody (top 43)) (defScope (top 43)) [] [] (He.ga K "_law_is_pair") fd
  g_u_law_is_pair : mg "_law_is_pair" = some (.ref (He.ga K "_law_is_pair"))
  d_u_law_are_pairs : ∃ fd, FunD K "_law_are_pairs" "_law_are_pairs" (defArgs (top 44)) (defBody (top 44)) (defScope (top 44)) [] [] (He.ga K "_law_are_pairs") fd
  g_u_law_are_pairs : mg "_law_are_pairs" = some (.ref (He.ga K "_law_are_pairs"))
  d_u_law_is_number : ∃ fd, FunD K "_law_is_number" "_law_is_number" (defArgs (top 45)) (defBody (top 45)) (defScope (top 45)) [] [] (He.ga K "_law_is_number") fd
  g_u_law_is_number : mg "_law_is_number" = some (.ref (He.ga K "_law_is_number"))
  d_u_law_common : ∃ fd, FunD K "_law_common" "_law_common" (defArgs (top 46)) (defBody (top 46)) (defScope (top 46)) [] [] (He.ga K "_law_common") fd
  g_u_law_common : mg "_law_common" = some (.ref (He.ga K "_law_common"))
  d_u_law_lowest : ∃ fd, FunD K "_law_lowest" "_law_lowest" (defArgs (top 47)) (defBody (top 47)) (defScope (top 47)) [] [] (He.ga K "_law_lowest") fd
  g_u_law_lowest : mg "_law_lowest" = some (.ref (He.ga K "_law_lowest"))
  d_u_law_beside : ∃ fd, FunD K "_law_beside" "_law_beside" (defArgs (top 48)) (defBody (top 48)) (defScope (top 48)) [] [] (He.ga K "_law_beside") fd
  g_u_law_beside : mg "_law_beside" = some (.ref (He.ga K "_law_beside"))
  d_u_law_length : ∃ fd, FunD K "_law_length" "_law_length" (defArgs (top 49)) (defBody (top 49)) (defScope (top 49)) [] [] (He.ga K "_law_length") fd
  g_u_law_length : mg "_law_length" = some (.ref (He.ga K "_law_length"))
  d_u_law_small_due : ∃ fd, FunD K "_law_small_due" "_law_small_due" (defArgs (top 50)) (defBody (top 50)) (defScope (top 50)) [] [] (He.ga K "_law_small_due") fd
  g_u_law_small_due : mg "_law_small_due" = some (.ref (He.ga K "_law_small_due"))
  d_u_law_built : ∃ fd, FunD K "_law_built" "_law_built" (defArgs (top 51)) (defBody (top 51)) (defScope (top 51)) [] [] (He.ga K "_law_built") fd
  g_u_law_built : mg "_law_built" = some (.ref (He.ga K "_law_built"))
  d_u_law_is_chain : ∃ fd, FunD K "_law_is_chain" "_law_is_chain" (defArgs (top 52)) (defBody (top 52)) (defScope (top 52)) [] [] (He.ga K "_law_is_chain") fd
  g_u_law_is_chain : mg "_law_is_chain" = some (.ref (He.ga K "_law_is_chain"))
  d_u_law_error : ∃ fd, FunD K "_law_error" "_law_error" (defArgs (top 53)) (defBody (top 53)) (defScope (top 53)) [] [] (He.ga K "_law_error") fd
  g_u_law_error : mg "_law_error" = some (.ref (He.ga K "_law_error"))
  d_u_law_refusal : ∃ fd, FunD K "_law_refusal" "_law_refusal" (defArgs (top 54)) (defBody (top 54)) (defScope (top 54)) [] [] (He.ga K "_law_refusal") fd
  g_u_law_refusal : mg "_law_refusal" = some (.ref (He.ga K "_law_refusal"))
  d_u_law_refuses : ∃ fd, FunD K "_law_refuses" "_law_refuses" (defArgs (top 55)) (defBody (top 55)) (defScope (top 55)) [] [] (He.ga K "_law_refuses") fd
  g_u_law_refuses : mg "_law_refuses" = some (.ref (He.ga K "_law_refuses"))
  d_u_law_errors : ∃ fd, FunD K "_law_errors" "_law_errors" (defArgs (top 56)) (defBody (top 56)) (defScope (top 56)) [] [] (He.ga K "_law_errors") fd
  g_u_law_errors : mg "_law_errors" = some (.ref (He.ga K "_law_errors"))
  d_u_law_asked : ∃ fd, FunD K "_law_asked" "_law_asked" (defArgs (top 57)) (defBody (top 57)) (defScope (top 57)) [] [] (He.ga K "_law_asked") fd
  g_u_law_asked : mg "_law_asked" = some (.ref (He.ga K "_law_asked"))
  d_law : ∃ fd, FunD K "law" "law" (defArgs (top 58)) (defBody (top 58)) (defScope (top 58)) [] [] (He.ga K "law") fd
  g_law : mg "law" = some (.ref (He.ga K "law"))
  n_ValueError : mg "ValueError" = none
  n_bool : mg "bool" = none
  n_int : mg "int" = none
  n_isinstance : mg "isinstance" = none
  n_len : mg "len" = none
  n_list : mg "list" = none
  n_max : mg "max" = none
  n_range : mg "range" = none
  n_tuple : mg "tuple" = none
  c_COIN : ∃ t, mg "COIN" = some (.int 1000000000000 t)
  gcd : mg "gcd" = some (.builtin "math.gcd")
  e_FlatError : ∃ C fI, FxEr.Txt P K mg "FlatError" C fI []
  e_NumberError : ∃ C fI, FxEr.Txt P K mg "NumberError" C fI ["number"]
  e_RowError : ∃ C fI, FxEr.Txt P K mg "RowError" C fI ["at"]
  e_SizeError : ∃ C fI, FxEr.Txt P K mg "SizeError" C fI ["count"]
  e_TooMany : ∃ C fI, FxEr.Txt P K mg "TooMany" C fI ["limit"]
  ek : ErrK K mg nms
  f_at : ∀ c ∈ nms, ∀ D, mg c = some (.ref D) → PySem.W.findIn K (.ref D) "at" = some none
  f_count : ∀ c ∈ nms, ∀ D, mg c = some (.ref D) → PySem.W.findIn K (.ref D) "count" = some none
  f_first : ∀ c ∈ nms, ∀ D, mg c = some (.ref D) → PySem.W.findIn K (.ref D) "first" = some none
  f_grain : ∀ c ∈ nms, ∀ D, mg c = some (.ref D) → PySem.W.findIn K (.ref D) "grain" = some none
  f_limit : ∀ c ∈ nms, ∀ D, mg c = some (.ref D) → PySem.W.findIn K (.ref D) "limit" = some none
  f_line : ∀ c ∈ nms, ∀ D, mg c = some (.ref D) → PySem.W.findIn K (.ref D) "line" = some none
  f_number : ∀ c ∈ nms, ∀ D, mg c = some (.ref D) → PySem.W.findIn K (.ref D) "number" = some none
  f_second : ∀ c ∈ nms, ∀ D, mg c = some (.ref D) → PySem.W.findIn K (.ref D) "second" = some none
  coinV : mg "CoinError" = some (.ref (He.ga K "CoinError"))
  coin : ∀ cn ∈ nms, ∀ D, mg cn = some (.ref D) → PySem.W.exmOne K (.ref D) (.ref (He.ga K "CoinError")) = some true
section
variable {P : Program} {w : World} {K : PySem.W.Frag} {mg : Str → Option Value} {base : Heap}
def kw_look_number : List (Str × V) := []
def N_look_number : List Str := ["number", "low", "high"]
theorem sc_look_number : FnScope N_look_number ["number", "low", "high"] (defScope (top 26)) := ⟨rfl, rfl, rfl, by decide +kernel, rfl, by decide +kernel, by decide +kernel⟩
def m_look_number : MS :=
  (mSeq (mIte (mOr (mBool (mBin (gI (kBl fun i j => decide (i < j))) (mV 0) (mV 1))) (mBool (mBin (gI (kBl fun i j => decide (j < i))) (mV 0) (mV 2)))) (mRaise (mErr "NumberError" ["number"] (mCons (mV 0) mNil))) mNext)
  (mRet (mV 0)))
def mf_look_number : MF := mfn false N_look_number.length m_look_number
theorem fn_look_number (F : Ft P K mg) : ∃ fd, FunD K "look_number" "look_number" (defArgs (top 26)) (defBody (top 26)) (defScope (top 26)) [] kw_look_number (He.ga K "look_number") fd ∧ FnOk P w K mg base (L2N.CX P w) 1 (He.ga K "look_number") fd ["number", "low", "high"] (spF ⟨K, mg⟩ false 3 mf_look_number) := by
  obtain ⟨C_NumberError, I_NumberError, T_NumberError⟩ := F.e_NumberError
  obtain ⟨fd, FD⟩ := F.d_look_number
  refine ⟨fd, FD, fx_fn (k := 0) FD sc_look_number fun cdv A outer s H E hr => ?_⟩
  have nd : N_look_number.Nodup := sc_look_number.nd
  have tk := takesF (P := P) (w := w) (K := K) (mg := mg) (base := base) (N := N_look_number) (qual := "look_number") (scope := defScope (top 26)) (f := He.ga K "look_number") (cd := cdv) (A := A) (outer := outer) (s := s) (H := H) (E := E)
  have ps := passesF (P := P) (w := w) (K := K) (mg := mg) (base := base) (N := N_look_number) (qual := "look_number") (scope := defScope (top 26)) (f := He.ga K "look_number") (cd := cdv) (A := A) (outer := outer) (s := s) (H := H) (E := E)
  exact (rss_cons (rs_if (RW.rt (rw_or (rt_cmp opd_lt (re_v 0) (re_v 1) rfl) (rw_or1 (rt_cmp opd_gt (re_v 0) (re_v 2) rfl)))) (rss_one (rs_raise rfl tk (rx_err T_NumberError hr rfl (ra_cons (re_v 0) ra_nil)))) rss_nil)
    (rss_one (rs_ret (re_v 0))))
theorem ok_look_number (F : Ft P K mg) : Cl P w K mg base 1 "look_number" false 3 mf_look_number := by
  obtain ⟨fd, FD, h⟩ := fn_look_number (w := w) (base := base) F
  exact ⟨_, fd, _, h, F.g_look_number, FD.kp, FD.bindsN fun _ _ _ _ _ _ us hl => match us, hl with | [_, _, _], _ => rfl⟩

def kw_look_list : List (Str × V) := []
def N_look_list : List Str := ["entries", "least", "most", "kept"]
theorem sc_look_list : FnScope N_look_list ["entries", "least", "most"] (defScope (top 27)) := ⟨rfl, rfl, rfl, by decide +kernel, rfl, by decide +kernel, by decide +kernel⟩
def m_look_list : MS :=
  (mSeq (mSet 3 (mCall gList (mCons (mV 0) mNil)))
  (mSeq (mIte (mOr (mBool (mBin (gI (kBl fun i j => decide (i < j))) (mCall gLen (mCons (mV 3) mNil)) (mV 1))) (mBool (mBin (gI (kBl fun i j => decide (j < i))) (mCall gLen (mCons (mV 3) mNil)) (mV 2)))) (mRaise (mErr "SizeError" ["count"] (mCons (mCall gLen (mCons (mV 3) mNil)) mNil))) mNext)
  (mRet (mV 3))))
def mf_look_list : MF := mfn false N_look_list.length m_look_list
theorem fn_look_list (F : Ft P K mg) : ∃ fd, FunD K "look_list" "look_list" (defArgs (top 27)) (defBody (top 27)) (defScope (top 27)) [] kw_look_list (He.ga K "look_list") fd ∧ FnOk P w K mg base (L2N.CX P w) 1 (He.ga K "look_list") fd ["entries", "least", "most"] (spF ⟨K, mg⟩ false 3 mf_look_list) := by
  obtain ⟨C_SizeError, I_SizeError, T_SizeError⟩ := F.e_SizeError
  obtain ⟨fd, FD⟩ := F.d_look_list
  refine ⟨fd, FD, fx_fn (k := 0) FD sc_look_list fun cdv A outer s H E hr => ?_⟩
  have nd : N_look_list.Nodup := sc_look_list.nd
  have tk := takesF (P := P) (w := w) (K := K) (mg := mg) (base := base) (N := N_look_list) (qual := "look_list") (scope := defScope (top 27)) (f := He.ga K "look_list") (cd := cdv) (A := A) (outer := outer) (s := s) (H := H) (E := E)
  have ps := passesF (P := P) (w := w) (K := K) (mg := mg) (base := base) (N := N_look_list) (qual := "look_list") (scope := defScope (top 27)) (f := He.ga K "look_list") (cd := cdv) (A := A) (outer := outer) (s := s) (H := H) (E := E)
  exact (rss_cons (rs_set nd rfl (by first | exact Or.inl rfl | exact Or.inr rfl) (RF.re (rf_list rfl F.n_list (ra_cons (re_v 0) ra_nil))))
    (rss_cons (rs_if (RW.rt (rw_or (rt_cmp opd_lt (re_len rfl F.n_len (ra_cons (re_v 3) ra_nil)) (re_v 1) rfl) (rw_or1 (rt_cmp opd_gt (re_len rfl F.n_len (ra_cons (re_v 3) ra_nil)) (re_v 2) rfl)))) (rss_one (rs_raise rfl tk (rx_err T_SizeError hr rfl (ra_cons (re_len rfl F.n_len (ra_cons (re_v 3) ra_nil)) ra_nil)))) rss_nil)
    (rss_one (rs_ret (re_v 3)))))
theorem ok_look_list (F : Ft P K mg) : Cl P w K mg base 1 "look_list" false 3 mf_look_list := by
  obtain ⟨fd, FD, h⟩ := fn_look_list (w := w) (base := base) F
  exact ⟨_, fd, _, h, F.g_look_list, FD.kp, FD.bindsN fun _ _ _ _ _ _ us hl => match us, hl with | [_, _, _], _ => rfl⟩

def kw_look_numbers : List (Str × V) := []
def N_look_numbers : List Str := ["entries", "least", "most", "low", "high", "kept", "number"]
theorem sc_look_numbers : FnScope N_look_numbers ["entries", "least", "most", "low", "high"] (defScope (top 28)) := ⟨rfl, rfl, rfl, by decide +kernel, rfl, by decide +kernel, by decide +kernel⟩
def m_look_numbers : MS :=
  (mSeq (mSet 5 (mDef mf_look_list (mCons (mV 0) (mCons (mV 1) (mCons (mV 2) mNil)))))
  (mSeq (mFor (mItems (mV 5)) (gSet 6) (mDrop (mDef mf_look_number (mCons (mV 6) (mCons (mV 3) (mCons (mV 4) mNil))))))
  (mRet (mV 5))))
def mf_look_numbers : MF := mfn false N_look_numbers.length m_look_numbers
theorem fn_look_numbers (F : Ft P K mg) : ∃ fd, FunD K "look_numbers" "look_numbers" (defArgs (top 28)) (defBody (top 28)) (defScope (top 28)) [] kw_look_numbers (He.ga K "look_numbers") fd ∧ FnOk P w K mg base (L2N.CX P w) 2 (He.ga K "look_numbers") fd ["entries", "least", "most", "low", "high"] (spF ⟨K, mg⟩ false 5 mf_look_numbers) := by
  obtain ⟨fd, FD⟩ := F.d_look_numbers
  refine ⟨fd, FD, fx_fn (k := 1) FD sc_look_numbers fun cdv A outer s H E hr => ?_⟩
  have nd : N_look_numbers.Nodup := sc_look_numbers.nd
  have tk := takesF (P := P) (w := w) (K := K) (mg := mg) (base := base) (N := N_look_numbers) (qual := "look_numbers") (scope := defScope (top 28)) (f := He.ga K "look_numbers") (cd := cdv) (A := A) (outer := outer) (s := s) (H := H) (E := E)
  have ps := passesF (P := P) (w := w) (K := K) (mg := mg) (base := base) (N := N_look_numbers) (qual := "look_numbers") (scope := defScope (top 28)) (f := He.ga K "look_numbers") (cd := cdv) (A := A) (outer := outer) (s := s) (H := H) (E := E)
  exact (rss_cons (rs_set nd rfl (by first | exact Or.inl rfl | exact Or.inr rfl) (re_def (ok_look_list F) hr (by decide) rfl tk (ra_cons (re_v 0) (ra_cons (re_v 1) (ra_cons (re_v 2) ra_nil)))))
    (rss_cons (rs_for ps rfl (ri_list (re_v 5)) (rg_name nd rfl (by first | exact Or.inl rfl | exact Or.inr rfl)) (rss_one (rs_expr (re_def (ok_look_number F) hr (by decide) rfl tk (ra_cons (re_v 6) (ra_cons (re_v 3) (ra_cons (re_v 4) ra_nil)))))))
    (rss_one (rs_ret (re_v 5)))))
theorem ok_look_numbers (F : Ft P K mg) : Cl P w K mg base 2 "look_numbers" false 5 mf_look_numbers := by
  obtain ⟨fd, FD, h⟩ := fn_look_numbers (w := w) (base := base) F
  exact ⟨_, fd, _, h, F.g_look_numbers, FD.kp, FD.bindsN fun _ _ _ _ _ _ us hl => match us, hl with | [_, _, _, _, _], _ => rfl⟩

def kw_look_pair : List (Str × V) := []
def N_look_pair : List Str := ["pair", "low", "high"]
theorem sc_look_pair : FnScope N_look_pair ["pair", "low", "high"] (defScope (top 29)) := ⟨rfl, rfl, rfl, by decide +kernel, rfl, by decide +kernel, by decide +kernel⟩
def m_look_pair : MS :=
  (mRet (mCall gTuple (mCons (mDef mf_look_numbers (mCons (mV 0) (mCons (mC (.int 2)) (mCons (mC (.int 2)) (mCons (mV 1) (mCons (mV 2) mNil)))))) mNil)))
def mf_look_pair : MF := mfn false N_look_pair.length m_look_pair
theorem fn_look_pair (F : Ft P K mg) : ∃ fd, FunD K "look_pair" "look_pair" (defArgs (top 29)) (defBody (top 29)) (defScope (top 29)) [] kw_look_pair (He.ga K "look_pair") fd ∧ FnOk P w K mg base (L2N.CX P w) 3 (He.ga K "look_pair") fd ["pair", "low", "high"] (spF ⟨K, mg⟩ false 3 mf_look_pair) := by
  obtain ⟨fd, FD⟩ := F.d_look_pair
  refine ⟨fd, FD, fx_fn (k := 2) FD sc_look_pair fun cdv A outer s H E hr => ?_⟩
  have nd : N_look_pair.Nodup := sc_look_pair.nd
  have tk := takesF (P := P) (w := w) (K := K) (mg := mg) (base := base) (N := N_look_pair) (qual := "look_pair") (scope := defScope (top 29)) (f := He.ga K "look_pair") (cd := cdv) (A := A) (outer := outer) (s := s) (H := H) (E := E)
  have ps := passesF (P := P) (w := w) (K := K) (mg := mg) (base := base) (N := N_look_pair) (qual := "look_pair") (scope := defScope (top 29)) (f := He.ga K "look_pair") (cd := cdv) (A := A) (outer := outer) (s := s) (H := H) (E := E)
  exact (rss_one (rs_ret (re_tuple rfl F.n_tuple (ra_cons (re_def (ok_look_numbers F) hr (by decide) rfl tk (ra_cons (re_v 0) (ra_cons re_int (ra_cons re_int (ra_cons (re_v 1) (ra_cons (re_v 2) ra_nil)))))) ra_nil))))
theorem ok_look_pair (F : Ft P K mg) : Cl P w K mg base 3 "look_pair" false 3 mf_look_pair := by
  obtain ⟨fd, FD, h⟩ := fn_look_pair (w := w) (base := base) F
  exact ⟨_, fd, _, h, F.g_look_pair, FD.kp, FD.bindsN fun _ _ _ _ _ _ us hl => match us, hl with | [_, _, _], _ => rfl⟩

def kw_look_most : List (Str × V) := []
def N_look_most : List Str := ["most", "default"]
theorem sc_look_most : FnScope N_look_most ["most", "default"] (defScope (top 30)) := ⟨rfl, rfl, rfl, by decide +kernel, rfl, by decide +kernel, by decide +kernel⟩
def m_look_most : MS :=
  (mRet (mDef mf_look_number (mCons (mV 0) (mCons (mC (.int 0)) (mCons (mV 1) mNil)))))
def mf_look_most : MF := mfn false N_look_most.length m_look_most
theorem fn_look_most (F : Ft P K mg) : ∃ fd, FunD K "look_most" "look_most" (defArgs (top 30)) (defBody (top 30)) (defScope (top 30)) [] kw_look_most (He.ga K "look_most") fd ∧ FnOk P w K mg base (L2N.CX P w) 2 (He.ga K "look_most") fd ["most", "default"] (spF ⟨K, mg⟩ false 2 mf_look_most) := by
  obtain ⟨fd, FD⟩ := F.d_look_most
  refine ⟨fd, FD, fx_fn (k := 1) FD sc_look_most fun cdv A outer s H E hr => ?_⟩
  have nd : N_look_most.Nodup := sc_look_most.nd
  have tk := takesF (P := P) (w := w) (K := K) (mg := mg) (base := base) (N := N_look_most) (qual := "look_most") (scope := defScope (top 30)) (f := He.ga K "look_most") (cd := cdv) (A := A) (outer := outer) (s := s) (H := H) (E := E)
  have ps := passesF (P := P) (w := w) (K := K) (mg := mg) (base := base) (N := N_look_most) (qual := "look_most") (scope := defScope (top 30)) (f := He.ga K "look_most") (cd := cdv) (A := A) (outer := outer) (s := s) (H := H) (E := E)
  exact (rss_one (rs_ret (re_def (ok_look_number F) hr (by decide) rfl tk (ra_cons (re_v 0) (ra_cons re_int (ra_cons (re_v 1) ra_nil))))))
theorem ok_look_most (F : Ft P K mg) : Cl P w K mg base 2 "look_most" false 2 mf_look_most := by
  obtain ⟨fd, FD, h⟩ := fn_look_most (w := w) (base := base) F
  exact ⟨_, fd, _, h, F.g_look_most, FD.kp, FD.bindsN fun _ _ _ _ _ _ us hl => match us, hl with | [_, _], _ => rfl⟩

def kw_inverse_of : List (Str × V) := []
def N_inverse_of : List Str := ["number", "modulus", "before", "here", "old", "new", "times"]
theorem sc_inverse_of : FnScope N_inverse_of ["number", "modulus"] (defScope (top 32)) := ⟨rfl, rfl, rfl, by decide +kernel, rfl, by decide +kernel, by decide +kernel⟩
def m_inverse_of : MS :=
  (mSeq (mPar 2 3 (mV 1) (mBin (gI kMod) (mV 0) (mV 1)))
  (mSeq (mAsg (mTup (mCons (mC (.int 0)) (mCons (mC (.int 1)) mNil))) (gTupM 2 (gsCons (gSet 4) (gsCons (gSet 5) gsNil))))
  (mSeq (mWhile 100 (mBool (mBin (gI (kBl fun i j => decide (j < i))) (mV 3) (mC (.int 0)))) (mSeq (mSet 6 (mBin (gI kDiv) (mV 2) (mV 3)))
  (mSeq (mPar 2 3 (mV 3) (mBin (gI (kInt fun i j => i - j)) (mV 2) (mBin (gI kMul) (mV 6) (mV 3))))
  (mPar 4 5 (mV 5) (mBin (gI (kInt fun i j => i - j)) (mV 4) (mBin (gI kMul) (mV 6) (mV 5)))))))
  (mRet (mBin (gI kMod) (mV 4) (mV 1))))))
def mf_inverse_of : MF := mfn false N_inverse_of.length m_inverse_of
theorem fn_inverse_of (F : Ft P K mg) : ∃ fd, FunD K "inverse_of" "inverse_of" (defArgs (top 32)) (defBody (top 32)) (defScope (top 32)) [] kw_inverse_of (He.ga K "inverse_of") fd ∧ FnOk P w K mg base (L2N.CX P w) 1 (He.ga K "inverse_of") fd ["number", "modulus"] (spF ⟨K, mg⟩ false 2 mf_inverse_of) := by
  obtain ⟨fd, FD⟩ := F.d_inverse_of
  refine ⟨fd, FD, fx_fn (k := 0) FD sc_inverse_of fun cdv A outer s H E hr => ?_⟩
  have nd : N_inverse_of.Nodup := sc_inverse_of.nd
  have tk := takesF (P := P) (w := w) (K := K) (mg := mg) (base := base) (N := N_inverse_of) (qual := "inverse_of") (scope := defScope (top 32)) (f := He.ga K "inverse_of") (cd := cdv) (A := A) (outer := outer) (s := s) (H := H) (E := E)
  have ps := passesF (P := P) (w := w) (K := K) (mg := mg) (base := base) (N := N_inverse_of) (qual := "inverse_of") (scope := defScope (top 32)) (f := He.ga K "inverse_of") (cd := cdv) (A := A) (outer := outer) (s := s) (H := H) (E := E)
  exact (rss_cons (rs_par rfl nd rfl rfl (by decide) rfl rfl (re_v 1) (re_bin opd_mod (re_v 0) (re_v 1)))
    (rss_cons (rs_asg (re_tup (ra_cons re_int (ra_cons re_int ra_nil))) (rg_tup rfl (rgs_cons (rg_name nd rfl (by first | exact Or.inl rfl | exact Or.inr rfl)) (rgs_cons (rg_name nd rfl (by first | exact Or.inl rfl | exact Or.inr rfl)) rgs_nil))))
    (rss_cons (rs_while 100 ps (rt_cmp opd_gt (re_v 3) re_int rfl) (rss_cons (rs_set nd rfl (by first | exact Or.inl rfl | exact Or.inr rfl) (re_bin opd_div (re_v 2) (re_v 3)))
    (rss_cons (rs_par rfl nd rfl rfl (by decide) rfl rfl (re_v 3) (re_bin opd_sub (re_v 2) (re_bin opd_mul (re_v 6) (re_v 3))))
    (rss_one (rs_par rfl nd rfl rfl (by decide) rfl rfl (re_v 5) (re_bin opd_sub (re_v 4) (re_bin opd_mul (re_v 6) (re_v 5))))))))
    (rss_one (rs_ret (re_bin opd_mod (re_v 4) (re_v 1)))))))
theorem ok_inverse_of (F : Ft P K mg) : Cl P w K mg base 1 "inverse_of" false 2 mf_inverse_of := by
  obtain ⟨fd, FD, h⟩ := fn_inverse_of (w := w) (base := base) F
  exact ⟨_, fd, _, h, F.g_inverse_of, FD.kp, FD.bindsN fun _ _ _ _ _ _ us hl => match us, hl with | [_, _], _ => rfl⟩

def kw_turn : List (Str × V) := []
def N_turn : List Str := ["first", "second"]
theorem sc_turn : FnScope N_turn ["first", "second"] (defScope (top 34)) := ⟨rfl, rfl, rfl, by decide +kernel, rfl, by decide +kernel, by decide +kernel⟩
def m_turn : MS :=
  (mRet (mBin (gI (kInt fun i j => i - j)) (mBin (gI kMul) (mBin gIx (mV 0) (mC (.int 0))) (mBin gIx (mV 1) (mC (.int 1)))) (mBin (gI kMul) (mBin gIx (mV 0) (mC (.int 1))) (mBin gIx (mV 1) (mC (.int 0))))))
def mf_turn : MF := mfn false N_turn.length m_turn
theorem fn_turn (F : Ft P K mg) : ∃ fd, FunD K "turn" "turn" (defArgs (top 34)) (defBody (top 34)) (defScope (top 34)) [] kw_turn (He.ga K "turn") fd ∧ FnOk P w K mg base (L2N.CX P w) 1 (He.ga K "turn") fd ["first", "second"] (spF ⟨K, mg⟩ false 2 mf_turn) := by
  obtain ⟨fd, FD⟩ := F.d_turn
  refine ⟨fd, FD, fx_fn (k := 0) FD sc_turn fun cdv A outer s H E hr => ?_⟩
  have nd : N_turn.Nodup := sc_turn.nd
  have tk := takesF (P := P) (w := w) (K := K) (mg := mg) (base := base) (N := N_turn) (qual := "turn") (scope := defScope (top 34)) (f := He.ga K "turn") (cd := cdv) (A := A) (outer := outer) (s := s) (H := H) (E := E)
  have ps := passesF (P := P) (w := w) (K := K) (mg := mg) (base := base) (N := N_turn) (qual := "turn") (scope := defScope (top 34)) (f := He.ga K "turn") (cd := cdv) (A := A) (outer := outer) (s := s) (H := H) (E := E)
  exact (rss_one (rs_ret (re_bin opd_sub (re_bin opd_mul (re_ix (re_v 0) re_int) (re_ix (re_v 1) re_int)) (re_bin opd_mul (re_ix (re_v 0) re_int) (re_ix (re_v 1) re_int)))))
theorem ok_turn (F : Ft P K mg) : Cl P w K mg base 1 "turn" false 2 mf_turn := by
  obtain ⟨fd, FD, h⟩ := fn_turn (w := w) (base := base) F
  exact ⟨_, fd, _, h, F.g_turn, FD.kp, FD.bindsN fun _ _ _ _ _ _ us hl => match us, hl with | [_, _], _ => rfl⟩

def kw_u_primitive : List (Str × V) := []
def N_u_primitive : List Str := ["pair", "at", "shared", "first", "second"]
theorem sc_u_primitive : FnScope N_u_primitive ["pair", "at"] (defScope (top 36)) := ⟨rfl, rfl, rfl, by decide +kernel, rfl, by decide +kernel, by decide +kernel⟩
def m_u_primitive : MS :=
  (mSeq (mAsg (mDef mf_look_pair (mCons (mV 0) (mCons (mC (.int 0)) (mCons (mC (.int 1000000000000)) mNil)))) (gTupM 2 (gsCons (gSet 3) (gsCons (gSet 4) gsNil))))
  (mSeq (mSet 2 (mCall (gII fGcd) (mCons (mV 3) (mCons (mV 4) mNil))))
  (mSeq (mIte (mBool (mBin gEq (mV 2) (mC (.int 0)))) (mRaise (mErr "RowError" ["at"] (mCons (mV 1) mNil))) mNext)
  (mRet (mTup (mCons (mBin (gI kDiv) (mV 3) (mV 2)) (mCons (mBin (gI kDiv) (mV 4) (mV 2)) mNil)))))))
def mf_u_primitive : MF := mfn false N_u_primitive.length m_u_primitive
theorem fn_u_primitive (F : Ft P K mg) : ∃ fd, FunD K "_primitive" "_primitive" (defArgs (top 36)) (defBody (top 36)) (defScope (top 36)) [] kw_u_primitive (He.ga K "_primitive") fd ∧ FnOk P w K mg base (L2N.CX P w) 4 (He.ga K "_primitive") fd ["pair", "at"] (spF ⟨K, mg⟩ false 2 mf_u_primitive) := by
  obtain ⟨t_COIN, h_COIN⟩ := F.c_COIN
  obtain ⟨C_RowError, I_RowError, T_RowError⟩ := F.e_RowError
  obtain ⟨fd, FD⟩ := F.d_u_primitive
  refine ⟨fd, FD, fx_fn (k := 3) FD sc_u_primitive fun cdv A outer s H E hr => ?_⟩
  have nd : N_u_primitive.Nodup := sc_u_primitive.nd
  have tk := takesF (P := P) (w := w) (K := K) (mg := mg) (base := base) (N := N_u_primitive) (qual := "_primitive") (scope := defScope (top 36)) (f := He.ga K "_primitive") (cd := cdv) (A := A) (outer := outer) (s := s) (H := H) (E := E)
  have ps := passesF (P := P) (w := w) (K := K) (mg := mg) (base := base) (N := N_u_primitive) (qual := "_primitive") (scope := defScope (top 36)) (f := He.ga K "_primitive") (cd := cdv) (A := A) (outer := outer) (s := s) (H := H) (E := E)
  exact (rss_cons (rs_asg (re_def (ok_look_pair F) hr (by decide) rfl tk (ra_cons (re_v 0) (ra_cons re_int (ra_cons (re_gint rfl h_COIN) ra_nil)))) (rg_tup rfl (rgs_cons (rg_name nd rfl (by first | exact Or.inl rfl | exact Or.inr rfl)) (rgs_cons (rg_name nd rfl (by first | exact Or.inl rfl | exact Or.inr rfl)) rgs_nil))))
    (rss_cons (rs_set nd rfl (by first | exact Or.inl rfl | exact Or.inr rfl) (re_gcd rfl F.gcd (ra_cons (re_v 3) (ra_cons (re_v 4) ra_nil))))
    (rss_cons (rs_if (rt_cmp (opd_eq hr.units) (re_v 2) re_int rfl) (rss_one (rs_raise rfl tk (rx_err T_RowError hr rfl (ra_cons (re_v 1) ra_nil)))) rss_nil)
    (rss_one (rs_ret (re_tup (ra_cons (re_bin opd_div (re_v 3) (re_v 2)) (ra_cons (re_bin opd_div (re_v 4) (re_v 2)) ra_nil))))))))
theorem ok_u_primitive (F : Ft P K mg) : Cl P w K mg base 4 "_primitive" false 2 mf_u_primitive := by
  obtain ⟨fd, FD, h⟩ := fn_u_primitive (w := w) (base := base) F
  exact ⟨_, fd, _, h, F.g_u_primitive, FD.kp, FD.bindsN fun _ _ _ _ _ _ us hl => match us, hl with | [_, _], _ => rfl⟩

def kw_u_second_point : List (Str × V) := []
def N_u_second_point : List Str := ["start", "end", "inverse", "point", "times"]
theorem sc_u_second_point : FnScope N_u_second_point ["start", "end"] (defScope (top 37)) := ⟨rfl, rfl, rfl, by decide +kernel, rfl, by decide +kernel, by decide +kernel⟩
def m_u_second_point : MS :=
  (mSeq (mSet 2 (mDef mf_inverse_of (mCons (mBin gIx (mV 0) (mC (.int 0))) (mCons (mBin gIx (mV 0) (mC (.int 1))) mNil))))
  (mSeq (mSet 3 (mTup (mCons (mBin (gI kDiv) (mBin (gI (kInt fun i j => i - j)) (mC (.int 1)) (mBin (gI kMul) (mV 2) (mBin gIx (mV 0) (mC (.int 0))))) (mBin gIx (mV 0) (mC (.int 1)))) (mCons (mNeg (mV 2)) mNil))))
  (mSeq (mSet 4 (mBin (gI kDiv) (mDef mf_turn (mCons (mV 1) (mCons (mV 3) mNil))) (mDef mf_turn (mCons (mV 1) (mCons (mV 0) mNil)))))
  (mRet (mTup (mCons (mBin (gI (kInt fun i j => i - j)) (mBin gIx (mV 3) (mC (.int 0))) (mBin (gI kMul) (mV 4) (mBin gIx (mV 0) (mC (.int 0))))) (mCons (mBin (gI (kInt fun i j => i - j)) (mBin gIx (mV 3) (mC (.int 1))) (mBin (gI kMul) (mV 4) (mBin gIx (mV 0) (mC (.int 1))))) mNil)))))))
def mf_u_second_point : MF := mfn false N_u_second_point.length m_u_second_point
theorem fn_u_second_point (F : Ft P K mg) : ∃ fd, FunD K "_second_point" "_second_point" (defArgs (top 37)) (defBody (top 37)) (defScope (top 37)) [] kw_u_second_point (He.ga K "_second_point") fd ∧ FnOk P w K mg base (L2N.CX P w) 2 (He.ga K "_second_point") fd ["start", "end"] (spF ⟨K, mg⟩ false 2 mf_u_second_point) := by
  obtain ⟨fd, FD⟩ := F.d_u_second_point
  refine ⟨fd, FD, fx_fn (k := 1) FD sc_u_second_point fun cdv A outer s H E hr => ?_⟩
  have nd : N_u_second_point.Nodup := sc_u_second_point.nd
  have tk := takesF (P := P) (w := w) (K := K) (mg := mg) (base := base) (N := N_u_second_point) (qual := "_second_point") (scope := defScope (top 37)) (f := He.ga K "_second_point") (cd := cdv) (A := A) (outer := outer) (s := s) (H := H) (E := E)
  have ps := passesF (P := P) (w := w) (K := K) (mg := mg) (base := base) (N := N_u_second_point) (qual := "_second_point") (scope := defScope (top 37)) (f := He.ga K "_second_point") (cd := cdv) (A := A) (outer := outer) (s := s) (H := H) (E := E)
  exact (rss_cons (rs_set nd rfl (by first | exact Or.inl rfl | exact Or.inr rfl) (re_def (ok_inverse_of F) hr (by decide) rfl tk (ra_cons (re_ix (re_v 0) re_int) (ra_cons (re_ix (re_v 0) re_int) ra_nil))))
    (rss_cons (rs_set nd rfl (by first | exact Or.inl rfl | exact Or.inr rfl) (re_tup (ra_cons (re_bin opd_div (re_bin opd_sub re_int (re_bin opd_mul (re_v 2) (re_ix (re_v 0) re_int))) (re_ix (re_v 0) re_int)) (ra_cons (re_neg (re_v 2)) ra_nil))))
    (rss_cons (rs_set nd rfl (by first | exact Or.inl rfl | exact Or.inr rfl) (re_bin opd_div (re_def (ok_turn F) hr (by decide) rfl tk (ra_cons (re_v 1) (ra_cons (re_v 3) ra_nil))) (re_def (ok_turn F) hr (by decide) rfl tk (ra_cons (re_v 1) (ra_cons (re_v 0) ra_nil)))))
    (rss_one (rs_ret (re_tup (ra_cons (re_bin opd_sub (re_ix (re_v 3) re_int) (re_bin opd_mul (re_v 4) (re_ix (re_v 0) re_int))) (ra_cons (re_bin opd_sub (re_ix (re_v 3) re_int) (re_bin opd_mul (re_v 4) (re_ix (re_v 0) re_int))) ra_nil))))))))
theorem ok_u_second_point (F : Ft P K mg) : Cl P w K mg base 2 "_second_point" false 2 mf_u_second_point := by
  obtain ⟨fd, FD, h⟩ := fn_u_second_point (w := w) (base := base) F
  exact ⟨_, fd, _, h, F.g_u_second_point, FD.kp, FD.bindsN fun _ _ _ _ _ _ us hl => match us, hl with | [_, _], _ => rfl⟩

def kw_cone_chain : List (Str × V) := [("most", .int 400)]
def N_cone_chain : List Str := ["low", "high", "most", "start", "end", "chain", "times", "before", "here"]
theorem sc_cone_chain : FnScope N_cone_chain ["low", "high", "most"] (defScope (top 38)) := ⟨rfl, rfl, rfl, by decide +kernel, rfl, by decide +kernel, by decide +kernel⟩
def m_cone_chain : MS :=
  (mSeq (mSet 3 (mDef mf_u_primitive (mCons (mV 0) (mCons (mC (.int 0)) mNil))))
  (mSeq (mSet 4 (mDef mf_u_primitive (mCons (mV 1) (mCons (mC (.int 1)) mNil))))
  (mSeq (mDrop (mDef mf_look_most (mCons (mV 2) (mCons (mC (.int 400)) mNil))))
  (mSeq (mIte (mBool (mBin (gI (kBl fun i j => decide (i ≤ j))) (mDef mf_turn (mCons (mV 4) (mCons (mV 3) mNil))) (mC (.int 0)))) (mRaise fun _ => .ok ⟨"FlatError", []⟩) mNext)
  (mSeq (mSetO 5 (mLst (mCons (mV 3) (mCons (mDef mf_u_second_point (mCons (mV 3) (mCons (mV 4) mNil))) mNil))))
  (mSeq (mWhile 500 (mAnd (mBool (mBin gNe (mBin gIx (mO 5) (mNeg (mC (.int 1)))) (mV 4))) (mBool (mBin (gI (kBl fun i j => decide (i ≤ j))) (mCall gLen (mCons (mO 5) mNil)) (mV 2)))) (mSeq (mPar 7 8 (mBin gIx (mO 5) (mNeg (mC (.int 2)))) (mBin gIx (mO 5) (mNeg (mC (.int 1)))))
  (mSeq (mSet 6 (mNeg (mBin (gI kDiv) (mNeg (mDef mf_turn (mCons (mV 4) (mCons (mV 7) mNil)))) (mDef mf_turn (mCons (mV 4) (mCons (mV 8) mNil))))))
  (mApp 5 (mTup (mCons (mBin (gI (kInt fun i j => i - j)) (mBin (gI kMul) (mV 6) (mBin gIx (mV 8) (mC (.int 0)))) (mBin gIx (mV 7) (mC (.int 0)))) (mCons (mBin (gI (kInt fun i j => i - j)) (mBin (gI kMul) (mV 6) (mBin gIx (mV 8) (mC (.int 1)))) (mBin gIx (mV 7) (mC (.int 1)))) mNil)))))))
  (mSeq (mIte (mBool (mBin (gI (kBl fun i j => decide (j < i))) (mCall gLen (mCons (mO 5) mNil)) (mV 2))) (mRaise (mErr "TooMany" ["limit"] (mCons (mV 2) mNil))) mNext)
  (mRetO 5))))))))
def mf_cone_chain : MF := mfn true N_cone_chain.length m_cone_chain
theorem fn_cone_chain (F : Ft P K mg) : ∃ fd, FunD K "cone_chain" "cone_chain" (defArgs (top 38)) (defBody (top 38)) (defScope (top 38)) [] kw_cone_chain (He.ga K "cone_chain") fd ∧ FnOk P w K mg base (L2N.CX P w) 5 (He.ga K "cone_chain") fd ["low", "high", "most"] (spF ⟨K, mg⟩ true 3 mf_cone_chain) := by
  obtain ⟨C_FlatError, I_FlatError, T_FlatError⟩ := F.e_FlatError
  obtain ⟨C_TooMany, I_TooMany, T_TooMany⟩ := F.e_TooMany
  obtain ⟨fd, FD⟩ := F.d_cone_chain
  refine ⟨fd, FD, fx_fn (k := 4) FD sc_cone_chain fun cdv A outer s H E hr => ?_⟩
  have nd : N_cone_chain.Nodup := sc_cone_chain.nd
  have tk := takesF (P := P) (w := w) (K := K) (mg := mg) (base := base) (N := N_cone_chain) (qual := "cone_chain") (scope := defScope (top 38)) (f := He.ga K "cone_chain") (cd := cdv) (A := A) (outer := outer) (s := s) (H := H) (E := E)
  have ps := passesF (P := P) (w := w) (K := K) (mg := mg) (base := base) (N := N_cone_chain) (qual := "cone_chain") (scope := defScope (top 38)) (f := He.ga K "cone_chain") (cd := cdv) (A := A) (outer := outer) (s := s) (H := H) (E := E)
  exact (rss_cons (rs_set nd rfl (by first | exact Or.inl rfl | exact Or.inr rfl) (re_def (ok_u_primitive F) hr (by decide) rfl tk (ra_cons (re_v 0) (ra_cons re_int ra_nil))))
    (rss_cons (rs_set nd rfl (by first | exact Or.inl rfl | exact Or.inr rfl) (re_def (ok_u_primitive F) hr (by decide) rfl tk (ra_cons (re_v 1) (ra_cons re_int ra_nil))))
    (rss_cons (rs_expr (re_def (ok_look_most F) hr (by decide) rfl tk (ra_cons (re_v 2) (ra_cons re_int ra_nil))))
    (rss_cons (rs_if (rt_cmp opd_le (re_def (ok_turn F) hr (by decide) rfl tk (ra_cons (re_v 4) (ra_cons (re_v 3) ra_nil))) re_int rfl) (rss_one (rs_raise rfl tk (rx_err0 T_FlatError hr rfl))) rss_nil)
    (rss_cons (rs_setO nd rfl (by first | exact Or.inl rfl | exact Or.inr rfl) (rf_lst (ra_cons (re_v 3) (ra_cons (re_def (ok_u_second_point F) hr (by decide) rfl tk (ra_cons (re_v 3) (ra_cons (re_v 4) ra_nil))) ra_nil))))
    (rss_cons (rs_while 500 ps (RW.rt (rw_and (rt_cmp (opd_ne hr.units) (re_ix (re_o 5) (re_neg re_int)) (re_v 4) rfl) (rw_and1 (rt_cmp opd_le (re_len rfl F.n_len (ra_cons (re_o 5) ra_nil)) (re_v 2) rfl)))) (rss_cons (rs_par rfl nd rfl rfl (by decide) rfl rfl (re_ix (re_o 5) (re_neg re_int)) (re_ix (re_o 5) (re_neg re_int)))
    (rss_cons (rs_set nd rfl (by first | exact Or.inl rfl | exact Or.inr rfl) (re_neg (re_bin opd_div (re_neg (re_def (ok_turn F) hr (by decide) rfl tk (ra_cons (re_v 4) (ra_cons (re_v 7) ra_nil)))) (re_def (ok_turn F) hr (by decide) rfl tk (ra_cons (re_v 4) (ra_cons (re_v 8) ra_nil))))))
    (rss_one (rs_app (pv 5) (re_tup (ra_cons (re_bin opd_sub (re_bin opd_mul (re_v 6) (re_ix (re_v 8) re_int)) (re_ix (re_v 7) re_int)) (ra_cons (re_bin opd_sub (re_bin opd_mul (re_v 6) (re_ix (re_v 8) re_int)) (re_ix (re_v 7) re_int)) ra_nil))))))))
    (rss_cons (rs_if (rt_cmp opd_gt (re_len rfl F.n_len (ra_cons (re_o 5) ra_nil)) (re_v 2) rfl) (rss_one (rs_raise rfl tk (rx_err T_TooMany hr rfl (ra_cons (re_v 2) ra_nil)))) rss_nil)
    (rss_one (rs_retO (pv 5))))))))))
def dd_cone_chain : List D := [.int 400]
theorem okD_cone_chain (F : Ft P K mg) : ClD P w K mg base 5 "cone_chain" true 3 dd_cone_chain mf_cone_chain := by
  obtain ⟨fd, FD, h⟩ := fn_cone_chain (w := w) (base := base) F
  obtain ⟨ds, hd, hb⟩ := FD.binds0 (ps := ["low", "high", "most"]) 2 (by unfold kw_cone_chain; exact List.cons_ne_nil _ _) rfl (fun D doc pm an cdv ct us ks hl hk => match us, hl, ks, hk with | [_, _], _, [_], _ => ⟨_, _, _, _, _, _, rfl, rfl, rfl⟩)
  exact ⟨_, fd, _, _, ds, h, F.g_cone_chain, FD.kp, hb, hd, fun H => .cons (.int 400) .nil⟩
def gk_cone_chain (ds es : List D) : List D := ds ++ es
theorem okK_cone_chain (F : Ft P K mg) : ClK P w K mg base 5 "cone_chain" true 3 2 ["most"] gk_cone_chain mf_cone_chain := by
  obtain ⟨fd, FD, h⟩ := fn_cone_chain (w := w) (base := base) F
  have hb : KBn K fd ["low", "high", "most"] 2 ["most"] (fun us ws => us ++ ws) (fun vs zs => vs ++ zs) := by
    obtain ⟨oc, od, dV, kV, doc, pm, an, cdv, ct, osl, rfl, lk, hcd, hD, hK⟩ := FD.ex
    rcases hD with ⟨_, rfl⟩ | ⟨e, _⟩
    · exact ⟨fun s us ws X l1 l2 => match us, l1, ws, l2 with | [_, _], _, [_], _ => .of_eq rfl, fun r1 r2 => r1.append r2⟩
    · exact absurd rfl e
  exact ⟨_, fd, _, _, _, h, F.g_cone_chain, FD.kp, hb, fun H vs zs ds es h1 h2 r1 r2 => ⟨r1.append r2, by rw [List.length_append, h1, h2]; rfl⟩⟩

def kw_u_law_cell : List (Str × V) := []
def N_u_law_cell : List Str := ["script", "k"]
theorem sc_u_law_cell : FnScope N_u_law_cell ["script", "k"] (defScope (top 40)) := ⟨rfl, rfl, rfl, by decide +kernel, rfl, by decide +kernel, by decide +kernel⟩
def m_u_law_cell : MS :=
  (mSeq (mIte (mAnd (mBool (mBin (gI (kBl fun i j => decide (i < j))) (mV 1) (mCall gLen (mCons (mV 0) mNil)))) (mBool (mBin (gI (kBl fun i j => decide (i < j))) (mV 1) (mC (.int 63))))) (mRet (mCall gInt (mCons (mBin gIx (mV 0) (mV 1)) mNil))) mNext)
  (mRet (mC (.int 0))))
def mf_u_law_cell : MF := mfn false N_u_law_cell.length m_u_law_cell
theorem fn_u_law_cell (F : Ft P K mg) : ∃ fd, FunD K "_law_cell" "_law_cell" (defArgs (top 40)) (defBody (top 40)) (defScope (top 40)) [] kw_u_law_cell (He.ga K "_law_cell") fd ∧ FnOk P w K mg base (L2N.CX P w) 1 (He.ga K "_law_cell") fd ["script", "k"] (spF ⟨K, mg⟩ false 2 mf_u_law_cell) := by
  obtain ⟨fd, FD⟩ := F.d_u_law_cell
  refine ⟨fd, FD, fx_fn (k := 0) FD sc_u_law_cell fun cdv A outer s H E hr => ?_⟩
  have nd : N_u_law_cell.Nodup := sc_u_law_cell.nd
  have tk := takesF (P := P) (w := w) (K := K) (mg := mg) (base := base) (N := N_u_law_cell) (qual := "_law_cell") (scope := defScope (top 40)) (f := He.ga K "_law_cell") (cd := cdv) (A := A) (outer := outer) (s := s) (H := H) (E := E)
  have ps := passesF (P := P) (w := w) (K := K) (mg := mg) (base := base) (N := N_u_law_cell) (qual := "_law_cell") (scope := defScope (top 40)) (f := He.ga K "_law_cell") (cd := cdv) (A := A) (outer := outer) (s := s) (H := H) (E := E)
  exact (rss_cons (rs_if (RW.rt (rw_and (rt_cmp opd_lt (re_v 1) (re_len rfl F.n_len (ra_cons (re_v 0) ra_nil)) rfl) (rw_and1 (rt_cmp opd_lt (re_v 1) re_int rfl)))) (rss_one (rs_ret (re_toInt rfl F.n_int (ra_cons (re_ix (re_v 0) (re_v 1)) ra_nil)))) rss_nil)
    (rss_one (rs_ret re_int)))
theorem ok_u_law_cell (F : Ft P K mg) : Cl P w K mg base 1 "_law_cell" false 2 mf_u_law_cell := by
  obtain ⟨fd, FD, h⟩ := fn_u_law_cell (w := w) (base := base) F
  exact ⟨_, fd, _, h, F.g_u_law_cell, FD.kp, FD.bindsN fun _ _ _ _ _ _ us hl => match us, hl with | [_, _], _ => rfl⟩

def kw_u_law_turn : List (Str × V) := []
def N_u_law_turn : List Str := ["one", "two"]
theorem sc_u_law_turn : FnScope N_u_law_turn ["one", "two"] (defScope (top 41)) := ⟨rfl, rfl, rfl, by decide +kernel, rfl, by decide +kernel, by decide +kernel⟩
def m_u_law_turn : MS :=
  (mRet (mBin (gI (kInt fun i j => i - j)) (mBin (gI kMul) (mBin gIx (mV 0) (mC (.int 0))) (mBin gIx (mV 1) (mC (.int 1)))) (mBin (gI kMul) (mBin gIx (mV 0) (mC (.int 1))) (mBin gIx (mV 1) (mC (.int 0))))))
def mf_u_law_turn : MF := mfn false N_u_law_turn.length m_u_law_turn
theorem fn_u_law_turn (F : Ft P K mg) : ∃ fd, FunD K "_law_turn" "_law_turn" (defArgs (top 41)) (defBody (top 41)) (defScope (top 41)) [] kw_u_law_turn (He.ga K "_law_turn") fd ∧ FnOk P w K mg base (L2N.CX P w) 1 (He.ga K "_law_turn") fd ["one", "two"] (spF ⟨K, mg⟩ false 2 mf_u_law_turn) := by
  obtain ⟨fd, FD⟩ := F.d_u_law_turn
  refine ⟨fd, FD, fx_fn (k := 0) FD sc_u_law_turn fun cdv A outer s H E hr => ?_⟩
  have nd : N_u_law_turn.Nodup := sc_u_law_turn.nd
  have tk := takesF (P := P) (w := w) (K := K) (mg := mg) (base := base) (N := N_u_law_turn) (qual := "_law_turn") (scope := defScope (top 41)) (f := He.ga K "_law_turn") (cd := cdv) (A := A) (outer := outer) (s := s) (H := H) (E := E)
  have ps := passesF (P := P) (w := w) (K := K) (mg := mg) (base := base) (N := N_u_law_turn) (qual := "_law_turn") (scope := defScope (top 41)) (f := He.ga K "_law_turn") (cd := cdv) (A := A) (outer := outer) (s := s) (H := H) (E := E)
  exact (rss_one (rs_ret (re_bin opd_sub (re_bin opd_mul (re_ix (re_v 0) re_int) (re_ix (re_v 1) re_int)) (re_bin opd_mul (re_ix (re_v 0) re_int) (re_ix (re_v 1) re_int)))))
theorem ok_u_law_turn (F : Ft P K mg) : Cl P w K mg base 1 "_law_turn" false 2 mf_u_law_turn := by
  obtain ⟨fd, FD, h⟩ := fn_u_law_turn (w := w) (base := base) F
  exact ⟨_, fd, _, h, F.g_u_law_turn, FD.kp, FD.bindsN fun _ _ _ _ _ _ us hl => match us, hl with | [_, _], _ => rfl⟩

def kw_u_law_integer : List (Str × V) := []
def N_u_law_integer : List Str := ["thing"]
theorem sc_u_law_integer : FnScope N_u_law_integer ["thing"] (defScope (top 42)) := ⟨rfl, rfl, rfl, by decide +kernel, rfl, by decide +kernel, by decide +kernel⟩
def m_u_law_integer : MS :=
  (mRet (mAndV (mIsi "int" (mV 0)) (mNotV (mIsi "bool" (mV 0)))))
def mf_u_law_integer : MF := mfn false N_u_law_integer.length m_u_law_integer
theorem fn_u_law_integer (F : Ft P K mg) : ∃ fd, FunD K "_law_integer" "_law_integer" (defArgs (top 42)) (defBody (top 42)) (defScope (top 42)) [] kw_u_law_integer (He.ga K "_law_integer") fd ∧ FnOk P w K mg base (L2N.CX P w) 1 (He.ga K "_law_integer") fd ["thing"] (spF ⟨K, mg⟩ false 1 mf_u_law_integer) := by
  obtain ⟨fd, FD⟩ := F.d_u_law_integer
  refine ⟨fd, FD, fx_fn (k := 0) FD sc_u_law_integer fun cdv A outer s H E hr => ?_⟩
  have nd : N_u_law_integer.Nodup := sc_u_law_integer.nd
  have tk := takesF (P := P) (w := w) (K := K) (mg := mg) (base := base) (N := N_u_law_integer) (qual := "_law_integer") (scope := defScope (top 42)) (f := He.ga K "_law_integer") (cd := cdv) (A := A) (outer := outer) (s := s) (H := H) (E := E)
  have ps := passesF (P := P) (w := w) (K := K) (mg := mg) (base := base) (N := N_u_law_integer) (qual := "_law_integer") (scope := defScope (top 42)) (f := He.ga K "_law_integer") (cd := cdv) (A := A) (outer := outer) (s := s) (H := H) (E := E)
  exact (rss_one (rs_ret (re_and (re_isi rfl F.n_isinstance rfl F.n_int PyProof.Rows.Boot.int (by decide) (re_v 0)) (re_one (re_not (re_isi rfl F.n_isinstance rfl F.n_bool PyProof.Rows.Boot.bool (by decide) (re_v 0)))))))
theorem ok_u_law_integer (F : Ft P K mg) : Cl P w K mg base 1 "_law_integer" false 1 mf_u_law_integer := by
  obtain ⟨fd, FD, h⟩ := fn_u_law_integer (w := w) (base := base) F
  exact ⟨_, fd, _, h, F.g_u_law_integer, FD.kp, FD.bindsN fun _ _ _ _ _ _ us hl => match us, hl with | [_], _ => rfl⟩

def kw_u_law_is_pair : List (Str × V) := []
def N_u_law_is_pair : List Str := ["thing", "due"]
theorem sc_u_law_is_pair : FnScope N_u_law_is_pair ["thing", "due"] (defScope (top 43)) := ⟨rfl, rfl, rfl, by decide +kernel, rfl, by decide +kernel, by decide +kernel⟩
def m_u_law_is_pair : MS :=
  (mSeq (mIte (mOr (mNot (mTru (mIsi "tuple" (mV 0)))) (mBool (mBin gNe (mCall gLen (mCons (mV 0) mNil)) (mC (.int 2))))) (mRet (mC (.bl false))) mNext)
  (mRet (mAndV (mDef mf_u_law_integer (mCons (mBin gIx (mV 0) (mC (.int 0))) mNil)) (mAndV (mDef mf_u_law_integer (mCons (mBin gIx (mV 0) (mC (.int 1))) mNil)) (mBin gEq (mV 0) (mV 1))))))
def mf_u_law_is_pair : MF := mfn false N_u_law_is_pair.length m_u_law_is_pair
theorem fn_u_law_is_pair (F : Ft P K mg) : ∃ fd, FunD K "_law_is_pair" "_law_is_pair" (defArgs (top 43)) (defBody (top 43)) (defScope (top 43)) [] kw_u_law_is_pair (He.ga K "_law_is_pair") fd ∧ FnOk P w K mg base (L2N.CX P w) 2 (He.ga K "_law_is_pair") fd ["thing", "due"] (spF ⟨K, mg⟩ false 2 mf_u_law_is_pair) := by
  obtain ⟨fd, FD⟩ := F.d_u_law_is_pair
  refine ⟨fd, FD, fx_fn (k := 1) FD sc_u_law_is_pair fun cdv A outer s H E hr => ?_⟩
  have nd : N_u_law_is_pair.Nodup := sc_u_law_is_pair.nd
  have tk := takesF (P := P) (w := w) (K := K) (mg := mg) (base := base) (N := N_u_law_is_pair) (qual := "_law_is_pair") (scope := defScope (top 43)) (f := He.ga K "_law_is_pair") (cd := cdv) (A := A) (outer := outer) (s := s) (H := H) (E := E)
  have ps := passesF (P := P) (w := w) (K := K) (mg := mg) (base := base) (N := N_u_law_is_pair) (qual := "_law_is_pair") (scope := defScope (top 43)) (f := He.ga K "_law_is_pair") (cd := cdv) (A := A) (outer := outer) (s := s) (H := H) (E := E)
  exact (rss_cons (rs_if (RW.rt (rw_or (rt_not (rt_tru (re_isi rfl F.n_isinstance rfl F.n_tuple PyProof.Rows.Boot.tuple (by decide) (re_v 0)))) (rw_or1 (rt_cmp (opd_ne hr.units) (re_len rfl F.n_len (ra_cons (re_v 0) ra_nil)) re_int rfl)))) (rss_one (rs_ret re_bl)) rss_nil)
    (rss_one (rs_ret (re_and (re_def (ok_u_law_integer F) hr (by decide) rfl tk (ra_cons (re_ix (re_v 0) re_int) ra_nil)) (re_and (re_def (ok_u_law_integer F) hr (by decide) rfl tk (ra_cons (re_ix (re_v 0) re_int) ra_nil)) (re_one (re_cmp (opd_eq hr.units) (re_v 0) (re_v 1) rfl)))))))
theorem ok_u_law_is_pair (F : Ft P K mg) : Cl P w K mg base 2 "_law_is_pair" false 2 mf_u_law_is_pair := by
  obtain ⟨fd, FD, h⟩ := fn_u_law_is_pair (w := w) (base := base) F
  exact ⟨_, fd, _, h, F.g_u_law_is_pair, FD.kp, FD.bindsN fun _ _ _ _ _ _ us hl => match us, hl with | [_, _], _ => rfl⟩

def kw_u_law_are_pairs : List (Str × V) := []
def N_u_law_are_pairs : List Str := ["things", "due", "k"]
theorem sc_u_law_are_pairs : FnScope N_u_law_are_pairs ["things", "due"] (defScope (top 44)) := ⟨rfl, rfl, rfl, by decide +kernel, rfl, by decide +kernel, by decide +kernel⟩
def m_u_law_are_pairs : MS :=
  (mSeq (mIte (mBool (mBin gNe (mCall gLen (mCons (mV 0) mNil)) (mCall gLen (mCons (mV 1) mNil)))) (mRet (mC (.bl false))) mNext)
  (mSeq (mFor (mRange1 (mCall gLen (mCons (mV 1) mNil))) (gSet 2) (mIte (mNot (mTru (mDef mf_u_law_is_pair (mCons (mBin gIx (mV 0) (mV 2)) (mCons (mBin gIx (mV 1) (mV 2)) mNil))))) (mRet (mC (.bl false))) mNext))
  (mRet (mC (.bl true)))))
def mf_u_law_are_pairs : MF := mfn false N_u_law_are_pairs.length m_u_law_are_pairs
theorem fn_u_law_are_pairs (F : Ft P K mg) : ∃ fd, FunD K "_law_are_pairs" "_law_are_pairs" (defArgs (top 44)) (defBody (top 44)) (defScope (top 44)) [] kw_u_law_are_pairs (He.ga K "_law_are_pairs") fd ∧ FnOk P w K mg base (L2N.CX P w) 3 (He.ga K "_law_are_pairs") fd ["things", "due"] (spF ⟨K, mg⟩ false 2 mf_u_law_are_pairs) := by
  obtain ⟨fd, FD⟩ := F.d_u_law_are_pairs
  refine ⟨fd, FD, fx_fn (k := 2) FD sc_u_law_are_pairs fun cdv A outer s H E hr => ?_⟩
  have nd : N_u_law_are_pairs.Nodup := sc_u_law_are_pairs.nd
  have tk := takesF (P := P) (w := w) (K := K) (mg := mg) (base := base) (N := N_u_law_are_pairs) (qual := "_law_are_pairs") (scope := defScope (top 44)) (f := He.ga K "_law_are_pairs") (cd := cdv) (A := A) (outer := outer) (s := s) (H := H) (E := E)
  have ps := passesF (P := P) (w := w) (K := K) (mg := mg) (base := base) (N := N_u_law_are_pairs) (qual := "_law_are_pairs") (scope := defScope (top 44)) (f := He.ga K "_law_are_pairs") (cd := cdv) (A := A) (outer := outer) (s := s) (H := H) (E := E)
  exact (rss_cons (rs_if (rt_cmp (opd_ne hr.units) (re_len rfl F.n_len (ra_cons (re_v 0) ra_nil)) (re_len rfl F.n_len (ra_cons (re_v 1) ra_nil)) rfl) (rss_one (rs_ret re_bl)) rss_nil)
    (rss_cons (rs_for ps rfl (ri_range1 rfl F.n_range (re_len rfl F.n_len (ra_cons (re_v 1) ra_nil))) (rg_name nd rfl (by first | exact Or.inl rfl | exact Or.inr rfl)) (rss_one (rs_if (rt_not (rt_tru (re_def (ok_u_law_is_pair F) hr (by decide) rfl tk (ra_cons (re_ix (re_v 0) (re_v 2)) (ra_cons (re_ix (re_v 1) (re_v 2)) ra_nil))))) (rss_one (rs_ret re_bl)) rss_nil)))
    (rss_one (rs_ret re_bl))))
theorem ok_u_law_are_pairs (F : Ft P K mg) : Cl P w K mg base 3 "_law_are_pairs" false 2 mf_u_law_are_pairs := by
  obtain ⟨fd, FD, h⟩ := fn_u_law_are_pairs (w := w) (base := base) F
  exact ⟨_, fd, _, h, F.g_u_law_are_pairs, FD.kp, FD.bindsN fun _ _ _ _ _ _ us hl => match us, hl with | [_, _], _ => rfl⟩

def kw_u_law_is_number : List (Str × V) := []
def N_u_law_is_number : List Str := ["told", "due"]
theorem sc_u_law_is_number : FnScope N_u_law_is_number ["told", "due"] (defScope (top 45)) := ⟨rfl, rfl, rfl, by decide +kernel, rfl, by decide +kernel, by decide +kernel⟩
def m_u_law_is_number : MS :=
  (mRet (mAndV (mDef mf_u_law_integer (mCons (mV 0) mNil)) (mBin gEq (mV 0) (mV 1))))
def mf_u_law_is_number : MF := mfn false N_u_law_is_number.length m_u_law_is_number
theorem fn_u_law_is_number (F : Ft P K mg) : ∃ fd, FunD K "_law_is_number" "_law_is_number" (defArgs (top 45)) (defBody (top 45)) (defScope (top 45)) [] kw_u_law_is_number (He.ga K "_law_is_number") fd ∧ FnOk P w K mg base (L2N.CX P w) 2 (He.ga K "_law_is_number") fd ["told", "due"] (spF ⟨K, mg⟩ false 2 mf_u_law_is_number) := by
  obtain ⟨fd, FD⟩ := F.d_u_law_is_number
  refine ⟨fd, FD, fx_fn (k := 1) FD sc_u_law_is_number fun cdv A outer s H E hr => ?_⟩
  have nd : N_u_law_is_number.Nodup := sc_u_law_is_number.nd
  have tk := takesF (P := P) (w := w) (K := K) (mg := mg) (base := base) (N := N_u_law_is_number) (qual := "_law_is_number") (scope := defScope (top 45)) (f := He.ga K "_law_is_number") (cd := cdv) (A := A) (outer := outer) (s := s) (H := H) (E := E)
  have ps := passesF (P := P) (w := w) (K := K) (mg := mg) (base := base) (N := N_u_law_is_number) (qual := "_law_is_number") (scope := defScope (top 45)) (f := He.ga K "_law_is_number") (cd := cdv) (A := A) (outer := outer) (s := s) (H := H) (E := E)
  exact (rss_one (rs_ret (re_and (re_def (ok_u_law_integer F) hr (by decide) rfl tk (ra_cons (re_v 0) ra_nil)) (re_one (re_cmp (opd_eq hr.units) (re_v 0) (re_v 1) rfl)))))
theorem ok_u_law_is_number (F : Ft P K mg) : Cl P w K mg base 2 "_law_is_number" false 2 mf_u_law_is_number := by
  obtain ⟨fd, FD, h⟩ := fn_u_law_is_number (w := w) (base := base) F
  exact ⟨_, fd, _, h, F.g_u_law_is_number, FD.kp, FD.bindsN fun _ _ _ _ _ _ us hl => match us, hl with | [_, _], _ => rfl⟩

def kw_u_law_common : List (Str × V) := []
def N_u_law_common : List Str := ["one", "two", "k", "kept"]
theorem sc_u_law_common : FnScope N_u_law_common ["one", "two"] (defScope (top 46)) := ⟨rfl, rfl, rfl, by decide +kernel, rfl, by decide +kernel, by decide +kernel⟩
def m_u_law_common : MS :=
  (mSeq (mFor (mRange1 (mC (.int 100))) (gSet 2) (mSeq (mIte (mBool (mBin gEq (mV 1) (mC (.int 0)))) mBreak mNext)
  (mSeq (mSet 3 (mV 1))
  (mSeq (mSet 1 (mBin (gI kMod) (mCall gInt (mCons (mV 0) mNil)) (mV 1)))
  (mSet 0 (mV 3))))))
  (mRet (mV 0)))
def mf_u_law_common : MF := mfn false N_u_law_common.length m_u_law_common
theorem fn_u_law_common (F : Ft P K mg) : ∃ fd, FunD K "_law_common" "_law_common" (defArgs (top 46)) (defBody (top 46)) (defScope (top 46)) [] kw_u_law_common (He.ga K "_law_common") fd ∧ FnOk P w K mg base (L2N.CX P w) 1 (He.ga K "_law_common") fd ["one", "two"] (spF ⟨K, mg⟩ false 2 mf_u_law_common) := by
  obtain ⟨fd, FD⟩ := F.d_u_law_common
  refine ⟨fd, FD, fx_fn (k := 0) FD sc_u_law_common fun cdv A outer s H E hr => ?_⟩
  have nd : N_u_law_common.Nodup := sc_u_law_common.nd
  have tk := takesF (P := P) (w := w) (K := K) (mg := mg) (base := base) (N := N_u_law_common) (qual := "_law_common") (scope := defScope (top 46)) (f := He.ga K "_law_common") (cd := cdv) (A := A) (outer := outer) (s := s) (H := H) (E := E)
  have ps := passesF (P := P) (w := w) (K := K) (mg := mg) (base := base) (N := N_u_law_common) (qual := "_law_common") (scope := defScope (top 46)) (f := He.ga K "_law_common") (cd := cdv) (A := A) (outer := outer) (s := s) (H := H) (E := E)
  exact (rss_cons (rs_for ps rfl (ri_range1 rfl F.n_range re_int) (rg_name nd rfl (by first | exact Or.inl rfl | exact Or.inr rfl)) (rss_cons (rs_if (rt_cmp (opd_eq hr.units) (re_v 1) re_int rfl) (rss_one rs_break) rss_nil)
    (rss_cons (rs_set nd rfl (by first | exact Or.inl rfl | exact Or.inr rfl) (re_v 1))
    (rss_cons (rs_set nd rfl (by first | exact Or.inl rfl | exact Or.inr rfl) (re_bin opd_mod (re_toInt rfl F.n_int (ra_cons (re_v 0) ra_nil)) (re_v 1)))
    (rss_one (rs_set nd rfl (by first | exact Or.inl rfl | exact Or.inr rfl) (re_v 3)))))))
    (rss_one (rs_ret (re_v 0))))
theorem ok_u_law_common (F : Ft P K mg) : Cl P w K mg base 1 "_law_common" false 2 mf_u_law_common := by
  obtain ⟨fd, FD, h⟩ := fn_u_law_common (w := w) (base := base) F
  exact ⟨_, fd, _, h, F.g_u_law_common, FD.kp, FD.bindsN fun _ _ _ _ _ _ us hl => match us, hl with | [_, _], _ => rfl⟩

def kw_u_law_lowest : List (Str × V) := []
def N_u_law_lowest : List Str := ["pair", "by"]
theorem sc_u_law_lowest : FnScope N_u_law_lowest ["pair"] (defScope (top 47)) := ⟨rfl, rfl, rfl, by decide +kernel, rfl, by decide +kernel, by decide +kernel⟩
def m_u_law_lowest : MS :=
  (mSeq (mSet 1 (mDef mf_u_law_common (mCons (mBin gIx (mV 0) (mC (.int 0))) (mCons (mBin gIx (mV 0) (mC (.int 1))) mNil))))
  (mRet (mTup (mCons (mBin (gI kDiv) (mBin gIx (mV 0) (mC (.int 0))) (mV 1)) (mCons (mBin (gI kDiv) (mBin gIx (mV 0) (mC (.int 1))) (mV 1)) mNil)))))
def mf_u_law_lowest : MF := mfn false N_u_law_lowest.length m_u_law_lowest
theorem fn_u_law_lowest (F : Ft P K mg) : ∃ fd, FunD K "_law_lowest" "_law_lowest" (defArgs (top 47)) (defBody (top 47)) (defScope (top 47)) [] kw_u_law_lowest (He.ga K "_law_lowest") fd ∧ FnOk P w K mg base (L2N.CX P w) 2 (He.ga K "_law_lowest") fd ["pair"] (spF ⟨K, mg⟩ false 1 mf_u_law_lowest) := by
  obtain ⟨fd, FD⟩ := F.d_u_law_lowest
  refine ⟨fd, FD, fx_fn (k := 1) FD sc_u_law_lowest fun cdv A outer s H E hr => ?_⟩
  have nd : N_u_law_lowest.Nodup := sc_u_law_lowest.nd
  have tk := takesF (P := P) (w := w) (K := K) (mg := mg) (base := base) (N := N_u_law_lowest) (qual := "_law_lowest") (scope := defScope (top 47)) (f := He.ga K "_law_lowest") (cd := cdv) (A := A) (outer := outer) (s := s) (H := H) (E := E)
  have ps := passesF (P := P) (w := w) (K := K) (mg := mg) (base := base) (N := N_u_law_lowest) (qual := "_law_lowest") (scope := defScope (top 47)) (f := He.ga K "_law_lowest") (cd := cdv) (A := A) (outer := outer) (s := s) (H := H) (E := E)
  exact (rss_cons (rs_set nd rfl (by first | exact Or.inl rfl | exact Or.inr rfl) (re_def (ok_u_law_common F) hr (by decide) rfl tk (ra_cons (re_ix (re_v 0) re_int) (ra_cons (re_ix (re_v 0) re_int) ra_nil))))
    (rss_one (rs_ret (re_tup (ra_cons (re_bin opd_div (re_ix (re_v 0) re_int) (re_v 1)) (ra_cons (re_bin opd_div (re_ix (re_v 0) re_int) (re_v 1)) ra_nil))))))
theorem ok_u_law_lowest (F : Ft P K mg) : Cl P w K mg base 2 "_law_lowest" false 1 mf_u_law_lowest := by
  obtain ⟨fd, FD, h⟩ := fn_u_law_lowest (w := w) (base := base) F
  exact ⟨_, fd, _, h, F.g_u_law_lowest, FD.kp, FD.bindsN fun _ _ _ _ _ _ us hl => match us, hl with | [_], _ => rfl⟩

def kw_u_law_beside : List (Str × V) := []
def N_u_law_beside : List Str := ["pair", "one", "two", "step", "by", "kept", "k"]
theorem sc_u_law_beside : FnScope N_u_law_beside ["pair"] (defScope (top 48)) := ⟨rfl, rfl, rfl, by decide +kernel, rfl, by decide +kernel, by decide +kernel⟩
def m_u_law_beside : MS :=
  (mSeq (mSet 1 (mLst (mCons (mBin gIx (mV 0) (mC (.int 1))) (mCons (mC (.int 1)) (mCons (mC (.int 0)) mNil)))))
  (mSeq (mSet 2 (mLst (mCons (mBin gIx (mV 0) (mC (.int 0))) (mCons (mC (.int 0)) (mCons (mC (.int 1)) mNil)))))
  (mSeq (mFor (mRange1 (mC (.int 100))) (gSet 3) (mSeq (mIte (mBool (mBin gEq (mBin gIx (mV 2) (mC (.int 0))) (mC (.int 0)))) mBreak mNext)
  (mSeq (mSet 4 (mBin (gI kDiv) (mBin gIx (mV 1) (mC (.int 0))) (mBin gIx (mV 2) (mC (.int 0)))))
  (mSeq (mSet 5 (mV 2))
  (mSeq (mSet 2 (mLc 6 (mRange1 (mC (.int 3))) mYes (mBin (gI (kInt fun i j => i - j)) (mBin gIx (mV 1) (mV 6)) (mBin (gI kMul) (mV 4) (mBin gIx (mV 2) (mV 6))))))
  (mSet 1 (mV 5)))))))
  (mRet (mTup (mCons (mBin gIx (mV 1) (mC (.int 1))) (mCons (mNeg (mBin gIx (mV 1) (mC (.int 2)))) mNil)))))))
def mf_u_law_beside : MF := mfn false N_u_law_beside.length m_u_law_beside
theorem fn_u_law_beside (F : Ft P K mg) : ∃ fd, FunD K "_law_beside" "_law_beside" (defArgs (top 48)) (defBody (top 48)) (defScope (top 48)) [] kw_u_law_beside (He.ga K "_law_beside") fd ∧ FnOk P w K mg base (L2N.CX P w) 1 (He.ga K "_law_beside") fd ["pair"] (spF ⟨K, mg⟩ false 1 mf_u_law_beside) := by
  obtain ⟨fd, FD⟩ := F.d_u_law_beside
  refine ⟨fd, FD, fx_fn (k := 0) FD sc_u_law_beside fun cdv A outer s H E hr => ?_⟩
  have nd : N_u_law_beside.Nodup := sc_u_law_beside.nd
  have tk := takesF (P := P) (w := w) (K := K) (mg := mg) (base := base) (N := N_u_law_beside) (qual := "_law_beside") (scope := defScope (top 48)) (f := He.ga K "_law_beside") (cd := cdv) (A := A) (outer := outer) (s := s) (H := H) (E := E)
  have ps := passesF (P := P) (w := w) (K := K) (mg := mg) (base := base) (N := N_u_law_beside) (qual := "_law_beside") (scope := defScope (top 48)) (f := He.ga K "_law_beside") (cd := cdv) (A := A) (outer := outer) (s := s) (H := H) (E := E)
  exact (rss_cons (rs_set nd rfl (by first | exact Or.inl rfl | exact Or.inr rfl) (RF.re (rf_lst (ra_cons (re_ix (re_v 0) re_int) (ra_cons re_int (ra_cons re_int ra_nil))))))
    (rss_cons (rs_set nd rfl (by first | exact Or.inl rfl | exact Or.inr rfl) (RF.re (rf_lst (ra_cons (re_ix (re_v 0) re_int) (ra_cons re_int (ra_cons re_int ra_nil))))))
    (rss_cons (rs_for ps rfl (ri_range1 rfl F.n_range re_int) (rg_name nd rfl (by first | exact Or.inl rfl | exact Or.inr rfl)) (rss_cons (rs_if (rt_cmp (opd_eq hr.units) (re_ix (re_v 2) re_int) re_int rfl) (rss_one rs_break) rss_nil)
    (rss_cons (rs_set nd rfl (by first | exact Or.inl rfl | exact Or.inr rfl) (re_bin opd_div (re_ix (re_v 1) re_int) (re_ix (re_v 2) re_int)))
    (rss_cons (rs_set nd rfl (by first | exact Or.inl rfl | exact Or.inr rfl) (re_v 2))
    (rss_cons (rs_set nd rfl (by first | exact Or.inl rfl | exact Or.inr rfl) (RF.re (rf_lc rfl nd (ri_range1 rfl F.n_range re_int) (blkOk_by (N := N_u_law_beside) (sc := defScope (top 48)) (by kernel_rfl)) (fun _ _ _ _ _ => pg_name nd rfl (by first | exact Or.inl rfl | exact Or.inr rfl)) (fun _ _ _ _ _ => rts_nil) (fun _ _ _ _ _ => (re_bin opd_sub (re_ix (re_v 1) (re_v 6)) (re_bin opd_mul (re_v 4) (re_ix (re_v 2) (re_v 6))))))))
    (rss_one (rs_set nd rfl (by first | exact Or.inl rfl | exact Or.inr rfl) (re_v 5))))))))
    (rss_one (rs_ret (re_tup (ra_cons (re_ix (re_v 1) re_int) (ra_cons (re_neg (re_ix (re_v 1) re_int)) ra_nil))))))))
theorem ok_u_law_beside (F : Ft P K mg) : Cl P w K mg base 1 "_law_beside" false 1 mf_u_law_beside := by
  obtain ⟨fd, FD, h⟩ := fn_u_law_beside (w := w) (base := base) F
  exact ⟨_, fd, _, h, F.g_u_law_beside, FD.kp, FD.bindsN fun _ _ _ _ _ _ us hl => match us, hl with | [_], _ => rfl⟩

def kw_u_law_length : List (Str × V) := []
def N_u_law_length : List Str := ["low", "high", "one", "two", "number", "k", "by", "kept"]
theorem sc_u_law_length : FnScope N_u_law_length ["low", "high"] (defScope (top 49)) := ⟨rfl, rfl, rfl, by decide +kernel, rfl, by decide +kernel, by decide +kernel⟩
def m_u_law_length : MS :=
  (mSeq (mSet 2 (mDef mf_u_law_turn (mCons (mV 1) (mCons (mV 0) mNil))))
  (mSeq (mSet 3 (mBin (gI kMod) (mCall gInt (mCons (mDef mf_u_law_turn (mCons (mV 1) (mCons (mDef mf_u_law_beside (mCons (mV 0) mNil)) mNil))) mNil)) (mV 2)))
  (mSeq (mSet 4 (mC (.int 2)))
  (mSeq (mIte (mBool (mBin gEq (mV 3) (mC (.int 0)))) (mRet (mV 4)) mNext)
  (mSeq (mFor (mRange1 (mC (.int 200))) (gSet 5) (mSeq (mIte (mBool (mBin gEq (mV 3) (mC (.int 0)))) mBreak mNext)
  (mSeq (mSet 6 (mBin (gI kDiv) (mV 2) (mV 3)))
  (mSeq (mSet 7 (mV 3))
  (mSeq (mSet 3 (mBin (gI kMod) (mCall gInt (mCons (mV 2) mNil)) (mV 3)))
  (mSeq (mSet 2 (mV 7))
  (mIte (mBool (mBin gEq (mBin (gI kMod) (mV 5) (mC (.int 2))) (mC (.int 1)))) (mSet 4 (mBin gAdd (mV 4) (mV 6))) (mIte (mBool (mBin gEq (mV 3) (mC (.int 0)))) (mSet 4 (mBin gAdd (mV 4) (mC (.int 1)))) mNext))))))))
  (mRet (mV 4)))))))
def mf_u_law_length : MF := mfn false N_u_law_length.length m_u_law_length
theorem fn_u_law_length (F : Ft P K mg) : ∃ fd, FunD K "_law_length" "_law_length" (defArgs (top 49)) (defBody (top 49)) (defScope (top 49)) [] kw_u_law_length (He.ga K "_law_length") fd ∧ FnOk P w K mg base (L2N.CX P w) 2 (He.ga K "_law_length") fd ["low", "high"] (spF ⟨K, mg⟩ false 2 mf_u_law_length) := by
  obtain ⟨fd, FD⟩ := F.d_u_law_length
  refine ⟨fd, FD, fx_fn (k := 1) FD sc_u_law_length fun cdv A outer s H E hr => ?_⟩
  have nd : N_u_law_length.Nodup := sc_u_law_length.nd
  have tk := takesF (P := P) (w := w) (K := K) (mg := mg) (base := base) (N := N_u_law_length) (qual := "_law_length") (scope := defScope (top 49)) (f := He.ga K "_law_length") (cd := cdv) (A := A) (outer := outer) (s := s) (H := H) (E := E)
  have ps := passesF (P := P) (w := w) (K := K) (mg := mg) (base := base) (N := N_u_law_length) (qual := "_law_length") (scope := defScope (top 49)) (f := He.ga K "_law_length") (cd := cdv) (A := A) (outer := outer) (s := s) (H := H) (E := E)
  exact (rss_cons (rs_set nd rfl (by first | exact Or.inl rfl | exact Or.inr rfl) (re_def (ok_u_law_turn F) hr (by decide) rfl tk (ra_cons (re_v 1) (ra_cons (re_v 0) ra_nil))))
    (rss_cons (rs_set nd rfl (by first | exact Or.inl rfl | exact Or.inr rfl) (re_bin opd_mod (re_toInt rfl F.n_int (ra_cons (re_def (ok_u_law_turn F) hr (by decide) rfl tk (ra_cons (re_v 1) (ra_cons (re_def (ok_u_law_beside F) hr (by decide) rfl tk (ra_cons (re_v 0) ra_nil)) ra_nil))) ra_nil)) (re_v 2)))
    (rss_cons (rs_set nd rfl (by first | exact Or.inl rfl | exact Or.inr rfl) re_int)
    (rss_cons (rs_if (rt_cmp (opd_eq hr.units) (re_v 3) re_int rfl) (rss_one (rs_ret (re_v 4))) rss_nil)
    (rss_cons (rs_for ps rfl (ri_range1 rfl F.n_range re_int) (rg_name nd rfl (by first | exact Or.inl rfl | exact Or.inr rfl)) (rss_cons (rs_if (rt_cmp (opd_eq hr.units) (re_v 3) re_int rfl) (rss_one rs_break) rss_nil)
    (rss_cons (rs_set nd rfl (by first | exact Or.inl rfl | exact Or.inr rfl) (re_bin opd_div (re_v 2) (re_v 3)))
    (rss_cons (rs_set nd rfl (by first | exact Or.inl rfl | exact Or.inr rfl) (re_v 3))
    (rss_cons (rs_set nd rfl (by first | exact Or.inl rfl | exact Or.inr rfl) (re_bin opd_mod (re_toInt rfl F.n_int (ra_cons (re_v 2) ra_nil)) (re_v 3)))
    (rss_cons (rs_set nd rfl (by first | exact Or.inl rfl | exact Or.inr rfl) (re_v 7))
    (rss_one (rs_if (rt_cmp (opd_eq hr.units) (re_bin opd_mod (re_v 5) re_int) re_int rfl) (rss_one (rs_set nd rfl (by first | exact Or.inl rfl | exact Or.inr rfl) (re_bin opd_add (re_v 4) (re_v 6)))) (rss_one (rs_if (rt_cmp (opd_eq hr.units) (re_v 3) re_int rfl) (rss_one (rs_set nd rfl (by first | exact Or.inl rfl | exact Or.inr rfl) (re_bin opd_add (re_v 4) re_int))) rss_nil))))))))))
    (rss_one (rs_ret (re_v 4))))))))
theorem ok_u_law_length (F : Ft P K mg) : Cl P w K mg base 2 "_law_length" false 2 mf_u_law_length := by
  obtain ⟨fd, FD, h⟩ := fn_u_law_length (w := w) (base := base) F
  exact ⟨_, fd, _, h, F.g_u_law_length, FD.kp, FD.bindsN fun _ _ _ _ _ _ us hl => match us, hl with | [_, _], _ => rfl⟩

def kw_u_law_small_due : List (Str × V) := []
def N_u_law_small_due : List Str := ["low", "high", "points", "x", "sums", "i", "left", "told", "k", "y", "one", "two", "point", "behind"]
theorem sc_u_law_small_due : FnScope N_u_law_small_due ["low", "high"] (defScope (top 50)) := ⟨rfl, rfl, rfl, by decide +kernel, rfl, by decide +kernel, by decide +kernel⟩
def m_u_law_small_due : MS :=
  (mSeq (mSetO 2 (mLst mNil))
  (mSeq (mFor (mRange1 (mC (.int 13))) (gSet 3) (mFor (mRange1 (mC (.int 13))) (gSet 9) (mSeq (mSet 12 (mTup (mCons (mV 3) (mCons (mV 9) mNil))))
  (mIte (mAnd (mBool (mBin (gI (kBl fun i j => decide (j ≤ i))) (mDef mf_u_law_turn (mCons (mV 12) (mCons (mV 0) mNil))) (mC (.int 0)))) (mBool (mBin (gI (kBl fun i j => decide (j ≤ i))) (mDef mf_u_law_turn (mCons (mV 1) (mCons (mV 12) mNil))) (mC (.int 0))))) (mApp 2 (mV 12)) mNext))))
  (mSeq (mFrz 2)
  (mSeq (mSet 2 (mSl (mV 2) (mPart (mC (.int 1))) mNo))
  (mSeq (mSetO 4 (mNewD true))
  (mSeq (mFor (mRange1 (mCall gLen (mCons (mV 2) mNil))) (gSet 5) (mSeq (mSet 10 (mBin gIx (mV 2) (mV 5)))
  (mFor (mItems (mSl (mV 2) (mPart (mV 5)) mNo)) (gSet 11) (mPutD 4 (mTup (mCons (mBin gAdd (mBin gIx (mV 10) (mC (.int 0))) (mBin gIx (mV 11) (mC (.int 0)))) (mCons (mBin gAdd (mBin gIx (mV 10) (mC (.int 1))) (mBin gIx (mV 11) (mC (.int 1)))) mNil))) (mC (.bl true))))))
  (mSeq (mFrz 4)
  (mSeq (mSet 6 (mLc 12 (mItems (mV 2)) (mBool (mIn not (mV 12) (mV 4))) (mV 12)))
  (mSeq (mSetO 7 (mLst mNil))
  (mSeq (mFor (mRange1 (mCall gLen (mCons (mV 6) mNil))) (gSet 8) (mFor (mItems (mV 6)) (gSet 12) (mSeq (mSet 13 (mLc 10 (mItems (mV 6)) (mBool (mBin (gI (kBl fun i j => decide (j < i))) (mDef mf_u_law_turn (mCons (mV 12) (mCons (mV 10) mNil))) (mC (.int 0)))) (mV 10)))
  (mIte (mBool (mBin gEq (mCall gLen (mCons (mV 13) mNil)) (mV 8))) (mApp 7 (mV 12)) mNext))))
  (mRetO 7)))))))))))
def mf_u_law_small_due : MF := mfn false N_u_law_small_due.length m_u_law_small_due
theorem fn_u_law_small_due (F : Ft P K mg) : ∃ fd, FunD K "_law_small_due" "_law_small_due" (defArgs (top 50)) (defBody (top 50)) (defScope (top 50)) [] kw_u_law_small_due (He.ga K "_law_small_due") fd ∧ FnOk P w K mg base (L2N.CX P w) 2 (He.ga K "_law_small_due") fd ["low", "high"] (spF ⟨K, mg⟩ false 2 mf_u_law_small_due) := by
  obtain ⟨fd, FD⟩ := F.d_u_law_small_due
  refine ⟨fd, FD, fx_fn (k := 1) FD sc_u_law_small_due fun cdv A outer s H E hr => ?_⟩
  have nd : N_u_law_small_due.Nodup := sc_u_law_small_due.nd
  have tk := takesF (P := P) (w := w) (K := K) (mg := mg) (base := base) (N := N_u_law_small_due) (qual := "_law_small_due") (scope := defScope (top 50)) (f := He.ga K "_law_small_due") (cd := cdv) (A := A) (outer := outer) (s := s) (H := H) (E := E)
  have ps := passesF (P := P) (w := w) (K := K) (mg := mg) (base := base) (N := N_u_law_small_due) (qual := "_law_small_due") (scope := defScope (top 50)) (f := He.ga K "_law_small_due") (cd := cdv) (A := A) (outer := outer) (s := s) (H := H) (E := E)
  exact (rss_cons (rs_setO nd rfl (by first | exact Or.inl rfl | exact Or.inr rfl) (rf_lst ra_nil))
    (rss_cons (rs_for ps rfl (ri_range1 rfl F.n_range re_int) (rg_name nd rfl (by first | exact Or.inl rfl | exact Or.inr rfl)) (rss_one (rs_for ps rfl (ri_range1 rfl F.n_range re_int) (rg_name nd rfl (by first | exact Or.inl rfl | exact Or.inr rfl)) (rss_cons (rs_set nd rfl (by first | exact Or.inl rfl | exact Or.inr rfl) (re_tup (ra_cons (re_v 3) (ra_cons (re_v 9) ra_nil))))
    (rss_one (rs_if (RW.rt (rw_and (rt_cmp opd_ge (re_def (ok_u_law_turn F) hr (by decide) rfl tk (ra_cons (re_v 12) (ra_cons (re_v 0) ra_nil))) re_int rfl) (rw_and1 (rt_cmp opd_ge (re_def (ok_u_law_turn F) hr (by decide) rfl tk (ra_cons (re_v 1) (ra_cons (re_v 12) ra_nil))) re_int rfl)))) (rss_one (rs_app (pv 2) (re_v 12))) rss_nil))))))
    (rss_frz 2 (rss_cons (rs_set nd rfl (by first | exact Or.inl rfl | exact Or.inr rfl) (RF.re (rf_sl (re_v 2) (ro_part re_int) ro_no)))
    (rss_cons (rs_setO nd rfl (by first | exact Or.inl rfl | exact Or.inr rfl) rf_newT)
    (rss_cons (rs_for ps rfl (ri_range1 rfl F.n_range (re_len rfl F.n_len (ra_cons (re_v 2) ra_nil))) (rg_name nd rfl (by first | exact Or.inl rfl | exact Or.inr rfl)) (rss_cons (rs_set nd rfl (by first | exact Or.inl rfl | exact Or.inr rfl) (re_ix (re_v 2) (re_v 5)))
    (rss_one (rs_for ps rfl (ri_list (RF.re (rf_sl (re_v 2) (ro_part (re_v 5)) ro_no))) (rg_name nd rfl (by first | exact Or.inl rfl | exact Or.inr rfl)) (rss_one (rs_putD (hu_of hr) (pv 4) (re_tup (ra_cons (re_bin opd_add (re_ix (re_v 10) re_int) (re_ix (re_v 11) re_int)) (ra_cons (re_bin opd_add (re_ix (re_v 10) re_int) (re_ix (re_v 11) re_int)) ra_nil))) re_bl))))))
    (rss_frz 4 (rss_cons (rs_setLcV rfl nd rfl rfl (sw_true rfl rfl rfl rfl) (ri_list (re_v 2)) (blkOk_by (N := N_u_law_small_due) (sc := defScope (top 50)) (by kernel_rfl)) (fun _ _ _ _ _ => pg_name nd rfl (by first | exact Or.inl rfl | exact Or.inr rfl)) (fun _ _ _ _ _ => (rts_one (rt_notIn (hu_of hr) (re_v 12) (re_v 4)))) (fun _ _ _ _ _ => (re_v 12)))
    (rss_cons (rs_setO nd rfl (by first | exact Or.inl rfl | exact Or.inr rfl) (rf_lst ra_nil))
    (rss_cons (rs_for ps rfl (ri_range1 rfl F.n_range (re_len rfl F.n_len (ra_cons (re_v 6) ra_nil))) (rg_name nd rfl (by first | exact Or.inl rfl | exact Or.inr rfl)) (rss_one (rs_for ps rfl (ri_list (re_v 6)) (rg_name nd rfl (by first | exact Or.inl rfl | exact Or.inr rfl)) (rss_cons (rs_setLcV rfl nd rfl rfl (sw_true rfl rfl rfl rfl) (ri_list (re_v 6)) (blkOk_by (N := N_u_law_small_due) (sc := defScope (top 50)) (by kernel_rfl)) (fun _ _ _ _ _ => pg_name nd rfl (by first | exact Or.inl rfl | exact Or.inr rfl)) (fun _ _ _ _ _ => (rts_one (rt_cmp opd_gt (re_def (ok_u_law_turn F) hr (by decide) rfl takes_blk (ra_cons (re_v 12) (ra_cons (re_v 10) ra_nil))) re_int rfl))) (fun _ _ _ _ _ => (re_v 10)))
    (rss_one (rs_if (rt_cmp (opd_eq hr.units) (re_len rfl F.n_len (ra_cons (re_v 13) ra_nil)) (re_v 8) rfl) (rss_one (rs_app (pv 7) (re_v 12))) rss_nil))))))
    (rss_one (rs_retO (pv 7)))))))))))))
theorem ok_u_law_small_due (F : Ft P K mg) : Cl P w K mg base 2 "_law_small_due" false 2 mf_u_law_small_due := by
  obtain ⟨fd, FD, h⟩ := fn_u_law_small_due (w := w) (base := base) F
  exact ⟨_, fd, _, h, F.g_u_law_small_due, FD.kp, FD.bindsN fun _ _ _ _ _ _ us hl => match us, hl with | [_, _], _ => rfl⟩

def kw_u_law_built : List (Str × V) := []
def N_u_law_built : List Str := ["script", "i", "j", "one", "two", "chain", "more", "runs", "k", "by", "step", "here", "before", "there"]
theorem sc_u_law_built : FnScope N_u_law_built ["script"] (defScope (top 51)) := ⟨rfl, rfl, rfl, by decide +kernel, rfl, by decide +kernel, by decide +kernel⟩
def m_u_law_built : MS :=
  (mSeq (mSet 1 (mBin (gI kMod) (mDef mf_u_law_cell (mCons (mV 0) (mCons (mC (.int 1)) mNil))) (mC (.int 100))))
  (mSeq (mSet 2 (mBin (gI kMod) (mDef mf_u_law_cell (mCons (mV 0) (mCons (mC (.int 2)) mNil))) (mC (.int 100))))
  (mSeq (mSet 3 (mTup (mCons (mV 1) (mCons (mC (.int 1)) mNil))))
  (mSeq (mSet 4 (mTup (mCons (mBin gAdd (mC (.int 1)) (mBin (gI kMul) (mV 1) (mV 2))) (mCons (mV 2) mNil))))
  (mSeq (mSetO 5 (mLst (mCons (mV 3) (mCons (mTup (mCons (mBin gAdd (mBin gIx (mV 3) (mC (.int 0))) (mBin gIx (mV 4) (mC (.int 0)))) (mCons (mBin gAdd (mBin gIx (mV 3) (mC (.int 1))) (mBin gIx (mV 4) (mC (.int 1)))) mNil))) mNil))))
  (mSeq (mSet 6 (mDef mf_u_law_cell (mCons (mV 0) (mCons (mC (.int 3)) mNil))))
  (mSeq (mSet 7 (mLst (mCons (mBin (gI kMod) (mV 6) (mC (.int 431))) (mCons (mC (.int 0)) (mCons (mBin (gI kMod) (mDef mf_u_law_cell (mCons (mV 0) (mCons (mC (.int 4)) mNil))) (mC (.int 7))) (mCons (mC (.int 0)) mNil))))))
  (mSeq (mIte (mBool (mBin gEq (mBin (gI kMod) (mDef mf_u_law_cell (mCons (mV 0) (mCons (mC (.int 0)) mNil))) (mC (.int 8))) (mC (.int 3)))) (mSet 7 (mLst (mCons (mBin (gI kMod) (mV 6) (mC (.int 12))) (mCons (mBin (gI kMod) (mBin (gI kDiv) (mV 6) (mC (.int 12))) (mC (.int 5))) (mCons (mBin (gI kMod) (mDef mf_u_law_cell (mCons (mV 0) (mCons (mC (.int 4)) mNil))) (mC (.int 7))) (mCons (mC (.int 2)) mNil)))))) mNext)
  (mSeq (mIte (mBool (mBin gEq (mBin (gI kMod) (mDef mf_u_law_cell (mCons (mV 0) (mCons (mC (.int 0)) mNil))) (mC (.int 8))) (mC (.int 4)))) (mSet 7 (mLst (mCons (mBin gAdd (mC (.int 393)) (mBin (gI kMod) (mV 6) (mC (.int 3)))) (mCons (mC (.int 0)) (mCons (mC (.int 0)) (mCons (mC (.int 0)) mNil)))))) mNext)
  (mSeq (mFor (mRange1 (mC (.int 4))) (gSet 8) (mSeq (mSet 9 (mC (.int 2)))
  (mSeq (mIte (mBool (mBin (gI (kBl fun i j => decide (j < i))) (mV 8) (mC (.int 0)))) (mSet 9 (mBin gAdd (mC (.int 3)) (mBin (gI kMod) (mDef mf_u_law_cell (mCons (mV 0) (mCons (mBin gAdd (mC (.int 6)) (mV 8)) mNil))) (mC (.int 7))))) mNext)
  (mFor (mRange1 (mBin gAdd (mC (.int 1)) (mBin gIx (mV 7) (mV 8)))) (gSet 10) (mSeq (mSet 11 (mBin gIx (mO 5) (mNeg (mC (.int 1)))))
  (mSeq (mSet 12 (mBin gIx (mO 5) (mNeg (mC (.int 2)))))
  (mSeq (mSet 13 (mTup (mCons (mBin (gI (kInt fun i j => i - j)) (mBin (gI kMul) (mV 9) (mBin gIx (mV 11) (mC (.int 0)))) (mBin gIx (mV 12) (mC (.int 0)))) (mCons (mBin (gI (kInt fun i j => i - j)) (mBin (gI kMul) (mV 9) (mBin gIx (mV 11) (mC (.int 1)))) (mBin gIx (mV 12) (mC (.int 1)))) mNil))))
  (mSeq (mIte (mBool (mBin (gI (kBl fun i j => decide (j < i))) (mCall (gII fMax) (mCons (mBin gIx (mV 13) (mC (.int 0))) (mCons (mBin gIx (mV 13) (mC (.int 1))) mNil))) (mBin (gI kPow) (mC (.int 10)) (mC (.int 10))))) mBreak mNext)
  (mSeq (mApp 5 (mV 13))
  (mSet 9 (mC (.int 2))))))))))))
  (mRetO 5)))))))))))
def mf_u_law_built : MF := mfn false N_u_law_built.length m_u_law_built
theorem fn_u_law_built (F : Ft P K mg) : ∃ fd, FunD K "_law_built" "_law_built" (defArgs (top 51)) (defBody (top 51)) (defScope (top 51)) [] kw_u_law_built (He.ga K "_law_built") fd ∧ FnOk P w K mg base (L2N.CX P w) 2 (He.ga K "_law_built") fd ["script"] (spF ⟨K, mg⟩ false 1 mf_u_law_built) := by
  obtain ⟨fd, FD⟩ := F.d_u_law_built
  refine ⟨fd, FD, fx_fn (k := 1) FD sc_u_law_built fun cdv A outer s H E hr => ?_⟩
  have nd : N_u_law_built.Nodup := sc_u_law_built.nd
  have tk := takesF (P := P) (w := w) (K := K) (mg := mg) (base := base) (N := N_u_law_built) (qual := "_law_built") (scope := defScope (top 51)) (f := He.ga K "_law_built") (cd := cdv) (A := A) (outer := outer) (s := s) (H := H) (E := E)
  have ps := passesF (P := P) (w := w) (K := K) (mg := mg) (base := base) (N := N_u_law_built) (qual := "_law_built") (scope := defScope (top 51)) (f := He.ga K "_law_built") (cd := cdv) (A := A) (outer := outer) (s := s) (H := H) (E := E)
  exact (rss_cons (rs_set nd rfl (by first | exact Or.inl rfl | exact Or.inr rfl) (re_bin opd_mod (re_def (ok_u_law_cell F) hr (by decide) rfl tk (ra_cons (re_v 0) (ra_cons re_int ra_nil))) re_int))
    (rss_cons (rs_set nd rfl (by first | exact Or.inl rfl | exact Or.inr rfl) (re_bin opd_mod (re_def (ok_u_law_cell F) hr (by decide) rfl tk (ra_cons (re_v 0) (ra_cons re_int ra_nil))) re_int))
    (rss_cons (rs_set nd rfl (by first | exact Or.inl rfl | exact Or.inr rfl) (re_tup (ra_cons (re_v 1) (ra_cons re_int ra_nil))))
    (rss_cons (rs_set nd rfl (by first | exact Or.inl rfl | exact Or.inr rfl) (re_tup (ra_cons (re_bin opd_add re_int (re_bin opd_mul (re_v 1) (re_v 2))) (ra_cons (re_v 2) ra_nil))))
    (rss_cons (rs_setO nd rfl (by first | exact Or.inl rfl | exact Or.inr rfl) (rf_lst (ra_cons (re_v 3) (ra_cons (re_tup (ra_cons (re_bin opd_add (re_ix (re_v 3) re_int) (re_ix (re_v 4) re_int)) (ra_cons (re_bin opd_add (re_ix (re_v 3) re_int) (re_ix (re_v 4) re_int)) ra_nil))) ra_nil))))
    (rss_cons (rs_set nd rfl (by first | exact Or.inl rfl | exact Or.inr rfl) (re_def (ok_u_law_cell F) hr (by decide) rfl tk (ra_cons (re_v 0) (ra_cons re_int ra_nil))))
    (rss_cons (rs_set nd rfl (by first | exact Or.inl rfl | exact Or.inr rfl) (RF.re (rf_lst (ra_cons (re_bin opd_mod (re_v 6) re_int) (ra_cons re_int (ra_cons (re_bin opd_mod (re_def (ok_u_law_cell F) hr (by decide) rfl tk (ra_cons (re_v 0) (ra_cons re_int ra_nil))) re_int) (ra_cons re_int ra_nil)))))))
    (rss_cons (rs_if (rt_cmp (opd_eq hr.units) (re_bin opd_mod (re_def (ok_u_law_cell F) hr (by decide) rfl tk (ra_cons (re_v 0) (ra_cons re_int ra_nil))) re_int) re_int rfl) (rss_one (rs_set nd rfl (by first | exact Or.inl rfl | exact Or.inr rfl) (RF.re (rf_lst (ra_cons (re_bin opd_mod (re_v 6) re_int) (ra_cons (re_bin opd_mod (re_bin opd_div (re_v 6) re_int) re_int) (ra_cons (re_bin opd_mod (re_def (ok_u_law_cell F) hr (by decide) rfl tk (ra_cons (re_v 0) (ra_cons re_int ra_nil))) re_int) (ra_cons re_int ra_nil)))))))) rss_nil)
    (rss_cons (rs_if (rt_cmp (opd_eq hr.units) (re_bin opd_mod (re_def (ok_u_law_cell F) hr (by decide) rfl tk (ra_cons (re_v 0) (ra_cons re_int ra_nil))) re_int) re_int rfl) (rss_one (rs_set nd rfl (by first | exact Or.inl rfl | exact Or.inr rfl) (RF.re (rf_lst (ra_cons (re_bin opd_add re_int (re_bin opd_mod (re_v 6) re_int)) (ra_cons re_int (ra_cons re_int (ra_cons re_int ra_nil)))))))) rss_nil)
    (rss_cons (rs_for ps rfl (ri_range1 rfl F.n_range re_int) (rg_name nd rfl (by first | exact Or.inl rfl | exact Or.inr rfl)) (rss_cons (rs_set nd rfl (by first | exact Or.inl rfl | exact Or.inr rfl) re_int)
    (rss_cons (rs_if (rt_cmp opd_gt (re_v 8) re_int rfl) (rss_one (rs_set nd rfl (by first | exact Or.inl rfl | exact Or.inr rfl) (re_bin opd_add re_int (re_bin opd_mod (re_def (ok_u_law_cell F) hr (by decide) rfl tk (ra_cons (re_v 0) (ra_cons (re_bin opd_add re_int (re_v 8)) ra_nil))) re_int)))) rss_nil)
    (rss_one (rs_for ps rfl (ri_range1 rfl F.n_range (re_bin opd_add re_int (re_ix (re_v 7) (re_v 8)))) (rg_name nd rfl (by first | exact Or.inl rfl | exact Or.inr rfl)) (rss_cons (rs_set nd rfl (by first | exact Or.inl rfl | exact Or.inr rfl) (re_ix (re_o 5) (re_neg re_int)))
    (rss_cons (rs_set nd rfl (by first | exact Or.inl rfl | exact Or.inr rfl) (re_ix (re_o 5) (re_neg re_int)))
    (rss_cons (rs_set nd rfl (by first | exact Or.inl rfl | exact Or.inr rfl) (re_tup (ra_cons (re_bin opd_sub (re_bin opd_mul (re_v 9) (re_ix (re_v 11) re_int)) (re_ix (re_v 12) re_int)) (ra_cons (re_bin opd_sub (re_bin opd_mul (re_v 9) (re_ix (re_v 11) re_int)) (re_ix (re_v 12) re_int)) ra_nil))))
    (rss_cons (rs_if (rt_cmp opd_gt (re_max2 rfl rfl F.n_max (ra_cons (re_ix (re_v 13) re_int) (ra_cons (re_ix (re_v 13) re_int) ra_nil))) (re_bin opd_pow re_int re_int) rfl) (rss_one rs_break) rss_nil)
    (rss_cons (rs_app (pv 5) (re_v 13))
    (rss_one (rs_set nd rfl (by first | exact Or.inl rfl | exact Or.inr rfl) re_int))))))))))))
    (rss_one (rs_retO (pv 5)))))))))))))
theorem ok_u_law_built (F : Ft P K mg) : Cl P w K mg base 2 "_law_built" false 1 mf_u_law_built := by
  obtain ⟨fd, FD, h⟩ := fn_u_law_built (w := w) (base := base) F
  exact ⟨_, fd, _, h, F.g_u_law_built, FD.kp, FD.bindsN fun _ _ _ _ _ _ us hl => match us, hl with | [_], _ => rfl⟩

def kw_u_law_is_chain : List (Str × V) := []
def N_u_law_is_chain : List Str := ["told", "low", "high", "length", "point", "k", "x", "y", "by"]
theorem sc_u_law_is_chain : FnScope N_u_law_is_chain ["told", "low", "high", "length"] (defScope (top 52)) := ⟨rfl, rfl, rfl, by decide +kernel, rfl, by decide +kernel, by decide +kernel⟩
def m_u_law_is_chain : MS :=
  (mSeq (mIte (mOr (mNot (mTru (mIsi "list" (mV 0)))) (mBool (mBin gNe (mCall gLen (mCons (mV 0) mNil)) (mV 3)))) (mRet (mC (.bl false))) mNext)
  (mSeq (mFor (mItems (mV 0)) (gSet 4) (mSeq (mIte (mNot (mTru (mDef mf_u_law_is_pair (mCons (mV 4) (mCons (mV 4) mNil))))) (mRet (mC (.bl false))) mNext)
  (mIte (mOr (mBool (mBin (gI (kBl fun i j => decide (i < j))) (mBin gIx (mV 4) (mC (.int 0))) (mC (.int 0)))) (mOr (mBool (mBin (gI (kBl fun i j => decide (i < j))) (mBin gIx (mV 4) (mC (.int 1))) (mC (.int 0)))) (mBool (mBin gEq (mBin gAdd (mBin gIx (mV 4) (mC (.int 0))) (mBin gIx (mV 4) (mC (.int 1)))) (mC (.int 0)))))) (mRet (mC (.bl false))) mNext)))
  (mSeq (mIte (mOr (mBool (mBin gNe (mBin gIx (mV 0) (mC (.int 0))) (mV 1))) (mBool (mBin gNe (mBin gIx (mV 0) (mNeg (mC (.int 1)))) (mV 2)))) (mRet (mC (.bl false))) mNext)
  (mSeq (mFor (mRange2 (mC (.int 1)) (mV 3)) (gSet 5) (mIte (mBool (mBin gNe (mDef mf_u_law_turn (mCons (mBin gIx (mV 0) (mV 5)) (mCons (mBin gIx (mV 0) (mBin (gI (kInt fun i j => i - j)) (mV 5) (mC (.int 1)))) mNil))) (mC (.int 1)))) (mRet (mC (.bl false))) mNext))
  (mSeq (mFor (mRange2 (mC (.int 1)) (mBin (gI (kInt fun i j => i - j)) (mV 3) (mC (.int 1)))) (gSet 5) (mSeq (mSet 6 (mBin gAdd (mBin gIx (mBin gIx (mV 0) (mBin (gI (kInt fun i j => i - j)) (mV 5) (mC (.int 1)))) (mC (.int 0))) (mBin gIx (mBin gIx (mV 0) (mBin gAdd (mV 5) (mC (.int 1)))) (mC (.int 0)))))
  (mSeq (mSet 7 (mBin gAdd (mBin gIx (mBin gIx (mV 0) (mBin (gI (kInt fun i j => i - j)) (mV 5) (mC (.int 1)))) (mC (.int 1))) (mBin gIx (mBin gIx (mV 0) (mBin gAdd (mV 5) (mC (.int 1)))) (mC (.int 1)))))
  (mSeq (mSet 8 (mBin (gI kDiv) (mBin gAdd (mV 6) (mV 7)) (mBin gAdd (mBin gIx (mBin gIx (mV 0) (mV 5)) (mC (.int 0))) (mBin gIx (mBin gIx (mV 0) (mV 5)) (mC (.int 1))))))
  (mIte (mOr (mBool (mBin (gI (kBl fun i j => decide (i < j))) (mV 8) (mC (.int 2)))) (mBool (mBin gNe (mTup (mCons (mV 6) (mCons (mV 7) mNil))) (mTup (mCons (mBin (gI kMul) (mV 8) (mBin gIx (mBin gIx (mV 0) (mV 5)) (mC (.int 0)))) (mCons (mBin (gI kMul) (mV 8) (mBin gIx (mBin gIx (mV 0) (mV 5)) (mC (.int 1)))) mNil)))))) (mRet (mC (.bl false))) mNext)))))
  (mRet (mC (.bl true))))))))
def mf_u_law_is_chain : MF := mfn false N_u_law_is_chain.length m_u_law_is_chain
theorem fn_u_law_is_chain (F : Ft P K mg) : ∃ fd, FunD K "_law_is_chain" "_law_is_chain" (defArgs (top 52)) (defBody (top 52)) (defScope (top 52)) [] kw_u_law_is_chain (He.ga K "_law_is_chain") fd ∧ FnOk P w K mg base (L2N.CX P w) 3 (He.ga K "_law_is_chain") fd ["told", "low", "high", "length"] (spF ⟨K, mg⟩ false 4 mf_u_law_is_chain) := by
  obtain ⟨fd, FD⟩ := F.d_u_law_is_chain
  refine ⟨fd, FD, fx_fn (k := 2) FD sc_u_law_is_chain fun cdv A outer s H E hr => ?_⟩
  have nd : N_u_law_is_chain.Nodup := sc_u_law_is_chain.nd
  have tk := takesF (P := P) (w := w) (K := K) (mg := mg) (base := base) (N := N_u_law_is_chain) (qual := "_law_is_chain") (scope := defScope (top 52)) (f := He.ga K "_law_is_chain") (cd := cdv) (A := A) (outer := outer) (s := s) (H := H) (E := E)
  have ps := passesF (P := P) (w := w) (K := K) (mg := mg) (base := base) (N := N_u_law_is_chain) (qual := "_law_is_chain") (scope := defScope (top 52)) (f := He.ga K "_law_is_chain") (cd := cdv) (A := A) (outer := outer) (s := s) (H := H) (E := E)
  exact (rss_cons (rs_if (RW.rt (rw_or (rt_not (rt_tru (re_isi rfl F.n_isinstance rfl F.n_list PyProof.Rows.Boot.list (by decide) (re_v 0)))) (rw_or1 (rt_cmp (opd_ne hr.units) (re_len rfl F.n_len (ra_cons (re_v 0) ra_nil)) (re_v 3) rfl)))) (rss_one (rs_ret re_bl)) rss_nil)
    (rss_cons (rs_for ps rfl (ri_list (re_v 0)) (rg_name nd rfl (by first | exact Or.inl rfl | exact Or.inr rfl)) (rss_cons (rs_if (rt_not (rt_tru (re_def (ok_u_law_is_pair F) hr (by decide) rfl tk (ra_cons (re_v 4) (ra_cons (re_v 4) ra_nil))))) (rss_one (rs_ret re_bl)) rss_nil)
    (rss_one (rs_if (RW.rt (rw_or (rt_cmp opd_lt (re_ix (re_v 4) re_int) re_int rfl) (rw_or (rt_cmp opd_lt (re_ix (re_v 4) re_int) re_int rfl) (rw_or1 (rt_cmp (opd_eq hr.units) (re_bin opd_add (re_ix (re_v 4) re_int) (re_ix (re_v 4) re_int)) re_int rfl))))) (rss_one (rs_ret re_bl)) rss_nil))))
    (rss_cons (rs_if (RW.rt (rw_or (rt_cmp (opd_ne hr.units) (re_ix (re_v 0) re_int) (re_v 1) rfl) (rw_or1 (rt_cmp (opd_ne hr.units) (re_ix (re_v 0) (re_neg re_int)) (re_v 2) rfl)))) (rss_one (rs_ret re_bl)) rss_nil)
    (rss_cons (rs_for ps rfl (ri_range2 rfl F.n_range re_int (re_v 3)) (rg_name nd rfl (by first | exact Or.inl rfl | exact Or.inr rfl)) (rss_one (rs_if (rt_cmp (opd_ne hr.units) (re_def (ok_u_law_turn F) hr (by decide) rfl tk (ra_cons (re_ix (re_v 0) (re_v 5)) (ra_cons (re_ix (re_v 0) (re_bin opd_sub (re_v 5) re_int)) ra_nil))) re_int rfl) (rss_one (rs_ret re_bl)) rss_nil)))
    (rss_cons (rs_for ps rfl (ri_range2 rfl F.n_range re_int (re_bin opd_sub (re_v 3) re_int)) (rg_name nd rfl (by first | exact Or.inl rfl | exact Or.inr rfl)) (rss_cons (rs_set nd rfl (by first | exact Or.inl rfl | exact Or.inr rfl) (re_bin opd_add (re_ix (re_ix (re_v 0) (re_bin opd_sub (re_v 5) re_int)) re_int) (re_ix (re_ix (re_v 0) (re_bin opd_add (re_v 5) re_int)) re_int)))
    (rss_cons (rs_set nd rfl (by first | exact Or.inl rfl | exact Or.inr rfl) (re_bin opd_add (re_ix (re_ix (re_v 0) (re_bin opd_sub (re_v 5) re_int)) re_int) (re_ix (re_ix (re_v 0) (re_bin opd_add (re_v 5) re_int)) re_int)))
    (rss_cons (rs_set nd rfl (by first | exact Or.inl rfl | exact Or.inr rfl) (re_bin opd_div (re_bin opd_add (re_v 6) (re_v 7)) (re_bin opd_add (re_ix (re_ix (re_v 0) (re_v 5)) re_int) (re_ix (re_ix (re_v 0) (re_v 5)) re_int))))
    (rss_one (rs_if (RW.rt (rw_or (rt_cmp opd_lt (re_v 8) re_int rfl) (rw_or1 (rt_cmp (opd_ne hr.units) (re_tup (ra_cons (re_v 6) (ra_cons (re_v 7) ra_nil))) (re_tup (ra_cons (re_bin opd_mul (re_v 8) (re_ix (re_ix (re_v 0) (re_v 5)) re_int)) (ra_cons (re_bin opd_mul (re_v 8) (re_ix (re_ix (re_v 0) (re_v 5)) re_int)) ra_nil))) rfl)))) (rss_one (rs_ret re_bl)) rss_nil))))))
    (rss_one (rs_ret re_bl)))))))
theorem ok_u_law_is_chain (F : Ft P K mg) : Cl P w K mg base 3 "_law_is_chain" false 4 mf_u_law_is_chain := by
  obtain ⟨fd, FD, h⟩ := fn_u_law_is_chain (w := w) (base := base) F
  exact ⟨_, fd, _, h, F.g_u_law_is_chain, FD.kp, FD.bindsN fun _ _ _ _ _ _ us hl => match us, hl with | [_, _, _, _], _ => rfl⟩

def N_u_law_error : List Str := ["e", "which"]
theorem sc_u_law_error : FnScope N_u_law_error ["e"] (defScope (top 53)) := ⟨rfl, rfl, rfl, by decide +kernel, rfl, by decide +kernel, by decide +kernel⟩
def m_u_law_error : MS :=
  (mSeq (mIte (mTru (mX nms 0 fun x => .ok (.bl ((["CoprimeError", "CrossError", "EditError", "FewCoins", "GrainError"] : List Str).contains x.c)))) (mRet (mTup (mCons (mC (.str "other")) (mCons (mC (.int 0)) mNil)))) mNext)
  (mSeq (mIte (mTru (mX nms 0 fun x => .ok (.bl ((["HistoryError", "HoleError", "NoCoin", "NotMade", "OtherLot", "PlaceError"] : List Str).contains x.c)))) (mRet (mTup (mCons (mC (.str "other")) (mCons (mC (.int 0)) mNil)))) mNext)
  (mSeq (mIte (mTru (mX nms 0 fun x => .ok (.bl ((["PointError", "TextError", "TradeError", "WayError"] : List Str).contains x.c)))) (mRet (mTup (mCons (mC (.str "other")) (mCons (mC (.int 0)) mNil)))) mNext)
  (mSeq (mSet 1 (mLst (mCons (mX nms 0 fun x => .ok (.bl (x.c == "SizeError"))) (mCons (mX nms 0 fun x => .ok (.bl (x.c == "NumberError"))) mNil))))
  (mSeq (mSet 1 (mBin gAdd (mV 1) (mLst (mCons (mX nms 0 fun x => .ok (.bl (x.c == "RowError"))) (mCons (mX nms 0 fun x => .ok (.bl (x.c == "WideError"))) mNil)))))
  (mSeq (mSet 1 (mBin gAdd (mV 1) (mLst (mCons (mX nms 0 fun x => .ok (.bl (x.c == "TooMany"))) (mCons (mX nms 0 fun x => .ok (.bl (x.c == "FlatError"))) mNil)))))
  (mSeq (mIte (mOr (mBool (mBin gNe (mCountB (mV 1) (mC (.bl true))) (mC (.int 1)))) (mNot (mTru (mX nms 0 fun x => .ok (.bl true))))) (mRet (mTup (mCons (mC (.str "other")) (mCons (mC (.int 0)) mNil)))) mNext)
  (mSeq (mIte (mTru (mBin gIx (mV 1) (mC (.int 0)))) (mRet (mTup (mCons (mC (.str "size")) (mCons (mX nms 0 fun x => R.of (x.fs.lookup ("count" : Str))) mNil)))) mNext)
  (mSeq (mIte (mTru (mBin gIx (mV 1) (mC (.int 1)))) (mRet (mTup (mCons (mC (.str "number")) (mCons (mX nms 0 fun x => R.of (x.fs.lookup ("number" : Str))) mNil)))) mNext)
  (mSeq (mIte (mTru (mBin gIx (mV 1) (mC (.int 2)))) (mRet (mTup (mCons (mC (.str "row")) (mCons (mX nms 0 fun x => R.of (x.fs.lookup ("at" : Str))) mNil)))) mNext)
  (mSeq (mIte (mTru (mBin gIx (mV 1) (mC (.int 3)))) (mRet (mTup (mCons (mC (.str "wide")) (mCons (mX nms 0 fun x => R.of (x.fs.lookup ("number" : Str))) mNil)))) mNext)
  (mSeq (mIte (mTru (mBin gIx (mV 1) (mC (.int 4)))) (mRet (mTup (mCons (mC (.str "many")) (mCons (mX nms 0 fun x => R.of (x.fs.lookup ("limit" : Str))) mNil)))) mNext)
  (mRet (mTup (mCons (mC (.str "flat")) (mCons (mC (.int 0)) mNil))))))))))))))))
def mx_u_law_error : Exn → R D := mfnX N_u_law_error.length m_u_law_error
theorem ok_u_law_error (F : Ft P K mg) : ClX P w K mg base 1 "_law_error" mx_u_law_error := by
  obtain ⟨fd, FD⟩ := F.d_u_law_error
  refine ⟨_, fd, _, fx_fnX (k := 0) FD sc_u_law_error fun cdv A outer s H E p hot hr => ?_, F.g_u_law_error, FD.kp, FD.bindsN fun _ _ _ _ _ _ us hl => match us, hl with | [_], _ => rfl⟩
  have nd : N_u_law_error.Nodup := sc_u_law_error.nd
  have hu : (A.deeper (envOfC "_law_error" (defScope (top 53)) s.heap.objs.size (He.ga K "_law_error") cdv)).units + 64 < cLine := by have := hr.un; omega
  exact (rss_cons (rs_if (rt_tru (re_isEs F.ek (.cons (by decide) rfl (by decide) rfl (.cons (by decide) rfl (by decide) rfl (.cons (by decide) rfl (by decide) rfl (.cons (by decide) rfl (by decide) rfl (.cons (by decide) rfl (by decide) rfl .nil))))) rfl F.n_isinstance (pv 0))) (rss_one (rs_ret (re_tup (ra_cons re_str (ra_cons re_int ra_nil))))) rss_nil)
    (rss_cons (rs_if (rt_tru (re_isEs F.ek (.cons (by decide) rfl (by decide) rfl (.cons (by decide) rfl (by decide) rfl (.cons (by decide) rfl (by decide) rfl (.cons (by decide) rfl (by decide) rfl (.cons (by decide) rfl (by decide) rfl (.cons (by decide) rfl (by decide) rfl .nil)))))) rfl F.n_isinstance (pv 0))) (rss_one (rs_ret (re_tup (ra_cons re_str (ra_cons re_int ra_nil))))) rss_nil)
    (rss_cons (rs_if (rt_tru (re_isEs F.ek (.cons (by decide) rfl (by decide) rfl (.cons (by decide) rfl (by decide) rfl (.cons (by decide) rfl (by decide) rfl (.cons (by decide) rfl (by decide) rfl .nil)))) rfl F.n_isinstance (pv 0))) (rss_one (rs_ret (re_tup (ra_cons re_str (ra_cons re_int ra_nil))))) rss_nil)
    (rss_cons (rs_set nd rfl (by first | exact Or.inl rfl | exact Or.inr rfl) (RF.re (rf_lst (ra_cons (re_isE (T := "SizeError") F.ek (by decide) rfl rfl F.n_isinstance (pv 0)) (ra_cons (re_isE (T := "NumberError") F.ek (by decide) rfl rfl F.n_isinstance (pv 0)) ra_nil)))))
    (rss_cons (rs_set nd rfl (by first | exact Or.inl rfl | exact Or.inr rfl) (re_bin opd_add (re_v 1) (RF.re (rf_lst (ra_cons (re_isE (T := "RowError") F.ek (by decide) rfl rfl F.n_isinstance (pv 0)) (ra_cons (re_isE (T := "WideError") F.ek (by decide) rfl rfl F.n_isinstance (pv 0)) ra_nil))))))
    (rss_cons (rs_set nd rfl (by first | exact Or.inl rfl | exact Or.inr rfl) (re_bin opd_add (re_v 1) (RF.re (rf_lst (ra_cons (re_isE (T := "TooMany") F.ek (by decide) rfl rfl F.n_isinstance (pv 0)) (ra_cons (re_isE (T := "FlatError") F.ek (by decide) rfl rfl F.n_isinstance (pv 0)) ra_nil))))))
    (rss_cons (rs_if (RW.rt (rw_or (rt_cmp (opd_ne hu) (re_countB (re_v 1) re_bl) re_int rfl) (rw_or1 (rt_not (rt_tru (re_isV F.ek rfl F.n_ValueError rfl F.n_isinstance (pv 0))))))) (rss_one (rs_ret (re_tup (ra_cons re_str (ra_cons re_int ra_nil))))) rss_nil)
    (rss_cons (rs_if (rt_tru (re_ix (re_v 1) re_int)) (rss_one (rs_ret (re_tup (ra_cons re_str (ra_cons (re_fld F.ek F.f_count (pv 0)) ra_nil))))) rss_nil)
    (rss_cons (rs_if (rt_tru (re_ix (re_v 1) re_int)) (rss_one (rs_ret (re_tup (ra_cons re_str (ra_cons (re_fld F.ek F.f_number (pv 0)) ra_nil))))) rss_nil)
    (rss_cons (rs_if (rt_tru (re_ix (re_v 1) re_int)) (rss_one (rs_ret (re_tup (ra_cons re_str (ra_cons (re_fld F.ek F.f_at (pv 0)) ra_nil))))) rss_nil)
    (rss_cons (rs_if (rt_tru (re_ix (re_v 1) re_int)) (rss_one (rs_ret (re_tup (ra_cons re_str (ra_cons (re_fld F.ek F.f_number (pv 0)) ra_nil))))) rss_nil)
    (rss_cons (rs_if (rt_tru (re_ix (re_v 1) re_int)) (rss_one (rs_ret (re_tup (ra_cons re_str (ra_cons (re_fld F.ek F.f_limit (pv 0)) ra_nil))))) rss_nil)
    (rss_one (rs_ret (re_tup (ra_cons re_str (ra_cons re_int ra_nil)))))))))))))))))

def kw_u_law_refusal : List (Str × V) := []
def N_u_law_refusal : List Str := ["low", "high", "most", "e"]
theorem sc_u_law_refusal : FnScope N_u_law_refusal ["low", "high", "most"] (defScope (top 54)) := ⟨rfl, rfl, rfl, by decide +kernel, rfl, by decide +kernel, by decide +kernel⟩
def m_u_law_refusal : MS :=
  (mSeq (mTry nms 3 (mIte (mBool (mBin gIsN (mV 2) (mC .non))) (mDrop (mDefD mf_cone_chain dd_cone_chain (mCons (mV 0) (mCons (mV 1) mNil)))) (mDrop (mDefK mf_cone_chain gk_cone_chain (mCons (mV 0) (mCons (mV 1) mNil)) (mCons (mV 2) mNil)))) (mRet (mDefX 3 mx_u_law_error)))
  (mRet (mTup (mCons (mC (.str "let")) (mCons (mC (.int 0)) mNil)))))
def mf_u_law_refusal : MF := mfn false N_u_law_refusal.length m_u_law_refusal
theorem fn_u_law_refusal (F : Ft P K mg) : ∃ fd, FunD K "_law_refusal" "_law_refusal" (defArgs (top 54)) (defBody (top 54)) (defScope (top 54)) [] kw_u_law_refusal (He.ga K "_law_refusal") fd ∧ FnOk P w K mg base (L2N.CX P w) 6 (He.ga K "_law_refusal") fd ["low", "high", "most"] (spF ⟨K, mg⟩ false 3 mf_u_law_refusal) := by
  obtain ⟨fd, FD⟩ := F.d_u_law_refusal
  refine ⟨fd, FD, fx_fn (k := 5) FD sc_u_law_refusal fun cdv A outer s H E hr => ?_⟩
  have nd : N_u_law_refusal.Nodup := sc_u_law_refusal.nd
  have tk := takesF (P := P) (w := w) (K := K) (mg := mg) (base := base) (N := N_u_law_refusal) (qual := "_law_refusal") (scope := defScope (top 54)) (f := He.ga K "_law_refusal") (cd := cdv) (A := A) (outer := outer) (s := s) (H := H) (E := E)
  have ps := passesF (P := P) (w := w) (K := K) (mg := mg) (base := base) (N := N_u_law_refusal) (qual := "_law_refusal") (scope := defScope (top 54)) (f := He.ga K "_law_refusal") (cd := cdv) (A := A) (outer := outer) (s := s) (H := H) (E := E)
  exact (rss_cons (rs_try rfl rfl nd rfl rfl ⟨rfl, by decide, .inl (F.coinV)⟩ tk F.coin (fun W _ _ tk ps => (rss_one (rs_if (rt_cmp opd_isN (re_v 2) re_non rfl) (rss_one (rs_expr (RF.re (rf_defD (okD_cone_chain F) rfl hr (by decide) rfl tk (ra_cons (re_v 0) (ra_cons (re_v 1) ra_nil)))))) (rss_one (rs_expr (RF.re (rf_defK (okK_cone_chain F) hr (by decide) rfl tk (ra_cons (re_v 0) (ra_cons (re_v 1) ra_nil)) (rk_cons (re_v 2) rk_nil)))))))) (fun _ _ _ _ _ hz hv => (rss_one (rs_ret (re_defX (ok_u_law_error F) (room_suite hr) (by decide) (hot_suite hz hv) rfl rfl takes_suite (pv 3))))))
    (rss_one (rs_ret (re_tup (ra_cons re_str (ra_cons re_int ra_nil))))))
theorem ok_u_law_refusal (F : Ft P K mg) : Cl P w K mg base 6 "_law_refusal" false 3 mf_u_law_refusal := by
  obtain ⟨fd, FD, h⟩ := fn_u_law_refusal (w := w) (base := base) F
  exact ⟨_, fd, _, h, F.g_u_law_refusal, FD.kp, FD.bindsN fun _ _ _ _ _ _ us hl => match us, hl with | [_, _, _], _ => rfl⟩

def kw_u_law_refuses : List (Str × V) := []
def N_u_law_refuses : List Str := ["low", "high", "most", "name", "number", "told"]
theorem sc_u_law_refuses : FnScope N_u_law_refuses ["low", "high", "most", "name", "number"] (defScope (top 55)) := ⟨rfl, rfl, rfl, by decide +kernel, rfl, by decide +kernel, by decide +kernel⟩
def m_u_law_refuses : MS :=
  (mSeq (mSet 5 (mDef mf_u_law_refusal (mCons (mV 0) (mCons (mV 1) (mCons (mV 2) mNil)))))
  (mRet (mAndV (mBin gEq (mBin gIx (mV 5) (mC (.int 0))) (mV 3)) (mDef mf_u_law_is_number (mCons (mBin gIx (mV 5) (mC (.int 1))) (mCons (mV 4) mNil))))))
def mf_u_law_refuses : MF := mfn false N_u_law_refuses.length m_u_law_refuses
theorem fn_u_law_refuses (F : Ft P K mg) : ∃ fd, FunD K "_law_refuses" "_law_refuses" (defArgs (top 55)) (defBody (top 55)) (defScope (top 55)) [] kw_u_law_refuses (He.ga K "_law_refuses") fd ∧ FnOk P w K mg base (L2N.CX P w) 7 (He.ga K "_law_refuses") fd ["low", "high", "most", "name", "number"] (spF ⟨K, mg⟩ false 5 mf_u_law_refuses) := by
  obtain ⟨fd, FD⟩ := F.d_u_law_refuses
  refine ⟨fd, FD, fx_fn (k := 6) FD sc_u_law_refuses fun cdv A outer s H E hr => ?_⟩
  have nd : N_u_law_refuses.Nodup := sc_u_law_refuses.nd
  have tk := takesF (P := P) (w := w) (K := K) (mg := mg) (base := base) (N := N_u_law_refuses) (qual := "_law_refuses") (scope := defScope (top 55)) (f := He.ga K "_law_refuses") (cd := cdv) (A := A) (outer := outer) (s := s) (H := H) (E := E)
  have ps := passesF (P := P) (w := w) (K := K) (mg := mg) (base := base) (N := N_u_law_refuses) (qual := "_law_refuses") (scope := defScope (top 55)) (f := He.ga K "_law_refuses") (cd := cdv) (A := A) (outer := outer) (s := s) (H := H) (E := E)
  exact (rss_cons (rs_set nd rfl (by first | exact Or.inl rfl | exact Or.inr rfl) (re_def (ok_u_law_refusal F) hr (by decide) rfl tk (ra_cons (re_v 0) (ra_cons (re_v 1) (ra_cons (re_v 2) ra_nil)))))
    (rss_one (rs_ret (re_and (re_cmp (opd_eq hr.units) (re_ix (re_v 5) re_int) (re_v 3) rfl) (re_one (re_def (ok_u_law_is_number F) hr (by decide) rfl tk (ra_cons (re_ix (re_v 5) re_int) (ra_cons (re_v 4) ra_nil))))))))
theorem ok_u_law_refuses (F : Ft P K mg) : Cl P w K mg base 7 "_law_refuses" false 5 mf_u_law_refuses := by
  obtain ⟨fd, FD, h⟩ := fn_u_law_refuses (w := w) (base := base) F
  exact ⟨_, fd, _, h, F.g_u_law_refuses, FD.kp, FD.bindsN fun _ _ _ _ _ _ us hl => match us, hl with | [_, _, _, _, _], _ => rfl⟩

def kw_u_law_errors : List (Str × V) := []
def N_u_law_errors : List Str := ["low", "high", "coin", "bad", "row"]
theorem sc_u_law_errors : FnScope N_u_law_errors ["low", "high"] (defScope (top 56)) := ⟨rfl, rfl, rfl, by decide +kernel, rfl, by decide +kernel, by decide +kernel⟩
def m_u_law_errors : MS :=
  (mSeq (mSet 2 (mBin (gI kPow) (mC (.int 10)) (mC (.int 12))))
  (mSeq (mSetO 3 (mLst (mCons (mTup (mCons (mTup (mCons (mC (.int 0)) (mCons (mC (.int 0)) mNil))) (mCons (mTup (mCons (mC (.int 0)) (mCons (mC (.int 0)) mNil))) (mCons (mNeg (mC (.int 1))) (mCons (mC (.str "row")) (mCons (mC (.int 0)) mNil)))))) (mCons (mTup (mCons (mLst (mCons (mC (.int 0)) (mCons (mC (.int 0)) mNil))) (mCons (mTup (mCons (mBin gAdd (mV 2) (mC (.int 1))) mNil)) (mCons (mC .non) (mCons (mC (.str "row")) (mCons (mC (.int 0)) mNil)))))) mNil))))
  (mSeq (mApp 3 (mTup (mCons (mV 0) (mCons (mTup (mCons (mC (.int 0)) (mCons (mC (.int 0)) mNil))) (mCons (mC (.int 401)) (mCons (mC (.str "row")) (mCons (mC (.int 1)) mNil)))))))
  (mSeq (mApp 3 (mTup (mCons (mTup mNil) (mCons (mTup (mCons (mC (.int 0)) (mCons (mC (.int 0)) mNil))) (mCons (mC .non) (mCons (mC (.str "size")) (mCons (mC (.int 0)) mNil)))))))
  (mSeq (mApp 3 (mTup (mCons (mLst (mCons (mBin gAdd (mV 2) (mC (.int 1))) (mCons (mNeg (mC (.int 1))) (mCons (mC (.int 0)) mNil)))) (mCons (mV 1) (mCons (mC .non) (mCons (mC (.str "size")) (mCons (mC (.int 3)) mNil)))))))
  (mSeq (mApp 3 (mTup (mCons (mTup (mCons (mBin gAdd (mV 2) (mC (.int 1))) (mCons (mNeg (mC (.int 1))) mNil))) (mCons (mTup (mCons (mC (.int 0)) (mCons (mC (.int 0)) mNil))) (mCons (mC .non) (mCons (mC (.str "number")) (mCons (mBin gAdd (mV 2) (mC (.int 1))) mNil)))))))
  (mSeq (mApp 3 (mTup (mCons (mTup (mCons (mNeg (mC (.int 1))) (mCons (mBin gAdd (mV 2) (mC (.int 1))) mNil))) (mCons (mV 1) (mCons (mC .non) (mCons (mC (.str "number")) (mCons (mNeg (mC (.int 1))) mNil)))))))
  (mSeq (mApp 3 (mTup (mCons (mTup (mCons (mC (.int 0)) (mCons (mBin gAdd (mV 2) (mC (.int 1))) mNil))) (mCons (mV 1) (mCons (mC (.int 0)) (mCons (mC (.str "number")) (mCons (mBin gAdd (mV 2) (mC (.int 1))) mNil)))))))
  (mSeq (mApp 3 (mTup (mCons (mV 0) (mCons (mTup (mCons (mBin gAdd (mV 2) (mC (.int 1))) (mCons (mC (.int 0)) mNil))) (mCons (mNeg (mC (.int 1))) (mCons (mC (.str "number")) (mCons (mBin gAdd (mV 2) (mC (.int 1))) mNil)))))))
  (mSeq (mApp 3 (mTup (mCons (mV 0) (mCons (mLst (mCons (mC (.int 0)) (mCons (mNeg (mC (.int 1))) mNil))) (mCons (mC .non) (mCons (mC (.str "number")) (mCons (mNeg (mC (.int 1))) mNil)))))))
  (mSeq (mApp 3 (mTup (mCons (mV 0) (mCons (mTup (mCons (mC (.int 1)) mNil)) (mCons (mC (.int 401)) (mCons (mC (.str "size")) (mCons (mC (.int 1)) mNil)))))))
  (mSeq (mSetO 3 (mBin gCat (mO 3) (mLst (mCons (mTup (mCons (mV 0) (mCons (mV 1) (mCons (mNeg (mC (.int 1))) (mCons (mC (.str "number")) (mCons (mNeg (mC (.int 1))) mNil)))))) (mCons (mTup (mCons (mV 0) (mCons (mV 1) (mCons (mC (.int 401)) (mCons (mC (.str "number")) (mCons (mC (.int 401)) mNil)))))) mNil)))))
  (mSeq (mSetO 3 (mBin gCat (mO 3) (mLst (mCons (mTup (mCons (mV 1) (mCons (mV 0) (mCons (mNeg (mC (.int 1))) (mCons (mC (.str "number")) (mCons (mNeg (mC (.int 1))) mNil)))))) (mCons (mTup (mCons (mV 1) (mCons (mV 0) (mCons (mC (.int 0)) (mCons (mC (.str "flat")) (mCons (mC (.int 0)) mNil)))))) mNil)))))
  (mSeq (mSetO 3 (mBin gCat (mO 3) (mLst (mCons (mTup (mCons (mV 1) (mCons (mV 0) (mCons (mC .non) (mCons (mC (.str "flat")) (mCons (mC (.int 0)) mNil)))))) (mCons (mTup (mCons (mV 0) (mCons (mV 0) (mCons (mC .non) (mCons (mC (.str "flat")) (mCons (mC (.int 0)) mNil)))))) mNil)))))
  (mSeq (mApp 3 (mTup (mCons (mTup (mCons (mC (.int 2)) (mCons (mC (.int 3)) mNil))) (mCons (mLst (mCons (mC (.int 4)) (mCons (mC (.int 6)) mNil))) (mCons (mC .non) (mCons (mC (.str "flat")) (mCons (mC (.int 0)) mNil)))))))
  (mSeq (mFrz 3)
  (mSeq (mSet 3 (mBin gAdd (mV 3) (mLst (mCons (mTup (mCons (mTup (mCons (mC (.int 0)) (mCons (mV 2) mNil))) (mCons (mTup (mCons (mV 2) (mCons (mC (.int 0)) mNil))) (mCons (mC (.int 2)) (mCons (mC (.str "let")) (mCons (mC (.int 0)) mNil)))))) (mCons (mTup (mCons (mTup (mCons (mV 2) (mCons (mC (.int 0)) mNil))) (mCons (mTup (mCons (mC (.int 0)) (mCons (mC (.int 1)) mNil))) (mCons (mC (.int 2)) (mCons (mC (.str "flat")) (mCons (mC (.int 0)) mNil)))))) mNil)))))
  (mSeq (mFor (mItems (mV 3)) (gSet 4) (mIte (mNot (mTru (mDef mf_u_law_refuses (mCons (mBin gIx (mV 4) (mC (.int 0))) (mCons (mBin gIx (mV 4) (mC (.int 1))) (mCons (mBin gIx (mV 4) (mC (.int 2))) (mCons (mBin gIx (mV 4) (mC (.int 3))) (mCons (mBin gIx (mV 4) (mC (.int 4))) mNil)))))))) (mRet (mC (.bl false))) mNext))
  (mRet (mC (.bl true)))))))))))))))))))))
def mf_u_law_errors : MF := mfn false N_u_law_errors.length m_u_law_errors
theorem fn_u_law_errors (F : Ft P K mg) : ∃ fd, FunD K "_law_errors" "_law_errors" (defArgs (top 56)) (defBody (top 56)) (defScope (top 56)) [] kw_u_law_errors (He.ga K "_law_errors") fd ∧ FnOk P w K mg base (L2N.CX P w) 8 (He.ga K "_law_errors") fd ["low", "high"] (spF ⟨K, mg⟩ false 2 mf_u_law_errors) := by
  obtain ⟨fd, FD⟩ := F.d_u_law_errors
  refine ⟨fd, FD, fx_fn (k := 7) FD sc_u_law_errors fun cdv A outer s H E hr => ?_⟩
  have nd : N_u_law_errors.Nodup := sc_u_law_errors.nd
  have tk := takesF (P := P) (w := w) (K := K) (mg := mg) (base := base) (N := N_u_law_errors) (qual := "_law_errors") (scope := defScope (top 56)) (f := He.ga K "_law_errors") (cd := cdv) (A := A) (outer := outer) (s := s) (H := H) (E := E)
  have ps := passesF (P := P) (w := w) (K := K) (mg := mg) (base := base) (N := N_u_law_errors) (qual := "_law_errors") (scope := defScope (top 56)) (f := He.ga K "_law_errors") (cd := cdv) (A := A) (outer := outer) (s := s) (H := H) (E := E)
  exact (rss_cons (rs_set nd rfl (by first | exact Or.inl rfl | exact Or.inr rfl) (re_bin opd_pow re_int re_int))
    (rss_cons (rs_setO nd rfl (by first | exact Or.inl rfl | exact Or.inr rfl) (rf_lst (ra_cons (re_tup (ra_cons (re_tup (ra_cons re_int (ra_cons re_int ra_nil))) (ra_cons (re_tup (ra_cons re_int (ra_cons re_int ra_nil))) (ra_cons (re_neg re_int) (ra_cons re_str (ra_cons re_int ra_nil)))))) (ra_cons (re_tup (ra_cons (RF.re (rf_lst (ra_cons re_int (ra_cons re_int ra_nil)))) (ra_cons (re_tup (ra_cons (re_bin opd_add (re_v 2) re_int) ra_nil)) (ra_cons re_non (ra_cons re_str (ra_cons re_int ra_nil)))))) ra_nil))))
    (rss_cons (rs_app (pv 3) (re_tup (ra_cons (re_v 0) (ra_cons (re_tup (ra_cons re_int (ra_cons re_int ra_nil))) (ra_cons re_int (ra_cons re_str (ra_cons re_int ra_nil)))))))
    (rss_cons (rs_app (pv 3) (re_tup (ra_cons (re_tup ra_nil) (ra_cons (re_tup (ra_cons re_int (ra_cons re_int ra_nil))) (ra_cons re_non (ra_cons re_str (ra_cons re_int ra_nil)))))))
    (rss_cons (rs_app (pv 3) (re_tup (ra_cons (RF.re (rf_lst (ra_cons (re_bin opd_add (re_v 2) re_int) (ra_cons (re_neg re_int) (ra_cons re_int ra_nil))))) (ra_cons (re_v 1) (ra_cons re_non (ra_cons re_str (ra_cons re_int ra_nil)))))))
    (rss_cons (rs_app (pv 3) (re_tup (ra_cons (re_tup (ra_cons (re_bin opd_add (re_v 2) re_int) (ra_cons (re_neg re_int) ra_nil))) (ra_cons (re_tup (ra_cons re_int (ra_cons re_int ra_nil))) (ra_cons re_non (ra_cons re_str (ra_cons (re_bin opd_add (re_v 2) re_int) ra_nil)))))))
    (rss_cons (rs_app (pv 3) (re_tup (ra_cons (re_tup (ra_cons (re_neg re_int) (ra_cons (re_bin opd_add (re_v 2) re_int) ra_nil))) (ra_cons (re_v 1) (ra_cons re_non (ra_cons re_str (ra_cons (re_neg re_int) ra_nil)))))))
    (rss_cons (rs_app (pv 3) (re_tup (ra_cons (re_tup (ra_cons re_int (ra_cons (re_bin opd_add (re_v 2) re_int) ra_nil))) (ra_cons (re_v 1) (ra_cons re_int (ra_cons re_str (ra_cons (re_bin opd_add (re_v 2) re_int) ra_nil)))))))
    (rss_cons (rs_app (pv 3) (re_tup (ra_cons (re_v 0) (ra_cons (re_tup (ra_cons (re_bin opd_add (re_v 2) re_int) (ra_cons re_int ra_nil))) (ra_cons (re_neg re_int) (ra_cons re_str (ra_cons (re_bin opd_add (re_v 2) re_int) ra_nil)))))))
    (rss_cons (rs_app (pv 3) (re_tup (ra_cons (re_v 0) (ra_cons (RF.re (rf_lst (ra_cons re_int (ra_cons (re_neg re_int) ra_nil)))) (ra_cons re_non (ra_cons re_str (ra_cons (re_neg re_int) ra_nil)))))))
    (rss_cons (rs_app (pv 3) (re_tup (ra_cons (re_v 0) (ra_cons (re_tup (ra_cons re_int ra_nil)) (ra_cons re_int (ra_cons re_str (ra_cons re_int ra_nil)))))))
    (rss_cons (rs_setO nd rfl (by first | exact Or.inl rfl | exact Or.inr rfl) (rf_cat (re_o 3) (RF.re (rf_lst (ra_cons (re_tup (ra_cons (re_v 0) (ra_cons (re_v 1) (ra_cons (re_neg re_int) (ra_cons re_str (ra_cons (re_neg re_int) ra_nil)))))) (ra_cons (re_tup (ra_cons (re_v 0) (ra_cons (re_v 1) (ra_cons re_int (ra_cons re_str (ra_cons re_int ra_nil)))))) ra_nil))))))
    (rss_cons (rs_setO nd rfl (by first | exact Or.inl rfl | exact Or.inr rfl) (rf_cat (re_o 3) (RF.re (rf_lst (ra_cons (re_tup (ra_cons (re_v 1) (ra_cons (re_v 0) (ra_cons (re_neg re_int) (ra_cons re_str (ra_cons (re_neg re_int) ra_nil)))))) (ra_cons (re_tup (ra_cons (re_v 1) (ra_cons (re_v 0) (ra_cons re_int (ra_cons re_str (ra_cons re_int ra_nil)))))) ra_nil))))))
    (rss_cons (rs_setO nd rfl (by first | exact Or.inl rfl | exact Or.inr rfl) (rf_cat (re_o 3) (RF.re (rf_lst (ra_cons (re_tup (ra_cons (re_v 1) (ra_cons (re_v 0) (ra_cons re_non (ra_cons re_str (ra_cons re_int ra_nil)))))) (ra_cons (re_tup (ra_cons (re_v 0) (ra_cons (re_v 0) (ra_cons re_non (ra_cons re_str (ra_cons re_int ra_nil)))))) ra_nil))))))
    (rss_cons (rs_app (pv 3) (re_tup (ra_cons (re_tup (ra_cons re_int (ra_cons re_int ra_nil))) (ra_cons (RF.re (rf_lst (ra_cons re_int (ra_cons re_int ra_nil)))) (ra_cons re_non (ra_cons re_str (ra_cons re_int ra_nil)))))))
    (rss_frz 3 (rss_cons (rs_set nd rfl (by first | exact Or.inl rfl | exact Or.inr rfl) (re_bin opd_add (re_v 3) (RF.re (rf_lst (ra_cons (re_tup (ra_cons (re_tup (ra_cons re_int (ra_cons (re_v 2) ra_nil))) (ra_cons (re_tup (ra_cons (re_v 2) (ra_cons re_int ra_nil))) (ra_cons re_int (ra_cons re_str (ra_cons re_int ra_nil)))))) (ra_cons (re_tup (ra_cons (re_tup (ra_cons (re_v 2) (ra_cons re_int ra_nil))) (ra_cons (re_tup (ra_cons re_int (ra_cons re_int ra_nil))) (ra_cons re_int (ra_cons re_str (ra_cons re_int ra_nil)))))) ra_nil))))))
    (rss_cons (rs_for ps rfl (ri_list (re_v 3)) (rg_name nd rfl (by first | exact Or.inl rfl | exact Or.inr rfl)) (rss_one (rs_if (rt_not (rt_tru (re_def (ok_u_law_refuses F) hr (by decide) rfl tk (ra_cons (re_ix (re_v 4) re_int) (ra_cons (re_ix (re_v 4) re_int) (ra_cons (re_ix (re_v 4) re_int) (ra_cons (re_ix (re_v 4) re_int) (ra_cons (re_ix (re_v 4) re_int) ra_nil)))))))) (rss_one (rs_ret re_bl)) rss_nil)))
    (rss_one (rs_ret re_bl))))))))))))))))))))
theorem ok_u_law_errors (F : Ft P K mg) : Cl P w K mg base 8 "_law_errors" false 2 mf_u_law_errors := by
  obtain ⟨fd, FD, h⟩ := fn_u_law_errors (w := w) (base := base) F
  exact ⟨_, fd, _, h, F.g_u_law_errors, FD.kp, FD.bindsN fun _ _ _ _ _ _ us hl => match us, hl with | [_, _], _ => rfl⟩

def kw_u_law_asked : List (Str × V) := []
def N_u_law_asked : List Str := ["low", "high", "due", "length", "one", "two", "most", "told", "chain"]
theorem sc_u_law_asked : FnScope N_u_law_asked ["low", "high", "due", "length"] (defScope (top 57)) := ⟨rfl, rfl, rfl, by decide +kernel, rfl, by decide +kernel, by decide +kernel⟩
def m_u_law_asked : MS :=
  (mSeq (mSet 4 (mDef mf_u_law_lowest (mCons (mV 0) mNil)))
  (mSeq (mSet 5 (mDef mf_u_law_lowest (mCons (mV 1) mNil)))
  (mSeq (mFor (mRange1 (mC (.int 2))) (gSet 6) (mIte (mNot (mTru (mDef mf_u_law_refuses (mCons (mV 0) (mCons (mV 1) (mCons (mV 6) (mCons (mC (.str "many")) (mCons (mV 6) mNil)))))))) (mRet (mC (.bl false))) mNext))
  (mSeq (mIte (mBool (mBin (gI (kBl fun i j => decide (j < i))) (mV 3) (mC (.int 400)))) (mSeq (mIte (mNot (mTru (mDef mf_u_law_refuses (mCons (mV 0) (mCons (mV 1) (mCons (mC .non) (mCons (mC (.str "many")) (mCons (mC (.int 400)) mNil)))))))) (mRet (mC (.bl false))) mNext)
  (mRet (mDef mf_u_law_refuses (mCons (mV 0) (mCons (mV 1) (mCons (mC (.int 400)) (mCons (mC (.str "many")) (mCons (mC (.int 400)) mNil)))))))) mNext)
  (mSeq (mIte (mNot (mTru (mDef mf_u_law_refuses (mCons (mV 0) (mCons (mV 1) (mCons (mBin (gI (kInt fun i j => i - j)) (mV 3) (mC (.int 1))) (mCons (mC (.str "many")) (mCons (mBin (gI (kInt fun i j => i - j)) (mV 3) (mC (.int 1))) mNil)))))))) (mRet (mC (.bl false))) mNext)
  (mTwo 7 8 (mDefD mf_cone_chain dd_cone_chain (mCons (mV 0) (mCons (mV 1) mNil))) (mDefK mf_cone_chain gk_cone_chain (mCons (mCall gList (mCons (mV 0) mNil)) (mCons (mCall gList (mCons (mV 1) mNil)) mNil)) (mCons (mV 3) mNil)) (mSeq (mIte (mNot (mTru (mDefL mf_u_law_is_chain (mCons (mO 8) (mCons (mV 4) (mCons (mV 5) (mCons (mV 3) mNil))))))) (mRet (mC (.bl false))) mNext)
  (mSeq (mIte (mAnd (mBool (mBin gNe (mV 2) (mLst mNil))) (mNot (mTru (mDefL mf_u_law_are_pairs (mCons (mO 8) (mCons (mV 2) mNil)))))) (mRet (mC (.bl false))) mNext)
  (mSeq (mApp 8 (mV 0))
  (mPutL 8 (mC (.int 0)) (mV 1))))) (mRet (mDef mf_u_law_is_chain (mCons (mDefD mf_cone_chain dd_cone_chain (mCons (mCall gList (mCons (mV 0) mNil)) (mCons (mV 1) mNil))) (mCons (mV 4) (mCons (mV 5) (mCons (mV 3) mNil))))))))))))
def mf_u_law_asked : MF := mfn false N_u_law_asked.length m_u_law_asked
theorem fn_u_law_asked (F : Ft P K mg) : ∃ fd, FunD K "_law_asked" "_law_asked" (defArgs (top 57)) (defBody (top 57)) (defScope (top 57)) [] kw_u_law_asked (He.ga K "_law_asked") fd ∧ FnOk P w K mg base (L2N.CX P w) 8 (He.ga K "_law_asked") fd ["low", "high", "due", "length"] (spF ⟨K, mg⟩ false 4 mf_u_law_asked) := by
  obtain ⟨fd, FD⟩ := F.d_u_law_asked
  refine ⟨fd, FD, fx_fn (k := 7) FD sc_u_law_asked fun cdv A outer s H E hr => ?_⟩
  have nd : N_u_law_asked.Nodup := sc_u_law_asked.nd
  have tk := takesF (P := P) (w := w) (K := K) (mg := mg) (base := base) (N := N_u_law_asked) (qual := "_law_asked") (scope := defScope (top 57)) (f := He.ga K "_law_asked") (cd := cdv) (A := A) (outer := outer) (s := s) (H := H) (E := E)
  have ps := passesF (P := P) (w := w) (K := K) (mg := mg) (base := base) (N := N_u_law_asked) (qual := "_law_asked") (scope := defScope (top 57)) (f := He.ga K "_law_asked") (cd := cdv) (A := A) (outer := outer) (s := s) (H := H) (E := E)
  exact (rss_cons (rs_set nd rfl (by first | exact Or.inl rfl | exact Or.inr rfl) (re_def (ok_u_law_lowest F) hr (by decide) rfl tk (ra_cons (re_v 0) ra_nil)))
    (rss_cons (rs_set nd rfl (by first | exact Or.inl rfl | exact Or.inr rfl) (re_def (ok_u_law_lowest F) hr (by decide) rfl tk (ra_cons (re_v 1) ra_nil)))
    (rss_cons (rs_for ps rfl (ri_range1 rfl F.n_range re_int) (rg_name nd rfl (by first | exact Or.inl rfl | exact Or.inr rfl)) (rss_one (rs_if (rt_not (rt_tru (re_def (ok_u_law_refuses F) hr (by decide) rfl tk (ra_cons (re_v 0) (ra_cons (re_v 1) (ra_cons (re_v 6) (ra_cons re_str (ra_cons (re_v 6) ra_nil)))))))) (rss_one (rs_ret re_bl)) rss_nil)))
    (rss_cons (rs_if (rt_cmp opd_gt (re_v 3) re_int rfl) (rss_cons (rs_if (rt_not (rt_tru (re_def (ok_u_law_refuses F) hr (by decide) rfl tk (ra_cons (re_v 0) (ra_cons (re_v 1) (ra_cons re_non (ra_cons re_str (ra_cons re_int ra_nil)))))))) (rss_one (rs_ret re_bl)) rss_nil)
    (rss_one (rs_ret (re_def (ok_u_law_refuses F) hr (by decide) rfl tk (ra_cons (re_v 0) (ra_cons (re_v 1) (ra_cons re_int (ra_cons re_str (ra_cons re_int ra_nil))))))))) rss_nil)
    (rss_cons (rs_if (rt_not (rt_tru (re_def (ok_u_law_refuses F) hr (by decide) rfl tk (ra_cons (re_v 0) (ra_cons (re_v 1) (ra_cons (re_bin opd_sub (re_v 3) re_int) (ra_cons re_str (ra_cons (re_bin opd_sub (re_v 3) re_int) ra_nil)))))))) (rss_one (rs_ret re_bl)) rss_nil)
    (rss_two (by decide) ps rfl nd rfl (by first | exact Or.inl rfl | exact Or.inr rfl) rfl (by first | exact Or.inl rfl | exact Or.inr rfl) (rf_defD (okD_cone_chain F) rfl hr (by decide) rfl tk (ra_cons (re_v 0) (ra_cons (re_v 1) ra_nil))) (rf_defK (okK_cone_chain F) hr (by decide) rfl tk (ra_cons (RF.re (rf_list rfl F.n_list (ra_cons (re_v 0) ra_nil))) (ra_cons (RF.re (rf_list rfl F.n_list (ra_cons (re_v 1) ra_nil))) ra_nil)) (rk_cons (re_v 3) rk_nil)) (pv 7) (pv 7) (rss_cons (rs_if (rt_not (rt_tru (re_defL (ok_u_law_is_chain F) hr (by decide) rfl tk (ra_cons (re_o 8) (ra_cons (RE.weak (re_v 4)) (ra_cons (RE.weak (re_v 5)) (ra_cons (RE.weak (re_v 3)) ra_nil))))))) (rss_one (rs_ret re_bl)) rss_nil)
    (rss_cons (rs_if (RW.rt (rw_and (rt_cmp (opd_ne hr.units) (re_v 2) (RF.re (rf_lst ra_nil)) rfl) (rw_and1 (rt_not (rt_tru (re_defL (ok_u_law_are_pairs F) hr (by decide) rfl tk (ra_cons (re_o 8) (ra_cons (RE.weak (re_v 2)) ra_nil)))))))) (rss_one (rs_ret re_bl)) rss_nil)
    (rss_cons (rs_app (pv 8) (re_v 0))
    (rss_one (rs_putL (pv 8) re_int (re_v 1)))))) (rss_one (rs_ret (re_def (ok_u_law_is_chain F) hr (by decide) rfl tk (ra_cons (RF.re (rf_defD (okD_cone_chain F) rfl hr (by decide) rfl tk (ra_cons (RF.re (rf_list rfl F.n_list (ra_cons (re_v 0) ra_nil))) (ra_cons (re_v 1) ra_nil)))) (ra_cons (re_v 4) (ra_cons (re_v 5) (ra_cons (re_v 3) ra_nil)))))))))))))
theorem ok_u_law_asked (F : Ft P K mg) : Cl P w K mg base 8 "_law_asked" false 4 mf_u_law_asked := by
  obtain ⟨fd, FD, h⟩ := fn_u_law_asked (w := w) (base := base) F
  exact ⟨_, fd, _, h, F.g_u_law_asked, FD.kp, FD.bindsN fun _ _ _ _ _ _ us hl => match us, hl with | [_, _, _, _], _ => rfl⟩

def kw_law : List (Str × V) := []
def N_law : List Str := ["script", "share", "coin", "numbers", "many", "low", "high", "due", "length", "by", "kept", "k"]
theorem sc_law : FnScope N_law ["script"] (defScope (top 58)) := ⟨rfl, rfl, rfl, by decide +kernel, rfl, by decide +kernel, by decide +kernel⟩
def m_law : MS :=
  (mSeq (mSet 1 (mBin (gI kMod) (mDef mf_u_law_cell (mCons (mV 0) (mCons (mC (.int 0)) mNil))) (mC (.int 8))))
  (mSeq (mSet 2 (mBin (gI kPow) (mC (.int 10)) (mC (.int 12))))
  (mSeq (mSet 3 (mLc 11 (mRange1 (mC (.int 4))) mYes (mBin gAdd (mDef mf_u_law_cell (mCons (mV 0) (mCons (mBin gAdd (mC (.int 1)) (mV 11)) mNil))) (mBin gIx (mLst (mCons (mC (.int 1)) (mCons (mC (.int 12)) (mCons (mC (.int 9)) (mCons (mC (.int 4)) mNil))))) (mV 11)))))
  (mSeq (mSet 4 (mC (.int 13)))
  (mSeq (mIte (mBool (mBin (gI (kBl fun i j => decide (j < i))) (mV 1) (mC (.int 5)))) (mSet 4 (mBin gAdd (mV 2) (mC (.int 1)))) mNext)
  (mSeq (mSet 5 (mTup (mCons (mBin (gI kMod) (mBin gIx (mV 3) (mC (.int 0))) (mV 4)) (mCons (mBin (gI kMod) (mBin gIx (mV 3) (mC (.int 1))) (mV 4)) mNil))))
  (mSeq (mSet 6 (mTup (mCons (mBin (gI kMod) (mBin gIx (mV 3) (mC (.int 2))) (mV 4)) (mCons (mBin (gI kMod) (mBin gIx (mV 3) (mC (.int 3))) (mV 4)) mNil))))
  (mSeq (mSet 7 (mLst mNil))
  (mSeq (mIte (mBool (mChain (gI (kBl fun i j => decide (i < j))) (gI (kBl fun i j => decide (i < j))) (mC (.int 2)) (mV 1) (mC (.int 6)))) (mSeq (mSet 7 (mDef mf_u_law_built (mCons (mV 0) mNil)))
  (mSeq (mSet 9 (mBin gAdd (mC (.int 1)) (mBin (gI kMod) (mBin gIx (mV 3) (mC (.int 0))) (mC (.int 90)))))
  (mSeq (mSet 5 (mTup (mCons (mBin (gI kMul) (mV 9) (mBin gIx (mBin gIx (mV 7) (mC (.int 0))) (mC (.int 0)))) (mCons (mBin (gI kMul) (mV 9) (mBin gIx (mBin gIx (mV 7) (mC (.int 0))) (mC (.int 1)))) mNil))))
  (mSeq (mSet 9 (mBin gAdd (mC (.int 1)) (mBin (gI kMod) (mBin gIx (mV 3) (mC (.int 1))) (mC (.int 90)))))
  (mSet 6 (mTup (mCons (mBin (gI kMul) (mV 9) (mBin gIx (mBin gIx (mV 7) (mNeg (mC (.int 1)))) (mC (.int 0)))) (mCons (mBin (gI kMul) (mV 9) (mBin gIx (mBin gIx (mV 7) (mNeg (mC (.int 1)))) (mC (.int 1)))) mNil)))))))) mNext)
  (mSeq (mIte (mBool (mBin gEq (mV 5) (mTup (mCons (mC (.int 0)) (mCons (mC (.int 0)) mNil))))) (mSet 5 (mTup (mCons (mC (.int 0)) (mCons (mC (.int 1)) mNil)))) mNext)
  (mSeq (mIte (mBool (mBin gEq (mV 6) (mTup (mCons (mC (.int 0)) (mCons (mC (.int 0)) mNil))))) (mSet 6 (mTup (mCons (mC (.int 1)) (mCons (mC (.int 0)) mNil)))) mNext)
  (mSeq (mIte (mBool (mBin gEq (mDef mf_u_law_turn (mCons (mV 6) (mCons (mV 5) mNil))) (mC (.int 0)))) (mSeq (mIte (mNot (mTru (mDef mf_u_law_refuses (mCons (mV 5) (mCons (mV 6) (mCons (mC .non) (mCons (mC (.str "flat")) (mCons (mC (.int 0)) mNil)))))))) (mRet (mC (.bl false))) mNext)
  (mSeq (mSet 5 (mTup (mCons (mC (.int 0)) (mCons (mC (.int 3)) mNil))))
  (mSet 6 (mTup (mCons (mC (.int 5)) (mCons (mC (.int 7)) mNil)))))) mNext)
  (mSeq (mIte (mBool (mBin (gI (kBl fun i j => decide (i < j))) (mDef mf_u_law_turn (mCons (mV 6) (mCons (mV 5) mNil))) (mC (.int 0)))) (mSeq (mSet 10 (mV 5))
  (mSeq (mSet 5 (mV 6))
  (mSet 6 (mV 10)))) mNext)
  (mSeq (mSet 8 (mDef mf_u_law_length (mCons (mDef mf_u_law_lowest (mCons (mV 5) mNil)) (mCons (mDef mf_u_law_lowest (mCons (mV 6) mNil)) mNil))))
  (mSeq (mIte (mBool (mBin (gI (kBl fun i j => decide (i < j))) (mV 1) (mC (.int 3)))) (mSet 7 (mDef mf_u_law_small_due (mCons (mV 5) (mCons (mV 6) mNil)))) mNext)
  (mSeq (mIte (mAnd (mBool (mBin gNe (mV 7) (mLst mNil))) (mBool (mBin gNe (mV 8) (mCall gLen (mCons (mV 7) mNil))))) (mRet (mC (.bl false))) mNext)
  (mRet (mAndV (mDef mf_u_law_asked (mCons (mV 5) (mCons (mV 6) (mCons (mV 7) (mCons (mV 8) mNil))))) (mDef mf_u_law_errors (mCons (mV 5) (mCons (mV 6) mNil)))))))))))))))))))))
def mf_law : MF := mfn false N_law.length m_law
theorem fn_law (F : Ft P K mg) : ∃ fd, FunD K "law" "law" (defArgs (top 58)) (defBody (top 58)) (defScope (top 58)) [] kw_law (He.ga K "law") fd ∧ FnOk P w K mg base (L2N.CX P w) 9 (He.ga K "law") fd ["script"] (spF ⟨K, mg⟩ false 1 mf_law) := by
  obtain ⟨fd, FD⟩ := F.d_law
  refine ⟨fd, FD, fx_fn (k := 8) FD sc_law fun cdv A outer s H E hr => ?_⟩
  have nd : N_law.Nodup := sc_law.nd
  have tk := takesF (P := P) (w := w) (K := K) (mg := mg) (base := base) (N := N_law) (qual := "law") (scope := defScope (top 58)) (f := He.ga K "law") (cd := cdv) (A := A) (outer := outer) (s := s) (H := H) (E := E)
  have ps := passesF (P := P) (w := w) (K := K) (mg := mg) (base := base) (N := N_law) (qual := "law") (scope := defScope (top 58)) (f := He.ga K "law") (cd := cdv) (A := A) (outer := outer) (s := s) (H := H) (E := E)
  exact (rss_cons (rs_set nd rfl (by first | exact Or.inl rfl | exact Or.inr rfl) (re_bin opd_mod (re_def (ok_u_law_cell F) hr (by decide) rfl tk (ra_cons (re_v 0) (ra_cons re_int ra_nil))) re_int))
    (rss_cons (rs_set nd rfl (by first | exact Or.inl rfl | exact Or.inr rfl) (re_bin opd_pow re_int re_int))
    (rss_cons (rs_setLcV rfl nd rfl rfl (sw_true rfl rfl rfl rfl) (ri_range1 rfl F.n_range re_int) (blkOk_by (N := N_law) (sc := defScope (top 58)) (by kernel_rfl)) (fun _ _ _ _ _ => pg_name nd rfl (by first | exact Or.inl rfl | exact Or.inr rfl)) (fun _ _ _ _ _ => rts_nil) (fun _ _ _ _ _ => (re_bin opd_add (re_def (ok_u_law_cell F) hr (by decide) rfl takes_blk (ra_cons (re_v 0) (ra_cons (re_bin opd_add re_int (re_v 11)) ra_nil))) (re_ix (RF.re (rf_lst (ra_cons re_int (ra_cons re_int (ra_cons re_int (ra_cons re_int ra_nil)))))) (re_v 11)))))
    (rss_cons (rs_set nd rfl (by first | exact Or.inl rfl | exact Or.inr rfl) re_int)
    (rss_cons (rs_if (rt_cmp opd_gt (re_v 1) re_int rfl) (rss_one (rs_set nd rfl (by first | exact Or.inl rfl | exact Or.inr rfl) (re_bin opd_add (re_v 2) re_int))) rss_nil)
    (rss_cons (rs_set nd rfl (by first | exact Or.inl rfl | exact Or.inr rfl) (re_tup (ra_cons (re_bin opd_mod (re_ix (re_v 3) re_int) (re_v 4)) (ra_cons (re_bin opd_mod (re_ix (re_v 3) re_int) (re_v 4)) ra_nil))))
    (rss_cons (rs_set nd rfl (by first | exact Or.inl rfl | exact Or.inr rfl) (re_tup (ra_cons (re_bin opd_mod (re_ix (re_v 3) re_int) (re_v 4)) (ra_cons (re_bin opd_mod (re_ix (re_v 3) re_int) (re_v 4)) ra_nil))))
    (rss_cons (rs_set nd rfl (by first | exact Or.inl rfl | exact Or.inr rfl) (RF.re (rf_lst ra_nil)))
    (rss_cons (rs_if (rt_chain opd_lt opd_lt re_int (re_v 1) re_int) (rss_cons (rs_set nd rfl (by first | exact Or.inl rfl | exact Or.inr rfl) (re_def (ok_u_law_built F) hr (by decide) rfl tk (ra_cons (re_v 0) ra_nil)))
    (rss_cons (rs_set nd rfl (by first | exact Or.inl rfl | exact Or.inr rfl) (re_bin opd_add re_int (re_bin opd_mod (re_ix (re_v 3) re_int) re_int)))
    (rss_cons (rs_set nd rfl (by first | exact Or.inl rfl | exact Or.inr rfl) (re_tup (ra_cons (re_bin opd_mul (re_v 9) (re_ix (re_ix (re_v 7) re_int) re_int)) (ra_cons (re_bin opd_mul (re_v 9) (re_ix (re_ix (re_v 7) re_int) re_int)) ra_nil))))
    (rss_cons (rs_set nd rfl (by first | exact Or.inl rfl | exact Or.inr rfl) (re_bin opd_add re_int (re_bin opd_mod (re_ix (re_v 3) re_int) re_int)))
    (rss_one (rs_set nd rfl (by first | exact Or.inl rfl | exact Or.inr rfl) (re_tup (ra_cons (re_bin opd_mul (re_v 9) (re_ix (re_ix (re_v 7) (re_neg re_int)) re_int)) (ra_cons (re_bin opd_mul (re_v 9) (re_ix (re_ix (re_v 7) (re_neg re_int)) re_int)) ra_nil))))))))) rss_nil)
    (rss_cons (rs_if (rt_cmp (opd_eq hr.units) (re_v 5) (re_tup (ra_cons re_int (ra_cons re_int ra_nil))) rfl) (rss_one (rs_set nd rfl (by first | exact Or.inl rfl | exact Or.inr rfl) (re_tup (ra_cons re_int (ra_cons re_int ra_nil))))) rss_nil)
    (rss_cons (rs_if (rt_cmp (opd_eq hr.units) (re_v 6) (re_tup (ra_cons re_int (ra_cons re_int ra_nil))) rfl) (rss_one (rs_set nd rfl (by first | exact Or.inl rfl | exact Or.inr rfl) (re_tup (ra_cons re_int (ra_cons re_int ra_nil))))) rss_nil)
    (rss_cons (rs_if (rt_cmp (opd_eq hr.units) (re_def (ok_u_law_turn F) hr (by decide) rfl tk (ra_cons (re_v 6) (ra_cons (re_v 5) ra_nil))) re_int rfl) (rss_cons (rs_if (rt_not (rt_tru (re_def (ok_u_law_refuses F) hr (by decide) rfl tk (ra_cons (re_v 5) (ra_cons (re_v 6) (ra_cons re_non (ra_cons re_str (ra_cons re_int ra_nil)))))))) (rss_one (rs_ret re_bl)) rss_nil)
    (rss_cons (rs_set nd rfl (by first | exact Or.inl rfl | exact Or.inr rfl) (re_tup (ra_cons re_int (ra_cons re_int ra_nil))))
    (rss_one (rs_set nd rfl (by first | exact Or.inl rfl | exact Or.inr rfl) (re_tup (ra_cons re_int (ra_cons re_int ra_nil))))))) rss_nil)
    (rss_cons (rs_if (rt_cmp opd_lt (re_def (ok_u_law_turn F) hr (by decide) rfl tk (ra_cons (re_v 6) (ra_cons (re_v 5) ra_nil))) re_int rfl) (rss_cons (rs_set nd rfl (by first | exact Or.inl rfl | exact Or.inr rfl) (re_v 5))
    (rss_cons (rs_set nd rfl (by first | exact Or.inl rfl | exact Or.inr rfl) (re_v 6))
    (rss_one (rs_set nd rfl (by first | exact Or.inl rfl | exact Or.inr rfl) (re_v 10))))) rss_nil)
    (rss_cons (rs_set nd rfl (by first | exact Or.inl rfl | exact Or.inr rfl) (re_def (ok_u_law_length F) hr (by decide) rfl tk (ra_cons (re_def (ok_u_law_lowest F) hr (by decide) rfl tk (ra_cons (re_v 5) ra_nil)) (ra_cons (re_def (ok_u_law_lowest F) hr (by decide) rfl tk (ra_cons (re_v 6) ra_nil)) ra_nil))))
    (rss_cons (rs_if (rt_cmp opd_lt (re_v 1) re_int rfl) (rss_one (rs_set nd rfl (by first | exact Or.inl rfl | exact Or.inr rfl) (re_def (ok_u_law_small_due F) hr (by decide) rfl tk (ra_cons (re_v 5) (ra_cons (re_v 6) ra_nil))))) rss_nil)
    (rss_cons (rs_if (RW.rt (rw_and (rt_cmp (opd_ne hr.units) (re_v 7) (RF.re (rf_lst ra_nil)) rfl) (rw_and1 (rt_cmp (opd_ne hr.units) (re_v 8) (re_len rfl F.n_len (ra_cons (re_v 7) ra_nil)) rfl)))) (rss_one (rs_ret re_bl)) rss_nil)
    (rss_one (rs_ret (re_and (re_def (ok_u_law_asked F) hr (by decide) rfl tk (ra_cons (re_v 5) (ra_cons (re_v 6) (ra_cons (re_v 7) (ra_cons (re_v 8) ra_nil))))) (re_one (re_def (ok_u_law_errors F) hr (by decide) rfl tk (ra_cons (re_v 5) (ra_cons (re_v 6) ra_nil)))))))))))))))))))))))
theorem ok_law (F : Ft P K mg) : Cl P w K mg base 9 "law" false 1 mf_law := by
  obtain ⟨fd, FD, h⟩ := fn_law (w := w) (base := base) F
  exact ⟨_, fd, _, h, F.g_law, FD.kp, FD.bindsN fun _ _ _ _ _ _ us hl => match us, hl with | [_], _ => rfl⟩

end
end G

-- Hk29
set_option Elab.async false
set_option linter.all false
set_option maxRecDepth 100000
set_option maxHeartbeats 4000000
namespace G
open PySem PySem.Spec PyProof.Rows L2 Fx
def cbody : Stmt → List Stmt
  | .ClassDef (body := b) .. => b
  | _ => []
def ini (i : Nat) : Stmt := (cbody (top i)).getD 0 (.Pass ⟨0, 0, 0, 0⟩)
def er_FlatError : FxHd.ErrD := ⟨"FlatError", "FlatError.__init__", ini 9, []⟩
theorem it_FlatError : FxHd.InitT er_FlatError := ⟨.b0 _ _ _ _ _ _ _ _ (fun _ _ _ _ => ⟨_, rfl⟩), ⟨_, rfl, rfl⟩, by decide +kernel, rfl, rfl, rfl, rfl, rfl, rfl, by decide +kernel, fun _ _ _ _ _ _ _ us hl => match us, hl with | [_], _ => rfl⟩
def er_NumberError : FxHd.ErrD := ⟨"NumberError", "NumberError.__init__", ini 4, ["number"]⟩
theorem it_NumberError : FxHd.InitT er_NumberError := ⟨.b1 _ _ _ _ _ _ _ _ _ _ _ _ _ (fun _ _ _ _ => ⟨_, rfl⟩), ⟨_, rfl, rfl⟩, by decide +kernel, rfl, rfl, rfl, rfl, rfl, rfl, by decide +kernel, fun _ _ _ _ _ _ _ us hl => match us, hl with | [_, _], _ => rfl⟩
def er_RowError : FxHd.ErrD := ⟨"RowError", "RowError.__init__", ini 11, ["at"]⟩
theorem it_RowError : FxHd.InitT er_RowError := ⟨.b1 _ _ _ _ _ _ _ _ _ _ _ _ _ (fun _ _ _ _ => ⟨_, rfl⟩), ⟨_, rfl, rfl⟩, by decide +kernel, rfl, rfl, rfl, rfl, rfl, rfl, by decide +kernel, fun _ _ _ _ _ _ _ us hl => match us, hl with | [_, _], _ => rfl⟩
def er_SizeError : FxHd.ErrD := ⟨"SizeError", "SizeError.__init__", ini 3, ["count"]⟩
theorem it_SizeError : FxHd.InitT er_SizeError := ⟨.b1 _ _ _ _ _ _ _ _ _ _ _ _ _ (fun _ _ _ _ => ⟨_, rfl⟩), ⟨_, rfl, rfl⟩, by decide +kernel, rfl, rfl, rfl, rfl, rfl, rfl, by decide +kernel, fun _ _ _ _ _ _ _ us hl => match us, hl with | [_, _], _ => rfl⟩
def er_TooMany : FxHd.ErrD := ⟨"TooMany", "TooMany.__init__", ini 6, ["limit"]⟩
theorem it_TooMany : FxHd.InitT er_TooMany := ⟨.b1 _ _ _ _ _ _ _ _ _ _ _ _ _ (fun _ _ _ _ => ⟨_, rfl⟩), ⟨_, rfl, rfl⟩, by decide +kernel, rfl, rfl, rfl, rfl, rfl, rfl, by decide +kernel, fun _ _ _ _ _ _ _ us hl => match us, hl with | [_, _], _ => rfl⟩
def dd_look_number_ : He.DefD := ⟨("look_number", none), "look_number", "look_number", defArgs (top 26), defBody (top 26), defScope (top 26), [], []⟩
def dd_look_list_ : He.DefD := ⟨("look_list", none), "look_list", "look_list", defArgs (top 27), defBody (top 27), defScope (top 27), [], []⟩
def dd_look_numbers_ : He.DefD := ⟨("look_numbers", none), "look_numbers", "look_numbers", defArgs (top 28), defBody (top 28), defScope (top 28), [], []⟩
def dd_look_pair_ : He.DefD := ⟨("look_pair", none), "look_pair", "look_pair", defArgs (top 29), defBody (top 29), defScope (top 29), [], []⟩
def dd_look_most_ : He.DefD := ⟨("look_most", none), "look_most", "look_most", defArgs (top 30), defBody (top 30), defScope (top 30), [], []⟩
def dd_inverse_of_ : He.DefD := ⟨("inverse_of", none), "inverse_of", "inverse_of", defArgs (top 32), defBody (top 32), defScope (top 32), [], []⟩
def dd_turn_ : He.DefD := ⟨("turn", none), "turn", "turn", defArgs (top 34), defBody (top 34), defScope (top 34), [], []⟩
def dd_u_primitive_ : He.DefD := ⟨("_primitive", none), "_primitive", "_primitive", defArgs (top 36), defBody (top 36), defScope (top 36), [], []⟩
def dd_u_second_point_ : He.DefD := ⟨("_second_point", none), "_second_point", "_second_point", defArgs (top 37), defBody (top 37), defScope (top 37), [], []⟩
def dd_cone_chain_ : He.DefD := ⟨("cone_chain", none), "cone_chain", "cone_chain", defArgs (top 38), defBody (top 38), defScope (top 38), [], [("most", .int 400)]⟩
def dd_u_law_cell_ : He.DefD := ⟨("_law_cell", none), "_law_cell", "_law_cell", defArgs (top 40), defBody (top 40), defScope (top 40), [], []⟩
def dd_u_law_turn_ : He.DefD := ⟨("_law_turn", none), "_law_turn", "_law_turn", defArgs (top 41), defBody (top 41), defScope (top 41), [], []⟩
def dd_u_law_integer_ : He.DefD := ⟨("_law_integer", none), "_law_integer", "_law_integer", defArgs (top 42), defBody (top 42), defScope (top 42), [], []⟩
def dd_u_law_is_pair_ : He.DefD := ⟨("_law_is_pair", none), "_law_is_pair", "_law_is_pair", defArgs (top 43), defBody (top 43), defScope (top 43), [], []⟩
def dd_u_law_are_pairs_ : He.DefD := ⟨("_law_are_pairs", none), "_law_are_pairs", "_law_are_pairs", defArgs (top 44), defBody (top 44), defScope (top 44), [], []⟩
def dd_u_law_is_number_ : He.DefD := ⟨("_law_is_number", none), "_law_is_number", "_law_is_number", defArgs (top 45), defBody (top 45), defScope (top 45), [], []⟩
def dd_u_law_common_ : He.DefD := ⟨("_law_common", none), "_law_common", "_law_common", defArgs (top 46), defBody (top 46), defScope (top 46), [], []⟩
def dd_u_law_lowest_ : He.DefD := ⟨("_law_lowest", none), "_law_lowest", "_law_lowest", defArgs (top 47), defBody (top 47), defScope (top 47), [], []⟩
def dd_u_law_beside_ : He.DefD := ⟨("_law_beside", none), "_law_beside", "_law_beside", defArgs (top 48), defBody (top 48), defScope (top 48), [], []⟩
def dd_u_law_length_ : He.DefD := ⟨("_law_length", none), "_law_length", "_law_length", defArgs (top 49), defBody (top 49), defScope (top 49), [], []⟩
def dd_u_law_small_due_ : He.DefD := ⟨("_law_small_due", none), "_law_small_due", "_law_small_due", defArgs (top 50), defBody (top 50), defScope (top 50), [], []⟩
def dd_u_law_built_ : He.DefD := ⟨("_law_built", none), "_law_built", "_law_built", defArgs (top 51), defBody (top 51), defScope (top 51), [], []⟩
def dd_u_law_is_chain_ : He.DefD := ⟨("_law_is_chain", none), "_law_is_chain", "_law_is_chain", defArgs (top 52), defBody (top 52), defScope (top 52), [], []⟩
def dd_u_law_error_ : He.DefD := ⟨("_law_error", none), "_law_error", "_law_error", defArgs (top 53), defBody (top 53), defScope (top 53), [], []⟩
def dd_u_law_refusal_ : He.DefD := ⟨("_law_refusal", none), "_law_refusal", "_law_refusal", defArgs (top 54), defBody (top 54), defScope (top 54), [], []⟩
def dd_u_law_refuses_ : He.DefD := ⟨("_law_refuses", none), "_law_refuses", "_law_refuses", defArgs (top 55), defBody (top 55), defScope (top 55), [], []⟩
def dd_u_law_errors_ : He.DefD := ⟨("_law_errors", none), "_law_errors", "_law_errors", defArgs (top 56), defBody (top 56), defScope (top 56), [], []⟩
def dd_u_law_asked_ : He.DefD := ⟨("_law_asked", none), "_law_asked", "_law_asked", defArgs (top 57), defBody (top 57), defScope (top 57), [], []⟩
def dd_law_ : He.DefD := ⟨("law", none), "law", "law", defArgs (top 58), defBody (top 58), defScope (top 58), [], []⟩
def plan : FxHd.Plan := { fa := [.glo "look_number", .glo "look_list", .glo "look_numbers", .glo "look_pair", .glo "look_most", .glo "inverse_of", .glo "turn", .glo "_primitive", .glo "_second_point", .glo "cone_chain", .glo "_law_cell", .glo "_law_turn", .glo "_law_integer", .glo "_law_is_pair", .glo "_law_are_pairs", .glo "_law_is_number", .glo "_law_common", .glo "_law_lowest", .glo "_law_beside", .glo "_law_length", .glo "_law_small_due", .glo "_law_built", .glo "_law_is_chain", .glo "_law_error", .glo "_law_refusal", .glo "_law_refuses", .glo "_law_errors", .glo "_law_asked", .glo "law", .free "ValueError", .free "bool", .free "int", .free "isinstance", .free "len", .free "list", .free "max", .free "range", .free "tuple", .int "COIN" 1000000000000, .glo "CoinError"], fn := [dd_look_number_, dd_look_list_, dd_look_numbers_, dd_look_pair_, dd_look_most_, dd_inverse_of_, dd_turn_, dd_u_primitive_, dd_u_second_point_, dd_cone_chain_, dd_u_law_cell_, dd_u_law_turn_, dd_u_law_integer_, dd_u_law_is_pair_, dd_u_law_are_pairs_, dd_u_law_is_number_, dd_u_law_common_, dd_u_law_lowest_, dd_u_law_beside_, dd_u_law_length_, dd_u_law_small_due_, dd_u_law_built_, dd_u_law_is_chain_, dd_u_law_error_, dd_u_law_refusal_, dd_u_law_refuses_, dd_u_law_errors_, dd_u_law_asked_, dd_law_], er := [er_FlatError, er_NumberError, er_RowError, er_SizeError, er_TooMany], nms := nms, fl := ["at", "count", "first", "grain", "limit", "line", "number", "second"], top := "CoinError", file := PySem.Challenge.pw_coinholes_k29_far_chains.main.file, blt := [("gcd", "math.gcd")] }
abbrev RR : PySem.W.OpenRow := PySem.W.OpenLaw.row PySem.Challenge.rw_coinholes_k29_far_chains
abbrev qv : Program := PySem.W.view RR.prog [0, 58]
def loose : List PySem.Str := (["CoinError", "SizeError", "NumberError", "WideError", "TooMany", "FewCoins", "GrainError", "FlatError", "CrossError", "RowError", "NotMade", "NoCoin", "CoprimeError", "PlaceError", "WayError", "TradeError", "OtherLot", "HoleError", "PointError", "TextError", "EditError", "HistoryError", "COIN", "look_number", "look_list", "look_numbers", "look_pair", "look_most", "inverse_of", "turn"] : List PySem.Str) ++ (["_primitive", "_second_point", "cone_chain", "_law_cell", "_law_turn", "_law_integer", "_law_is_pair", "_law_are_pairs", "_law_is_number", "_law_common", "_law_lowest", "_law_beside", "_law_length", "_law_small_due", "_law_built", "_law_is_chain", "_law_error", "_law_refusal", "_law_refuses", "_law_errors", "_law_asked"] : List PySem.Str)
abbrev hk : PySem.W.Hook := FxHd.hookX 4 plan
def ob (s : PySem.W.SharedT) : FxHd.AlX := FxHd.obsXG 4 plan (HandSHeadRun.getT s)
theorem ob_eq (s : PySem.W.SharedT) : ob s = hk.obs s.abs := FxHd.obsXG_eq (HandSHeadRun.getT_eq s)
theorem run (w : World) : HandSHeadRun.RunEqI RR qv hk ob 20000 loose w := by
  unfold HandSHeadRun.RunEqI
  kernel_rfl
theorem ft {K : PySem.W.Frag} {h : Heap} {mg : Str → Option Value} (X : K.In h) (G : h.Ns mainGlobals mg) (c : FxHd.SaysX plan K) : Ft PySem.Challenge.pw_coinholes_k29_far_chains K mg := by
  obtain ⟨a1, a2, a3⟩ := c.all X G
  exact {
    d_look_number := c.def_ 0 (d := dd_look_number_) rfl
    g_look_number := He.glo_ok X G (c.fact 0 (f := .glo "look_number") rfl)
    d_look_list := c.def_ 1 (d := dd_look_list_) rfl
    g_look_list := He.glo_ok X G (c.fact 1 (f := .glo "look_list") rfl)
    d_look_numbers := c.def_ 2 (d := dd_look_numbers_) rfl
    g_look_numbers := He.glo_ok X G (c.fact 2 (f := .glo "look_numbers") rfl)
    d_look_pair := c.def_ 3 (d := dd_look_pair_) rfl
    g_look_pair := He.glo_ok X G (c.fact 3 (f := .glo "look_pair") rfl)
    d_look_most := c.def_ 4 (d := dd_look_most_) rfl
    g_look_most := He.glo_ok X G (c.fact 4 (f := .glo "look_most") rfl)
    d_inverse_of := c.def_ 5 (d := dd_inverse_of_) rfl
    g_inverse_of := He.glo_ok X G (c.fact 5 (f := .glo "inverse_of") rfl)
    d_turn := c.def_ 6 (d := dd_turn_) rfl
    g_turn := He.glo_ok X G (c.fact 6 (f := .glo "turn") rfl)
    d_u_primitive := c.def_ 7 (d := dd_u_primitive_) rfl
    g_u_primitive := He.glo_ok X G (c.fact 7 (f := .glo "_primitive") rfl)
    d_u_second_point := c.def_ 8 (d := dd_u_second_point_) rfl
    g_u_second_point := He.glo_ok X G (c.fact 8 (f := .glo "_second_point") rfl)
    d_cone_chain := c.def_ 9 (d := dd_cone_chain_) rfl
    g_cone_chain := He.glo_ok X G (c.fact 9 (f := .glo "cone_chain") rfl)
    d_u_law_cell := c.def_ 10 (d := dd_u_law_cell_) rfl
    g_u_law_cell := He.glo_ok X G (c.fact 10 (f := .glo "_law_cell") rfl)
    d_u_law_turn := c.def_ 11 (d := dd_u_law_turn_) rfl
    g_u_law_turn := He.glo_ok X G (c.fact 11 (f := .glo "_law_turn") rfl)
    d_u_law_integer := c.def_ 12 (d := dd_u_law_integer_) rfl
    g_u_law_integer := He.glo_ok X G (c.fact 12 (f := .glo "_law_integer") rfl)
    d_u_law_is_pair := c.def_ 13 (d := dd_u_law_is_pair_) rfl
    g_u_law_is_pair := He.glo_ok X G (c.fact 13 (f := .glo "_law_is_pair") rfl)
    d_u_law_are_pairs := c.def_ 14 (d := dd_u_law_are_pairs_) rfl
    g_u_law_are_pairs := He.glo_ok X G (c.fact 14 (f := .glo "_law_are_pairs") rfl)
    d_u_law_is_number := c.def_ 15 (d := dd_u_law_is_number_) rfl
    g_u_law_is_number := He.glo_ok X G (c.fact 15 (f := .glo "_law_is_number") rfl)
    d_u_law_common := c.def_ 16 (d := dd_u_law_common_) rfl
    g_u_law_common := He.glo_ok X G (c.fact 16 (f := .glo "_law_common") rfl)
    d_u_law_lowest := c.def_ 17 (d := dd_u_law_lowest_) rfl
    g_u_law_lowest := He.glo_ok X G (c.fact 17 (f := .glo "_law_lowest") rfl)
    d_u_law_beside := c.def_ 18 (d := dd_u_law_beside_) rfl
    g_u_law_beside := He.glo_ok X G (c.fact 18 (f := .glo "_law_beside") rfl)
    d_u_law_length := c.def_ 19 (d := dd_u_law_length_) rfl
    g_u_law_length := He.glo_ok X G (c.fact 19 (f := .glo "_law_length") rfl)
    d_u_law_small_due := c.def_ 20 (d := dd_u_law_small_due_) rfl
    g_u_law_small_due := He.glo_ok X G (c.fact 20 (f := .glo "_law_small_due") rfl)
    d_u_law_built := c.def_ 21 (d := dd_u_law_built_) rfl
    g_u_law_built := He.glo_ok X G (c.fact 21 (f := .glo "_law_built") rfl)
    d_u_law_is_chain := c.def_ 22 (d := dd_u_law_is_chain_) rfl
    g_u_law_is_chain := He.glo_ok X G (c.fact 22 (f := .glo "_law_is_chain") rfl)
    d_u_law_error := c.def_ 23 (d := dd_u_law_error_) rfl
    g_u_law_error := He.glo_ok X G (c.fact 23 (f := .glo "_law_error") rfl)
    d_u_law_refusal := c.def_ 24 (d := dd_u_law_refusal_) rfl
    g_u_law_refusal := He.glo_ok X G (c.fact 24 (f := .glo "_law_refusal") rfl)
    d_u_law_refuses := c.def_ 25 (d := dd_u_law_refuses_) rfl
    g_u_law_refuses := He.glo_ok X G (c.fact 25 (f := .glo "_law_refuses") rfl)
    d_u_law_errors := c.def_ 26 (d := dd_u_law_errors_) rfl
    g_u_law_errors := He.glo_ok X G (c.fact 26 (f := .glo "_law_errors") rfl)
    d_u_law_asked := c.def_ 27 (d := dd_u_law_asked_) rfl
    g_u_law_asked := He.glo_ok X G (c.fact 27 (f := .glo "_law_asked") rfl)
    d_law := c.def_ 28 (d := dd_law_) rfl
    g_law := He.glo_ok X G (c.fact 28 (f := .glo "law") rfl)
    n_ValueError := He.free_ok X G (c.fact 29 (f := .free "ValueError") rfl)
    n_bool := He.free_ok X G (c.fact 30 (f := .free "bool") rfl)
    n_int := He.free_ok X G (c.fact 31 (f := .free "int") rfl)
    n_isinstance := He.free_ok X G (c.fact 32 (f := .free "isinstance") rfl)
    n_len := He.free_ok X G (c.fact 33 (f := .free "len") rfl)
    n_list := He.free_ok X G (c.fact 34 (f := .free "list") rfl)
    n_max := He.free_ok X G (c.fact 35 (f := .free "max") rfl)
    n_range := He.free_ok X G (c.fact 36 (f := .free "range") rfl)
    n_tuple := He.free_ok X G (c.fact 37 (f := .free "tuple") rfl)
    c_COIN := He.int_ok X G (c.fact 38 (f := .int "COIN" 1000000000000) rfl)
    gcd := c.blt X G 0 (b := ("gcd", "math.gcd")) rfl
    e_FlatError := ⟨_, _, c.err X G rfl (by kernel_rfl) 0 it_FlatError rfl⟩
    e_NumberError := ⟨_, _, c.err X G rfl (by kernel_rfl) 1 it_NumberError rfl⟩
    e_RowError := ⟨_, _, c.err X G rfl (by kernel_rfl) 2 it_RowError rfl⟩
    e_SizeError := ⟨_, _, c.err X G rfl (by kernel_rfl) 3 it_SizeError rfl⟩
    e_TooMany := ⟨_, _, c.err X G rfl (by kernel_rfl) 4 it_TooMany rfl⟩
    ek := a1
    f_at := a2 "at" (by decide)
    f_count := a2 "count" (by decide)
    f_first := a2 "first" (by decide)
    f_grain := a2 "grain" (by decide)
    f_limit := a2 "limit" (by decide)
    f_line := a2 "line" (by decide)
    f_number := a2 "number" (by decide)
    f_second := a2 "second" (by decide)
    coinV := He.glo_ok X G (c.fact 39 (f := .glo "CoinError") rfl)
    coin := a3 }
end G

-- P29
set_option Elab.async false
set_option linter.all false
set_option maxRecDepth 100000
set_option maxHeartbeats 2000000
/-! P29: chains of lattice points between two directions, in plain Lean. -/
namespace P29
abbrev Pt := Int × Int
def cr (p q : Pt) : Int := p.1 * q.2 - p.2 * q.1
def ceil (n r : Int) : Int := -((-n) / r)
def nxt (b p q : Pt) : Pt := (ceil (cr b p) (cr b q) * q.1 - p.1, ceil (cr b p) (cr b q) * q.2 - p.2)
/-- b is no multiple -/
def Prim (b : Pt) : Prop := ∀ (m : Int) (q : Pt), 0 < m → b = (m * q.1, m * q.2) → m = 1
def hj (b : Pt) : Nat → Pt → Pt → List Pt
  | 0, p, q => [p, q]
  | n + 1, p, q => if q = b then [p, q] else p :: hj b n q (nxt b p q)
def hc : Nat → Int → Int → Nat
  | 0, _, _ => 0
  | n + 1, x, y => if y = 0 then 0 else 1 + hc n y ((-x) % y)
theorem pt_ext {p q : Pt} (h1 : p.1 = q.1) (h2 : p.2 = q.2) : p = q := by
  obtain ⟨a, b⟩ := p
  obtain ⟨c, d⟩ := q
  dsimp only at h1 h2
  subst h1 h2
  rfl
theorem ceil_eq {n r t s : Int} (hr : 0 < r) (h : n = t * r - s) (h0 : 0 ≤ s) (h1 : s < r) : ceil n r = t := by
  unfold ceil
  have e : -n = s + r * (-t) := by grind
  have h2 : (-n) / r = -t := by
    rw [e, Int.add_mul_ediv_left _ _ (Int.ne_of_gt hr), Int.ediv_eq_zero_of_lt h0 h1]
    omega
  omega
theorem ceil_rest {n r : Int} (hr : 0 < r) : ceil n r * r - n = (-n) % r := by
  unfold ceil
  have := Int.mul_ediv_add_emod (-n) r
  grind
theorem ceil_ge2 {n r : Int} (hr : 0 < r) (h : r < n) : 2 ≤ ceil n r := by
  have h1 := ceil_rest (n := n) hr
  have h2 := Int.emod_nonneg (-n) (Int.ne_of_gt hr)
  have h3 := Int.emod_lt_of_pos (-n) hr
  false_or_by_contra
  have h4 : ceil n r ≤ 1 := by omega
  have h5 : ceil n r * r ≤ 1 * r := Int.mul_le_mul_of_nonneg_right h4 (Int.le_of_lt hr)
  omega
theorem cr_nxt (b p q : Pt) : cr b (nxt b p q) = ceil (cr b p) (cr b q) * cr b q - cr b p := by unfold nxt cr; grind
theorem cr_nxt_q (b p q : Pt) (h : cr q p = 1) : cr (nxt b p q) q = 1 := by
  have : cr (nxt b p q) q = cr q p := by unfold nxt cr; grind
  rw [this, h]
/-- b by the two -/
theorem by_two (b p q : Pt) (h : cr q p = 1) : b.1 = cr b p * q.1 - cr b q * p.1 ∧ b.2 = cr b p * q.2 - cr b q * p.2 := by
  unfold cr at *
  constructor <;> grind
/-- what holds of two neighbours ahead of b -/
structure Two (b p q : Pt) : Prop where
  one : cr q p = 1
  nn : 0 ≤ cr b q
  lt : cr b q < cr b p
theorem Two.end_ {b p q : Pt} (T : Two b p q) (hb : Prim b) (h : cr b q = 0) : q = b := by
  obtain ⟨h1, h2⟩ := by_two b p q T.one
  rw [h] at h1 h2
  have hp : 0 < cr b p := by have := T.lt; omega
  have e : b = (cr b p * q.1, cr b p * q.2) := pt_ext (by dsimp only; omega) (by dsimp only; omega)
  have e1 := hb _ q hp e
  rw [e1] at h1 h2
  exact (pt_ext (by omega) (by omega)).symm
theorem cr_self (b : Pt) : cr b b = 0 := by unfold cr; grind
theorem Two.next {b p q : Pt} (T : Two b p q) (hq : cr b q ≠ 0) : Two b q (nxt b p q) := by
  have h1 : 0 < cr b q := by have := T.nn; omega
  have h2 := cr_nxt b p q
  rw [ceil_rest h1] at h2
  exact ⟨cr_nxt_q b p q T.one, by rw [h2]; exact Int.emod_nonneg _ (Int.ne_of_gt h1), by rw [h2]; exact Int.emod_lt_of_pos _ h1⟩
theorem hj_len {b : Pt} (hb : Prim b) : ∀ (n : Nat) (p q : Pt), Two b p q → cr b q < n → (hj b n p q).length = 2 + hc n (cr b p) (cr b q)
  | 0, p, q, T, h => by have := T.nn; omega
  | n + 1, p, q, T, h => by
    unfold hj hc
    by_cases e : cr b q = 0
    · rw [if_pos (T.end_ hb e), if_pos e]; rfl
    · have ne : q ≠ b := fun z => e (by rw [z]; exact cr_self b)
      rw [if_neg ne, if_neg e]
      have T2 := T.next e
      have h1 : 0 < cr b q := by have := T.nn; omega
      have := hj_len hb n q _ T2 (by have := T2.lt; omega)
      rw [List.length_cons, this, cr_nxt, ceil_rest h1]
      omega
/-- the fuel does not matter -/
theorem hj_fuel {b : Pt} (hb : Prim b) : ∀ (n m : Nat) (p q : Pt), Two b p q → cr b q < n → cr b q < m → hj b n p q = hj b m p q
  | 0, _, p, q, T, h, _ => by have := T.nn; omega
  | _, 0, p, q, T, _, h => by have := T.nn; omega
  | n + 1, m + 1, p, q, T, h1, h2 => by
    unfold hj
    by_cases e : q = b
    · rw [if_pos e, if_pos e]
    · have ne : cr b q ≠ 0 := fun z => e (T.end_ hb z)
      have T2 := T.next ne
      rw [if_neg e, if_neg e, hj_fuel hb n m q _ T2 (by have := T2.lt; omega) (by have := T2.lt; omega)]
/-- a chain as one would write it: from p, q on to b -/
inductive Ch (b : Pt) : Pt → Pt → List Pt → Prop
  | last {p : Pt} : cr b p = 1 → Ch b p b []
  | step {p q s : Pt} {l : List Pt} {t : Int} : cr q p = 1 → 2 ≤ t → s.1 = t * q.1 - p.1 → s.2 = t * q.2 - p.2 → Ch b q s l → Ch b p q (s :: l)
theorem Ch.two {b p q : Pt} {l : List Pt} (h : Ch b p q l) : Two b p q ∧ (cr b q = 0 → l = []) := by
  induction h with
  | last h => exact ⟨⟨h, by rw [cr_self]; omega, by rw [cr_self, h]; omega⟩, fun _ => rfl⟩
  | @step p q s l t h1 h2 h3 h4 _ ih =>
    obtain ⟨T, _⟩ := ih
    have e : cr b p = t * cr b q - cr b s := by unfold cr; rw [h3, h4]; grind
    have h5 : 0 < cr b q := by have := T.lt; have := T.nn; omega
    have h6 : 2 * cr b q ≤ t * cr b q := Int.mul_le_mul_of_nonneg_right h2 (Int.le_of_lt h5)
    exact ⟨⟨h1, by omega, by have := T.lt; omega⟩, fun z => by omega⟩
theorem Ch.eq_hj {b : Pt} (hb : Prim b) {p q : Pt} {l : List Pt} (h : Ch b p q l) : ∀ n : Nat, cr b q < n → hj b n p q = p :: q :: l := by
  induction h with
  | @last p h =>
    intro n hn
    rw [cr_self] at hn
    match n, hn with
    | n + 1, _ => unfold hj; rw [if_pos rfl]
  | @step p q s l t h1 h2 h3 h4 hr ih =>
    intro n hn
    have T := (Ch.step h1 h2 h3 h4 hr).two.1
    have T2 := hr.two.1
    have h5 : 0 < cr b q := by have := T2.lt; have := T2.nn; omega
    have ne : q ≠ b := fun z => by rw [z, cr_self] at h5; omega
    have e : cr b p = t * cr b q - cr b s := by unfold cr; rw [h3, h4]; grind
    have ec := ceil_eq h5 e T2.nn T2.lt
    have en : nxt b p q = s := by unfold nxt; rw [ec]; exact pt_ext h3.symm h4.symm
    cases n with
    | zero => omega
    | succ n =>
      unfold hj
      rw [if_neg ne, en, ih n (by have := T2.lt; omega)]
/-- hj is such a chain -/
theorem hj_ch {b : Pt} (hb : Prim b) : ∀ (n : Nat) (p q : Pt), Two b p q → cr b q < n → ∃ l, hj b n p q = p :: q :: l ∧ Ch b p q l
  | 0, p, q, T, h => by have := T.nn; omega
  | n + 1, p, q, T, h => by
    unfold hj
    by_cases e : q = b
    · rw [if_pos e]
      refine ⟨[], rfl, ?_⟩
      have := T.one
      subst e
      exact .last this
    · have ne : cr b q ≠ 0 := fun z => e (T.end_ hb z)
      have T2 := T.next ne
      have h1 : 0 < cr b q := by have := T.nn; omega
      rw [if_neg e]
      obtain ⟨l, e1, e2⟩ := hj_ch hb n q _ T2 (by have := T2.lt; omega)
      exact ⟨_ :: l, by rw [e1], .step T.one (ceil_ge2 h1 T.lt) rfl rfl e2⟩
/-! ### the length by Euclid -/
theorem hc_fuel : ∀ (n m : Nat) (x y : Int), 0 ≤ y → y < n → y < m → hc n x y = hc m x y
  | 0, _, x, y, h, h1, _ => by omega
  | _, 0, x, y, h, _, h1 => by omega
  | n + 1, m + 1, x, y, h, h1, h2 => by
    unfold hc
    by_cases e : y = 0
    · rw [if_pos e, if_pos e]
    · have hy : 0 < y := by omega
      have a := Int.emod_nonneg (-x) e
      have b := Int.emod_lt_of_pos (-x) hy
      rw [if_neg e, if_neg e, hc_fuel n m y _ a (by omega) (by omega)]
def H (x y : Int) : Nat := hc (y.toNat + 1) x y
theorem H_eq {n : Nat} {x y : Int} (h : 0 ≤ y) (hn : y < n) : hc n x y = H x y := hc_fuel _ _ x y h hn (by omega)
theorem H_zero (x : Int) : H x 0 = 0 := rfl
theorem H_pos {x y : Int} (h : 0 < y) : H x y = 1 + H y ((-x) % y) := by
  have a := Int.emod_nonneg (-x) (Int.ne_of_gt h)
  have b := Int.emod_lt_of_pos (-x) h
  have e : H x y = 1 + hc y.toNat y ((-x) % y) := by
    show (if y = 0 then 0 else 1 + hc y.toNat y ((-x) % y)) = _
    rw [if_neg (Int.ne_of_gt h)]
  rw [e, H_eq a (by omega)]
theorem H_mod {x x' y : Int} (h : 0 < y) (e : x % y = x' % y) : H x y = H x' y := by
  rw [H_pos h, H_pos h]
  have : (-x) % y = (-x') % y := by
    have := Int.neg_emod_eq_sub_emod (a := x) (b := y)
    have := Int.neg_emod_eq_sub_emod (a := x') (b := y)
    rw [Int.neg_emod, Int.neg_emod]
    by_cases d : y ∣ x
    · have d' : y ∣ x' := Int.dvd_of_emod_eq_zero (by rw [← e]; exact Int.emod_eq_zero_of_dvd d)
      rw [if_pos d, if_pos d']
    · have d' : ¬ y ∣ x' := fun z => d (Int.dvd_of_emod_eq_zero (by rw [e]; exact Int.emod_eq_zero_of_dvd z))
      rw [if_neg d, if_neg d', e]
  rw [this]
/-- a Euclid double step -/
theorem H_down {x y s : Int} (hs : 0 < s) : ∀ (k : Nat) (u v : Int), u = v + s → 0 ≤ v → v / s = k → v % s = (u % s) → H u v = k + H s (v % s)
  | 0, u, v, e, h, hk, _ => by
    have h1 : v < s := by
      have := Int.mul_ediv_add_emod v s
      have := Int.emod_lt_of_pos v hs
      rw [hk] at *
      simp at *
      omega
    have h2 : v % s = v := Int.emod_eq_of_lt h h1
    rw [h2]
    by_cases z : v = 0
    · subst z; rw [H_zero, H_zero]
    · have hv : 0 < v := by omega
      rw [H_mod hv (x := u) (x' := s) (by subst e; rw [Int.add_comm, Int.add_emod_right])]
      simp
  | k + 1, u, v, e, h, hk, hm => by
    have h1 : s ≤ v := by
      false_or_by_contra
      have : v / s = 0 := Int.ediv_eq_zero_of_lt h (by omega)
      omega
    have hv : 0 < v := by omega
    rw [H_pos hv]
    have e2 : (-u) % v = (v - s) % v := by
      have : -u = (v - s) + v * (-2) := by grind
      rw [this, Int.add_mul_emod_self_left]
    have e3 : (v - s) % v = v - s := Int.emod_eq_of_lt (by omega) (by omega)
    rw [e2, e3]
    have e4 : (v - s) / s = k := by
      have : v - s = v + s * (-1) := by grind
      rw [this, Int.add_mul_ediv_left _ _ (Int.ne_of_gt hs), hk]
      omega
    have e5 : (v - s) % s = v % s := by
      have : v - s = v + s * (-1) := by grind
      rw [this, Int.add_mul_emod_self_left]
    rw [H_down (x := x) (y := y) hs k v (v - s) (by omega) (by omega) e4 e5, e5]
    omega
theorem H_euclid {x y : Int} (hy : 0 < y) (hs : 0 < x % y) : H x y = (y / (x % y)).toNat + H (x % y) (y % (x % y)) := by
  have h1 := Int.emod_lt_of_pos x hy
  have e1 : (-x) % y = y - x % y := by
    have h2 := Int.mul_ediv_add_emod x y
    have : -x = (y - x % y) + y * (-(x / y) - 1) := by grind
    rw [this, Int.add_mul_emod_self_left]
    exact Int.emod_eq_of_lt (by omega) (by omega)
  rw [H_pos hy, e1]
  have hq : 0 ≤ (y - x % y) / (x % y) := Int.ediv_nonneg (by omega) (by omega)
  have e2 : (y - x % y) / (x % y) = y / (x % y) - 1 := by
    have : y - x % y = y + (x % y) * (-1) := by grind
    rw [this, Int.add_mul_ediv_left _ _ (Int.ne_of_gt hs)]
    omega
  have e3 : (y - x % y) % (x % y) = y % (x % y) := by
    have : y - x % y = y + (x % y) * (-1) := by grind
    rw [this, Int.add_mul_emod_self_left]
  rw [H_down (x := x) (y := y) hs ((y - x % y) / (x % y)).toNat y (y - x % y) (by omega) (by omega) (by omega) e3, e3, e2]
  rw [e2] at hq
  omega
theorem H_div {x y : Int} (hy : 0 < y) (hs : x % y = 0) : H x y = 1 := by
  rw [H_pos hy]
  have : (-x) % y = 0 := by
    have h2 := Int.mul_ediv_add_emod x y
    have : -x = 0 + y * (-(x / y)) := by grind
    rw [this, Int.add_mul_emod_self_left]
    rfl
  rw [this, H_zero]
end P29

-- P29b
set_option Elab.async false
set_option linter.all false
set_option maxRecDepth 100000
set_option maxHeartbeats 2000000
/-! P29b: the chain is the list of the points that are no sums. -/
namespace P29
/-- a linear function -/
def lin (α β : Int) (p : Pt) : Int := α * p.1 + β * p.2
/-- neighbours -/
def Adj (u v : Pt) (L : List Pt) : Prop := ∃ l1 l2, L = l1 ++ u :: v :: l2
theorem Adj.head {u v : Pt} {L : List Pt} : Adj u v (u :: v :: L) := ⟨[], L, rfl⟩
theorem Adj.tail {u v p : Pt} {L : List Pt} (h : Adj u v L) : Adj u v (p :: L) := by
  obtain ⟨l1, l2, e⟩ := h
  exact ⟨p :: l1, l2, by rw [e]; rfl⟩
theorem Adj.mem {u v : Pt} {L : List Pt} (h : Adj u v L) : u ∈ L ∧ v ∈ L := by
  obtain ⟨l1, l2, e⟩ := h
  rw [e]
  simp
theorem Adj.cases {u v p q : Pt} {L : List Pt} (h : Adj u v (p :: q :: L)) : (u = p ∧ v = q) ∨ Adj u v (q :: L) := by
  obtain ⟨l1, l2, e⟩ := h
  cases l1 with
  | nil => simp at e; exact .inl ⟨e.1.symm, e.2.1.symm⟩
  | cons x l1 => simp at e; exact .inr ⟨l1, l2, e.2⟩
theorem Ch.one {b p q : Pt} {l : List Pt} (h : Ch b p q l) : cr q p = 1 := h.two.1.one
theorem Ch.adj {b p q : Pt} {l : List Pt} (h : Ch b p q l) {u v : Pt} (hu : Adj u v (p :: q :: l)) : cr v u = 1 := by
  induction h with
  | last h =>
    rcases hu.cases with ⟨rfl, rfl⟩ | h2
    · exact h
    · obtain ⟨l1, l2, e⟩ := h2
      have := congrArg List.length e
      simp at this
      omega
  | step h1 _ _ _ _ ih =>
    rcases hu.cases with ⟨rfl, rfl⟩ | h2
    · exact h1
    · exact ih h2
/-- a linear function that grows once goes on growing -/
theorem Ch.grow {α β : Int} {b p q : Pt} {l : List Pt} (h : Ch b p q l) (h1 : lin α β p ≤ lin α β q) (h0 : 0 ≤ lin α β q) : ∀ v ∈ q :: l, lin α β q ≤ lin α β v := by
  induction h with
  | last h => intro v hv; simp at hv; subst hv; exact Int.le_refl _
  | @step p q s l t h2 ht h3 h4 hr ih =>
    have e : lin α β s = t * lin α β q - lin α β p := by unfold lin; rw [h3, h4]; grind
    have m : 2 * lin α β q ≤ t * lin α β q := Int.mul_le_mul_of_nonneg_right ht h0
    have g := ih (by omega) (by omega)
    intro v hv
    rcases List.mem_cons.mp hv with rfl | hv
    · exact Int.le_refl _
    · have := g v hv; omega
theorem Ch.end_mem {b p q : Pt} {l : List Pt} (h : Ch b p q l) : b ∈ q :: l := by
  induction h with
  | last _ => simp
  | step _ _ _ _ _ ih => exact List.mem_cons_of_mem _ ih
theorem Ch.cvx {α β M : Int} {b p q : Pt} {l : List Pt} (h : Ch b p q l) (nn : ∀ v ∈ p :: q :: l, 0 ≤ lin α β v) (hp : lin α β p ≤ M) (hb : lin α β b ≤ M) : ∀ v ∈ p :: q :: l, lin α β v ≤ M := by
  induction h with
  | last h => intro v hv; simp at hv; rcases hv with rfl | rfl <;> assumption
  | @step p q s l t h2 ht h3 h4 hr ih =>
    have hq : lin α β q ≤ M := by
      false_or_by_contra
      rename_i z
      have g := (Ch.step h2 ht h3 h4 hr).grow (α := α) (β := β) (by omega) (nn q (by simp)) b (Ch.end_mem (Ch.step h2 ht h3 h4 hr))
      omega
    intro v hv
    rcases List.mem_cons.mp hv with rfl | hv
    · exact hp
    · exact ih (fun v hv => nn v (List.mem_cons_of_mem _ hv)) hq v hv
/-- later ones turn from earlier ones -/
theorem Ch.pw {b p q : Pt} {l : List Pt} (h : Ch b p q l) : (p :: q :: l).Pairwise fun u v => 0 < cr v u := by
  have hd : ∀ {p q : Pt} {l : List Pt}, Ch b p q l → ∀ v ∈ q :: l, 0 < cr v p := by
    intro p q l h v hv
    have lp : ∀ z : Pt, lin p.2 (-p.1) z = cr z p := fun z => by unfold lin cr; grind
    have h1 := h.one
    have g := h.grow (α := p.2) (β := -p.1) (by rw [lp, lp, cr_self]; omega) (by rw [lp]; omega) v hv
    rw [lp, lp] at g
    omega
  induction h with
  | last h => exact List.Pairwise.cons (fun v hv => by simp at hv; subst hv; omega) (List.pairwise_singleton _ _)
  | step h1 h2 h3 h4 hr ih => exact List.Pairwise.cons (hd (Ch.step h1 h2 h3 h4 hr)) ih
theorem Ch.low {b p q : Pt} {l : List Pt} (h : Ch b p q l) : ∀ v ∈ p :: q :: l, 0 ≤ cr v p := fun v hv => by
  rcases List.mem_cons.mp hv with rfl | hv
  · rw [cr_self]; omega
  · exact Int.le_of_lt ((List.pairwise_cons.mp h.pw).1 v hv)
theorem Ch.high {b p q : Pt} {l : List Pt} (h : Ch b p q l) : ∀ v ∈ p :: q :: l, 0 ≤ cr b v := by
  induction h with
  | @last p h => intro v hv; simp at hv; rcases hv with rfl | rfl; omega; rw [cr_self]; omega
  | @step p q s l t h1 h2 h3 h4 hr ih =>
    intro v hv
    rcases List.mem_cons.mp hv with rfl | hv
    · have T := (Ch.step h1 h2 h3 h4 hr).two.1; have := T.nn; have := T.lt; omega
    · exact ih v hv
/-- a point of the cone by two neighbours -/
theorem Ch.by_ {b p q x : Pt} {l : List Pt} (h : Ch b p q l) (h1 : 0 ≤ cr x p) (h2 : 0 ≤ cr b x) : ∃ u v, Adj u v (p :: q :: l) ∧ cr v u = 1 ∧ 0 ≤ cr x u ∧ 0 ≤ cr v x := by
  induction h with
  | last h => exact ⟨_, _, .head, h, h1, h2⟩
  | @step p q s l t e1 _ _ _ hr ih =>
    by_cases z : 0 ≤ cr q x
    · exact ⟨_, _, .head, e1, h1, z⟩
    · have : cr q x = - cr x q := by unfold cr; grind
      obtain ⟨u, v, a, b1, b2, b3⟩ := ih (by omega)
      exact ⟨u, v, a.tail, b1, b2, b3⟩
theorem by_uv {u v x : Pt} (h : cr v u = 1) : x.1 = cr v x * u.1 + cr x u * v.1 ∧ x.2 = cr v x * u.2 + cr x u * v.2 := by
  unfold cr at *
  constructor <;> grind
theorem lin_uv {α β : Int} {u v x : Pt} (h : cr v u = 1) : lin α β x = cr v x * lin α β u + cr x u * lin α β v := by
  obtain ⟨e1, e2⟩ := by_uv (x := x) h
  unfold lin
  rw [e1, e2]
  generalize cr v x = m
  generalize cr x u = n
  grind
theorem pos_uv {u v x : Pt} (h : cr v u = 1) (x0 : x ≠ (0, 0)) (h1 : 0 ≤ cr x u) (h2 : 0 ≤ cr v x) : 1 ≤ cr v x + cr x u := by
  false_or_by_contra
  obtain ⟨e1, e2⟩ := by_uv (x := x) h
  have m : cr v x = 0 := by omega
  have n : cr x u = 0 := by omega
  rw [m, n] at e1 e2
  exact x0 (pt_ext (by simp at e1; exact e1) (by simp at e2; exact e2))
/-- two neighbours: a function that is 1 at both is 1 at least all over the chain -/
theorem Ch.sup {α β : Int} {b p q u v : Pt} {l : List Pt} (h : Ch b p q l) (a : Adj u v (p :: q :: l)) (hu : lin α β u = 1) (hv : lin α β v = 1) : lin α β q ≤ lin α β p ∧ ∀ z ∈ p :: q :: l, 1 ≤ lin α β z := by
  induction h with
  | @last p h =>
    rcases a.cases with ⟨rfl, rfl⟩ | h2
    · refine ⟨by omega, fun z hz => ?_⟩
      simp at hz
      rcases hz with rfl | rfl <;> omega
    · obtain ⟨l1, l2, e⟩ := h2
      have := congrArg List.length e
      simp at this
      omega
  | @step p q s l t h2 ht h3 h4 hr ih =>
    rcases a.cases with ⟨rfl, rfl⟩ | a2
    · have g := (Ch.step h2 ht h3 h4 hr).grow (α := α) (β := β) (by omega) (by omega)
      refine ⟨by omega, fun z hz => ?_⟩
      rcases List.mem_cons.mp hz with rfl | hz
      · omega
      · have := g z hz; omega
    · obtain ⟨i1, i2⟩ := ih a2
      have e : lin α β s = t * lin α β q - lin α β p := by unfold lin; rw [h3, h4]; grind
      have hq := i2 q (by simp)
      have m : 2 * lin α β q ≤ t * lin α β q := Int.mul_le_mul_of_nonneg_right ht (by omega)
      refine ⟨by omega, fun z hz => ?_⟩
      rcases List.mem_cons.mp hz with rfl | hz
      · omega
      · exact i2 z hz
/-- each point of the chain has a neighbour -/
theorem Ch.nb {b p q c : Pt} {l : List Pt} (h : Ch b p q l) (hc : c ∈ p :: q :: l) : ∃ u v, Adj u v (p :: q :: l) ∧ (c = u ∨ c = v) := by
  induction h with
  | last h => simp at hc; rcases hc with rfl | rfl; exact ⟨_, _, .head, .inl rfl⟩; exact ⟨_, _, .head, .inr rfl⟩
  | step _ _ _ _ _ ih =>
    rcases List.mem_cons.mp hc with rfl | hc
    · exact ⟨_, _, .head, .inl rfl⟩
    · obtain ⟨u, v, a, z⟩ := ih hc
      exact ⟨u, v, a.tail, z⟩
/-- in the cone -/
def In (a b x : Pt) : Prop := x ≠ (0, 0) ∧ 0 ≤ cr x a ∧ 0 ≤ cr b x
/-- a point of the chain is no sum -/
theorem Ch.irr {b p q c x y : Pt} {l : List Pt} (h : Ch b p q l) (hc : c ∈ p :: q :: l) (hx : In p b x) (hy : In p b y) (e1 : c.1 = x.1 + y.1) (e2 : c.2 = x.2 + y.2) : False := by
  obtain ⟨u, v, a, hcu⟩ := h.nb hc
  have h1 := h.adj a
  have l0 : ∀ z, lin (v.1 * 0 + u.2 - v.2) (v.1 - u.1) z = cr z u + cr v z := fun z => by unfold lin cr; grind
  have lu : lin (v.1 * 0 + u.2 - v.2) (v.1 - u.1) u = 1 := by rw [l0, cr_self]; omega
  have lv : lin (v.1 * 0 + u.2 - v.2) (v.1 - u.1) v = 1 := by rw [l0, cr_self]; omega
  obtain ⟨α, hα⟩ : ∃ α, α = v.1 * 0 + u.2 - v.2 := ⟨_, rfl⟩
  obtain ⟨β, hβ⟩ : ∃ β, β = v.1 - u.1 := ⟨_, rfl⟩
  rw [← hα, ← hβ] at lu lv
  have s := (h.sup a lu lv).2
  have ge : ∀ z, In p b z → 1 ≤ lin α β z := fun z hz => by
    obtain ⟨u', v', a', b1, b2, b3⟩ := h.by_ hz.2.1 hz.2.2
    have su := s u' a'.mem.1
    have sv := s v' a'.mem.2
    have ps := pos_uv b1 hz.1 b2 b3
    rw [lin_uv b1]
    have m1 : cr v' z * 1 ≤ cr v' z * lin α β u' := Int.mul_le_mul_of_nonneg_left su b3
    have m2 : cr z u' * 1 ≤ cr z u' * lin α β v' := Int.mul_le_mul_of_nonneg_left sv b2
    omega
  have g1 := ge x hx
  have g2 := ge y hy
  have e : lin α β c = lin α β x + lin α β y := by unfold lin; rw [e1, e2]; grind
  have c1 : lin α β c = 1 := by rcases hcu with rfl | rfl <;> assumption
  omega
/-- each other point of the cone is a sum -/
theorem Ch.red {b p q x : Pt} {l : List Pt} (h : Ch b p q l) (nn : ∀ v ∈ p :: q :: l, 0 ≤ v.1 ∧ 0 ≤ v.2) (hx : In p b x) (hn : x ∉ p :: q :: l) : ∃ y z, In p b y ∧ In p b z ∧ x.1 = y.1 + z.1 ∧ x.2 = y.2 + z.2 ∧ 0 ≤ y.1 ∧ 0 ≤ y.2 ∧ 0 ≤ z.1 ∧ 0 ≤ z.2 := by
  obtain ⟨u, v, a, b1, b2, b3⟩ := h.by_ hx.2.1 hx.2.2
  have ps := pos_uv b1 hx.1 b2 b3
  obtain ⟨e1, e2⟩ := by_uv (x := x) b1
  obtain ⟨m, hm⟩ : ∃ m, m = cr v x := ⟨_, rfl⟩
  obtain ⟨n, hnn⟩ : ∃ n, n = cr x u := ⟨_, rfl⟩
  rw [← hm, ← hnn] at ps e1 e2
  rw [← hm] at b3
  rw [← hnn] at b2
  have nu := nn u a.mem.1
  have nv := nn v a.mem.2
  have lu := h.low u a.mem.1
  have lv := h.low v a.mem.2
  have hu := h.high u a.mem.1
  have hv := h.high v a.mem.2
  have iu : In p b u := ⟨fun z => by rw [z] at b1; simp [cr] at b1, lu, hu⟩
  have iv : In p b v := ⟨fun z => by rw [z] at b1; simp [cr] at b1, lv, hv⟩
  have mk : ∀ i j : Int, 0 ≤ i → 0 ≤ j → 1 ≤ i + j → In p b (i * u.1 + j * v.1, i * u.2 + j * v.2) ∧ 0 ≤ i * u.1 + j * v.1 ∧ 0 ≤ i * u.2 + j * v.2 := by
    intro i j hi hj hij
    have w1 := Int.mul_nonneg hi nu.1
    have w2 := Int.mul_nonneg hi nu.2
    have w3 := Int.mul_nonneg hj nv.1
    have w4 := Int.mul_nonneg hj nv.2
    have c1 : cr (i * u.1 + j * v.1, i * u.2 + j * v.2) p = i * cr u p + j * cr v p := by unfold cr; grind
    have c2 : cr b (i * u.1 + j * v.1, i * u.2 + j * v.2) = i * cr b u + j * cr b v := by unfold cr; grind
    have c3 : cr (i * u.1 + j * v.1, i * u.2 + j * v.2) u = j * cr v u := by unfold cr; grind
    have c4 : cr v (i * u.1 + j * v.1, i * u.2 + j * v.2) = i * cr v u := by unfold cr; grind
    rw [b1, Int.mul_one] at c3 c4
    have w5 := Int.mul_nonneg hi lu
    have w6 := Int.mul_nonneg hj lv
    have w7 := Int.mul_nonneg hi hu
    have w8 := Int.mul_nonneg hj hv
    refine ⟨⟨fun z => ?_, by omega, by omega⟩, by omega, by omega⟩
    rw [z] at c3 c4
    simp [cr] at c3 c4
    omega
  by_cases h2 : m + n = 1
  · exfalso
    apply hn
    by_cases h3 : m = 1
    · have h4 : n = 0 := by omega
      rw [h3, h4] at e1 e2
      have : x = u := pt_ext (by omega) (by omega)
      rw [this]; exact a.mem.1
    · have h3 : m = 0 := by omega
      have h4 : n = 1 := by omega
      rw [h3, h4] at e1 e2
      have : x = v := pt_ext (by omega) (by omega)
      rw [this]; exact a.mem.2
  · by_cases h3 : 1 ≤ m
    · have k := mk (m - 1) n (by omega) (by omega) (by omega)
      refine ⟨u, _, iu, k.1, ?_, ?_, nu.1, nu.2, k.2.1, k.2.2⟩
      · dsimp only; rw [e1, Int.sub_mul]; omega
      · dsimp only; rw [e2, Int.sub_mul]; omega
    · have k := mk m (n - 1) (by omega) (by omega) (by omega)
      refine ⟨v, _, iv, k.1, ?_, ?_, nv.1, nv.2, k.2.1, k.2.2⟩
      · dsimp only; rw [e1, Int.sub_mul]; omega
      · dsimp only; rw [e2, Int.sub_mul]; omega
/-! ### told in order -/
theorem sub_len {l : List Pt} : ∀ {m : List Pt}, l.Nodup → (∀ x ∈ l, x ∈ m) → l.length ≤ m.length := by
  induction l with
  | nil => intro m _ _; exact Nat.zero_le _
  | cons x l ih =>
    intro m nd h
    have hx := h x (by simp)
    have := ih (m := m.erase x) (List.nodup_cons.mp nd).2 (fun y hy => by
      have ne : y ≠ x := fun z => (List.nodup_cons.mp nd).1 (z ▸ hy)
      exact (List.mem_erase_of_ne ne).mpr (h y (List.mem_cons_of_mem _ hy)))
    rw [List.length_erase_of_mem hx] at this
    have hp := List.length_pos_of_mem hx
    simp
    omega
theorem same_len {l m : List Pt} (n1 : l.Nodup) (n2 : m.Nodup) (h : ∀ x, x ∈ l ↔ x ∈ m) : l.length = m.length := Nat.le_antisymm (sub_len n1 fun x hx => (h x).mp hx) (sub_len n2 fun x hx => (h x).mpr hx)
theorem one_of {l : List Pt} {c : Pt} (n : l.Nodup) (h : ∀ x, x ∈ l ↔ x = c) : l = [c] := by
  match l, n, h with
  | [], _, h => exact absurd ((h c).mpr rfl) (by simp)
  | [x], _, h => rw [(h x).mp (by simp)]
  | x :: y :: l, n, h =>
    have e1 := (h x).mp (by simp)
    have e2 := (h y).mp (by simp)
    subst e1
    subst e2
    simp at n
/-- how many stand behind -/
def cnt (L : List Pt) (x : Pt) : Nat := (L.filter fun o => decide (0 < cr x o)).length
theorem cnt_get {C : List Pt} (pw : C.Pairwise fun u v => 0 < cr v u) {j : Nat} (h : j < C.length) : cnt C C[j] = j := by
  have pg := List.pairwise_iff_getElem.mp pw
  obtain ⟨c, hc⟩ : ∃ c, c = C[j] := ⟨_, rfl⟩
  rw [← hc]
  unfold cnt
  have e : C.filter (fun o => decide (0 < cr c o)) = (C.take j).filter (fun o => decide (0 < cr c o)) ++ (C.drop j).filter (fun o => decide (0 < cr c o)) := by rw [← List.filter_append, List.take_append_drop]
  have e1 : (C.take j).filter (fun o => decide (0 < cr c o)) = C.take j := by
    refine List.filter_eq_self.mpr fun o ho => decide_eq_true ?_
    obtain ⟨i, hi, rfl⟩ := List.getElem_of_mem ho
    have hi' : i < j := by simp at hi; omega
    have := pg i j (by omega) h hi'
    rw [List.getElem_take, hc]
    exact this
  have e2 : (C.drop j).filter (fun o => decide (0 < cr c o)) = [] := by
    refine List.filter_eq_nil_iff.mpr fun o ho => ?_
    obtain ⟨i, hi, rfl⟩ := List.getElem_of_mem ho
    rw [List.getElem_drop, decide_eq_true_eq, hc]
    by_cases z : i = 0
    · subst z; simp only [Nat.add_zero]; rw [cr_self]; omega
    · have hji : j + i < C.length := by simp at hi; omega
      have := pg j (j + i) h hji (by omega)
      have e : cr C[j] C[j + i] = - cr C[j + i] C[j] := by unfold cr; grind
      omega
  rw [e, e1, e2, List.append_nil, List.length_take]
  omega
theorem pw_nodup {C : List Pt} (pw : C.Pairwise fun u v => 0 < cr v u) : C.Nodup := by
  refine List.Pairwise.imp (fun {u v} h z => ?_) pw
  subst z
  rw [cr_self] at h
  omega
/-- those of left with k behind -/
theorem left_k {C left : List Pt} (pw : C.Pairwise fun u v => 0 < cr v u) (nd : left.Nodup) (h : ∀ x, x ∈ left ↔ x ∈ C) {k : Nat} (hk : k < C.length) : left.filter (fun x => decide (cnt left x = k)) = [C[k]] := by
  have ce : ∀ x, cnt left x = cnt C x := fun x => same_len (nd.filter _) ((pw_nodup pw).filter _) fun y => by simp [h]
  refine one_of (nd.filter _) fun x => ?_
  rw [List.mem_filter, decide_eq_true_eq, ce, h]
  constructor
  · rintro ⟨h1, h2⟩
    obtain ⟨j, hj, rfl⟩ := List.getElem_of_mem h1
    rw [cnt_get pw hj] at h2
    subst h2
    rfl
  · rintro rfl
    exact ⟨List.getElem_mem _, cnt_get pw hk⟩
end P29

-- P29c
set_option Elab.async false
set_option linter.all false
set_option maxRecDepth 100000
set_option maxHeartbeats 2000000
/-! P29c: lowest terms, the small points. -/
namespace P29
def gc (p : Pt) : Int := ((Nat.gcd p.1.natAbs p.2.natAbs : Nat) : Int)
def lo (p : Pt) : Pt := (p.1 / gc p, p.2 / gc p)
theorem gc_pos {p : Pt} (h : p.1 ≠ 0 ∨ p.2 ≠ 0) : 0 < gc p := by
  unfold gc
  have : 0 < Nat.gcd p.1.natAbs p.2.natAbs := Nat.gcd_pos_iff.mpr (by omega)
  omega
theorem lo_mul {p : Pt} : p.1 = gc p * (lo p).1 ∧ p.2 = gc p * (lo p).2 := by
  have h1 : gc p ∣ p.1 := Int.ofNat_dvd_left.mpr (Nat.gcd_dvd_left _ _)
  have h2 : gc p ∣ p.2 := Int.ofNat_dvd_left.mpr (Nat.gcd_dvd_right _ _)
  exact ⟨(Int.mul_ediv_cancel' h1).symm, (Int.mul_ediv_cancel' h2).symm⟩
theorem gc_mul {m : Int} (hm : 0 ≤ m) (q : Pt) : gc (m * q.1, m * q.2) = m * gc q := by
  unfold gc
  dsimp only
  rw [Int.natAbs_mul, Int.natAbs_mul, Nat.gcd_mul_left]
  rw [Int.natCast_mul]
  congr 1
  omega
theorem gc_lo {p : Pt} (h : p.1 ≠ 0 ∨ p.2 ≠ 0) : gc (lo p) = 1 := by
  have g := gc_pos h
  have e := gc_mul (Int.le_of_lt g) (lo p)
  have : ((gc p * (lo p).1, gc p * (lo p).2) : Pt) = p := pt_ext lo_mul.1.symm lo_mul.2.symm
  rw [this] at e
  have e2 : gc p * gc (lo p) = gc p * 1 := by omega
  exact Int.eq_of_mul_eq_mul_left (Int.ne_of_gt g) e2
theorem lo_of {m : Int} (hm : 0 < m) {q : Pt} (h : gc q = 1) : lo (m * q.1, m * q.2) = q := by
  unfold lo
  rw [gc_mul (Int.le_of_lt hm), h, Int.mul_one]
  exact pt_ext (Int.mul_ediv_cancel_left _ (Int.ne_of_gt hm)) (Int.mul_ediv_cancel_left _ (Int.ne_of_gt hm))
theorem prim_of {b : Pt} (h : gc b = 1) : Prim b := by
  intro m q hm e
  have e2 := gc_mul (Int.le_of_lt hm) q
  rw [← e, h] at e2
  have h1 : 0 ≤ gc q := by unfold gc; omega
  have h2 : m ∣ 1 := ⟨_, e2⟩
  exact Int.eq_one_of_dvd_one (Int.le_of_lt hm) h2
theorem lo_bd {p : Pt} {M : Int} (h : p.1 ≠ 0 ∨ p.2 ≠ 0) (h1 : 0 ≤ p.1) (h2 : p.1 ≤ M) (h3 : 0 ≤ p.2) (h4 : p.2 ≤ M) : (0 ≤ (lo p).1 ∧ (lo p).1 ≤ M) ∧ 0 ≤ (lo p).2 ∧ (lo p).2 ≤ M := by
  have g := gc_pos h
  have a1 : 0 ≤ (lo p).1 := Int.ediv_nonneg h1 (Int.le_of_lt g)
  have a2 : 0 ≤ (lo p).2 := Int.ediv_nonneg h3 (Int.le_of_lt g)
  have b1 : (lo p).1 ≤ p.1 := Int.ediv_le_self _ h1
  have b2 : (lo p).2 ≤ p.2 := Int.ediv_le_self _ h3
  omega
theorem cr_gg {low high a b : Pt} {g h : Int} (e1 : low.1 = g * a.1) (e2 : low.2 = g * a.2) (f1 : high.1 = h * b.1) (f2 : high.2 = h * b.2) : cr high low = (h * g) * cr b a := by
  unfold cr
  rw [e1, e2, f1, f2]
  grind
theorem pos_mul {g x : Int} (hg : 0 < g) : 0 ≤ g * x ↔ 0 ≤ x := by
  constructor
  · intro h
    false_or_by_contra
    have : g * x ≤ g * (-1) := Int.mul_le_mul_of_nonneg_left (by omega) (Int.le_of_lt hg)
    omega
  · intro h
    exact Int.mul_nonneg (Int.le_of_lt hg) h
theorem pos_mul' {g x : Int} (hg : 0 < g) : 0 < g * x ↔ 0 < x := by
  constructor
  · intro h
    false_or_by_contra
    have : g * x ≤ g * 0 := Int.mul_le_mul_of_nonneg_left (by omega) (Int.le_of_lt hg)
    omega
  · intro h
    exact Int.mul_pos hg h
/-! ### the grid -/
structure Grid (low high : Pt) (x y : Int) (L : List Pt) : Prop where
  nd : L.Nodup
  len : (L.length : Int) ≤ 13 * x + y
  mem : ∀ p : Pt, p ∈ L ↔ 0 ≤ p.1 ∧ 0 ≤ p.2 ∧ p.2 < 13 ∧ (p.1 < x ∨ (p.1 = x ∧ p.2 < y)) ∧ 0 ≤ cr p low ∧ 0 ≤ cr high p
  hd : (x = 0 ∧ y = 0 ∧ L = []) ∨ ∃ L', L = (0, 0) :: L'
section
variable {low high : Pt} {x y : Int} {L : List Pt}
theorem Grid.start : Grid low high 0 0 [] := ⟨List.nodup_nil, by simp, fun p => ⟨fun h => by simp at h, fun h => by omega⟩, .inl ⟨rfl, rfl, rfl⟩⟩
theorem Grid.row (G : Grid low high x 13 L) (hx : 0 ≤ x) : Grid low high (x + 1) 0 L := by
  refine ⟨G.nd, by have := G.len; omega, fun p => ?_, ?_⟩
  · rw [G.mem]
    constructor <;> (intro h; omega)
  · rcases G.hd with h | h
    · omega
    · exact .inr h
theorem Grid.yes (G : Grid low high x y L) (hx : 0 ≤ x) (hy : 0 ≤ y) (hy2 : y < 13) (h1 : 0 ≤ cr (x, y) low) (h2 : 0 ≤ cr high (x, y)) : Grid low high x (y + 1) (L ++ [(x, y)]) := by
  refine ⟨?_, by rw [List.length_append]; have := G.len; simp; omega, fun p => ?_, ?_⟩
  · refine List.nodup_append.mpr ⟨G.nd, by simp, fun u hu v hv z => ?_⟩
    simp at hv
    subst hv
    subst z
    have := (G.mem _).mp hu
    simp at this
  · rw [List.mem_append, List.mem_singleton, G.mem]
    constructor
    · rintro (h | rfl)
      · omega
      · exact ⟨hx, hy, hy2, .inr ⟨rfl, by dsimp only; omega⟩, h1, h2⟩
    · intro h
      by_cases z : p.1 = x ∧ p.2 = y
      · exact .inr (pt_ext z.1 z.2)
      · exact .inl (by omega)
  · rcases G.hd with ⟨g1, g2, g3⟩ | ⟨L', h⟩
    · subst g1 g2 g3; exact .inr ⟨[], rfl⟩
    · rw [h]; exact .inr ⟨L' ++ [(x, y)], rfl⟩
theorem Grid.no (G : Grid low high x y L) (hx : 0 ≤ x) (hy : 0 ≤ y) (hy2 : y < 13) (h : ¬ (0 ≤ cr (x, y) low ∧ 0 ≤ cr high (x, y))) : Grid low high x (y + 1) L := by
  refine ⟨G.nd, by have := G.len; omega, fun p => ?_, ?_⟩
  · rw [G.mem]
    constructor
    · intro h; omega
    · intro h'
      have : ¬ (p.1 = x ∧ p.2 = y) := fun z => by
        have e : p = (x, y) := pt_ext z.1 z.2
        rw [e] at h'
        exact h h'.2.2.2.2
      omega
  · rcases G.hd with ⟨g1, g2, g3⟩ | h'
    · subst g1 g2 g3
      exfalso
      apply h
      simp [cr]
    · exact .inr h'
end
/-- the points that are no sums are the chain -/
theorem left_mem {low high a b : Pt} {g h : Int} (hg : 0 < g) (hh : 0 < h) (e1 : low.1 = g * a.1) (e2 : low.2 = g * a.2) (f1 : high.1 = h * b.1) (f2 : high.2 = h * b.2)
    (b1 : low.1 < 13 ∧ low.2 < 13) (b2 : high.1 < 13 ∧ high.2 < 13) {q : Pt} {l : List Pt} (C : Ch b a q l) (nn : ∀ z ∈ a :: q :: l, 0 ≤ z.1 ∧ 0 ≤ z.2) (n0 : ∀ z ∈ a :: q :: l, z.1 + z.2 ≠ 0) {pts : List Pt}
    (mp : ∀ p : Pt, p ∈ pts ↔ p ≠ (0, 0) ∧ 0 ≤ p.1 ∧ p.1 < 13 ∧ 0 ≤ p.2 ∧ p.2 < 13 ∧ 0 ≤ cr p low ∧ 0 ≤ cr high p) (x : Pt) :
    (x ∈ pts ∧ ¬ ∃ u v, u ∈ pts ∧ v ∈ pts ∧ x = (u.1 + v.1, u.2 + v.2)) ↔ x ∈ a :: q :: l := by
  have c1 : ∀ p : Pt, 0 ≤ cr p low ↔ 0 ≤ cr p a := fun p => by
    have : cr p low = g * cr p a := by unfold cr; rw [e1, e2]; grind
    rw [this]; exact pos_mul hg
  have c2 : ∀ p : Pt, 0 ≤ cr high p ↔ 0 ≤ cr b p := fun p => by
    have : cr high p = h * cr b p := by unfold cr; rw [f1, f2]; grind
    rw [this]; exact pos_mul hh
  have bd : ∀ {k z M : Int}, 0 < k → 0 ≤ z → k * z < M → z < M := fun {k z M} hk hz hm => by
    have : 1 * z ≤ k * z := Int.mul_le_mul_of_nonneg_right (by omega) hz
    omega
  have na := nn a (by simp)
  have nb := nn b (List.mem_cons_of_mem _ C.end_mem)
  have x1 : ∀ z ∈ a :: q :: l, z.1 < 13 := fun z hz => by
    have l1 : ∀ p, lin 1 0 p = p.1 := fun p => by unfold lin; omega
    have := C.cvx (α := 1) (β := 0) (M := 12) (fun v hv => by rw [l1]; exact (nn v hv).1) (by rw [l1]; have := bd hg na.1 (M := 13) (by omega); omega) (by rw [l1]; have := bd hh nb.1 (M := 13) (by omega); omega) z hz
    rw [l1] at this
    omega
  have x2 : ∀ z ∈ a :: q :: l, z.2 < 13 := fun z hz => by
    have l1 : ∀ p, lin 0 1 p = p.2 := fun p => by unfold lin; omega
    have := C.cvx (α := 0) (β := 1) (M := 12) (fun v hv => by rw [l1]; exact (nn v hv).2) (by rw [l1]; have := bd hg na.2 (M := 13) (by omega); omega) (by rw [l1]; have := bd hh nb.2 (M := 13) (by omega); omega) z hz
    rw [l1] at this
    omega
  have inn : ∀ p ∈ pts, In a b p := fun p hp => by
    have := (mp p).mp hp
    exact ⟨this.1, (c1 p).mp this.2.2.2.2.2.1, (c2 p).mp this.2.2.2.2.2.2⟩
  constructor
  · rintro ⟨hx, hn⟩
    false_or_by_contra
    rename_i hc
    have mx := (mp x).mp hx
    obtain ⟨y, z, iy, iz, s1, s2, y1, y2, z1, z2⟩ := C.red nn (inn x hx) hc
    refine hn ⟨y, z, (mp y).mpr ⟨iy.1, y1, by omega, y2, by omega, (c1 y).mpr iy.2.1, (c2 y).mpr iy.2.2⟩, (mp z).mpr ⟨iz.1, z1, by omega, z2, by omega, (c1 z).mpr iz.2.1, (c2 z).mpr iz.2.2⟩, pt_ext s1 s2⟩
  · intro hx
    have nx := nn x hx
    refine ⟨(mp x).mpr ⟨fun z => n0 x hx (by rw [z]; rfl), nx.1, x1 x hx, nx.2, x2 x hx, (c1 x).mpr (C.low x hx), (c2 x).mpr (C.high x hx)⟩, ?_⟩
    rintro ⟨u, v, hu, hv, e⟩
    exact C.irr hx (inn u hu) (inn v hv) (by rw [e]) (by rw [e])
end P29

-- S29
set_option Elab.async false
set_option linter.all false
set_option maxRecDepth 100000
set_option maxHeartbeats 4000000
namespace S29
open Fx G P29
abbrev P (x y : Int) : D := .tup [.int x, .int y]
abbrev coin : Int := 1000000000000
theorem look_number_ok {n lo hi : Int} (h1 : lo ≤ n) (h2 : n ≤ hi) : mf_look_number [.int n, .int lo, .int hi] = .ok (.int n) := by
  have h1' : ¬ n < lo := by omega
  have h2' : ¬ hi < n := by omega
  simp [mf_look_number, m_look_number, N_look_number, gI, kBl, h1', h2']
theorem look_number_err {n lo hi : Int} (h : n < lo ∨ hi < n) : mf_look_number [.int n, .int lo, .int hi] = .err ⟨"NumberError", [("number", .int n)]⟩ := by
  rcases h with h | h
  · simp [mf_look_number, m_look_number, N_look_number, gI, kBl, h]
  · by_cases h' : n < lo <;> simp [mf_look_number, m_look_number, N_look_number, gI, kBl, h, h']
def seqD : D → Option (List D)
  | .tup ds => some ds
  | .lst ds => some ds
  | _ => none
theorem look_list_ok {e : D} {ds : List D} {a b : Int} (he : seqD e = some ds) (h1 : a ≤ ds.length) (h2 : ds.length ≤ b) : mf_look_list [e, .int a, .int b] = .ok (.lst ds) := by
  have h1' : ¬ (ds.length : Int) < a := by omega
  have h2' : ¬ b < (ds.length : Int) := by omega
  cases e <;> cases he <;> simp [mf_look_list, m_look_list, N_look_list, gI, kBl, gList, gLen, h1', h2']
theorem look_list_err {e : D} {ds : List D} {a b : Int} (he : seqD e = some ds) (h : (ds.length : Int) < a ∨ b < ds.length) : mf_look_list [e, .int a, .int b] = .err ⟨"SizeError", [("count", .int ds.length)]⟩ := by
  by_cases h1 : (ds.length : Int) < a
  · cases e <;> cases he <;> simp [mf_look_list, m_look_list, N_look_list, gI, kBl, gList, gLen, h1]
  · have h2 : b < ds.length := by omega
    cases e <;> cases he <;> simp [mf_look_list, m_look_list, N_look_list, gI, kBl, gList, gLen, h1, h2]
theorem look_numbers_ok {e : D} {x y lo hi : Int} (he : seqD e = some [.int x, .int y]) (hx : lo ≤ x) (hx2 : x ≤ hi) (hy : lo ≤ y) (hy2 : y ≤ hi) : mf_look_numbers [e, .int 2, .int 2, .int lo, .int hi] = .ok (.lst [.int x, .int y]) := by
  have h := look_list_ok (a := 2) (b := 2) he (by simp) (by simp)
  simp [mf_look_numbers, m_look_numbers, N_look_numbers, h, forL, look_number_ok, *]
theorem look_pair_ok {e : D} {x y hi : Int} (he : seqD e = some [.int x, .int y]) (hx : 0 ≤ x) (hx2 : x ≤ hi) (hy : 0 ≤ y) (hy2 : y ≤ hi) : mf_look_pair [e, .int 0, .int hi] = .ok (P x y) := by
  have h := look_numbers_ok he hx hx2 hy hy2
  simp [mf_look_pair, m_look_pair, N_look_pair, h, gTuple]
theorem look_most_ok {n d : Int} (h1 : 0 ≤ n) (h2 : n ≤ d) : mf_look_most [.int n, .int d] = .ok (.int n) := by
  have h := look_number_ok h1 h2
  simp [mf_look_most, m_look_most, N_look_most, h]
theorem look_most_err {n d : Int} (h : n < 0 ∨ d < n) : mf_look_most [.int n, .int d] = .err ⟨"NumberError", [("number", .int n)]⟩ := by
  have h := look_number_err h
  simp [mf_look_most, m_look_most, N_look_most, h]
theorem gEq_int {a b : Int} : gEq (.int a) (.int b) = some (.bl (a == b)) := by simp [gEq, okE, deq]
theorem gNe_int {a b : Int} : gNe (.int a) (.int b) = some (.bl (!(a == b))) := by simp [gNe, okE, deq]
theorem gEq_P {a b c d : Int} : gEq (P a b) (P c d) = some (.bl (a == c && b == d)) := by simp [gEq, okE, okEs, deq, deqs]
theorem gNe_P {a b c d : Int} : gNe (P a b) (P c d) = some (.bl (!(a == c && b == d))) := by simp [gNe, okE, okEs, deq, deqs]
theorem primitive_ok {e : D} {x y : Int} {at_ : D} (he : seqD e = some [.int x, .int y]) (hx : 0 ≤ x) (hx2 : x ≤ coin) (hy : 0 ≤ y) (hy2 : y ≤ coin) (h0 : x ≠ 0 ∨ y ≠ 0) : mf_u_primitive [e, at_] = .ok (P (x / fGcd x y) (y / fGcd x y)) := by
  have h := look_pair_ok he hx hx2 hy hy2
  have hg : 0 < fGcd x y := by
    unfold fGcd
    have : 0 < Nat.gcd x.natAbs y.natAbs := Nat.gcd_pos_iff.mpr (by omega)
    omega
  have hg2 : fGcd x y ≤ coin := by
    unfold fGcd
    rcases h0 with z | z
    · have := Nat.gcd_le_left y.natAbs (show 0 < x.natAbs by omega); omega
    · have := Nat.gcd_le_right x.natAbs (show 0 < y.natAbs by omega); omega
  have hs : small (fGcd x y) = true := Sm.ok ⟨by omega, by have hc : coin = 1000000000000 := rfl; omega⟩
  have hne : ¬ fGcd x y = 0 := by omega
  simp [mf_u_primitive, m_u_primitive, N_u_primitive, h, gII, gEq_int, hne, gI, kDiv, hg, hs]
theorem primitive_zero {e : D} {x y : Int} {at_ : D} (he : seqD e = some [.int 0, .int 0]) : mf_u_primitive [e, at_] = .err ⟨"RowError", [("at", at_)]⟩ := by
  have hc : (0 : Int) ≤ 1000000000000 := by omega
  have h := look_pair_ok (hi := 1000000000000) he (by omega) hc (by omega) hc
  simp [mf_u_primitive, m_u_primitive, N_u_primitive, h, gII, gEq_int, fGcd]
theorem turn_ok {a b c d : Int} (ha : Sm a) (hb : Sm b) (hc : Sm c) (hd : Sm d) : mf_turn [P a b, P c d] = .ok (.int (a * d - b * c)) := by
  have := ha.ok; have := hb.ok; have := hc.ok; have := hd.ok
  simp [mf_turn, m_turn, N_turn, gI, gIx, ixL, kMul, kInt, *]
theorem law_turn_ok {a b c d : Int} (ha : Sm a) (hb : Sm b) (hc : Sm c) (hd : Sm d) : mf_u_law_turn [P a b, P c d] = .ok (.int (a * d - b * c)) := by
  have := ha.ok; have := hb.ok; have := hc.ok; have := hd.ok
  simp [mf_u_law_turn, m_u_law_turn, N_u_law_turn, gI, gIx, ixL, kMul, kInt, *]
/-! ### Euclid -/
theorem halve {b h : Int} (h0 : 0 < h) (h1 : h ≤ b) : 2 * (h * (b % h)) < b * h ∨ b % h = 0 := by
  have e := Int.mul_ediv_add_emod b h
  have r0 := Int.emod_nonneg b (Int.ne_of_gt h0)
  have q1 : 1 ≤ b / h := by
    have := Int.ediv_le_ediv h0 h1
    rw [Int.ediv_self (Int.ne_of_gt h0)] at this
    exact this
  have r1 := Int.emod_lt_of_pos b h0
  have : h * 1 ≤ h * (b / h) := Int.mul_le_mul_of_nonneg_left q1 (Int.le_of_lt h0)
  have h2 : 2 * (b % h) < b := by omega
  left
  have : h * (2 * (b % h)) < h * b := Int.mul_lt_mul_of_pos_left h2 h0
  grind
theorem halve_pow {b h : Int} {k : Nat} (h0 : 0 < h) (h1 : h ≤ b) (hk : b * h < 2 ^ k) : ∃ k', k' < k ∧ h * (b % h) < 2 ^ k' := by
  cases k with
  | zero =>
    exfalso
    have : 1 * 1 ≤ b * h := Int.mul_le_mul (by omega) (by omega) (by omega) (by omega)
    simp at hk
    omega
  | succ k =>
    refine ⟨k, Nat.lt_succ_self k, ?_⟩
    have hp : (2 : Int) ^ (k + 1) = 2 ^ k * 2 := Int.pow_succ ..
    have hpos : (0 : Int) < 2 ^ k := Int.pow_pos (by omega)
    rcases halve h0 h1 with z | z
    · omega
    · rw [z, Int.mul_zero]; exact hpos
theorem sm_of {i : Int} (h1 : -(10 ^ 60) ≤ i) (h2 : i ≤ 10 ^ 60) : small i = true := Sm.ok ⟨by omega, by omega⟩
structure Inv29 (a m b h o n : Int) (k : Nat) : Prop where
  nn : 0 ≤ h
  le : h ≤ b
  bm : b ≤ m
  pw : b * h < 2 ^ k
  c1 : ∃ c, o * a = b + c * m
  c2 : ∃ c, n * a = h + c * m
  sg : ∃ s u w, (s = 1 ∨ s = -1) ∧ n = s * u ∧ o = -(s * w) ∧ 0 ≤ u ∧ 0 ≤ w ∧ u * b + w * h = m
  gc : Int.gcd b h = Int.gcd m a
theorem Inv29.step {a m b h o n : Int} {k : Nat} (I : Inv29 a m b h o n k) (hm : 0 < m) (h0 : 0 < h) : ∃ k', k' < k ∧ Inv29 a m h (b - b / h * h) n (o - b / h * n) k' ∧ -m ≤ n ∧ n ≤ m ∧ 0 ≤ b / h ∧ b / h ≤ m := by
  obtain ⟨i1, i2, i3, i4, ⟨c, i5⟩, ⟨c', i6⟩, ⟨s, u, w, hs, hn, ho, hu, hw, e⟩, i7⟩ := I
  obtain ⟨k', hk, hp⟩ := halve_pow h0 i2 i4
  have eq : b - b / h * h = b % h := by have := Int.mul_ediv_add_emod b h; grind
  have r0 := Int.emod_nonneg b (Int.ne_of_gt h0)
  have r1 := Int.emod_lt_of_pos b h0
  have q0 : 0 ≤ b / h := Int.ediv_nonneg (by omega) (by omega)
  have q1 : b / h ≤ b := Int.ediv_le_self h (by omega)
  have wh : 0 ≤ w * h := Int.mul_nonneg hw i1
  have ub : u * 1 ≤ u * b := Int.mul_le_mul_of_nonneg_left (by omega) hu
  refine ⟨k', hk, ⟨by omega, by omega, by omega, by rw [eq]; exact hp, ⟨c', i6⟩, ⟨c - b / h * c', by grind⟩, ⟨-s, w + b / h * u, u, by omega, by grind, by grind, ?_, hu, by grind⟩, ?_⟩, ?_, ?_, q0, by omega⟩
  · have := Int.mul_nonneg q0 hu; omega
  · rw [← i7, Int.gcd_comm h, Int.gcd_sub_mul_right_left]
  · rcases hs with rfl | rfl <;> omega
  · rcases hs with rfl | rfl <;> omega
theorem inverse_ok {a m : Int} (ha : 0 ≤ a) (ha2 : a ≤ coin) (hm : 0 < m) (hm2 : m ≤ coin) (hg : Int.gcd m a = 1) : ∃ v, mf_inverse_of [.int a, .int m] = .ok (.int v) ∧ 0 ≤ v ∧ v < m ∧ ∃ c, v * a = 1 + c * m := by
  have hc : coin = 1000000000000 := rfl
  have hcs : small coin = true := by decide +kernel
  have lp := while_run (t := mBool (mBin (gI (kBl fun i j => decide (j < i))) (mV 3) (mC (.int 0))))
    (body := mSeq (mSet 6 (mBin (gI kDiv) (mV 2) (mV 3))) (mSeq (mPar 2 3 (mV 3) (mBin (gI (kInt fun i j => i - j)) (mV 2) (mBin (gI kMul) (mV 6) (mV 3)))) (mPar 4 5 (mV 5) (mBin (gI (kInt fun i j => i - j)) (mV 4) (mBin (gI kMul) (mV 6) (mV 5))))))
    (I := fun k ρ => ∃ b h o n tm, ρ = [.val (.int a), .val (.int m), .val (.int b), .val (.int h), .val (.int o), .val (.int n), tm] ∧ Inv29 a m b h o n k)
    (Q := fun ρ => ∃ b o n tm k, ρ = [.val (.int a), .val (.int m), .val (.int b), .val (.int 0), .val (.int o), .val (.int n), tm] ∧ Inv29 a m b 0 o n k) (by
      rintro k ρ ⟨b, h, o, n, tm, rfl, I⟩
      by_cases h0 : h = 0
      · subst h0
        exact .inl ⟨by simp [gI, kBl], b, o, n, tm, k, rfl, I⟩
      · have hp : 0 < h := by have := I.nn; omega
        obtain ⟨k', hk, J, j1, j2, j3, j4⟩ := I.step hm hp
        have s1 : small h = true := sm_of (by have := I.nn; omega) (by have := I.le; have := I.bm; omega)
        have s2 : small (b / h) = true := sm_of (by omega) (by omega)
        have s3 : small n = true := sm_of (by omega) (by omega)
        exact .inr ⟨by simp [gI, kBl, hp], _, k', by simp [gI, kDiv, kMul, kInt, hp, s1, s2, s3]; rfl, hk, _, _, _, _, _, rfl, J⟩)
  have r0 := Int.emod_nonneg a (Int.ne_of_gt hm)
  have r1 := Int.emod_lt_of_pos a hm
  have hb : m * (a % m) < 2 ^ 80 := by
    have : m * (a % m) ≤ coin * coin := Int.mul_le_mul hm2 (by omega) r0 (by omega)
    rw [hc] at this
    omega
  obtain ⟨ρ', e1, b, o, n, tm, k, rfl, I⟩ := lp 100 80 [.val (.int a), .val (.int m), .val (.int m), .val (.int (a % m)), .val (.int 0), .val (.int 1), .no]
    ⟨m, a % m, 0, 1, .no, rfl, r0, by omega, Int.le_refl m, hb, ⟨-1, by omega⟩, ⟨a / m, by have := Int.mul_ediv_add_emod a m; grind⟩, ⟨1, 1, 0, .inl rfl, by omega, by omega, by omega, by omega, by omega⟩, by
      have : a % m = a - a / m * m := by have := Int.mul_ediv_add_emod a m; grind
      rw [this, Int.gcd_comm, Int.gcd_sub_mul_right_left, Int.gcd_comm]⟩ (by omega)
  refine ⟨o % m, ?_, Int.emod_nonneg _ (Int.ne_of_gt hm), Int.emod_lt_of_pos _ hm, ?_⟩
  · simp [mf_inverse_of, m_inverse_of, N_inverse_of, gI, kMod, hm, mWhile]
    rw [e1]
    simp [gI, kMod, hm]
  · obtain ⟨c, hcc⟩ := I.c1
    have hb1 : b = 1 := by
      have h1 := I.gc
      rw [hg] at h1
      have h2 : 0 ≤ b := by have := I.le; omega
      simp at h1
      omega
    have e := Int.mul_ediv_add_emod o m
    exact ⟨c - o / m * a, by grind⟩
theorem mul_bd {x y A B : Int} (hx : -A ≤ x) (hx2 : x ≤ A) (hy : -B ≤ y) (hy2 : y ≤ B) : -(A * B) ≤ x * y ∧ x * y ≤ A * B := by
  have h1 : x.natAbs ≤ A.natAbs := by omega
  have h2 : y.natAbs ≤ B.natAbs := by omega
  have h3 := Nat.mul_le_mul h1 h2
  have h4 : (x * y).natAbs = x.natAbs * y.natAbs := Int.natAbs_mul x y
  have h5 : (A * B).natAbs = A.natAbs * B.natAbs := Int.natAbs_mul A B
  have h6 : 0 ≤ A * B := Int.mul_nonneg (by omega) (by omega)
  omega
theorem second_ok {a b : Pt} (ha0 : 0 ≤ a.1) (ha0' : a.1 ≤ coin) (ha1 : 0 < a.2) (ha1' : a.2 ≤ coin) (hb0 : 0 ≤ b.1) (hb0' : b.1 ≤ coin) (hb1 : 0 ≤ b.2) (hb1' : b.2 ≤ coin) (hg : Int.gcd a.2 a.1 = 1) (hn : 0 < cr b a) :
    ∃ p : Pt, mf_u_second_point [P a.1 a.2, P b.1 b.2] = .ok (P p.1 p.2) ∧ Two b a p := by
  obtain ⟨v, e, v0, v1, c, hc⟩ := inverse_ok ha0 ha0' ha1 ha1' hg
  have k : coin = 1000000000000 := rfl
  have w1 := mul_bd (x := v) (y := a.1) (A := 10 ^ 12) (B := 10 ^ 12) (by omega) (by omega) (by omega) (by omega)
  have hdiv : (1 - v * a.1) / a.2 = -c := by
    have : 1 - v * a.1 = a.2 * (-c) := by grind
    rw [this, Int.mul_ediv_cancel_left _ (Int.ne_of_gt ha1)]
  have hcb : -(10 ^ 25) ≤ c ∧ c ≤ 10 ^ 25 := by
    have h1 : c.natAbs * 1 ≤ c.natAbs * a.2.natAbs := Nat.mul_le_mul_left _ (by omega)
    have h2 : (c * a.2).natAbs = c.natAbs * a.2.natAbs := Int.natAbs_mul c a.2
    omega
  have w2 := mul_bd (x := b.1) (y := -v) (A := 10 ^ 12) (B := 10 ^ 12) (by omega) (by omega) (by omega) (by omega)
  have w3 := mul_bd (x := b.2) (y := -c) (A := 10 ^ 12) (B := 10 ^ 25) (by omega) (by omega) (by omega) (by omega)
  have w4 := mul_bd (x := b.1) (y := a.2) (A := 10 ^ 12) (B := 10 ^ 12) (by omega) (by omega) (by omega) (by omega)
  have w5 := mul_bd (x := b.2) (y := a.1) (A := 10 ^ 12) (B := 10 ^ 12) (by omega) (by omega) (by omega) (by omega)
  have t1 : mf_turn [P b.1 b.2, P (-c) (-v)] = .ok (.int (b.1 * (-v) - b.2 * (-c))) := turn_ok ⟨by omega, by omega⟩ ⟨by omega, by omega⟩ ⟨by omega, by omega⟩ ⟨by omega, by omega⟩
  have t2 : mf_turn [P b.1 b.2, P a.1 a.2] = .ok (.int (b.1 * a.2 - b.2 * a.1)) := turn_ok ⟨by omega, by omega⟩ ⟨by omega, by omega⟩ ⟨by omega, by omega⟩ ⟨by omega, by omega⟩
  have hn' : 0 < b.1 * a.2 - b.2 * a.1 := hn
  generalize hN : b.1 * a.2 - b.2 * a.1 = N at *
  generalize hT : b.1 * (-v) - b.2 * (-c) = T at *
  have htb : -(10 ^ 38) ≤ T / N ∧ T / N ≤ 10 ^ 38 := by
    have h1 : (T / N).natAbs ≤ T.natAbs := Int.natAbs_ediv_le_natAbs T N
    omega
  have s1 : small a.1 = true := sm_of (by omega) (by omega)
  have s2 : small a.2 = true := sm_of (by omega) (by omega)
  have s3 : small v = true := sm_of (by omega) (by omega)
  have s4 : small N = true := sm_of (by omega) (by omega)
  have s5 : small (T / N) = true := sm_of (by omega) (by omega)
  refine ⟨(-c - T / N * a.1, -v - T / N * a.2), ?_, ⟨?_, ?_, ?_⟩⟩
  · simp [mf_u_second_point, m_u_second_point, N_u_second_point, gI, gIx, ixL, kMul, kInt, kDiv, e, s1, s2, s3, s4, s5, ha1, hdiv, t1, t2, hn']
  · show (-c - T / N * a.1) * a.2 - (-v - T / N * a.2) * a.1 = 1
    grind
  · show 0 ≤ b.1 * (-v - T / N * a.2) - b.2 * (-c - T / N * a.1)
    have h := Int.mul_ediv_add_emod T N
    have h2 := Int.emod_nonneg T (Int.ne_of_gt hn')
    have : b.1 * (-v - T / N * a.2) - b.2 * (-c - T / N * a.1) = T % N := by grind
    omega
  · show b.1 * (-v - T / N * a.2) - b.2 * (-c - T / N * a.1) < b.1 * a.2 - b.2 * a.1
    have h := Int.mul_ediv_add_emod T N
    have h2 := Int.emod_lt_of_pos T hn'
    have : b.1 * (-v - T / N * a.2) - b.2 * (-c - T / N * a.1) = T % N := by grind
    omega
/-! ### the chain -/
abbrev PD (z : Pt) : D := P z.1 z.2
theorem coord {n r s z x y : Int} (hn : 0 < n) (e : n * z = r * x + s * y) (r0 : 0 ≤ r) (r1 : r ≤ n) (s0 : 0 ≤ s) (s1 : s ≤ n) (x0 : 0 ≤ x) (y0 : 0 ≤ y) : 0 ≤ z ∧ z ≤ x + y := by
  have h1 := Int.mul_nonneg r0 x0
  have h2 := Int.mul_nonneg s0 y0
  have h3 : r * x ≤ n * x := Int.mul_le_mul_of_nonneg_right r1 x0
  have h4 : s * y ≤ n * y := Int.mul_le_mul_of_nonneg_right s1 y0
  constructor
  · false_or_by_contra
    have : n * z ≤ n * (-1) := Int.mul_le_mul_of_nonneg_left (by omega) (Int.le_of_lt hn)
    omega
  · false_or_by_contra
    have : n * (x + y + 1) ≤ n * z := Int.mul_le_mul_of_nonneg_left (by omega) (Int.le_of_lt hn)
    have : n * (x + y + 1) = n * x + n * y + n := by grind
    omega
/-- a, b the ends; p, q within -/
structure Mid (a b p q : Pt) : Prop where
  two : Two b p q
  rn : cr b p ≤ cr b a
  s0 : 0 ≤ cr p a
  s1 : cr p a < cr q a
theorem Mid.sn {a b p q : Pt} (M : Mid a b p q) : cr q a ≤ cr b a := by
  obtain ⟨⟨h1, h2, h3⟩, h4, h5, h6⟩ := M
  obtain ⟨e1, e2⟩ := by_two b p q h1
  have e : cr b a = cr b p * cr q a - cr b q * cr p a := by
    have : cr b a = b.1 * a.2 - b.2 * a.1 := rfl
    rw [this, e1, e2]
    unfold cr
    grind
  have k1 : (cr b q + 1) * cr q a ≤ cr b p * cr q a := Int.mul_le_mul_of_nonneg_right (by omega) (by omega)
  have k2 : cr b q * cr p a ≤ cr b q * cr q a := Int.mul_le_mul_of_nonneg_left (by omega) h2
  have k3 : (cr b q + 1) * cr q a = cr b q * cr q a + cr q a := by grind
  omega
theorem bary (a b z : Pt) : cr b a * z.1 = cr b z * a.1 + cr z a * b.1 ∧ cr b a * z.2 = cr b z * a.2 + cr z a * b.2 := by
  unfold cr
  constructor <;> grind
theorem Mid.co {a b p q : Pt} (M : Mid a b p q) (a1 : 0 ≤ a.1) (a2 : 0 ≤ a.2) (b1 : 0 ≤ b.1) (b2 : 0 ≤ b.2) : (0 ≤ p.1 ∧ p.1 ≤ a.1 + b.1) ∧ (0 ≤ p.2 ∧ p.2 ≤ a.2 + b.2) ∧ (0 ≤ q.1 ∧ q.1 ≤ a.1 + b.1) ∧ (0 ≤ q.2 ∧ q.2 ≤ a.2 + b.2) := by
  have sn := M.sn
  obtain ⟨⟨h1, h2, h3⟩, h4, h5, h6⟩ := M
  have hn : 0 < cr b a := by omega
  obtain ⟨e1, e2⟩ := bary a b p
  obtain ⟨e3, e4⟩ := bary a b q
  exact ⟨coord hn e1 (by omega) h4 h5 (by omega) a1 b1, coord hn e2 (by omega) h4 h5 (by omega) a2 b2, coord hn e3 h2 (by omega) (by omega) sn a1 b1, coord hn e4 h2 (by omega) (by omega) sn a2 b2⟩
theorem Mid.next {a b p q : Pt} (M : Mid a b p q) (hq : cr b q ≠ 0) : Mid a b q (nxt b p q) := by
  have T2 := M.two.next hq
  obtain ⟨⟨h1, h2, h3⟩, h4, h5, h6⟩ := M
  have hr : 0 < cr b q := by omega
  have t2 := ceil_ge2 hr h3
  have e : cr (nxt b p q) a = ceil (cr b p) (cr b q) * cr q a - cr p a := by unfold nxt; unfold cr; grind
  have k : 2 * cr q a ≤ ceil (cr b p) (cr b q) * cr q a := Int.mul_le_mul_of_nonneg_right t2 (by omega)
  exact ⟨T2, by omega, by omega, by omega⟩
theorem Mid.start {a b p : Pt} (T : Two b a p) : Mid a b a p := ⟨T, Int.le_refl _, by rw [cr_self]; omega, by rw [cr_self, T.one]; omega⟩
theorem ix_last {l : List D} {x y : D} : ixL (l ++ [x, y]) (-1) = some y := by
  unfold ixL
  rw [if_neg (by omega), if_pos (by simp; omega)]
  have : ((-1 : Int) + ((l ++ [x, y]).length : Int)).toNat = l.length + 1 := by simp; omega
  rw [this]
  simp
theorem ix_last2 {l : List D} {x y : D} : ixL (l ++ [x, y]) (-2) = some x := by
  unfold ixL
  rw [if_neg (by omega), if_pos (by simp; omega)]
  have : ((-2 : Int) + ((l ++ [x, y]).length : Int)).toNat = l.length := by simp; omega
  rw [this]
  simp
theorem fnd {b q : Pt} : gNe (PD q) (PD b) = some (.bl (!decide (q = b))) := by
  rw [gNe_P]
  congr 2
  have : (q.1 == b.1 && q.2 == b.2) = decide (q = b) := by
    obtain ⟨a, b'⟩ := q
    obtain ⟨c, d⟩ := b
    simp [Prod.ext_iff]
    rw [Bool.eq_iff_iff]
    simp
  rw [this]
theorem ix_p0 {x y : D} : ixL [x, y] 0 = some x := rfl
theorem ix_p1 {x y : D} : ixL [x, y] 1 = some y := rfl
theorem hj_ge2 {b : Pt} : ∀ (n : Nat) (p q : Pt), 2 ≤ (hj b n p q).length
  | 0, p, q => Nat.le_refl 2
  | n + 1, p, q => by
    unfold hj
    split
    · exact Nat.le_refl 2
    · have := hj_ge2 (b := b) n q (nxt b p q); rw [List.length_cons]; omega
def tCone : MT := mAnd (mBool (mBin gNe (mBin gIx (mO 5) (mNeg (mC (.int 1)))) (mV 4))) (mBool (mBin (gI (kBl fun i j => decide (i ≤ j))) (mCall gLen (mCons (mO 5) mNil)) (mV 2)))
def bCone : MS := mSeq (mPar 7 8 (mBin gIx (mO 5) (mNeg (mC (.int 2)))) (mBin gIx (mO 5) (mNeg (mC (.int 1)))))
  (mSeq (mSet 6 (mNeg (mBin (gI kDiv) (mNeg (mDef mf_turn (mCons (mV 4) (mCons (mV 7) mNil)))) (mDef mf_turn (mCons (mV 4) (mCons (mV 8) mNil))))))
  (mApp 5 (mTup (mCons (mBin (gI (kInt fun i j => i - j)) (mBin (gI kMul) (mV 6) (mBin gIx (mV 8) (mC (.int 0)))) (mBin gIx (mV 7) (mC (.int 0)))) (mCons (mBin (gI (kInt fun i j => i - j)) (mBin (gI kMul) (mV 6) (mBin gIx (mV 8) (mC (.int 1)))) (mBin gIx (mV 7) (mC (.int 1)))) mNil)))))
structure Ends29 (a b : Pt) : Prop where
  a1 : 0 ≤ a.1
  a1' : a.1 ≤ coin
  a2 : 0 < a.2
  a2' : a.2 ≤ coin
  b1 : 0 ≤ b.1
  b1' : b.1 ≤ coin
  b2 : 0 ≤ b.2
  b2' : b.2 ≤ coin
  ga : Int.gcd a.2 a.1 = 1
  pb : Prim b
  n : 0 < cr b a
theorem cr_bd {p q : Pt} {A : Int} (h1 : 0 ≤ p.1 ∧ p.1 ≤ A) (h2 : 0 ≤ p.2 ∧ p.2 ≤ A) (h3 : 0 ≤ q.1 ∧ q.1 ≤ A) (h4 : 0 ≤ q.2 ∧ q.2 ≤ A) : -(A * A) ≤ cr p q ∧ cr p q ≤ A * A := by
  have w1 := Int.mul_nonneg h1.1 h4.1
  have w2 := Int.mul_nonneg h2.1 h3.1
  have w3 := mul_bd (x := p.1) (y := q.2) (A := A) (B := A) (by omega) h1.2 (by omega) h4.2
  have w4 := mul_bd (x := p.2) (y := q.1) (A := A) (B := A) (by omega) h2.2 (by omega) h3.2
  unfold cr
  omega
theorem cone_loop {a b : Pt} {C : List Pt} {e1 e2 : D} {most : Int} (E : Ends29 a b) (hm0 : 0 ≤ most) (hm : most ≤ 400) {p : Pt} (T : Two b a p) (hC : ∀ F : Nat, cr b p < F → hj b F a p = C) {tm bf hr : Sl} :
    ∃ ρ', whileL tCone bCone 500 [.val e1, .val e2, .val (.int most), .val (PD a), .val (PD b), .lst [PD a, PD p], tm, bf, hr] = .nx ρ' ∧
      ∃ (pre : List Pt) (p q : Pt) (tm bf hr : Sl), ρ' = [.val e1, .val e2, .val (.int most), .val (PD a), .val (PD b), .lst (pre.map PD ++ [PD p, PD q]), tm, bf, hr] ∧ Mid a b p q ∧ (∀ F : Nat, cr b q < F → pre ++ hj b F p q = C) ∧ (q = b ∨ most < pre.length + 2) := by
  have k : coin = 1000000000000 := rfl
  obtain ⟨a1, a1', a2, a2', b1, b1', b2, b2', ga, pb, hn⟩ := E
  refine while_run (I := fun k ρ => ∃ (pre : List Pt) (p q : Pt) (tm bf hr : Sl), ρ = [.val e1, .val e2, .val (.int most), .val (PD a), .val (PD b), .lst (pre.map PD ++ [PD p, PD q]), tm, bf, hr] ∧ Mid a b p q ∧ (∀ F : Nat, cr b q < F → pre ++ hj b F p q = C) ∧ k = (most + 1 - (pre.length + 2 : Nat)).toNat) ?_ 500 (most + 1 - 2).toNat _ ⟨[], a, p, tm, bf, hr, rfl, .start T, hC, rfl⟩ (by omega)
  rintro k ρ ⟨pre, p, q, tm, bf, hr, rfl, M, hF, rfl⟩
  obtain ⟨c1, c2, c3, c4⟩ := M.co a1 (Int.le_of_lt a2) b1 b2
  by_cases hq : q = b
  · left
    refine ⟨?_, pre, p, q, tm, bf, hr, rfl, M, hF, .inl hq⟩
    simp [tCone, gIx, ix_last, fnd, hq]
  · by_cases hl : most < pre.length + 2
    · left
      refine ⟨?_, pre, p, q, tm, bf, hr, rfl, M, hF, .inr hl⟩
      simp [tCone, gIx, ix_last, fnd, hq, gLen, gI, kBl]
      omega
    · right
      have ne : cr b q ≠ 0 := fun z => hq (M.two.end_ pb z)
      have hr0 : 0 < cr b q := by have := M.two.nn; omega
      have M2 := M.next ne
      obtain ⟨d1, d2, d3, d4⟩ := M2.co a1 (Int.le_of_lt a2) b1 b2
      have t1 : mf_turn [PD b, PD p] = .ok (.int (cr b p)) := turn_ok ⟨by omega, by omega⟩ ⟨by omega, by omega⟩ ⟨by omega, by omega⟩ ⟨by omega, by omega⟩
      have t2 : mf_turn [PD b, PD q] = .ok (.int (cr b q)) := turn_ok ⟨by omega, by omega⟩ ⟨by omega, by omega⟩ ⟨by omega, by omega⟩ ⟨by omega, by omega⟩
      have bd1 := cr_bd (p := b) (q := p) (A := 10 ^ 13) ⟨b1, by omega⟩ ⟨b2, by omega⟩ ⟨c1.1, by omega⟩ ⟨c2.1, by omega⟩
      have bd2 := cr_bd (p := b) (q := q) (A := 10 ^ 13) ⟨b1, by omega⟩ ⟨b2, by omega⟩ ⟨c3.1, by omega⟩ ⟨c4.1, by omega⟩
      have bd3 : (-cr b p / cr b q).natAbs ≤ (-cr b p).natAbs := Int.natAbs_ediv_le_natAbs _ _
      have s1 : small (cr b q) = true := sm_of (by omega) (by omega)
      have s2 : small (-(-cr b p / cr b q)) = true := sm_of (by omega) (by omega)
      have s3 : small q.1 = true := sm_of (by omega) (by omega)
      have s4 : small q.2 = true := sm_of (by omega) (by omega)
      have hl2 : (pre.length : Int) + 1 + 1 ≤ most := by omega
      have hsz : szOk (pre.length + 1 + 1) = true := by unfold szOk; exact decide_eq_true (by omega)
      refine ⟨?_, [.val e1, .val e2, .val (.int most), .val (PD a), .val (PD b), .lst ((pre ++ [p]).map PD ++ [PD q, PD (nxt b p q)]), .val (.int (ceil (cr b p) (cr b q))), .val (PD p), .val (PD q)], _, ?_, ?_, pre ++ [p], q, nxt b p q, _, _, _, rfl, M2, fun F hf => ?_, rfl⟩
      · simp [tCone, gIx, ix_last, fnd, hq, gLen, gI, kBl]
        omega
      · simp [bCone, gIx, ix_last, ix_last2, t1, t2, gI, kDiv, hr0, s1, hsz, ix_p0, ix_p1, kMul, kInt, s2, s3, s4, nxt, ceil]
      · simp only [List.length_append, List.length_cons, List.length_nil]
        omega
      · have := hF ((cr b q).toNat + F + 1 + 1) (by omega)
        unfold hj at this
        rw [if_neg hq] at this
        rw [List.append_assoc, hj_fuel pb F ((cr b q).toNat + F + 1) q _ M2.two hf (by omega)]
        exact this
theorem cone_ok {a b : Pt} {e1 e2 : D} {most : Int} (E : Ends29 a b) (hm0 : 0 ≤ most) (hm : most ≤ 400) {p : Pt} (T : Two b a p) (h1 : mf_u_primitive [e1, .int 0] = .ok (PD a)) (h2 : mf_u_primitive [e2, .int 1] = .ok (PD b)) (h3 : mf_u_second_point [PD a, PD b] = .ok (PD p))
    {C : List Pt} (hC : ∀ F : Nat, cr b p < F → hj b F a p = C) :
    mf_cone_chain [e1, e2, .int most] = if (C.length : Int) ≤ most then .ok (.lst (C.map PD)) else .err ⟨"TooMany", [("limit", .int most)]⟩ := by
  have k : coin = 1000000000000 := rfl
  obtain ⟨ρ', e, pre, p', q, tm, bf, hr, rfl, M, hF, hQ⟩ := cone_loop (e1 := e1) (e2 := e2) E hm0 hm T hC (tm := .no) (bf := .no) (hr := .no)
  have t1 : mf_turn [PD b, PD a] = .ok (.int (cr b a)) := turn_ok ⟨by have := E.b1; omega, by have := E.b1'; omega⟩ ⟨by have := E.b2; omega, by have := E.b2'; omega⟩ ⟨by have := E.a1; omega, by have := E.a1'; omega⟩ ⟨by have := E.a2; omega, by have := E.a2'; omega⟩
  have hn := E.n
  have hn' : ¬ cr b a ≤ 0 := by omega
  have hm1 := look_most_ok hm0 hm
  have hb : (cr b q).toNat + 1 > 0 := by omega
  have e3 := hF ((cr b q).toNat + 1) (by omega)
  have hlen : (C.length : Int) ≤ most ↔ ¬ most < pre.length + 2 := by
    have g2 := hj_ge2 (b := b) ((cr b q).toNat + 1) p' q
    rcases hQ with hq | hq
    · subst hq
      have : hj q ((cr q q).toNat + 1) p' q = [p', q] := by unfold hj; rw [if_pos rfl]
      rw [this] at e3
      rw [← e3, List.length_append]
      simp <;> omega
    · rw [← e3, List.length_append]
      omega
  have ev : m_cone_chain [.val e1, .val e2, .val (.int most), .no, .no, .no, .no, .no, .no] = if (C.length : Int) ≤ most then .rt (.lst (C.map PD)) else .err ⟨"TooMany", [("limit", .int most)]⟩ [.val e1, .val e2, .val (.int most), .val (PD a), .val (PD b), .lst (pre.map PD ++ [PD p', PD q]), tm, bf, hr] := by
    unfold tCone bCone at e
    simp [m_cone_chain, h1, h2, hm1, t1, hn', gI, kBl, h3, mWhile, e, gLen]
    by_cases z : most < pre.length + 2
    · have z2 : ¬ (C.length : Int) ≤ most := fun y => hlen.mp y z
      simp [z, z2]
    · have z2 : (C.length : Int) ≤ most := hlen.mpr z
      have hq : q = b := hQ.resolve_right z
      have eC : C = pre ++ [p', q] := by
        rw [← e3, hq]
        have : hj b ((cr b b).toNat + 1) p' b = [p', b] := by unfold hj; rw [if_pos rfl]
        rw [this]
      simp [z, z2]
      rw [eC]
      simp
  show (m_cone_chain [.val e1, .val e2, .val (.int most), .no, .no, .no, .no, .no, .no]).res true = _
  rw [ev]
  split <;> rfl
end S29

-- S29b
set_option Elab.async false
set_option linter.all false
set_option maxRecDepth 100000
set_option maxHeartbeats 4000000
namespace S29
open Fx G P29
theorem err_size {d : D} : mx_u_law_error ⟨"SizeError", [("count", d)]⟩ = .ok (.tup [.str "size", d]) := by rfl
theorem err_number {d : D} : mx_u_law_error ⟨"NumberError", [("number", d)]⟩ = .ok (.tup [.str "number", d]) := by rfl
theorem err_row {d : D} : mx_u_law_error ⟨"RowError", [("at", d)]⟩ = .ok (.tup [.str "row", d]) := by rfl
theorem err_many {d : D} : mx_u_law_error ⟨"TooMany", [("limit", d)]⟩ = .ok (.tup [.str "many", d]) := by rfl
theorem err_flat : mx_u_law_error ⟨"FlatError", []⟩ = .ok (.tup [.str "flat", .int 0]) := by rfl
theorem is_number {n : Int} : mf_u_law_is_number [.int n, .int n] = .ok (.bl true) := by
  simp [mf_u_law_is_number, m_u_law_is_number, N_u_law_is_number, mf_u_law_integer, m_u_law_integer, N_u_law_integer, tyD, isiB, gEq_int]
theorem refusal_err {l h m k d : D} {x : Exn} (hm : (m = .non ∧ k = .int 400) ∨ (∃ i, m = .int i) ∧ k = m) (hc : mf_cone_chain [l, h, k] = .err x) (hx : nms.contains x.c = true) (hr : mx_u_law_error x = .ok d) : mf_u_law_refusal [l, h, m] = .ok d := by
  have hx' : x.c ∈ nms := by simpa using hx
  rcases hm with ⟨rfl, rfl⟩ | ⟨⟨i, rfl⟩, rfl⟩
  · simp [mf_u_law_refusal, m_u_law_refusal, N_u_law_refusal, mTry, noExc, gIsN, isNon, dd_cone_chain, hc, hx', hr]
  · simp [mf_u_law_refusal, m_u_law_refusal, N_u_law_refusal, mTry, noExc, gIsN, isNon, gk_cone_chain, hc, hx', hr]
theorem refusal_let {l h m k d : D} (hm : (m = .non ∧ k = .int 400) ∨ (∃ i, m = .int i) ∧ k = m) (hc : mf_cone_chain [l, h, k] = .ok d) : mf_u_law_refusal [l, h, m] = .ok (.tup [.str "let", .int 0]) := by
  rcases hm with ⟨rfl, rfl⟩ | ⟨⟨i, rfl⟩, rfl⟩
  · simp [mf_u_law_refusal, m_u_law_refusal, N_u_law_refusal, mTry, noExc, gIsN, isNon, dd_cone_chain, hc]
  · simp [mf_u_law_refusal, m_u_law_refusal, N_u_law_refusal, mTry, noExc, gIsN, isNon, gk_cone_chain, hc]
theorem refuses_ok {l h m : D} {s : PySem.Str} {n : Int} (hs : PySem.PyData.strOk s = true) (hc : mf_u_law_refusal [l, h, m] = .ok (.tup [.str s, .int n])) : mf_u_law_refuses [l, h, m, .str s, .int n] = .ok (.bl true) := by
  have e : gEq (.str s) (.str s) = some (.bl true) := by simp [gEq, okE, deq, hs]
  simp [mf_u_law_refuses, m_u_law_refuses, N_u_law_refuses, hc, gIx, ix_p0, ix_p1, e, is_number]
/-- what a refusal says -/
def Tells (x : Exn) (s : PySem.Str) (n : Int) : Prop := nms.contains x.c = true ∧ mx_u_law_error x = .ok (.tup [.str s, .int n]) ∧ PySem.PyData.strOk s = true
theorem refuses_err {l h m k : D} {x : Exn} {s : PySem.Str} {n : Int} (hm : (m = .non ∧ k = .int 400) ∨ (∃ i, m = .int i) ∧ k = m) (hc : mf_cone_chain [l, h, k] = .err x) (t : Tells x s n) : mf_u_law_refuses [l, h, m, .str s, .int n] = .ok (.bl true) :=
  refuses_ok t.2.2 (refusal_err hm hc t.1 t.2.1)
theorem t_size {n : Int} : Tells ⟨"SizeError", [("count", .int n)]⟩ "size" n := ⟨by rfl, err_size, by decide +kernel⟩
theorem t_number {n : Int} : Tells ⟨"NumberError", [("number", .int n)]⟩ "number" n := ⟨by rfl, err_number, by decide +kernel⟩
theorem t_row {n : Int} : Tells ⟨"RowError", [("at", .int n)]⟩ "row" n := ⟨by rfl, err_row, by decide +kernel⟩
theorem t_many {n : Int} : Tells ⟨"TooMany", [("limit", .int n)]⟩ "many" n := ⟨by rfl, err_many, by decide +kernel⟩
theorem t_flat : Tells ⟨"FlatError", []⟩ "flat" 0 := ⟨by rfl, err_flat, by decide +kernel⟩
/-! ### errors of cone_chain -/
theorem cone_err1 {l h m : D} {x : Exn} (h1 : mf_u_primitive [l, .int 0] = .err x) : mf_cone_chain [l, h, m] = .err x := by
  simp [mf_cone_chain, m_cone_chain, N_cone_chain, h1]
theorem cone_err2 {l h m a : D} {x : Exn} (h1 : mf_u_primitive [l, .int 0] = .ok a) (h2 : mf_u_primitive [h, .int 1] = .err x) : mf_cone_chain [l, h, m] = .err x := by
  simp [mf_cone_chain, m_cone_chain, N_cone_chain, h1, h2]
theorem cone_err3 {l h m a b : D} {x : Exn} (h1 : mf_u_primitive [l, .int 0] = .ok a) (h2 : mf_u_primitive [h, .int 1] = .ok b) (h3 : mf_look_most [m, .int 400] = .err x) : mf_cone_chain [l, h, m] = .err x := by
  simp [mf_cone_chain, m_cone_chain, N_cone_chain, h1, h2, h3]
theorem cone_err4 {l h m a b m' : D} {n : Int} (h1 : mf_u_primitive [l, .int 0] = .ok a) (h2 : mf_u_primitive [h, .int 1] = .ok b) (h3 : mf_look_most [m, .int 400] = .ok m') (h4 : mf_turn [b, a] = .ok (.int n)) (h5 : n ≤ 0) : mf_cone_chain [l, h, m] = .err ⟨"FlatError", []⟩ := by
  simp [mf_cone_chain, m_cone_chain, N_cone_chain, h1, h2, h3, h4, gI, kBl, h5]
end S29

-- S29c
set_option Elab.async false
set_option linter.all false
set_option maxRecDepth 100000
set_option maxHeartbeats 4000000
namespace S29
open Fx G P29
theorem len_rangeD (n : Nat) : (rangeD 0 n).length = n := by rw [rangeD_len]; omega
theorem farOk_small {n : Int} (h1 : 0 ≤ n) (h2 : n ≤ 1000) : farOk n = true := by
  unfold farOk
  rw [decide_eq_true (by omega), decide_eq_true (by omega)]
  rfl
/-- a pair on its way down -/
structure Down (u v : Int) (k : Nat) : Prop where
  nu : 0 ≤ u
  nv : 0 ≤ v
  m : (v ≤ u ∧ u * v < 2 ^ k) ∨ (u < v ∧ ∃ k', k = k' + 1 ∧ u * v < 2 ^ k')
theorem Down.step {u v : Int} {k : Nat} (I : Down u v k) (h : 0 < v) : ∃ k', k' < k ∧ Down v (u % v) k' := by
  have r0 := Int.emod_nonneg u (Int.ne_of_gt h)
  have r1 := Int.emod_lt_of_pos u h
  rcases I.m with ⟨h1, h2⟩ | ⟨h1, k', rfl, h2⟩
  · obtain ⟨k', e, p⟩ := halve_pow h h1 h2
    exact ⟨k', e, I.nv, r0, .inl ⟨by omega, p⟩⟩
  · have e : u % v = u := Int.emod_eq_of_lt I.nu h1
    refine ⟨k', by omega, I.nv, r0, .inl ⟨by omega, ?_⟩⟩
    rw [e, Int.mul_comm]; exact h2
theorem Down.start {u v : Int} {k : Nat} (hu : 0 ≤ u) (hv : 0 ≤ v) (h : u * v < 2 ^ k) : Down u v (k + 1) := by
  refine ⟨hu, hv, ?_⟩
  by_cases z : v ≤ u
  · refine .inl ⟨z, ?_⟩
    have : (2 : Int) ^ (k + 1) = 2 ^ k * 2 := Int.pow_succ ..
    have : (0 : Int) < 2 ^ k := Int.pow_pos (by omega)
    omega
  · exact .inr ⟨by omega, k, rfl, h⟩
theorem gcd_step {u v : Int} : Int.gcd v (u % v) = Int.gcd u v := by
  have : u % v = u - u / v * v := by have := Int.mul_ediv_add_emod u v; grind
  rw [this, Int.gcd_comm, Int.gcd_sub_mul_right_left]
theorem common_ok {x y : Int} (hx : 0 ≤ x) (hx2 : x ≤ coin) (hy : 0 ≤ y) (hy2 : y ≤ coin) : mf_u_law_common [.int x, .int y] = .ok (.int (fGcd x y)) := by
  have hc : coin = 1000000000000 := rfl
  have lp := for_brk0 (g := gSet 2) (body := mSeq (mIte (mBool (mBin gEq (mV 1) (mC (.int 0)))) mBreak mNext) (mSeq (mSet 3 (mV 1)) (mSeq (mSet 1 (mBin (gI kMod) (mCall gInt (mCons (mV 0) mNil)) (mV 1))) (mSet 0 (mV 3)))))
    (ds := rangeD 0 100) (ρ := [.val (.int x), .val (.int y), .no, .no]) (k := 81)
    (I := fun _ k ρ => ∃ u v s t, ρ = [.val (.int u), .val (.int v), s, t] ∧ Down u v k ∧ Int.gcd u v = Int.gcd x y)
    (Q := fun ρ => ∃ u s t, ρ = [.val (.int u), .val (.int 0), s, t] ∧ 0 ≤ u ∧ Int.gcd u 0 = Int.gcd x y) (by
      rintro i k ρ d ⟨u, v, s, t, rfl, I, hg⟩ hd
      refine ⟨_, rfl, ?_⟩
      by_cases h0 : v = 0
      · subst h0
        exact .inl ⟨_, by simp [gEq_int]; rfl, u, _, t, rfl, I.nu, hg⟩
      · have hp : 0 < v := by have := I.nv; omega
        obtain ⟨k', hk, J⟩ := I.step hp
        exact .inr ⟨[.val (.int v), .val (.int (u % v)), .val d, .val (.int v)], k', by simp [gEq_int, h0, gI, kMod, hp, gInt], hk, v, u % v, _, _, rfl, J, by rw [gcd_step, hg]⟩)
    ⟨x, y, .no, .no, rfl, .start hx hy (by
      have : x * y ≤ coin * coin := Int.mul_le_mul hx2 hy2 hy (by omega)
      rw [hc] at this
      omega), rfl⟩ (by rw [show (100 : Int) = ((100 : Nat) : Int) from rfl, len_rangeD]; omega)
  obtain ⟨ρ', e, u, s, t, rfl, hu, hg⟩ := lp
  have eu : u = fGcd x y := by
    unfold fGcd
    have : Int.gcd x y = Nat.gcd x.natAbs y.natAbs := rfl
    rw [← this, ← hg]
    simp
    omega
  simp [mf_u_law_common, m_u_law_common, N_u_law_common, farOk_small, e, eu]
theorem lowest_ok {x y : Int} (hx : 0 ≤ x) (hx2 : x ≤ coin) (hy : 0 ≤ y) (hy2 : y ≤ coin) (h0 : x ≠ 0 ∨ y ≠ 0) : mf_u_law_lowest [P x y] = .ok (P (x / fGcd x y) (y / fGcd x y)) := by
  have h := common_ok hx hx2 hy hy2
  have hg : 0 < fGcd x y := by
    unfold fGcd
    have : 0 < Nat.gcd x.natAbs y.natAbs := Nat.gcd_pos_iff.mpr (by omega)
    omega
  have hg2 : fGcd x y ≤ coin := by
    unfold fGcd
    rcases h0 with z | z
    · have := Nat.gcd_le_left y.natAbs (show 0 < x.natAbs by omega); omega
    · have := Nat.gcd_le_right x.natAbs (show 0 < y.natAbs by omega); omega
  have hs : small (fGcd x y) = true := Sm.ok ⟨by omega, by have hc : coin = 1000000000000 := rfl; omega⟩
  simp [mf_u_law_lowest, m_u_law_lowest, N_u_law_lowest, gIx, ix_p0, ix_p1, h, gI, kDiv, hg, hs]
end S29

-- S29d
set_option Elab.async false
set_option linter.all false
set_option maxRecDepth 100000
set_option maxHeartbeats 4000000
namespace S29
open Fx G P29
/-! ### beside -/
structure Bes (A B r1 x1 y1 r2 x2 y2 : Int) : Prop where
  e1 : r1 = x1 * A + y1 * B
  e2 : r2 = x2 * A + y2 * B
  x : ∃ s u1 u2, (s = 1 ∨ s = -1) ∧ x1 = s * u1 ∧ x2 = -(s * u2) ∧ 0 ≤ u1 ∧ 0 ≤ u2 ∧ u2 * r1 + u1 * r2 = B
  y : ∃ s v1 v2, (s = 1 ∨ s = -1) ∧ y1 = -(s * v1) ∧ y2 = s * v2 ∧ 0 ≤ v1 ∧ 0 ≤ v2 ∧ v2 * r1 + v1 * r2 = A
  b1 : -(10 ^ 12) ≤ x1 ∧ x1 ≤ 10 ^ 12
  b2 : -(10 ^ 12) ≤ y1 ∧ y1 ≤ 10 ^ 12
theorem Bes.bd {A B r1 x1 y1 r2 x2 y2 : Int} (I : Bes A B r1 x1 y1 r2 x2 y2) (hA : A ≤ 10 ^ 12) (hB : B ≤ 10 ^ 12) (h1 : 0 < r1) (h2 : 0 ≤ r2) : (-(10 ^ 12) ≤ x2 ∧ x2 ≤ 10 ^ 12) ∧ (-(10 ^ 12) ≤ y2 ∧ y2 ≤ 10 ^ 12) := by
  obtain ⟨_, _, ⟨s, u1, u2, hs, _, e2, g1, g2, g3⟩, ⟨s', v1, v2, hs', _, f2, k1, k2, k3⟩, _, _⟩ := I
  have a1 : u2 * 1 ≤ u2 * r1 := Int.mul_le_mul_of_nonneg_left (by omega) g2
  have a2 := Int.mul_nonneg g1 h2
  have a3 : v2 * 1 ≤ v2 * r1 := Int.mul_le_mul_of_nonneg_left (by omega) k2
  have a4 := Int.mul_nonneg k1 h2
  constructor
  · rcases hs with rfl | rfl <;> omega
  · rcases hs' with rfl | rfl <;> omega
theorem Bes.step {A B r1 x1 y1 r2 x2 y2 : Int} (I : Bes A B r1 x1 y1 r2 x2 y2) (hA : A ≤ 10 ^ 12) (hB : B ≤ 10 ^ 12) (h1 : 0 ≤ r1) (h2 : 0 < r2) (hr : 0 < r1) :
    Bes A B r2 x2 y2 (r1 - r1 / r2 * r2) (x1 - r1 / r2 * x2) (y1 - r1 / r2 * y2) := by
  obtain ⟨b1, b2⟩ := I.bd hA hB hr (by omega)
  obtain ⟨e1, e2, ⟨s, u1, u2, hs, f1, f2, g1, g2, g3⟩, ⟨s', v1, v2, hs', k1, k2, l1, l2, l3⟩, _, _⟩ := I
  have q0 : 0 ≤ r1 / r2 := Int.ediv_nonneg h1 (by omega)
  refine ⟨e2, by grind, ⟨-s, u2, u1 + r1 / r2 * u2, by omega, by grind, by grind, g2, ?_, by grind⟩, ⟨-s', v2, v1 + r1 / r2 * v2, by omega, by grind, by grind, l2, ?_, by grind⟩, b1, b2⟩
  · have := Int.mul_nonneg q0 g2; omega
  · have := Int.mul_nonneg q0 l2; omega
def bBes : MS := mSeq (mIte (mBool (mBin gEq (mBin gIx (mV 2) (mC (.int 0))) (mC (.int 0)))) mBreak mNext)
  (mSeq (mSet 4 (mBin (gI kDiv) (mBin gIx (mV 1) (mC (.int 0))) (mBin gIx (mV 2) (mC (.int 0)))))
  (mSeq (mSet 5 (mV 2))
  (mSeq (mSet 2 (mLc 6 (mRange1 (mC (.int 3))) mYes (mBin (gI (kInt fun i j => i - j)) (mBin gIx (mV 1) (mV 6)) (mBin (gI kMul) (mV 4) (mBin gIx (mV 2) (mV 6))))))
  (mSet 1 (mV 5)))))
abbrev L3 (a b c : Int) : D := .lst [.int a, .int b, .int c]
theorem range3 : rangeD 0 3 = [.int 0, .int 1, .int 2] := rfl
theorem ix3_0 {x y z : D} : ixL [x, y, z] 0 = some x := rfl
theorem ix3_1 {x y z : D} : ixL [x, y, z] 1 = some y := rfl
theorem ix3_2 {x y z : D} : ixL [x, y, z] 2 = some z := rfl
theorem bes_turn {d p : D} {r1 x1 y1 r2 x2 y2 : Int} {s4 s5 : Sl} (h2 : 0 < r2) (s1 : small r2 = true) (s2 : small (r1 / r2) = true) (s3 : small x2 = true) (s6 : small y2 = true) (n4 : noE s4 = s4) (n5 : noE s5 = s5) :
    bBes [.val p, .val (L3 r1 x1 y1), .val (L3 r2 x2 y2), .val d, s4, s5, .no] = .nx [.val p, .val (L3 r2 x2 y2), .val (L3 (r1 - r1 / r2 * r2) (x1 - r1 / r2 * x2) (y1 - r1 / r2 * y2)), .val d, .val (.int (r1 / r2)), .val (L3 r2 x2 y2), .no] := by
  have ne : ¬ r2 = 0 := by omega
  have f3 : farOk 3 = true := farOk_small (by omega) (by omega)
  have z3 : szOk 3 = true := by decide
  simp [bBes, gIx, ix3_0, ix3_1, ix3_2, gEq_int, ne, gI, kDiv, h2, s1, f3, range3, z3, lcL, noExc, kMul, kInt, s2, s3, s6]
theorem beside_ok {a : Pt} (h1 : 0 ≤ a.1) (h1' : a.1 ≤ coin) (h2 : 0 < a.2) (h2' : a.2 ≤ coin) (hg : Int.gcd a.2 a.1 = 1) : ∃ z : Pt, mf_u_law_beside [PD a] = .ok (PD z) ∧ cr z a = 1 ∧ (-(10 ^ 12) ≤ z.1 ∧ z.1 ≤ 10 ^ 12) ∧ (-(10 ^ 12) ≤ z.2 ∧ z.2 ≤ 10 ^ 12) := by
  have hc : coin = 1000000000000 := rfl
  have lp := for_brk0 (g := gSet 3) (body := bBes) (ds := rangeD 0 100) (ρ := [.val (PD a), .val (L3 a.2 1 0), .val (L3 a.1 0 1), .no, .no, .no, .no]) (k := 81)
    (I := fun _ k ρ => ∃ r1 x1 y1 r2 x2 y2 s3 s4 s5, ρ = [.val (PD a), .val (L3 r1 x1 y1), .val (L3 r2 x2 y2), s3, s4, s5, .no] ∧ noE s4 = s4 ∧ noE s5 = s5 ∧ Bes a.2 a.1 r1 x1 y1 r2 x2 y2 ∧ Down r1 r2 k ∧ Int.gcd r1 r2 = 1 ∧ 0 < r1 ∧ r1 ≤ 10 ^ 12 ∧ r2 ≤ 10 ^ 12)
    (Q := fun ρ => ∃ x1 y1 x2 y2 s3 s4 s5, ρ = [.val (PD a), .val (L3 1 x1 y1), .val (L3 0 x2 y2), s3, s4, s5, .no] ∧ Bes a.2 a.1 1 x1 y1 0 x2 y2) (by
      rintro i k ρ d ⟨r1, x1, y1, r2, x2, y2, s3, s4, s5, rfl, n4, n5, I, J, hgc, hr1, hb1, hb2⟩ hd
      refine ⟨_, rfl, ?_⟩
      by_cases h0 : r2 = 0
      · subst h0
        have er : r1 = 1 := by simp at hgc; omega
        subst er
        exact .inl ⟨[.val (PD a), .val (L3 1 x1 y1), .val (L3 0 x2 y2), .val d, s4, s5, .no], by simp [bBes, gIx, ix3_0, gEq_int], x1, y1, x2, y2, _, _, _, rfl, I⟩
      · have hp : 0 < r2 := by have := J.nv; omega
        obtain ⟨k', hk, J'⟩ := J.step hp
        obtain ⟨b1, b2⟩ := I.bd (by omega) (by omega) hr1 (by omega)
        have q0 : 0 ≤ r1 / r2 := Int.ediv_nonneg (by omega) (by omega)
        have q1 : r1 / r2 ≤ r1 := Int.ediv_le_self r2 (by omega)
        have em : r1 - r1 / r2 * r2 = r1 % r2 := by have := Int.mul_ediv_add_emod r1 r2; grind
        have rl := Int.emod_lt_of_pos r1 hp
        refine .inr ⟨_, k', bes_turn hp (sm_of (by omega) (by omega)) (sm_of (by omega) (by omega)) (sm_of (by omega) (by omega)) (sm_of (by omega) (by omega)) n4 n5, hk, _, _, _, _, _, _, _, _, _, rfl, rfl, rfl, I.step (by omega) (by omega) (by omega) hp hr1, by rw [em]; exact J', by rw [em, gcd_step, hgc], hp, hb2, by omega⟩)
    ⟨_, _, _, _, _, _, _, _, _, rfl, rfl, rfl, ⟨by omega, by omega, ⟨1, 1, 0, .inl rfl, by omega, by omega, by omega, by omega, by omega⟩, ⟨1, 0, 1, .inl rfl, by omega, by omega, by omega, by omega, by omega⟩, by omega, by omega⟩, .start (by omega) h1 (by
      have : a.2 * a.1 ≤ coin * coin := Int.mul_le_mul h2' h1' h1 (by omega)
      rw [hc] at this
      omega), hg, h2, by omega, by omega⟩ (by rw [show (100 : Int) = ((100 : Nat) : Int) from rfl, len_rangeD]; omega)
  obtain ⟨ρ', e, x1, y1, x2, y2, s3, s4, s5, rfl, I⟩ := lp
  refine ⟨(x1, -y1), ?_, ?_, I.b1, by have := I.b2; omega⟩
  · unfold bBes at e
    simp [mf_u_law_beside, m_u_law_beside, N_u_law_beside, gIx, ix_p0, ix_p1, farOk_small, e, ix3_1, ix3_2]
  · have := I.e1
    unfold cr
    dsimp only
    grind
end S29

-- S29e
set_option Elab.async false
set_option linter.all false
set_option maxRecDepth 100000
set_option maxHeartbeats 4000000
namespace S29
open Fx G P29
def bLen : MS := mSeq (mIte (mBool (mBin gEq (mV 3) (mC (.int 0)))) mBreak mNext)
  (mSeq (mSet 6 (mBin (gI kDiv) (mV 2) (mV 3)))
  (mSeq (mSet 7 (mV 3))
  (mSeq (mSet 3 (mBin (gI kMod) (mCall gInt (mCons (mV 2) mNil)) (mV 3)))
  (mSeq (mSet 2 (mV 7))
  (mIte (mBool (mBin gEq (mBin (gI kMod) (mV 5) (mC (.int 2))) (mC (.int 1)))) (mSet 4 (mBin gAdd (mV 4) (mV 6))) (mIte (mBool (mBin gEq (mV 3) (mC (.int 0)))) (mSet 4 (mBin gAdd (mV 4) (mC (.int 1)))) mNext))))))
theorem gAdd_int {a b : Int} : gAdd (.int a) (.int b) = some (.int (a + b)) := rfl
theorem len_turn {p q : D} {u v N : Int} {i : Nat} {s6 s7 : Sl} (hv : 0 < v) (hs : small v = true) :
    bLen [.val p, .val q, .val (.int u), .val (.int v), .val (.int N), .val (.int i), s6, s7] = .nx [.val p, .val q, .val (.int v), .val (.int (u % v)), .val (.int (if i % 2 = 1 then N + u / v else if u % v = 0 then N + 1 else N)), .val (.int i), .val (.int (u / v)), .val (.int v)] := by
  have ne : ¬ v = 0 := by omega
  have e2 : ((i : Int) % 2 == 1) = decide (i % 2 = 1) := by
    rw [Bool.eq_iff_iff]
    simp
    omega
  by_cases h1 : i % 2 = 1
  · have h1' : (i : Int) % 2 = 1 := by omega
    simp [bLen, gEq_int, ne, gI, kDiv, hv, hs, kMod, gInt, gAdd_int, h1, h1']
  · have h1' : ¬ (i : Int) % 2 = 1 := by omega
    by_cases h2 : u % v = 0
    · simp [bLen, gEq_int, ne, gI, kDiv, hv, hs, kMod, gInt, gAdd_int, h1, h1', h2]
    · simp [bLen, gEq_int, ne, gI, kDiv, hv, hs, kMod, gInt, gAdd_int, h1, h1', h2]
theorem rangeD_at {n : Nat} {i : Nat} {d : D} (h : (rangeD 0 n)[i]? = some d) : d = .int i := by
  have := rangeD_get h
  rw [this]; simp
theorem length_ok {a b p : Pt} (E : Ends29 a b) (T : Two b a p) : mf_u_law_length [PD a, PD b] = .ok (.int (2 + (H (cr b a) (cr b p) : Nat))) := by
  have hc : coin = 1000000000000 := rfl
  obtain ⟨z, ez, z1, z2, z3⟩ := beside_ok E.a1 E.a1' E.a2 E.a2' E.ga
  have hn := E.n
  have k1 := E.b1; have k2 := E.b1'; have k3 := E.b2; have k4 := E.b2'; have k5 := E.a1; have k6 := E.a1'; have k7 := E.a2; have k8 := E.a2'
  have t1 : mf_u_law_turn [PD b, PD a] = .ok (.int (cr b a)) := law_turn_ok ⟨by omega, by omega⟩ ⟨by omega, by omega⟩ ⟨by omega, by omega⟩ ⟨by omega, by omega⟩
  have t2 : mf_u_law_turn [PD b, PD z] = .ok (.int (cr b z)) := law_turn_ok ⟨by omega, by omega⟩ ⟨by omega, by omega⟩ ⟨by omega, by omega⟩ ⟨by omega, by omega⟩
  have er : cr b z % cr b a = cr b p := by
    have h1 := T.one
    have : cr b z = cr b p + cr b a * (-(cr z p)) := by
      have : cr b z * cr p a - cr b p * cr z a + cr b a * cr z p = 0 := by unfold cr; grind
      rw [h1, z1] at this
      grind
    rw [this, Int.add_mul_emod_self_left]
    exact Int.emod_eq_of_lt T.nn T.lt
  have nb := cr_bd (p := b) (q := a) (A := 10 ^ 12) ⟨k1, by omega⟩ ⟨k3, by omega⟩ ⟨k5, by omega⟩ ⟨by omega, by omega⟩
  have tl := T.lt
  have tn := T.nn
  by_cases h0 : cr b p = 0
  · have er0 : cr b z % cr b a = 0 := by rw [er, h0]
    rw [h0, H_zero]
    simp [mf_u_law_length, m_u_law_length, N_u_law_length, t1, t2, ez, gI, kMod, hn, gInt, er0, gEq_int]
  · have lp := for_brk0 (g := gSet 5) (body := bLen) (ds := rangeD 0 200) (ρ := [.val (PD a), .val (PD b), .val (.int (cr b a)), .val (.int (cr b p)), .val (.int 2), .no, .no, .no]) (k := 161)
      (I := fun i k ρ => ∃ u v N s5 s6 s7, ρ = [.val (PD a), .val (PD b), .val (.int u), .val (.int v), .val (.int N), s5, s6, s7] ∧ Down u v k ∧ v ≤ 10 ^ 24 ∧ (v = 0 → N = 2 + (H (cr b a) (cr b p) : Nat)) ∧ (0 < v → (if i % 2 = 1 then N + u / v + (H v (u % v) : Nat) else N + (H u v : Nat)) = 2 + (H (cr b a) (cr b p) : Nat)))
      (Q := fun ρ => ∃ u s5 s6 s7, ρ = [.val (PD a), .val (PD b), .val (.int u), .val (.int 0), .val (.int (2 + (H (cr b a) (cr b p) : Nat))), s5, s6, s7]) (by
        rintro i k ρ d ⟨u, v, N, s5, s6, s7, rfl, J, hv24, hz, hp⟩ hd
        have ed := rangeD_at (n := 200) hd
        subst ed
        refine ⟨_, rfl, ?_⟩
        by_cases hv : v = 0
        · subst hv
          have hN := hz rfl
          subst hN
          exact .inl ⟨_, by simp [bLen, gEq_int], u, .val (.int i), s6, s7, rfl⟩
        · have hv0 : 0 < v := by have := J.nv; omega
          obtain ⟨k', hk, J'⟩ := J.step hv0
          have r0 := Int.emod_nonneg u hv
          have r1 := Int.emod_lt_of_pos u hv0
          have inv := hp hv0
          refine .inr ⟨_, k', len_turn hv0 (sm_of (by omega) (by omega)), hk, v, u % v, _, _, _, _, rfl, J', by omega, fun e => ?_, fun e => ?_⟩
          · by_cases hi : i % 2 = 1
            · rw [if_pos hi] at inv
              rw [if_pos hi, ← inv, e, H_zero]; simp
            · rw [if_neg hi] at inv
              rw [if_neg hi, if_pos e, ← inv, H_div hv0 e]; simp
          · have ne : ¬ u % v = 0 := by omega
            by_cases hi : i % 2 = 1
            · rw [if_pos hi] at inv
              have hi2 : ¬ (i + 1) % 2 = 1 := by omega
              rw [if_neg hi2, if_pos hi]
              exact inv
            · rw [if_neg hi] at inv
              have hi2 : (i + 1) % 2 = 1 := by omega
              rw [if_pos hi2, if_neg hi, if_neg ne, ← inv, H_euclid hv0 e]
              have : 0 ≤ v / (u % v) := Int.ediv_nonneg (by omega) (by omega)
              omega)
      ⟨_, _, _, _, _, _, rfl, .start (by omega) tn (by
        have : cr b a * cr b p ≤ 10 ^ 24 * 10 ^ 24 := Int.mul_le_mul (by omega) (by omega) tn (by omega)
        omega), by omega, fun e => absurd e h0, fun _ => rfl⟩ (by rw [show (200 : Int) = ((200 : Nat) : Int) from rfl, len_rangeD]; omega)
    obtain ⟨ρ', e, u, s5, s6, s7, rfl⟩ := lp
    unfold bLen at e
    simp [mf_u_law_length, m_u_law_length, N_u_law_length, t1, t2, ez, gI, kMod, hn, gInt, er, gEq_int, h0, farOk_small, e]
end S29

-- S29f
set_option Elab.async false
set_option linter.all false
set_option maxRecDepth 100000
set_option maxHeartbeats 4000000
namespace S29
open Fx G P29
theorem Ch_at {b p q : Pt} {l : List Pt} (h : Ch b p q l) : ∀ (i : Nat) (z w : Pt), (p :: q :: l)[i]? = some z → (p :: q :: l)[i + 1]? = some w → cr w z = 1 := by
  induction h with
  | @last p h =>
    intro i z w h1 h2
    cases i with
    | zero => cases h1; cases h2; exact h
    | succ i => simp at h2
  | @step p q s l t h1 h2 h3 h4 hr ih =>
    intro i z w e1 e2
    cases i with
    | zero => cases e1; cases e2; exact h1
    | succ i => exact ih i z w (by simpa using e1) (by simpa using e2)
theorem Ch_at2 {b p q : Pt} {l : List Pt} (h : Ch b p q l) : ∀ (i : Nat) (z w v : Pt), (p :: q :: l)[i]? = some z → (p :: q :: l)[i + 1]? = some w → (p :: q :: l)[i + 2]? = some v → ∃ t : Int, 2 ≤ t ∧ z.1 + v.1 = t * w.1 ∧ z.2 + v.2 = t * w.2 := by
  induction h with
  | @last p h =>
    intro i z w v h1 h2 h3
    simp at h3
  | @step p q s l t h1 h2 h3 h4 hr ih =>
    intro i z w v e1 e2 e3
    cases i with
    | zero =>
      cases e1; cases e2; cases e3
      exact ⟨t, h2, by omega, by omega⟩
    | succ i => exact ih i z w v (by simpa using e1) (by simpa using e2) (by simpa using e3)
theorem Ch_last {b p q : Pt} {l : List Pt} (h : Ch b p q l) : (p :: q :: l).getLast? = some b := by
  induction h with
  | last h => rfl
  | @step p q s l t h1 h2 h3 h4 hr ih => rw [List.getLast?_cons_cons]; exact ih
theorem Ch_mid {a b p q : Pt} {l : List Pt} (h : Ch b p q l) : 0 ≤ cr p a → cr p a < cr q a → cr b p ≤ cr b a → ∀ z ∈ (p :: q :: l), 0 ≤ cr z a ∧ 0 ≤ cr b z ∧ cr b z ≤ cr b a ∧ cr z a ≤ cr b a := by
  induction h with
  | @last p h =>
    intro h1 h2 h3 z hz
    have T : Two b p b := (Ch.last h).two.1
    have M : Mid a b p b := ⟨T, h3, h1, h2⟩
    have := M.sn
    have := cr_self b
    rcases List.mem_cons.mp hz with e | hz
    · subst e; exact ⟨h1, by omega, h3, by omega⟩
    · have e : z = b := by simpa using hz
      subst e; exact ⟨by omega, by omega, by omega, by omega⟩
  | @step p q s l t h1 h2 h3 h4 hr ih =>
    intro g1 g2 g3 z hz
    have T := (Ch.step h1 h2 h3 h4 hr).two.1
    have T2 := hr.two.1
    have M : Mid a b p q := ⟨T, g3, g1, g2⟩
    have := M.sn
    have e : cr s a = t * cr q a - cr p a := by unfold cr; rw [h3, h4]; grind
    have k : 2 * cr q a ≤ t * cr q a := Int.mul_le_mul_of_nonneg_right h2 (by omega)
    have := T.lt
    have := T.nn
    rcases List.mem_cons.mp hz with e2 | hz
    · subst e2; exact ⟨g1, by omega, g3, by omega⟩
    · exact ih (by omega) (by omega) (by omega) z hz
/-- a chain from a on, as the laws want it -/
structure Good (a b : Pt) (C : List Pt) : Prop where
  ex : ∃ q l, C = a :: q :: l ∧ Ch b a q l
  nn : ∀ z ∈ C, 0 ≤ z.1 ∧ z.1 ≤ 2 * 10 ^ 12 ∧ 0 ≤ z.2 ∧ z.2 ≤ 2 * 10 ^ 12 ∧ z.1 + z.2 ≠ 0
theorem good_of {a b q : Pt} {l : List Pt} (E : Ends29 a b) (h : Ch b a q l) : Good a b (a :: q :: l) := by
  refine ⟨⟨q, l, rfl, h⟩, fun z hz => ?_⟩
  have hc : coin = 1000000000000 := rfl
  have k1 := E.b1; have k2 := E.b1'; have k3 := E.b2; have k4 := E.b2'; have k5 := E.a1; have k6 := E.a1'; have k7 := E.a2; have k8 := E.a2'
  have hn := E.n
  have T := h.two.1
  have hs := cr_self a
  have h1 : cr q a = 1 := T.one
  obtain ⟨m1, m2, m3, m4⟩ := Ch_mid (a := a) h (by omega) (by omega) (Int.le_refl _) z hz
  obtain ⟨e1, e2⟩ := bary a b z
  have c1 := coord hn e1 m2 m3 m1 m4 k5 k1
  have c2 := coord hn e2 m2 m3 m1 m4 (by omega) k3
  refine ⟨c1.1, by omega, c2.1, by omega, fun z0 => ?_⟩
  have z1 : z.1 = 0 := by omega
  have z2 : z.2 = 0 := by omega
  have ez : z = (0, 0) := pt_ext z1 z2
  -- z is one of a pair of determinant 1
  obtain ⟨i, hi⟩ := List.getElem?_of_mem hz
  cases i with
  | zero =>
    have : a = z := by simpa using hi
    rw [← this] at z2
    omega
  | succ i =>
    cases hp : (a :: q :: l)[i]? with
    | none =>
      have := List.getElem?_eq_none_iff.mp hp
      have := (List.getElem?_eq_some_iff.mp hi).1
      omega
    | some w =>
      have := Ch_at h i w z hp hi
      unfold cr at this
      rw [z1, z2] at this
      omega
theorem is_pair_ok {z : Pt} : mf_u_law_is_pair [PD z, PD z] = .ok (.bl true) := by
  simp [mf_u_law_is_pair, m_u_law_is_pair, N_u_law_is_pair, tyD, isiB, gLen, gNe_int, truD, gIx, ix_p0, ix_p1, mf_u_law_integer, m_u_law_integer, N_u_law_integer, gEq_P]
theorem ixL_nat {ds : List D} {i : Nat} : ixL ds (i : Int) = ds[i]? := by
  unfold ixL
  rw [if_pos (by omega)]
  simp
theorem rangeD1_at {lo : Int} {n : Int} {i : Nat} {d : D} (h : (rangeD lo n)[i]? = some d) : d = .int (lo + i) ∧ (i : Int) < n - lo := by
  refine ⟨rangeD_get h, ?_⟩
  have := (List.getElem?_eq_some_iff.mp h).1
  rw [rangeD_len] at this
  omega
theorem farOk_len {n : Nat} (h : n ≤ 100000) : farOk (n : Int) = true := by
  unfold farOk
  rw [decide_eq_true (by omega), decide_eq_true (by omega)]
  rfl
def bPairs : MS := mIte (mNot (mTru (mDef mf_u_law_is_pair (mCons (mBin gIx (mV 0) (mV 2)) (mCons (mBin gIx (mV 1) (mV 2)) mNil))))) (mRet (mC (.bl false))) mNext
theorem pairs_turn {C : List Pt} {i : Nat} (hi : i < C.length) : bPairs [.val (.lst (C.map PD)), .val (.lst (C.map PD)), .val (.int i)] = .nx [.val (.lst (C.map PD)), .val (.lst (C.map PD)), .val (.int i)] := by
  have ei : ixL (C.map PD) (i : Int) = some (PD C[i]) := by
    rw [ixL_nat, List.getElem?_map, List.getElem?_eq_getElem hi]; rfl
  simp [bPairs, gIx, ei, is_pair_ok, truD]
theorem pairs_loop {C : List Pt} {s : Sl} : ∃ ρ', forL (gSet 2) bPairs (rangeD 0 (C.length : Nat)) [.val (.lst (C.map PD)), .val (.lst (C.map PD)), s] = .nx ρ' ∧ ∃ s, ρ' = [.val (.lst (C.map PD)), .val (.lst (C.map PD)), s] := by
  refine for_all0 (I := fun _ ρ => ∃ s, ρ = [.val (.lst (C.map PD)), .val (.lst (C.map PD)), s]) ?_ ⟨s, rfl⟩
  rintro i ρ d ⟨s, rfl⟩ hd
  obtain ⟨e, hlt⟩ := rangeD1_at hd
  rw [Int.zero_add] at e
  subst e
  have hi : i < C.length := by omega
  refine ⟨[.val (.lst (C.map PD)), .val (.lst (C.map PD)), .val (.int i)], rfl, [.val (.lst (C.map PD)), .val (.lst (C.map PD)), .val (.int i)], pairs_turn hi, ⟨.val (.int i), rfl⟩⟩
theorem pairs_for {C : List Pt} (h : C.length ≤ 100000) : ∃ s, mFor (mRange1 (mCall gLen (mCons (mV 1) mNil))) (gSet 2) bPairs [.val (.lst (C.map PD)), .val (.lst (C.map PD)), .no] = .nx [.val (.lst (C.map PD)), .val (.lst (C.map PD)), s] := by
  obtain ⟨ρ', e, s, rfl⟩ := pairs_loop (C := C) (s := .no)
  have hf := farOk_len h
  refine ⟨s, ?_⟩
  have er : mRange1 (mCall gLen (mCons (mV 1) mNil)) [.val (.lst (C.map PD)), .val (.lst (C.map PD)), .no] = .ok (rangeD 0 (C.length : Nat)) := by
    unfold mRange1
    rw [e_call (ds := [.lst (C.map PD)]) (d := .int (C.length : Nat)) rfl (by show some (D.int ((C.map PD).length : Nat)) = _; rw [List.length_map]), R.bind_ok]
    dsimp only
    rw [if_pos hf]
  unfold mFor
  rw [er, R.out_ok]
  exact e
theorem are_pairs_ok {C : List Pt} (h : C.length ≤ 100000) : mf_u_law_are_pairs [.lst (C.map PD), .lst (C.map PD)] = .ok (.bl true) := by
  obtain ⟨s, e⟩ := pairs_for h
  have h1 : mIte (mBool (mBin gNe (mCall gLen (mCons (mV 0) mNil)) (mCall gLen (mCons (mV 1) mNil)))) (mRet (mC (.bl false))) mNext [.val (.lst (C.map PD)), .val (.lst (C.map PD)), .no] = .nx [.val (.lst (C.map PD)), .val (.lst (C.map PD)), .no] := by
    simp [gLen, gNe_int]
  have : m_u_law_are_pairs [.val (.lst (C.map PD)), .val (.lst (C.map PD)), .no] = .rt (.bl true) := by
    unfold m_u_law_are_pairs
    rw [s_seq h1]
    unfold bPairs at e
    rw [s_seq e]
    rfl
  show (m_u_law_are_pairs [.val (.lst (C.map PD)), .val (.lst (C.map PD)), .no]).res false = _
  rw [this]; rfl
end S29

-- S29g
set_option Elab.async false
set_option linter.all false
set_option maxRecDepth 100000
set_option maxHeartbeats 4000000
namespace S29
open Fx G P29
abbrev st9 (C : List Pt) (a b : Pt) (L : Int) (s4 s5 s6 s7 s8 : Sl) : Env := [.val (.lst (C.map PD)), .val (PD a), .val (PD b), .val (.int L), s4, s5, s6, s7, s8]
def bC1 : MS := mSeq (mIte (mNot (mTru (mDef mf_u_law_is_pair (mCons (mV 4) (mCons (mV 4) mNil))))) (mRet (mC (.bl false))) mNext)
  (mIte (mOr (mBool (mBin (gI (kBl fun i j => decide (i < j))) (mBin gIx (mV 4) (mC (.int 0))) (mC (.int 0)))) (mOr (mBool (mBin (gI (kBl fun i j => decide (i < j))) (mBin gIx (mV 4) (mC (.int 1))) (mC (.int 0)))) (mBool (mBin gEq (mBin gAdd (mBin gIx (mV 4) (mC (.int 0))) (mBin gIx (mV 4) (mC (.int 1)))) (mC (.int 0)))))) (mRet (mC (.bl false))) mNext)
def bC2 : MS := mIte (mBool (mBin gNe (mDef mf_u_law_turn (mCons (mBin gIx (mV 0) (mV 5)) (mCons (mBin gIx (mV 0) (mBin (gI (kInt fun i j => i - j)) (mV 5) (mC (.int 1)))) mNil))) (mC (.int 1)))) (mRet (mC (.bl false))) mNext
def bC3 : MS := mSeq (mSet 6 (mBin gAdd (mBin gIx (mBin gIx (mV 0) (mBin (gI (kInt fun i j => i - j)) (mV 5) (mC (.int 1)))) (mC (.int 0))) (mBin gIx (mBin gIx (mV 0) (mBin gAdd (mV 5) (mC (.int 1)))) (mC (.int 0)))))
  (mSeq (mSet 7 (mBin gAdd (mBin gIx (mBin gIx (mV 0) (mBin (gI (kInt fun i j => i - j)) (mV 5) (mC (.int 1)))) (mC (.int 1))) (mBin gIx (mBin gIx (mV 0) (mBin gAdd (mV 5) (mC (.int 1)))) (mC (.int 1)))))
  (mSeq (mSet 8 (mBin (gI kDiv) (mBin gAdd (mV 6) (mV 7)) (mBin gAdd (mBin gIx (mBin gIx (mV 0) (mV 5)) (mC (.int 0))) (mBin gIx (mBin gIx (mV 0) (mV 5)) (mC (.int 1))))))
  (mIte (mOr (mBool (mBin (gI (kBl fun i j => decide (i < j))) (mV 8) (mC (.int 2)))) (mBool (mBin gNe (mTup (mCons (mV 6) (mCons (mV 7) mNil))) (mTup (mCons (mBin (gI kMul) (mV 8) (mBin gIx (mBin gIx (mV 0) (mV 5)) (mC (.int 0)))) (mCons (mBin (gI kMul) (mV 8) (mBin gIx (mBin gIx (mV 0) (mV 5)) (mC (.int 1)))) mNil)))))) (mRet (mC (.bl false))) mNext)))
section
variable {C : List Pt} {a b : Pt} {L : Int} {s4 s5 s6 s7 s8 : Sl}
theorem c1_turn {z : Pt} (h1 : 0 ≤ z.1) (h2 : 0 ≤ z.2) (h3 : z.1 + z.2 ≠ 0) : bC1 (st9 C a b L (.val (PD z)) s5 s6 s7 s8) = .nx (st9 C a b L (.val (PD z)) s5 s6 s7 s8) := by
  have h1' : ¬ z.1 < 0 := by omega
  have h2' : ¬ z.2 < 0 := by omega
  simp [bC1, is_pair_ok, truD, gIx, ix_p0, ix_p1, gI, kBl, gAdd_int, gEq_int, h1', h2', h3]
theorem c1_loop (h : ∀ z ∈ C, 0 ≤ z.1 ∧ z.1 ≤ 2 * 10 ^ 12 ∧ 0 ≤ z.2 ∧ z.2 ≤ 2 * 10 ^ 12 ∧ z.1 + z.2 ≠ 0) : ∃ ρ', forL (gSet 4) bC1 (C.map PD) (st9 C a b L s4 s5 s6 s7 s8) = .nx ρ' ∧ ∃ s, ρ' = st9 C a b L s s5 s6 s7 s8 := by
  refine for_all0 (I := fun _ ρ => ∃ s, ρ = st9 C a b L s s5 s6 s7 s8) ?_ ⟨s4, rfl⟩
  rintro i ρ d ⟨s, rfl⟩ hd
  rw [List.getElem?_map] at hd
  cases hz : C[i]? with
  | none => rw [hz] at hd; cases hd
  | some z =>
    rw [hz] at hd
    cases hd
    obtain ⟨g1, _, g2, _, g3⟩ := h z (List.mem_of_getElem? hz)
    exact ⟨st9 C a b L (.val (PD z)) s5 s6 s7 s8, rfl, st9 C a b L (.val (PD z)) s5 s6 s7 s8, c1_turn g1 g2 g3, ⟨.val (PD z), rfl⟩⟩
theorem ixC {i : Nat} {k : Int} {z : Pt} (e : k = i) (h : C[i]? = some z) : gIx (.lst (C.map PD)) (.int k) = some (PD z) := by
  show ixL (C.map PD) k = _
  rw [e, ixL_nat, List.getElem?_map, h]
  rfl
theorem c2_turn {i : Nat} {z w : Pt} (h1 : C[i]? = some z) (h2 : C[i + 1]? = some w) (hc : cr w z = 1) (b1 : 0 ≤ z.1 ∧ z.1 ≤ 2 * 10 ^ 12 ∧ 0 ≤ z.2 ∧ z.2 ≤ 2 * 10 ^ 12 ∧ z.1 + z.2 ≠ 0) (b2 : 0 ≤ w.1 ∧ w.1 ≤ 2 * 10 ^ 12 ∧ 0 ≤ w.2 ∧ w.2 ≤ 2 * 10 ^ 12 ∧ w.1 + w.2 ≠ 0) :
    bC2 (st9 C a b L s4 (.val (.int (1 + i))) s6 s7 s8) = .nx (st9 C a b L s4 (.val (.int (1 + i))) s6 s7 s8) := by
  have t : mf_u_law_turn [PD w, PD z] = .ok (.int (cr w z)) := law_turn_ok ⟨by omega, by omega⟩ ⟨by omega, by omega⟩ ⟨by omega, by omega⟩ ⟨by omega, by omega⟩
  rw [hc] at t
  have i0 : gIx (.lst (C.map PD)) (.int (1 + i - 1)) = some (PD z) := ixC (by omega) h1
  have i1 : gIx (.lst (C.map PD)) (.int (1 + i)) = some (PD w) := ixC (by omega) h2
  exact s_if0 (e_bool (e_bin (e_def (e_cons (e_bin (e_V rfl) (e_V rfl) i1) (e_cons (e_bin (e_V rfl) (e_bin (e_V rfl) e_C rfl) i0) e_Nil)) t) e_C gNe_int))
theorem c2_loop (G : Good a b C) (hL : L = (C.length : Nat)) : ∃ ρ', forL (gSet 5) bC2 (rangeD 1 L) (st9 C a b L s4 s5 s6 s7 s8) = .nx ρ' ∧ ∃ s, ρ' = st9 C a b L s4 s s6 s7 s8 := by
  refine for_all0 (I := fun _ ρ => ∃ s, ρ = st9 C a b L s4 s s6 s7 s8) ?_ ⟨s5, rfl⟩
  rintro i ρ d ⟨s, rfl⟩ hd
  obtain ⟨e, hlt⟩ := rangeD1_at hd
  subst e
  have hi1 : i + 1 < C.length := by omega
  have hi0 : i < C.length := by omega
  obtain ⟨q, l, eC, hch⟩ := G.ex
  have e1 : C[i]? = some C[i] := List.getElem?_eq_getElem hi0
  have e2 : C[i + 1]? = some C[i + 1] := List.getElem?_eq_getElem hi1
  have hcr := Ch_at hch i C[i] C[i + 1] (by rw [← eC]; exact e1) (by rw [← eC]; exact e2)
  exact ⟨st9 C a b L s4 (.val (.int (1 + i))) s6 s7 s8, rfl, st9 C a b L s4 (.val (.int (1 + i))) s6 s7 s8, c2_turn e1 e2 hcr (G.nn _ (List.mem_of_getElem? e1)) (G.nn _ (List.mem_of_getElem? e2)), ⟨.val (.int (1 + i)), rfl⟩⟩
theorem c3_turn {i : Nat} {z w v : Pt} {t : Int} (h1 : C[i]? = some z) (h2 : C[i + 1]? = some w) (h3 : C[i + 2]? = some v) (ht : 2 ≤ t) (x : z.1 + v.1 = t * w.1) (y : z.2 + v.2 = t * w.2) (b1 : 0 ≤ z.1 ∧ z.1 ≤ 2 * 10 ^ 12 ∧ 0 ≤ z.2 ∧ z.2 ≤ 2 * 10 ^ 12 ∧ z.1 + z.2 ≠ 0) (b2 : 0 ≤ w.1 ∧ w.1 ≤ 2 * 10 ^ 12 ∧ 0 ≤ w.2 ∧ w.2 ≤ 2 * 10 ^ 12 ∧ w.1 + w.2 ≠ 0)
    (b3 : 0 ≤ v.1 ∧ v.1 ≤ 2 * 10 ^ 12 ∧ 0 ≤ v.2 ∧ v.2 ≤ 2 * 10 ^ 12 ∧ v.1 + v.2 ≠ 0) :
    bC3 (st9 C a b L s4 (.val (.int (1 + i))) s6 s7 s8) = .nx (st9 C a b L s4 (.val (.int (1 + i))) (.val (.int (z.1 + v.1))) (.val (.int (z.2 + v.2))) (.val (.int t))) := by
  have hw : 0 < w.1 + w.2 := by omega
  have sw : small (w.1 + w.2) = true := sm_of (by omega) (by omega)
  have ed : (z.1 + v.1 + (z.2 + v.2)) / (w.1 + w.2) = t := by
    have : z.1 + v.1 + (z.2 + v.2) = (w.1 + w.2) * t := by rw [x, y]; grind
    rw [this, Int.mul_ediv_cancel_left _ (Int.ne_of_gt hw)]
  have tb : t ≤ 10 ^ 13 := by
    have k : (w.1 + w.2) * t ≥ 1 * t := Int.mul_le_mul_of_nonneg_right (by omega) (by omega)
    have : z.1 + v.1 + (z.2 + v.2) = (w.1 + w.2) * t := by rw [x, y]; grind
    omega
  have s1 : small t = true := sm_of (by omega) (by omega)
  have s2 : small w.1 = true := sm_of (by omega) (by omega)
  have s3 : small w.2 = true := sm_of (by omega) (by omega)
  have nl : ¬ t < 2 := by omega
  have i0 : gIx (.lst (C.map PD)) (.int (1 + i - 1)) = some (PD z) := ixC (by omega) h1
  have i1 : gIx (.lst (C.map PD)) (.int (1 + i)) = some (PD w) := ixC (by omega) h2
  have i2 : gIx (.lst (C.map PD)) (.int (1 + i + 1)) = some (PD v) := ixC (by omega) h3
  refine (s_seq (ρ' := st9 C a b L s4 (.val (.int (1 + i))) (.val (.int (z.1 + v.1))) s7 s8) (s_set (e_bin (e_bin (e_bin (e_V rfl) (e_bin (e_V rfl) e_C rfl) i0) e_C rfl) (e_bin (e_bin (e_V rfl) (e_bin (e_V rfl) e_C rfl) i2) e_C rfl) rfl))).trans ?_
  refine (s_seq (ρ' := st9 C a b L s4 (.val (.int (1 + i))) (.val (.int (z.1 + v.1))) (.val (.int (z.2 + v.2))) s8) (s_set (e_bin (e_bin (e_bin (e_V rfl) (e_bin (e_V rfl) e_C rfl) i0) e_C rfl) (e_bin (e_bin (e_V rfl) (e_bin (e_V rfl) e_C rfl) i2) e_C rfl) rfl))).trans ?_
  refine (s_seq (ρ' := st9 C a b L s4 (.val (.int (1 + i))) (.val (.int (z.1 + v.1))) (.val (.int (z.2 + v.2))) (.val (.int t))) (s_set (e_bin (e_bin (e_V rfl) (e_V rfl) rfl) (e_bin (e_bin (e_bin (e_V rfl) (e_V rfl) i1) e_C rfl) (e_bin (e_bin (e_V rfl) (e_V rfl) i1) e_C rfl) rfl) (by
    show kDiv (z.1 + v.1 + (z.2 + v.2)) (w.1 + w.2) = _
    rw [kDiv_ok hw sw, ed])))).trans ?_
  refine s_if0 ?_
  rw [e_or0 (e_bool (e_bin (d := .bl (decide (t < 2))) (e_V rfl) e_C rfl) |>.trans (by rw [decide_eq_false nl]))]
  refine (e_bool (e_bin (e_tup (e_cons (e_V rfl) (e_cons (e_V rfl) e_Nil))) (e_tup (e_cons (e_bin (d := .int (t * w.1)) (e_V rfl) (e_bin (e_bin (e_V rfl) (e_V rfl) i1) e_C rfl) (kMul_ok s1 s2)) (e_cons (e_bin (d := .int (t * w.2)) (e_V rfl) (e_bin (e_bin (e_V rfl) (e_V rfl) i1) e_C rfl) (kMul_ok s1 s3)) e_Nil))) gNe_P)).trans ?_
  rw [x, y]
  simp
end
end S29

-- S29h
set_option Elab.async false
set_option linter.all false
set_option maxRecDepth 100000
set_option maxHeartbeats 4000000
namespace S29
open Fx G P29
section
variable {C : List Pt} {a b : Pt} {L : Int} {s4 s5 s6 s7 s8 : Sl}
theorem c3_loop (G : Good a b C) (hL : L = (C.length : Nat)) : ∃ ρ', forL (gSet 5) bC3 (rangeD 1 (L - 1)) (st9 C a b L s4 s5 s6 s7 s8) = .nx ρ' ∧ ∃ s t u v, ρ' = st9 C a b L s4 s t u v := by
  refine for_all0 (I := fun _ ρ => ∃ s t u v, ρ = st9 C a b L s4 s t u v) ?_ ⟨s5, s6, s7, s8, rfl⟩
  rintro i ρ d ⟨s, t, u, v, rfl⟩ hd
  obtain ⟨e, hlt⟩ := rangeD1_at hd
  subst e
  have hi2 : i + 2 < C.length := by omega
  have hi1 : i + 1 < C.length := by omega
  have hi0 : i < C.length := by omega
  obtain ⟨q, l, eC, hch⟩ := G.ex
  have e0 : C[i]? = some C[i] := List.getElem?_eq_getElem hi0
  have e1 : C[i + 1]? = some C[i + 1] := List.getElem?_eq_getElem hi1
  have e2 : C[i + 2]? = some C[i + 2] := List.getElem?_eq_getElem hi2
  obtain ⟨k, hk, x, y⟩ := Ch_at2 hch i C[i] C[i + 1] C[i + 2] (by rw [← eC]; exact e0) (by rw [← eC]; exact e1) (by rw [← eC]; exact e2)
  exact ⟨st9 C a b L s4 (.val (.int (1 + i))) t u v, rfl, st9 C a b L s4 (.val (.int (1 + i))) (.val (.int (C[i].1 + C[i + 2].1))) (.val (.int (C[i].2 + C[i + 2].2))) (.val (.int k)), c3_turn e0 e1 e2 hk x y (G.nn _ (List.mem_of_getElem? e0)) (G.nn _ (List.mem_of_getElem? e1)) (G.nn _ (List.mem_of_getElem? e2)), ⟨.val (.int (1 + i)), .val (.int (C[i].1 + C[i + 2].1)), .val (.int (C[i].2 + C[i + 2].2)), .val (.int k), rfl⟩⟩
theorem ixL_last {z : Pt} (h : C.getLast? = some z) : gIx (.lst (C.map PD)) (.int (-1)) = some (PD z) := by
  show ixL (C.map PD) (-1) = _
  rw [List.getLast?_eq_getElem?] at h
  have hn : 0 < C.length := by
    cases C with
    | nil => simp at h
    | cons _ _ => simp
  unfold ixL
  rw [if_neg (by omega), List.length_map, if_pos (by omega)]
  have : (-1 + (C.length : Int)).toNat = C.length - 1 := by omega
  rw [this, List.getElem?_map, h]
  rfl
theorem is_chain_ok (G : Good a b C) (hn : C.length ≤ 100000) : mf_u_law_is_chain [.lst (C.map PD), PD a, PD b, .int (C.length : Nat)] = .ok (.bl true) := by
  obtain ⟨L, hL⟩ : ∃ L : Int, L = (C.length : Nat) := ⟨_, rfl⟩
  rw [← hL]
  obtain ⟨q, l, eC, hch⟩ := id G.ex
  have hlast : C.getLast? = some b := by rw [eC]; exact Ch_last hch
  have h0 : C[0]? = some a := by rw [eC]; rfl
  have hf : farOk L = true := by rw [hL]; exact farOk_len hn
  have h2 : 2 ≤ C.length := by rw [eC]; simp
  have hf1 : farOk (L - 1) = true := by
    have := farOk_len (n := C.length - 1) (by omega)
    have e : L - 1 = ((C.length - 1 : Nat) : Int) := by omega
    rw [e]; exact this
  have one : farOk 1 = true := by decide +kernel
  obtain ⟨_, r1, t1, rfl⟩ := c1_loop (C := C) (a := a) (b := b) (L := L) (s4 := .no) (s5 := .no) (s6 := .no) (s7 := .no) (s8 := .no) G.nn
  obtain ⟨_, r2, t2, rfl⟩ := c2_loop (C := C) (a := a) (b := b) (L := L) (s4 := t1) (s5 := .no) (s6 := .no) (s7 := .no) (s8 := .no) G hL
  obtain ⟨_, r3, u1, u2, u3, u4, rfl⟩ := c3_loop (C := C) (a := a) (b := b) (L := L) (s4 := t1) (s5 := t2) (s6 := .no) (s7 := .no) (s8 := .no) G hL
  have : m_u_law_is_chain (st9 C a b L .no .no .no .no .no) = .rt (.bl true) := by
    unfold m_u_law_is_chain
    have a1 : mIte (mOr (mNot (mTru (mIsi "list" (mV 0)))) (mBool (mBin gNe (mCall gLen (mCons (mV 0) mNil)) (mV 3)))) (mRet (mC (.bl false))) mNext (st9 C a b L .no .no .no .no .no) = .nx (st9 C a b L .no .no .no .no .no) := by
      refine s_if0 ?_
      rw [e_or0 (e_not (b := true) (e_tru (d := .bl true) rfl rfl))]
      refine (e_bool (e_bin (e_call (ds := [.lst (C.map PD)]) (d := .int (C.length : Nat)) rfl (by show some (D.int ((C.map PD).length : Nat)) = _; rw [List.length_map])) (e_V rfl) gNe_int)).trans ?_
      rw [hL]; simp
    have a2 : mIte (mOr (mBool (mBin gNe (mBin gIx (mV 0) (mC (.int 0))) (mV 1))) (mBool (mBin gNe (mBin gIx (mV 0) (mNeg (mC (.int 1)))) (mV 2)))) (mRet (mC (.bl false))) mNext (st9 C a b L t1 .no .no .no .no) = .nx (st9 C a b L t1 .no .no .no .no) := by
      refine s_if0 ?_
      rw [e_or0 ((e_bool (e_bin (e_bin (e_V rfl) e_C (ixC (i := 0) (by simp) h0)) (e_V rfl) gNe_P)).trans (by simp))]
      refine (e_bool (e_bin (e_bin (e_V rfl) (e_neg e_C) (ixL_last hlast)) (e_V rfl) gNe_P)).trans (by simp)
    have b1 : mItems (mV 0) (st9 C a b L .no .no .no .no .no) = .ok (C.map PD) := rfl
    have b2 : mRange2 (mC (.int 1)) (mV 3) (st9 C a b L t1 .no .no .no .no) = .ok (rangeD 1 L) := by
      refine (x_range2 ..).trans ?_
      rw [e_C, R.bind_ok, e_V rfl, R.bind_ok]
      dsimp only
      rw [hf, one]; rfl
    have b3 : mRange2 (mC (.int 1)) (mBin (gI (kInt fun i j => i - j)) (mV 3) (mC (.int 1))) (st9 C a b L t1 t2 .no .no .no) = .ok (rangeD 1 (L - 1)) := by
      refine (x_range2 ..).trans ?_
      rw [e_C, R.bind_ok, e_bin (d := .int (L - 1)) (e_V rfl) e_C rfl, R.bind_ok]
      dsimp only
      rw [hf1, one]; rfl
    have f1 : ∀ {mi : MI} {g : MG} {bd : MS} {ρ ρ' : Env} {ds : List D}, mi ρ = .ok ds → forL g bd ds ρ = .nx ρ' → mFor mi g bd ρ = .nx ρ' := by
      intro mi g bd ρ ρ' ds e1 e2
      unfold mFor
      rw [e1, R.out_ok]; exact e2
    refine (s_seq a1).trans ((s_seq (f1 b1 r1)).trans ((s_seq a2).trans ((s_seq (f1 b2 r2)).trans ((s_seq (f1 b3 r3)).trans ?_))))
    rfl
  show (m_u_law_is_chain (st9 C a b L .no .no .no .no .no)).res false = _
  rw [this]; rfl
end
end S29

-- S29i
set_option Elab.async false
set_option linter.all false
set_option maxRecDepth 100000
set_option maxHeartbeats 4000000
namespace S29
open Fx G P29
def pen : Pt → Pt → List Pt → Pt
  | p, _, [] => p
  | _, q, s :: l => pen q s l
theorem Ch_snoc {b p q : Pt} {l : List Pt} (h : Ch b p q l) : ∀ (s : Pt) (t : Int), 2 ≤ t → s.1 = t * b.1 - (pen p q l).1 → s.2 = t * b.2 - (pen p q l).2 → Ch s p q (l ++ [s]) := by
  induction h with
  | @last p h =>
    intro s t ht e1 e2
    have e1' : s.1 = t * b.1 - p.1 := e1
    have e2' : s.2 = t * b.2 - p.2 := e2
    refine Ch.step h ht e1' e2' (Ch.last ?_)
    unfold cr at *
    rw [e1', e2']
    grind
  | @step p q s l t h1 h2 h3 h4 hr ih =>
    intro s' t' ht e1 e2
    exact Ch.step h1 h2 h3 h4 (ih s' t' ht e1 e2)
theorem pen_snoc {p q s : Pt} : ∀ (l : List Pt), pen p q (l ++ [s]) = ((p :: q :: l).getLast?).getD p := by
  intro l
  induction l generalizing p q with
  | nil => rfl
  | cons x l ih =>
    show pen q x (l ++ [s]) = _
    rw [ih, List.getLast?_cons_cons]
    cases h : (q :: x :: l).getLast? with
    | none => simp at h
    | some v => rfl
/-- the value of a cell -/
def cell (ns : List Int) (k : Nat) : Int := if k < ns.length ∧ k < 63 then (ns[k]?).getD 0 else 0
theorem cell_ok {ns : List Int} {k : Nat} : mf_u_law_cell [.lst (ns.map .int), .int k] = .ok (.int (cell ns k)) := by
  have : m_u_law_cell [.val (.lst (ns.map .int)), .val (.int k)] = .rt (.int (cell ns k)) := by
    unfold m_u_law_cell cell
    by_cases h1 : k < ns.length
    · by_cases h2 : k < 63
      · have t1 : mAnd (mBool (mBin (gI (kBl fun i j => decide (i < j))) (mV 1) (mCall gLen (mCons (mV 0) mNil)))) (mBool (mBin (gI (kBl fun i j => decide (i < j))) (mV 1) (mC (.int 63)))) [.val (.lst (ns.map .int)), .val (.int k)] = .ok true := by
          rw [e_and1 ((e_bool (b := decide ((k : Int) < (ns.length : Nat))) (e_bin (e_V rfl) (e_call (ds := [.lst (ns.map .int)]) (d := .int (ns.length : Nat)) rfl (by show some (D.int ((ns.map D.int).length : Nat)) = _; rw [List.length_map])) rfl)).trans (by rw [decide_eq_true (by omega)]))]
          exact (e_bool (b := decide ((k : Int) < 63)) (e_bin (e_V rfl) e_C rfl)).trans (by rw [decide_eq_true (by omega)])
        refine (s_seqR (d := .int ns[k]) ((s_if1 t1).trans (s_ret (e_call (ds := [.int ns[k]]) (e_cons (e_bin (e_V rfl) (e_V rfl) ?_) e_Nil) rfl)))).trans ?_
        · show ixL (ns.map .int) (k : Int) = _
          rw [ixL_nat, List.getElem?_map, List.getElem?_eq_getElem h1]; rfl
        · rw [if_pos ⟨h1, h2⟩, List.getElem?_eq_getElem h1]; rfl
      · have t1 : mAnd (mBool (mBin (gI (kBl fun i j => decide (i < j))) (mV 1) (mCall gLen (mCons (mV 0) mNil)))) (mBool (mBin (gI (kBl fun i j => decide (i < j))) (mV 1) (mC (.int 63)))) [.val (.lst (ns.map .int)), .val (.int k)] = .ok false := by
          rw [e_and1 ((e_bool (b := decide ((k : Int) < (ns.length : Nat))) (e_bin (e_V rfl) (e_call (ds := [.lst (ns.map .int)]) (d := .int (ns.length : Nat)) rfl (by show some (D.int ((ns.map D.int).length : Nat)) = _; rw [List.length_map])) rfl)).trans (by rw [decide_eq_true (by omega)]))]
          exact (e_bool (b := decide ((k : Int) < 63)) (e_bin (e_V rfl) e_C rfl)).trans (by rw [decide_eq_false (by omega)])
        refine (s_seq ((s_if0 t1).trans rfl)).trans ?_
        rw [if_neg (fun h => h2 h.2)]; rfl
    · have t1 : mAnd (mBool (mBin (gI (kBl fun i j => decide (i < j))) (mV 1) (mCall gLen (mCons (mV 0) mNil)))) (mBool (mBin (gI (kBl fun i j => decide (i < j))) (mV 1) (mC (.int 63)))) [.val (.lst (ns.map .int)), .val (.int k)] = .ok false := by
        refine e_and0 ((e_bool (b := decide ((k : Int) < (ns.length : Nat))) (e_bin (e_V rfl) (e_call (ds := [.lst (ns.map .int)]) (d := .int (ns.length : Nat)) rfl (by show some (D.int ((ns.map D.int).length : Nat)) = _; rw [List.length_map])) rfl)).trans (by rw [decide_eq_false (by omega)]))
      refine (s_seq ((s_if0 t1).trans rfl)).trans ?_
      rw [if_neg (fun h => h1 h.1)]; rfl
  show (m_u_law_cell [.val (.lst (ns.map .int)), .val (.int k)]).res false = _
  rw [this]; rfl
end S29

-- S29j
set_option Elab.async false
set_option linter.all false
set_option maxRecDepth 100000
set_option maxHeartbeats 4000000
namespace S29
open Fx G P29
theorem for_may {g : MG} {body : MS} {I : Nat → Env → Prop} : ∀ {ds : List D} {ρ : Env} {i : Nat} (h : ∀ j ρ d, j < i + ds.length → I j ρ → d ∈ ds → ∃ ρ1, g d ρ = some ρ1 ∧ ∃ ρ2, (body ρ1 = .nx ρ2 ∧ I (j + 1) ρ2) ∨ (body ρ1 = .bk ρ2 ∧ I j ρ2)) (h0 : I i ρ), ∃ ρ' j, forL g body ds ρ = .nx ρ' ∧ j ≤ i + ds.length ∧ I j ρ'
  | [], ρ, i, h, h0 => ⟨ρ, i, rfl, Nat.le_refl _, h0⟩
  | d :: ds, ρ, i, h, h0 => by
    obtain ⟨ρ1, e1, ρ2, h2⟩ := h i ρ d (by simp) h0 List.mem_cons_self
    rcases h2 with ⟨e2, i2⟩ | ⟨e2, i2⟩
    · obtain ⟨ρ3, j, e3, hj, q⟩ := for_may (ds := ds) (i := i + 1) (fun j ρ d hj hi hd => h j ρ d (by simp; omega) hi (List.mem_cons_of_mem _ hd)) i2
      exact ⟨ρ3, j, by unfold forL; rw [e1]; dsimp only; rw [e2]; exact e3, by simp; omega, q⟩
    · exact ⟨ρ2, i, by unfold forL; rw [e1]; dsimp only; rw [e2], by simp, i2⟩
theorem pen_get {p q : Pt} : ∀ (l : List Pt), (p :: q :: l)[l.length]? = some (pen p q l) := by
  intro l
  induction l generalizing p q with
  | nil => rfl
  | cons x l ih => exact ih
theorem ixL_pen {p q : Pt} {l : List Pt} : gIx (.lst ((p :: q :: l).map PD)) (.int (-2)) = some (PD (pen p q l)) := by
  show ixL ((p :: q :: l).map PD) (-2) = _
  unfold ixL
  rw [if_neg (by omega), List.length_map, if_pos (by simp; omega)]
  have : (-2 + ((p :: q :: l).length : Int)).toNat = l.length := by simp; omega
  rw [this, List.getElem?_map, pen_get]
  rfl
theorem pen_last {b p q : Pt} {l : List Pt} (h : Ch b p q l) {s : Pt} : pen p q (l ++ [s]) = b := by
  rw [pen_snoc, Ch_last h]; rfl
/-- what the builder keeps -/
structure Bt (a : Pt) (C : List Pt) : Prop where
  ex : ∃ q l b, C = a :: q :: l ∧ Ch b a q l ∧ 0 ≤ (pen a q l).1 ∧ 0 ≤ (pen a q l).2 ∧ (pen a q l).1 ≤ b.1 ∧ (pen a q l).2 ≤ b.2 ∧ b.1 ≤ 10 ^ 10 ∧ b.2 ≤ 10 ^ 10
abbrev st14 (v0 v1 v2 v3 v4 : Sl) (C : List Pt) (v6 v7 v8 : Sl) (t : Int) (v10 v11 v12 v13 : Sl) : Env := [v0, v1, v2, v3, v4, .lst (C.map PD), v6, v7, v8, .val (.int t), v10, v11, v12, v13]
def bB3 : MS := mSeq (mSet 11 (mBin gIx (mO 5) (mNeg (mC (.int 1)))))
  (mSeq (mSet 12 (mBin gIx (mO 5) (mNeg (mC (.int 2)))))
  (mSeq (mSet 13 (mTup (mCons (mBin (gI (kInt fun i j => i - j)) (mBin (gI kMul) (mV 9) (mBin gIx (mV 11) (mC (.int 0)))) (mBin gIx (mV 12) (mC (.int 0)))) (mCons (mBin (gI (kInt fun i j => i - j)) (mBin (gI kMul) (mV 9) (mBin gIx (mV 11) (mC (.int 1)))) (mBin gIx (mV 12) (mC (.int 1)))) mNil))))
  (mSeq (mIte (mBool (mBin (gI (kBl fun i j => decide (j < i))) (mCall (gII fMax) (mCons (mBin gIx (mV 13) (mC (.int 0))) (mCons (mBin gIx (mV 13) (mC (.int 1))) mNil))) (mBin (gI kPow) (mC (.int 10)) (mC (.int 10))))) mBreak mNext)
  (mSeq (mApp 5 (mV 13))
  (mSet 9 (mC (.int 2)))))))
section
variable {a : Pt} {C : List Pt} {v0 v1 v2 v3 v4 v6 v7 v8 v10 v11 v12 v13 : Sl} {t : Int}
theorem b3_turn (B : Bt a C) (ht : 2 ≤ t) (ht9 : t ≤ 9) (hn : C.length ≤ 10000000) : ∃ w11 w12 w13, (bB3 (st14 v0 v1 v2 v3 v4 C v6 v7 v8 t v10 v11 v12 v13) = .bk (st14 v0 v1 v2 v3 v4 C v6 v7 v8 t v10 w11 w12 w13)) ∨ ∃ s, Bt a (C ++ [s]) ∧ bB3 (st14 v0 v1 v2 v3 v4 C v6 v7 v8 t v10 v11 v12 v13) = .nx (st14 v0 v1 v2 v3 v4 (C ++ [s]) v6 v7 v8 2 v10 w11 w12 w13) := by
  obtain ⟨q, l, b, eC, hch, p1, p2, p3, p4, p5, p6⟩ := B.ex
  obtain ⟨z, hz⟩ : ∃ z, z = pen a q l := ⟨_, rfl⟩
  rw [← hz] at p1 p2 p3 p4
  obtain ⟨s, hs⟩ : ∃ s : Pt, s = (t * b.1 - z.1, t * b.2 - z.2) := ⟨_, rfl⟩
  have g1 : s.1 = t * b.1 - z.1 := by rw [hs]
  have g2 : s.2 = t * b.2 - z.2 := by rw [hs]
  have k1 : 2 * b.1 ≤ t * b.1 := Int.mul_le_mul_of_nonneg_right ht (by omega)
  have k2 : 2 * b.2 ≤ t * b.2 := Int.mul_le_mul_of_nonneg_right ht (by omega)
  have il : gIx (.lst (C.map PD)) (.int (-1)) = some (PD b) := ixL_last (by rw [eC]; exact Ch_last hch)
  have ip : gIx (.lst (C.map PD)) (.int (-2)) = some (PD z) := by rw [eC, hz]; exact ixL_pen
  have st : small t = true := sm_of (by omega) (by omega)
  have s1 : small b.1 = true := sm_of (by omega) (by omega)
  have s2 : small b.2 = true := sm_of (by omega) (by omega)
  have x1 : mSet 11 (mBin gIx (mO 5) (mNeg (mC (.int 1)))) (st14 v0 v1 v2 v3 v4 C v6 v7 v8 t v10 v11 v12 v13) = .nx (st14 v0 v1 v2 v3 v4 C v6 v7 v8 t v10 (.val (PD b)) v12 v13) := s_set (e_bin (e_O rfl) (e_neg e_C) il)
  have x2 : mSet 12 (mBin gIx (mO 5) (mNeg (mC (.int 2)))) (st14 v0 v1 v2 v3 v4 C v6 v7 v8 t v10 (.val (PD b)) v12 v13) = .nx (st14 v0 v1 v2 v3 v4 C v6 v7 v8 t v10 (.val (PD b)) (.val (PD z)) v13) := s_set (e_bin (e_O rfl) (e_neg e_C) ip)
  have x3 : mSet 13 (mTup (mCons (mBin (gI (kInt fun i j => i - j)) (mBin (gI kMul) (mV 9) (mBin gIx (mV 11) (mC (.int 0)))) (mBin gIx (mV 12) (mC (.int 0)))) (mCons (mBin (gI (kInt fun i j => i - j)) (mBin (gI kMul) (mV 9) (mBin gIx (mV 11) (mC (.int 1)))) (mBin gIx (mV 12) (mC (.int 1)))) mNil))) (st14 v0 v1 v2 v3 v4 C v6 v7 v8 t v10 (.val (PD b)) (.val (PD z)) v13) = .nx (st14 v0 v1 v2 v3 v4 C v6 v7 v8 t v10 (.val (PD b)) (.val (PD z)) (.val (PD s))) := by
    refine s_set ((e_tup (e_cons (e_bin (d := .int (t * b.1 - z.1)) (e_bin (d := .int (t * b.1)) (e_V rfl) (e_bin (d := .int b.1) (e_V rfl) e_C rfl) (kMul_ok st s1)) (e_bin (d := .int z.1) (e_V rfl) e_C rfl) rfl) (e_cons (e_bin (d := .int (t * b.2 - z.2)) (e_bin (d := .int (t * b.2)) (e_V rfl) (e_bin (d := .int b.2) (e_V rfl) e_C rfl) (kMul_ok st s2)) (e_bin (d := .int z.2) (e_V rfl) e_C rfl) rfl) e_Nil))).trans ?_)
    rw [hs]
  have pw : gI kPow (.int 10) (.int 10) = some (.int (10 ^ 10)) := by
    show kPow 10 10 = _
    unfold kPow
    rw [if_pos (by decide +kernel)]
    rfl
  have x4 : (mBool (mBin (gI (kBl fun i j => decide (j < i))) (mCall (gII fMax) (mCons (mBin gIx (mV 13) (mC (.int 0))) (mCons (mBin gIx (mV 13) (mC (.int 1))) mNil))) (mBin (gI kPow) (mC (.int 10)) (mC (.int 10))))) (st14 v0 v1 v2 v3 v4 C v6 v7 v8 t v10 (.val (PD b)) (.val (PD z)) (.val (PD s))) = .ok (decide (10 ^ 10 < fMax s.1 s.2)) :=
    e_bool (e_bin (e_call (ds := [.int s.1, .int s.2]) (d := .int (fMax s.1 s.2)) (e_cons (e_bin (e_V rfl) e_C rfl) (e_cons (e_bin (e_V rfl) e_C rfl) e_Nil)) rfl) (e_bin e_C e_C pw) rfl)
  refine ⟨.val (PD b), .val (PD z), .val (PD s), ?_⟩
  by_cases hb : 10 ^ 10 < fMax s.1 s.2
  · left
    unfold bB3
    refine (s_seq x1).trans ((s_seq x2).trans ((s_seq x3).trans (s_seqB ?_)))
    rw [decide_eq_true hb] at x4
    exact s_if1 x4
  · right
    have hb1 : s.1 ≤ 10 ^ 10 ∧ s.2 ≤ 10 ^ 10 := by
      unfold fMax at hb
      split at hb <;> omega
    refine ⟨s, ⟨q, l ++ [s], s, by rw [eC]; rfl, Ch_snoc hch s t ht (by rw [← hz]; exact g1) (by rw [← hz]; exact g2), ?_⟩, ?_⟩
    · rw [pen_last hch]
      exact ⟨by omega, by omega, by omega, by omega, hb1.1, hb1.2⟩
    · unfold bB3
      rw [decide_eq_false hb] at x4
      refine (s_seq x1).trans ((s_seq x2).trans ((s_seq x3).trans ((s_seq (s_if0 x4)).trans ?_)))
      have x5 : mApp 5 (mV 13) (st14 v0 v1 v2 v3 v4 C v6 v7 v8 t v10 (.val (PD b)) (.val (PD z)) (.val (PD s))) = .nx (st14 v0 v1 v2 v3 v4 (C ++ [s]) v6 v7 v8 t v10 (.val (PD b)) (.val (PD z)) (.val (PD s))) := by
        have so : szOk (C.map PD).length = true := by rw [List.length_map]; unfold szOk; exact decide_eq_true hn
        refine x_app.trans ?_
        show (mV 13 _).out _ _ = _
        rw [e_V (d := PD s) rfl, R.out_ok, so, szN_t]
        show Out.nx (st14 v0 v1 v2 v3 v4 C v6 v7 v8 t v10 (.val (PD b)) (.val (PD z)) (.val (PD s)) |>.set 5 (.lst (C.map PD ++ [PD s]))) = _
        rw [← List.map_singleton (f := PD), ← List.map_append]
        rfl
      refine (s_seq x5).trans ?_
      exact s_set e_C
end
end S29

-- S29k
set_option Elab.async false
set_option linter.all false
set_option maxRecDepth 100000
set_option maxHeartbeats 4000000
namespace S29
open Fx G P29
abbrev stB (ns : List Int) (v1 v2 v3 v4 : Sl) (C : List Pt) (v6 : Sl) (rs : List Int) (v8 v9 v10 v11 v12 v13 : Sl) : Env := [.val (.lst (ns.map .int)), v1, v2, v3, v4, .lst (C.map PD), v6, .val (.lst (rs.map .int)), v8, v9, v10, v11, v12, v13]
def bB4 : MS := mSeq (mSet 9 (mC (.int 2)))
  (mSeq (mIte (mBool (mBin (gI (kBl fun i j => decide (j < i))) (mV 8) (mC (.int 0)))) (mSet 9 (mBin gAdd (mC (.int 3)) (mBin (gI kMod) (mDef mf_u_law_cell (mCons (mV 0) (mCons (mBin gAdd (mC (.int 6)) (mV 8)) mNil))) (mC (.int 7))))) mNext)
  (mFor (mRange1 (mBin gAdd (mC (.int 1)) (mBin gIx (mV 7) (mV 8)))) (gSet 10) bB3))
section
variable {ns rs : List Int} {a : Pt} {C : List Pt} {v1 v2 v3 v4 v6 v8 v9 v10 v11 v12 v13 : Sl}
theorem mem_range {n : Int} {d : D} (h : d ∈ rangeD 0 n) : ∃ i : Int, d = .int i := by
  obtain ⟨i, hi⟩ := List.getElem?_of_mem h
  exact ⟨_, (rangeD1_at hi).1⟩
theorem b3_loop {t : Int} {n : Int} (B : Bt a C) (ht : 2 ≤ t) (ht9 : t ≤ 9) (hn : C.length ≤ 10000) (h0 : 0 ≤ n) (h1 : n ≤ 1000) : ∃ C' w9 w10 w11 w12 w13, Bt a C' ∧ C'.length ≤ C.length + n.toNat ∧ forL (gSet 10) bB3 (rangeD 0 n) (stB ns v1 v2 v3 v4 C v6 rs v8 (.val (.int t)) v10 v11 v12 v13) = .nx (stB ns v1 v2 v3 v4 C' v6 rs v8 w9 w10 w11 w12 w13) := by
  have hl : (rangeD 0 n).length = n.toNat := by rw [rangeD_len]; omega
  obtain ⟨ρ', j, e, hj, C', t', w10, w11, w12, w13, B', hc, _, _, rfl⟩ := for_may (g := gSet 10) (body := bB3) (ds := rangeD 0 n) (i := 0)
    (I := fun i ρ => ∃ C' t' w10 w11 w12 w13, Bt a C' ∧ C'.length ≤ C.length + i ∧ 2 ≤ t' ∧ t' ≤ 9 ∧ ρ = stB ns v1 v2 v3 v4 C' v6 rs v8 (.val (.int t')) w10 w11 w12 w13)
    (ρ := stB ns v1 v2 v3 v4 C v6 rs v8 (.val (.int t)) v10 v11 v12 v13) (by
      rintro j ρ d hj ⟨C', t', w10, w11, w12, w13, B', hc, g1, g2, rfl⟩ hd
      obtain ⟨x, rfl⟩ := mem_range hd
      refine ⟨stB ns v1 v2 v3 v4 C' v6 rs v8 (.val (.int t')) (.val (.int x)) w11 w12 w13, rfl, ?_⟩
      obtain ⟨u11, u12, u13, h⟩ := b3_turn (v0 := .val (.lst (ns.map .int))) (v1 := v1) (v2 := v2) (v3 := v3) (v4 := v4) (v6 := v6) (v7 := .val (.lst (rs.map .int))) (v8 := v8) (v10 := .val (.int x)) (v11 := w11) (v12 := w12) (v13 := w13) B' g1 g2 (by rw [hl] at hj; omega)
      rcases h with h | ⟨s, B2, h⟩
      · exact ⟨stB ns v1 v2 v3 v4 C' v6 rs v8 (.val (.int t')) (.val (.int x)) u11 u12 u13, Or.inr ⟨h, C', t', .val (.int x), u11, u12, u13, B', hc, g1, g2, rfl⟩⟩
      · exact ⟨stB ns v1 v2 v3 v4 (C' ++ [s]) v6 rs v8 (.val (.int 2)) (.val (.int x)) u11 u12 u13, Or.inl ⟨h, C' ++ [s], 2, .val (.int x), u11, u12, u13, B2, by simp; omega, by omega, by omega, rfl⟩⟩)
    ⟨C, t, v10, v11, v12, v13, B, by omega, ht, ht9, rfl⟩
  exact ⟨C', .val (.int t'), w10, w11, w12, w13, B', by rw [hl] at hj; omega, e⟩
theorem b4_turn {k : Nat} {r : Int} (B : Bt a C) (hk : k < 4) (hr : rs[k]? = some r) (r0 : 0 ≤ r) (r1 : r ≤ 430) (hn : C.length ≤ 2 + 431 * k) : ∃ C' w9 w10 w11 w12 w13, Bt a C' ∧ C'.length ≤ 2 + 431 * (k + 1) ∧ bB4 (stB ns v1 v2 v3 v4 C v6 rs (.val (.int k)) v9 v10 v11 v12 v13) = .nx (stB ns v1 v2 v3 v4 C' v6 rs (.val (.int k)) w9 w10 w11 w12 w13) := by
  have e1 : mSet 9 (mC (.int 2)) (stB ns v1 v2 v3 v4 C v6 rs (.val (.int k)) v9 v10 v11 v12 v13) = .nx (stB ns v1 v2 v3 v4 C v6 rs (.val (.int k)) (.val (.int 2)) v10 v11 v12 v13) := s_set e_C
  have e2 : ∃ t : Int, 2 ≤ t ∧ t ≤ 9 ∧ mIte (mBool (mBin (gI (kBl fun i j => decide (j < i))) (mV 8) (mC (.int 0)))) (mSet 9 (mBin gAdd (mC (.int 3)) (mBin (gI kMod) (mDef mf_u_law_cell (mCons (mV 0) (mCons (mBin gAdd (mC (.int 6)) (mV 8)) mNil))) (mC (.int 7))))) mNext (stB ns v1 v2 v3 v4 C v6 rs (.val (.int k)) (.val (.int 2)) v10 v11 v12 v13) = .nx (stB ns v1 v2 v3 v4 C v6 rs (.val (.int k)) (.val (.int t)) v10 v11 v12 v13) := by
    have x : mBool (mBin (gI (kBl fun i j => decide (j < i))) (mV 8) (mC (.int 0))) (stB ns v1 v2 v3 v4 C v6 rs (.val (.int k)) (.val (.int 2)) v10 v11 v12 v13) = .ok (decide ((0 : Int) < k)) := e_bool (e_bin (e_V rfl) e_C rfl)
    by_cases h : (0 : Int) < k
    · rw [decide_eq_true h] at x
      have c : mf_u_law_cell [.lst (ns.map .int), .int (6 + k)] = .ok (.int (cell ns (6 + k))) := by
        have : (6 : Int) + k = ((6 + k : Nat) : Int) := by omega
        rw [this]; exact cell_ok
      refine ⟨3 + cell ns (6 + k) % 7, by omega, by omega, (s_if1 x).trans ?_⟩
      exact s_set (e_bin e_C (e_bin (d := .int (cell ns (6 + k) % 7)) (e_def (e_cons (e_V rfl) (e_cons (e_bin (d := .int (6 + k)) e_C (e_V rfl) rfl) e_Nil)) c) e_C (kMod_ok (by omega))) rfl)
    · rw [decide_eq_false h] at x
      exact ⟨2, by omega, by omega, s_if0 x⟩
  obtain ⟨t, t1, t2, e2⟩ := e2
  obtain ⟨C', w9, w10, w11, w12, w13, B', hc, e3⟩ := b3_loop (ns := ns) (rs := rs) (v1 := v1) (v2 := v2) (v3 := v3) (v4 := v4) (v6 := v6) (v8 := .val (.int k)) (v10 := v10) (v11 := v11) (v12 := v12) (v13 := v13) (n := 1 + r) B t1 t2 (by omega) (by omega) (by omega)
  refine ⟨C', w9, w10, w11, w12, w13, B', by omega, ?_⟩
  unfold bB4
  refine (s_seq e1).trans ((s_seq e2).trans ?_)
  have er : mRange1 (mBin gAdd (mC (.int 1)) (mBin gIx (mV 7) (mV 8))) (stB ns v1 v2 v3 v4 C v6 rs (.val (.int k)) (.val (.int t)) v10 v11 v12 v13) = .ok (rangeD 0 (1 + r)) := by
    have ix : gIx (.lst (rs.map .int)) (.int k) = some (.int r) := by
      show ixL (rs.map .int) k = _
      rw [ixL_nat, List.getElem?_map, hr]; rfl
    have hf : farOk (1 + r) = true := by
      have := farOk_len (n := (1 + r).toNat) (by omega)
      have e : (((1 + r).toNat : Nat) : Int) = 1 + r := by omega
      rw [e] at this; exact this
    unfold mRange1
    rw [e_bin (d := .int (1 + r)) e_C (e_bin (e_V rfl) (e_V rfl) ix) rfl, R.bind_ok]
    dsimp only
    rw [if_pos hf]
  unfold mFor
  rw [er, R.out_ok]
  exact e3
theorem b4_loop (B : Bt a C) (hn : C.length ≤ 2) (hr : rs.length = 4) (hm : ∀ r ∈ rs, 0 ≤ r ∧ r ≤ 430) : ∃ C' w8 w9 w10 w11 w12 w13, Bt a C' ∧ C'.length ≤ 2000 ∧ mFor (mRange1 (mC (.int 4))) (gSet 8) bB4 (stB ns v1 v2 v3 v4 C v6 rs v8 v9 v10 v11 v12 v13) = .nx (stB ns v1 v2 v3 v4 C' v6 rs w8 w9 w10 w11 w12 w13) := by
  have hl : (rangeD 0 4).length = 4 := by rw [rangeD_len]; rfl
  obtain ⟨ρ', e, C', w8, w9, w10, w11, w12, w13, B', hc, rfl⟩ := for_all0 (g := gSet 8) (body := bB4) (ds := rangeD 0 4)
    (I := fun i ρ => ∃ C' w8 w9 w10 w11 w12 w13, Bt a C' ∧ C'.length ≤ 2 + 431 * i ∧ ρ = stB ns v1 v2 v3 v4 C' v6 rs w8 w9 w10 w11 w12 w13)
    (ρ := stB ns v1 v2 v3 v4 C v6 rs v8 v9 v10 v11 v12 v13) (by
      rintro i ρ d ⟨C', w8, w9, w10, w11, w12, w13, B', hc, rfl⟩ hd
      obtain ⟨ed, hi⟩ := rangeD1_at hd
      rw [Int.zero_add] at ed
      subst ed
      have hi4 : i < 4 := by omega
      have e := List.getElem?_eq_getElem (l := rs) (i := i) (by omega)
      obtain ⟨q0, q1⟩ := hm _ (List.mem_of_getElem? e)
      obtain ⟨C2, u9, u10, u11, u12, u13, B2, hc2, e2⟩ := b4_turn (ns := ns) (v1 := v1) (v2 := v2) (v3 := v3) (v4 := v4) (v6 := v6) (v9 := w9) (v10 := w10) (v11 := w11) (v12 := w12) (v13 := w13) B' hi4 e q0 q1 hc
      exact ⟨stB ns v1 v2 v3 v4 C' v6 rs (.val (.int i)) w9 w10 w11 w12 w13, rfl, stB ns v1 v2 v3 v4 C2 v6 rs (.val (.int i)) u9 u10 u11 u12 u13, e2, C2, .val (.int i), u9, u10, u11, u12, u13, B2, hc2, rfl⟩)
    ⟨C, v8, v9, v10, v11, v12, v13, B, by omega, rfl⟩
  refine ⟨C', w8, w9, w10, w11, w12, w13, B', by rw [hl] at hc; omega, ?_⟩
  have er : mRange1 (mC (.int 4)) (stB ns v1 v2 v3 v4 C v6 rs v8 v9 v10 v11 v12 v13) = .ok (rangeD 0 4) := by
    unfold mRange1
    rw [e_C, R.bind_ok]
    dsimp only
    rw [if_pos (by decide +kernel)]
  unfold mFor
  rw [er, R.out_ok]
  exact e
end
end S29

-- S29l
set_option Elab.async false
set_option linter.all false
set_option maxRecDepth 100000
set_option maxHeartbeats 4000000
namespace S29
open Fx G P29
theorem small100 {i : Int} (h0 : 0 ≤ i) (h1 : i < 100) : small i = true := sm_of (by omega) (by omega)
theorem built_ok (ns : List Int) : ∃ (a : Pt) (C : List Pt), Bt a C ∧ C.length ≤ 2000 ∧ 0 ≤ a.1 ∧ a.1 < 100 ∧ a.2 = 1 ∧ mf_u_law_built [.lst (ns.map .int)] = .ok (.lst (C.map PD)) := by
  obtain ⟨i, hi⟩ : ∃ i : Int, i = cell ns 1 % 100 := ⟨_, rfl⟩
  obtain ⟨j, hj⟩ : ∃ j : Int, j = cell ns 2 % 100 := ⟨_, rfl⟩
  have i0 : 0 ≤ i := by omega
  have i1 : i < 100 := by omega
  have j0 : 0 ≤ j := by omega
  have j1 : j < 100 := by omega
  have ij0 : 0 ≤ i * j := Int.mul_nonneg i0 j0
  have ij1 : i * j ≤ 100 * 100 := Int.le_trans (Int.mul_le_mul_of_nonneg_left (by omega : j ≤ 100) i0) (Int.mul_le_mul_of_nonneg_right (by omega) (by omega))
  obtain ⟨b, hb⟩ : ∃ b : Pt, b = (i + (1 + i * j), 1 + j) := ⟨_, rfl⟩
  have b1 : b.1 = i + (1 + i * j) := by rw [hb]
  have b2 : b.2 = 1 + j := by rw [hb]
  have hcr : cr b (i, 1) = 1 := by unfold cr; rw [b1, b2]; dsimp only; grind
  have B0 : Bt (i, 1) [(i, 1), b] := ⟨b, [], b, rfl, Ch.last hcr, i0, by show (0 : Int) ≤ 1; omega, by show i ≤ b.1; omega, by show (1 : Int) ≤ b.2; omega, by omega, by omega⟩
  -- the three lists of runs
  let z : Int := cell ns 3
  have CE : ∀ (k : Nat) (ρ : Env), ρ[0]? = some (.val (.lst (ns.map .int))) → mDef mf_u_law_cell (mCons (mV 0) (mCons (mC (.int k)) mNil)) ρ = .ok (.int (cell ns k)) := fun k ρ h => e_def (e_cons (e_V h) (e_cons e_C e_Nil)) cell_ok
  have MD : ∀ (k : Nat) (n : Int) (ρ : Env), 0 < n → ρ[0]? = some (.val (.lst (ns.map .int))) → mBin (gI kMod) (mDef mf_u_law_cell (mCons (mV 0) (mCons (mC (.int k)) mNil))) (mC (.int n)) ρ = .ok (.int (cell ns k % n)) := fun k n ρ hn h => e_bin (CE k ρ h) e_C (kMod_ok hn)
  let V : Sl := .val (.lst (ns.map .int))
  let ρ0 : Env := [V, .no, .no, .no, .no, .no, .no, .no, .no, .no, .no, .no, .no, .no]
  let ρ1 : Env := [V, .val (.int i), .no, .no, .no, .no, .no, .no, .no, .no, .no, .no, .no, .no]
  let ρ2 : Env := [V, .val (.int i), .val (.int j), .no, .no, .no, .no, .no, .no, .no, .no, .no, .no, .no]
  let ρ3 : Env := [V, .val (.int i), .val (.int j), .val (P i 1), .no, .no, .no, .no, .no, .no, .no, .no, .no, .no]
  let ρ4 : Env := [V, .val (.int i), .val (.int j), .val (P i 1), .val (P (1 + i * j) j), .no, .no, .no, .no, .no, .no, .no, .no, .no]
  let ρ5 : Env := [V, .val (.int i), .val (.int j), .val (P i 1), .val (P (1 + i * j) j), .lst ([(i, 1), b].map PD), .no, .no, .no, .no, .no, .no, .no, .no]
  let ρ6 : Env := [V, .val (.int i), .val (.int j), .val (P i 1), .val (P (1 + i * j) j), .lst ([(i, 1), b].map PD), .val (.int z), .no, .no, .no, .no, .no, .no, .no]
  let ρ7 (rs : List Int) : Env := stB ns (.val (.int i)) (.val (.int j)) (.val (P i 1)) (.val (P (1 + i * j) j)) [(i, 1), b] (.val (.int z)) rs .no .no .no .no .no .no
  have x1 : mSet 1 (mBin (gI kMod) (mDef mf_u_law_cell (mCons (mV 0) (mCons (mC (.int 1)) mNil))) (mC (.int 100))) ρ0 = .nx ρ1 := by
    refine (s_set (MD 1 100 ρ0 (by omega) rfl)).trans ?_
    rw [← hi]; rfl
  have x2 : mSet 2 (mBin (gI kMod) (mDef mf_u_law_cell (mCons (mV 0) (mCons (mC (.int 2)) mNil))) (mC (.int 100))) ρ1 = .nx ρ2 := by
    refine (s_set (MD 2 100 ρ1 (by omega) rfl)).trans ?_
    rw [← hj]; rfl
  have x3 : mSet 3 (mTup (mCons (mV 1) (mCons (mC (.int 1)) mNil))) ρ2 = .nx ρ3 := s_set (e_tup (e_cons (e_V rfl) (e_cons e_C e_Nil)))
  have x4 : mSet 4 (mTup (mCons (mBin gAdd (mC (.int 1)) (mBin (gI kMul) (mV 1) (mV 2))) (mCons (mV 2) mNil))) ρ3 = .nx ρ4 := s_set (e_tup (e_cons (e_bin (d := .int (1 + i * j)) e_C (e_bin (d := .int (i * j)) (e_V rfl) (e_V rfl) (kMul_ok (small100 i0 i1) (small100 j0 j1))) rfl) (e_cons (e_V rfl) e_Nil)))
  have x5 : mSetO 5 (mLst (mCons (mV 3) (mCons (mTup (mCons (mBin gAdd (mBin gIx (mV 3) (mC (.int 0))) (mBin gIx (mV 4) (mC (.int 0)))) (mCons (mBin gAdd (mBin gIx (mV 3) (mC (.int 1))) (mBin gIx (mV 4) (mC (.int 1)))) mNil))) mNil))) ρ4 = .nx ρ5 := by
    refine (s_setO (e_lst (e_cons (e_V rfl) (e_cons (e_tup (e_cons (e_bin (d := .int (i + (1 + i * j))) (e_bin (e_V rfl) e_C rfl) (e_bin (e_V rfl) e_C rfl) rfl) (e_cons (e_bin (d := .int (1 + j)) (e_bin (e_V rfl) e_C rfl) (e_bin (e_V rfl) e_C rfl) rfl) e_Nil))) e_Nil)))).trans ?_
    show _ = Out.nx ρ5
    have : PD b = P (i + (1 + i * j)) (1 + j) := by rw [hb]
    show _ = Out.nx [V, .val (.int i), .val (.int j), .val (P i 1), .val (P (1 + i * j) j), .lst [PD (i, 1), PD b], .no, .no, .no, .no, .no, .no, .no, .no]
    rw [this]
    rfl
  have x6 : mSet 6 (mDef mf_u_law_cell (mCons (mV 0) (mCons (mC (.int 3)) mNil))) ρ5 = .nx ρ6 := s_set (CE 3 ρ5 rfl)
  have x7 : mSet 7 (mLst (mCons (mBin (gI kMod) (mV 6) (mC (.int 431))) (mCons (mC (.int 0)) (mCons (mBin (gI kMod) (mDef mf_u_law_cell (mCons (mV 0) (mCons (mC (.int 4)) mNil))) (mC (.int 7))) (mCons (mC (.int 0)) mNil))))) ρ6 = .nx (ρ7 [z % 431, 0, cell ns 4 % 7, 0]) :=
    s_set (e_lst (e_cons (e_bin (d := .int (z % 431)) (e_V rfl) e_C (kMod_ok (by omega))) (e_cons e_C (e_cons (MD 4 7 ρ6 (by omega) rfl) (e_cons e_C e_Nil)))))
  have c8 : ∀ (rs : List Int) (m : Int), mBool (mBin gEq (mBin (gI kMod) (mDef mf_u_law_cell (mCons (mV 0) (mCons (mC (.int 0)) mNil))) (mC (.int 8))) (mC (.int m))) (ρ7 rs) = .ok (cell ns 0 % 8 == m) := fun rs m => e_bool (e_bin (MD 0 8 (ρ7 rs) (by omega) rfl) e_C gEq_int)
  have x8 : ∀ rs : List Int, rs.length = 4 → (∀ r ∈ rs, 0 ≤ r ∧ r ≤ 430) → ∃ rs' : List Int, rs'.length = 4 ∧ (∀ r ∈ rs', 0 ≤ r ∧ r ≤ 430) ∧ mIte (mBool (mBin gEq (mBin (gI kMod) (mDef mf_u_law_cell (mCons (mV 0) (mCons (mC (.int 0)) mNil))) (mC (.int 8))) (mC (.int 3)))) (mSet 7 (mLst (mCons (mBin (gI kMod) (mV 6) (mC (.int 12))) (mCons (mBin (gI kMod) (mBin (gI kDiv) (mV 6) (mC (.int 12))) (mC (.int 5))) (mCons (mBin (gI kMod) (mDef mf_u_law_cell (mCons (mV 0) (mCons (mC (.int 4)) mNil))) (mC (.int 7))) (mCons (mC (.int 2)) mNil)))))) mNext (ρ7 rs) = .nx (ρ7 rs') := by
    intro rs h1 h2
    cases h : (cell ns 0 % 8 == 3) with
    | false => exact ⟨rs, h1, h2, s_if0 ((c8 rs 3).trans (by rw [h]))⟩
    | true =>
      refine ⟨[z % 12, z / 12 % 5, cell ns 4 % 7, 2], rfl, ?_, (s_if1 ((c8 rs 3).trans (by rw [h]))).trans ?_⟩
      · intro r hr
        simp only [List.mem_cons, List.not_mem_nil, or_false] at hr
        omega
      · exact s_set (e_lst (e_cons (e_bin (d := .int (z % 12)) (e_V rfl) e_C (kMod_ok (by omega))) (e_cons (e_bin (d := .int (z / 12 % 5)) (e_bin (d := .int (z / 12)) (e_V rfl) e_C (kDiv_ok (by omega) (sm_of (by omega) (by omega)))) e_C (kMod_ok (by omega))) (e_cons (MD 4 7 (ρ7 rs) (by omega) rfl) (e_cons e_C e_Nil)))))
  have x9 : ∀ rs : List Int, rs.length = 4 → (∀ r ∈ rs, 0 ≤ r ∧ r ≤ 430) → ∃ rs' : List Int, rs'.length = 4 ∧ (∀ r ∈ rs', 0 ≤ r ∧ r ≤ 430) ∧ mIte (mBool (mBin gEq (mBin (gI kMod) (mDef mf_u_law_cell (mCons (mV 0) (mCons (mC (.int 0)) mNil))) (mC (.int 8))) (mC (.int 4)))) (mSet 7 (mLst (mCons (mBin gAdd (mC (.int 393)) (mBin (gI kMod) (mV 6) (mC (.int 3)))) (mCons (mC (.int 0)) (mCons (mC (.int 0)) (mCons (mC (.int 0)) mNil)))))) mNext (ρ7 rs) = .nx (ρ7 rs') := by
    intro rs h1 h2
    cases h : (cell ns 0 % 8 == 4) with
    | false => exact ⟨rs, h1, h2, s_if0 ((c8 rs 4).trans (by rw [h]))⟩
    | true =>
      refine ⟨[393 + z % 3, 0, 0, 0], rfl, ?_, (s_if1 ((c8 rs 4).trans (by rw [h]))).trans ?_⟩
      · intro r hr
        simp only [List.mem_cons, List.not_mem_nil, or_false] at hr
        omega
      · exact s_set (e_lst (e_cons (e_bin (d := .int (393 + z % 3)) e_C (e_bin (d := .int (z % 3)) (e_V rfl) e_C (kMod_ok (by omega))) rfl) (e_cons e_C (e_cons e_C (e_cons e_C e_Nil)))))
  obtain ⟨r1, l1, m1, y8⟩ := x8 [z % 431, 0, cell ns 4 % 7, 0] rfl (by
    intro r hr
    simp only [List.mem_cons, List.not_mem_nil, or_false] at hr
    omega)
  obtain ⟨r2, l2, m2, y9⟩ := x9 r1 l1 m1
  obtain ⟨C', w8, w9, w10, w11, w12, w13, B', hc, y10⟩ := b4_loop (ns := ns) (rs := r2) (v1 := .val (.int i)) (v2 := .val (.int j)) (v3 := .val (P i 1)) (v4 := .val (P (1 + i * j) j)) (v6 := .val (.int z)) (v8 := .no) (v9 := .no) (v10 := .no) (v11 := .no) (v12 := .no) (v13 := .no) B0 (by simp) l2 m2
  refine ⟨(i, 1), C', B', hc, i0, i1, rfl, ?_⟩
  have : m_u_law_built ρ0 = .rt (.lst (C'.map PD)) := by
    unfold m_u_law_built
    exact (s_seq x1).trans ((s_seq x2).trans ((s_seq x3).trans ((s_seq x4).trans ((s_seq x5).trans ((s_seq x6).trans ((s_seq x7).trans ((s_seq y8).trans ((s_seq y9).trans ((s_seq y10).trans rfl)))))))))
  show (m_u_law_built ρ0).res false = _
  rw [this]; rfl
end S29

-- S29m
set_option Elab.async false
set_option linter.all false
set_option maxRecDepth 100000
set_option maxHeartbeats 4000000
namespace S29
open Fx G P29
theorem prim_size {e at_ : D} {ds : List D} (he : seqD e = some ds) (h : ds.length ≠ 2) : mf_u_primitive [e, at_] = .err ⟨"SizeError", [("count", .int ds.length)]⟩ := by
  have h := look_list_err (a := 2) (b := 2) he (by omega)
  simp [mf_u_primitive, m_u_primitive, N_u_primitive, mf_look_pair, m_look_pair, N_look_pair, mf_look_numbers, m_look_numbers, N_look_numbers, h]
theorem prim_n1 {e at_ : D} {x y : Int} (he : seqD e = some [.int x, .int y]) (h : x < 0 ∨ 1000000000000 < x) : mf_u_primitive [e, at_] = .err ⟨"NumberError", [("number", .int x)]⟩ := by
  have h1 := look_list_ok (a := 2) (b := 2) he (by simp) (by simp)
  have h2 := look_number_err h
  simp [mf_u_primitive, m_u_primitive, N_u_primitive, mf_look_pair, m_look_pair, N_look_pair, mf_look_numbers, m_look_numbers, N_look_numbers, h1, h2, forL]
theorem prim_n2 {e at_ : D} {x y : Int} (he : seqD e = some [.int x, .int y]) (g1 : 0 ≤ x) (g2 : x ≤ 1000000000000) (h : y < 0 ∨ 1000000000000 < y) : mf_u_primitive [e, at_] = .err ⟨"NumberError", [("number", .int y)]⟩ := by
  have h1 := look_list_ok (a := 2) (b := 2) he (by simp) (by simp)
  have h2 := look_number_err h
  have h3 := look_number_ok g1 g2
  simp [mf_u_primitive, m_u_primitive, N_u_primitive, mf_look_pair, m_look_pair, N_look_pair, mf_look_numbers, m_look_numbers, N_look_numbers, h1, h2, h3, forL]
/-- two directions, and the lowest of each -/
structure Drs (low high a b : Pt) : Prop where
  l : ∀ e at_ : D, seqD e = some [.int low.1, .int low.2] → mf_u_primitive [e, at_] = .ok (PD a)
  h : ∀ e at_ : D, seqD e = some [.int high.1, .int high.2] → mf_u_primitive [e, at_] = .ok (PD b)
  E : Ends29 a b
section
variable {low high a b : Pt}
theorem turn_cr {p q : Pt} (h1 : 0 ≤ p.1 ∧ p.1 ≤ coin) (h2 : 0 ≤ p.2 ∧ p.2 ≤ coin) (h3 : 0 ≤ q.1 ∧ q.1 ≤ coin) (h4 : 0 ≤ q.2 ∧ q.2 ≤ coin) : mf_turn [PD p, PD q] = .ok (.int (cr p q)) := by
  have hc : coin = 1000000000000 := rfl
  exact turn_ok ⟨by omega, by omega⟩ ⟨by omega, by omega⟩ ⟨by omega, by omega⟩ ⟨by omega, by omega⟩
theorem cr_neg (p q : Pt) : cr p q = - cr q p := by unfold cr; grind
abbrev NN (m k : D) : Prop := (m = .non ∧ k = .int 400) ∨ (∃ i, m = .int i) ∧ k = m
theorem nn_non : NN .non (.int 400) := Or.inl ⟨rfl, rfl⟩
theorem nn_int {i : Int} : NN (.int i) (.int i) := Or.inr ⟨⟨i, rfl⟩, rfl⟩
theorem nn_ex (m : D) (h : m = .non ∨ ∃ i, m = .int i) : ∃ k, NN m k := by
  rcases h with h | ⟨i, h⟩
  · exact ⟨_, Or.inl ⟨h, rfl⟩⟩
  · exact ⟨m, Or.inr ⟨⟨i, h⟩, rfl⟩⟩
/-- flat: the two the wrong way round, or one -/
theorem flat_of {l h m k : D} {p q : Pt} {i : Int} (nn : NN m k) (e : k = .int i) (i0 : 0 ≤ i) (i1 : i ≤ 400) (h1 : mf_u_primitive [l, .int 0] = .ok (PD p)) (h2 : mf_u_primitive [h, .int 1] = .ok (PD q)) (t : mf_turn [PD q, PD p] = .ok (.int (cr q p))) (n : cr q p ≤ 0) : mf_u_law_refuses [l, h, m, .str "flat", .int 0] = .ok (.bl true) := by
  subst e
  exact refuses_err nn (cone_err4 h1 h2 (look_most_ok i0 i1) t n) t_flat
theorem most_of {l h : D} {p q : Pt} {i : Int} (hi : i < 0 ∨ 400 < i) (h1 : mf_u_primitive [l, .int 0] = .ok (PD p)) (h2 : mf_u_primitive [h, .int 1] = .ok (PD q)) : mf_u_law_refuses [l, h, .int i, .str "number", .int i] = .ok (.bl true) :=
  refuses_err nn_int (cone_err3 h1 h2 (look_most_err hi)) t_number
theorem first_of {l h m : D} {x : Exn} {s : PySem.Str} {n : Int} (hm : m = .non ∨ ∃ i, m = .int i) (h1 : mf_u_primitive [l, .int 0] = .err x) (t : Tells x s n) : mf_u_law_refuses [l, h, m, .str s, .int n] = .ok (.bl true) := by
  obtain ⟨k, nn⟩ := nn_ex m hm
  exact refuses_err nn (cone_err1 h1) t
theorem second_of {l h m a : D} {x : Exn} {s : PySem.Str} {n : Int} (hm : m = .non ∨ ∃ i, m = .int i) (h1 : mf_u_primitive [l, .int 0] = .ok a) (h2 : mf_u_primitive [h, .int 1] = .err x) (t : Tells x s n) : mf_u_law_refuses [l, h, m, .str s, .int n] = .ok (.bl true) := by
  obtain ⟨k, nn⟩ := nn_ex m hm
  exact refuses_err nn (cone_err2 h1 h2) t
end
end S29

-- S29n
set_option Elab.async false
set_option linter.all false
set_option maxRecDepth 100000
set_option maxHeartbeats 4000000
namespace S29
open Fx G P29
def bE : MS := mIte (mNot (mTru (mDef mf_u_law_refuses (mCons (mBin gIx (mV 4) (mC (.int 0))) (mCons (mBin gIx (mV 4) (mC (.int 1))) (mCons (mBin gIx (mV 4) (mC (.int 2))) (mCons (mBin gIx (mV 4) (mC (.int 3))) (mCons (mBin gIx (mV 4) (mC (.int 4))) mNil)))))))) (mRet (mC (.bl false))) mNext
/-- one row of the refusals -/
def row5 (l h m : D) (s : PySem.Str) (n : Int) : D := .tup [l, h, m, .str s, .int n]
def Told (d : D) : Prop := ∃ l h m s n, d = row5 l h m s n ∧ mf_u_law_refuses [l, h, m, .str s, .int n] = .ok (.bl true)
theorem e_turn {v0 v1 v2 v3 : Sl} {d : D} (t : Told d) : bE [v0, v1, v2, v3, .val d] = .nx [v0, v1, v2, v3, .val d] := by
  obtain ⟨l, h, m, s, n, rfl, e⟩ := t
  exact s_if0 (e_not (b := true) (e_tru (d := .bl true) (e_def (ds := [l, h, m, .str s, .int n]) rfl e) rfl))
theorem e_loop {v0 v1 v2 v3 v4 : Sl} {rows : List D} (h : ∀ d ∈ rows, Told d) : ∃ ρ', forL (gSet 4) bE rows [v0, v1, v2, v3, v4] = .nx ρ' := by
  obtain ⟨ρ', e, _⟩ := for_all0 (g := gSet 4) (body := bE) (ds := rows) (ρ := [v0, v1, v2, v3, v4]) (I := fun _ ρ => ∃ u, ρ = [v0, v1, v2, v3, u]) (by
    rintro i ρ d ⟨u, rfl⟩ hd
    exact ⟨[v0, v1, v2, v3, .val d], rfl, [v0, v1, v2, v3, .val d], e_turn (h d (List.mem_of_getElem? hd)), ⟨.val d, rfl⟩⟩) ⟨v4, rfl⟩
  exact ⟨ρ', e⟩
abbrev c12 : Int := 1000000000000
def rowsE (low high : D) : List D :=
  [row5 (P 0 0) (P 0 0) (.int (-1)) "row" 0, row5 (.lst [.int 0, .int 0]) (.tup [.int (c12 + 1)]) .non "row" 0,
   row5 low (P 0 0) (.int 401) "row" 1, row5 (.tup []) (P 0 0) .non "size" 0, row5 (.lst [.int (c12 + 1), .int (-1), .int 0]) high .non "size" 3,
   row5 (P (c12 + 1) (-1)) (P 0 0) .non "number" (c12 + 1), row5 (P (-1) (c12 + 1)) high .non "number" (-1), row5 (P 0 (c12 + 1)) high (.int 0) "number" (c12 + 1),
   row5 low (P (c12 + 1) 0) (.int (-1)) "number" (c12 + 1), row5 low (.lst [.int 0, .int (-1)]) .non "number" (-1), row5 low (.tup [.int 1]) (.int 401) "size" 1,
   row5 low high (.int (-1)) "number" (-1), row5 low high (.int 401) "number" 401, row5 high low (.int (-1)) "number" (-1), row5 high low (.int 0) "flat" 0,
   row5 high low .non "flat" 0, row5 low low .non "flat" 0, row5 (P 2 3) (.lst [.int 4, .int 6]) .non "flat" 0,
   row5 (P 0 c12) (P c12 0) (.int 2) "let" 0, row5 (P c12 0) (P 0 1) (.int 2) "flat" 0]
theorem pow12 {ρ : Env} : mBin (gI kPow) (mC (.int 10)) (mC (.int 12)) ρ = .ok (.int c12) := by
  refine e_bin e_C e_C ?_
  show kPow 10 12 = _
  unfold kPow
  rw [if_pos (by decide +kernel)]
  rfl
theorem s_app {ρ : Env} {i : Nat} {m : ME} {d : D} {ds : List D} (hi : ρ[i]? = some (.lst ds)) (h : m ρ = .ok d) (so : szOk ds.length = true) : mApp i m ρ = .nx (ρ.set i (.lst (ds ++ [d]))) := by
  unfold mApp
  rw [hi]
  dsimp only
  rw [h, R.out_ok, so]
  rfl
end S29

-- S29o
set_option Elab.async false
set_option linter.all false
set_option maxRecDepth 100000
set_option maxHeartbeats 4000000
namespace S29
open Fx G P29
section
variable {low high a b : Pt}
theorem told_of {l h m : D} {s : PySem.Str} {n : Int} (e : mf_u_law_refuses [l, h, m, .str s, .int n] = .ok (.bl true)) : Told (row5 l h m s n) := ⟨l, h, m, s, n, rfl, e⟩
theorem told_E (R : Drs low high a b) : (∀ d ∈ (rowsE (PD low) (PD high)).take 11, Told d) := by
  have L := fun at_ => R.l (PD low) at_ rfl
  have Hh := fun at_ => R.h (PD high) at_ rfl
  intro d hd
  simp only [rowsE, List.take_succ_cons, List.take_zero, List.mem_cons, List.not_mem_nil, or_false] at hd
  rcases hd with rfl | rfl | rfl | rfl | rfl | rfl | rfl | rfl | rfl | rfl | rfl
  · exact told_of (first_of (Or.inr ⟨_, rfl⟩) (primitive_zero (x := 0) (y := 0) rfl) t_row)
  · exact told_of (first_of (Or.inl rfl) (primitive_zero (x := 0) (y := 0) rfl) t_row)
  · exact told_of (second_of (Or.inr ⟨_, rfl⟩) (L _) (primitive_zero (x := 0) (y := 0) rfl) t_row)
  · exact told_of (first_of (Or.inl rfl) (prim_size (ds := []) rfl (by decide)) t_size)
  · exact told_of (first_of (Or.inl rfl) (prim_size (ds := [.int (c12 + 1), .int (-1), .int 0]) rfl (by decide)) t_size)
  · exact told_of (first_of (Or.inl rfl) (prim_n1 rfl (by decide)) t_number)
  · exact told_of (first_of (Or.inl rfl) (prim_n1 rfl (by decide)) t_number)
  · exact told_of (first_of (Or.inr ⟨_, rfl⟩) (prim_n2 rfl (by decide) (by decide) (by decide)) t_number)
  · exact told_of (second_of (Or.inr ⟨_, rfl⟩) (L _) (prim_n1 rfl (by decide)) t_number)
  · exact told_of (second_of (Or.inl rfl) (L _) (prim_n2 rfl (by decide) (by decide) (by decide)) t_number)
  · exact told_of (second_of (Or.inr ⟨_, rfl⟩) (L _) (prim_size (ds := [.int 1]) rfl (by decide)) t_size)
end
end S29

-- S29p
set_option Elab.async false
set_option linter.all false
set_option maxRecDepth 100000
set_option maxHeartbeats 4000000
namespace S29
open Fx G P29
section
variable {low high a b : Pt}
theorem told_F (R : Drs low high a b) : (∀ d ∈ ((rowsE (PD low) (PD high)).drop 11).take 6, Told d) := by
  have L := fun at_ => R.l (PD low) at_ rfl
  have Hh := fun at_ => R.h (PD high) at_ rfl
  have E := R.E
  have A1 : 0 ≤ a.1 ∧ a.1 ≤ coin := ⟨E.a1, E.a1'⟩
  have A2 : 0 ≤ a.2 ∧ a.2 ≤ coin := ⟨Int.le_of_lt E.a2, E.a2'⟩
  have B1 : 0 ≤ b.1 ∧ b.1 ≤ coin := ⟨E.b1, E.b1'⟩
  have B2 : 0 ≤ b.2 ∧ b.2 ≤ coin := ⟨E.b2, E.b2'⟩
  have n := E.n
  have n2 : cr a b ≤ 0 := by rw [cr_neg]; omega
  have n3 : cr a a ≤ 0 := by rw [cr_self]; omega
  intro d hd
  simp only [rowsE, List.drop_succ_cons, List.drop_zero, List.take_succ_cons, List.take_zero, List.mem_cons, List.not_mem_nil, or_false] at hd
  rcases hd with rfl | rfl | rfl | rfl | rfl | rfl
  · exact told_of (most_of (by decide) (L _) (Hh _))
  · exact told_of (most_of (by decide) (L _) (Hh _))
  · exact told_of (most_of (by decide) (Hh _) (L _))
  · exact told_of (flat_of nn_int rfl (by decide) (by decide) (Hh _) (L _) (turn_cr A1 A2 B1 B2) n2)
  · exact told_of (flat_of nn_non rfl (by decide) (by decide) (Hh _) (L _) (turn_cr A1 A2 B1 B2) n2)
  · exact told_of (flat_of nn_non rfl (by decide) (by decide) (L _) (L _) (turn_cr A1 A2 A1 A2) n3)
end
end S29

-- S29q
set_option Elab.async false
set_option linter.all false
set_option maxRecDepth 100000
set_option maxHeartbeats 4000000
namespace S29
open Fx G P29
theorem prim_is {e at_ : D} {x y g u v : Int} (he : seqD e = some [.int x, .int y]) (hx : 0 ≤ x ∧ x ≤ 1000000000000 ∧ 0 ≤ y ∧ y ≤ 1000000000000 ∧ (x ≠ 0 ∨ y ≠ 0)) (hg : fGcd x y = g) (hu : x / g = u) (hv : y / g = v) : mf_u_primitive [e, at_] = .ok (PD (u, v)) := by
  have := primitive_ok (at_ := at_) he hx.1 hx.2.1 hx.2.2.1 hx.2.2.2.1 hx.2.2.2.2
  rw [hg, hu, hv] at this
  exact this
theorem told_18 : Told (row5 (P 2 3) (.lst [.int 4, .int 6]) .non "flat" 0) := by
  have h1 : ∀ at_ : D, mf_u_primitive [P 2 3, at_] = .ok (PD (2, 3)) := fun _ => prim_is (g := 1) rfl (by decide) (by decide +kernel) (by decide) (by decide)
  have h2 : ∀ at_ : D, mf_u_primitive [.lst [.int 4, .int 6], at_] = .ok (PD (2, 3)) := fun _ => prim_is (g := 2) rfl (by decide) (by decide +kernel) (by decide) (by decide)
  exact told_of (flat_of nn_non rfl (by decide) (by decide) (h1 _) (h2 _) (turn_cr (by decide) (by decide) (by decide) (by decide)) (by decide))
theorem told_20 : Told (row5 (P c12 0) (P 0 1) (.int 2) "flat" 0) := by
  have h1 : ∀ at_ : D, mf_u_primitive [P c12 0, at_] = .ok (PD (1, 0)) := fun _ => prim_is (g := c12) rfl (by decide) (by decide +kernel) (by decide) (by decide)
  have h2 : ∀ at_ : D, mf_u_primitive [P 0 1, at_] = .ok (PD (0, 1)) := fun _ => prim_is (g := 1) rfl (by decide) (by decide +kernel) (by decide) (by decide)
  exact told_of (flat_of nn_int rfl (by decide) (by decide) (h1 _) (h2 _) (turn_cr (by decide) (by decide) (by decide) (by decide)) (by decide))
end S29

-- S29r
set_option Elab.async false
set_option linter.all false
set_option maxRecDepth 100000
set_option maxHeartbeats 4000000
namespace S29
open Fx G P29
theorem told_19 : Told (row5 (P 0 c12) (P c12 0) (.int 2) "let" 0) := by
  have h1 : ∀ at_ : D, mf_u_primitive [P 0 c12, at_] = .ok (PD (0, 1)) := fun _ => prim_is (g := c12) rfl (by decide) (by decide +kernel) (by decide) (by decide)
  have h2 : ∀ at_ : D, mf_u_primitive [P c12 0, at_] = .ok (PD (1, 0)) := fun _ => prim_is (g := c12) rfl (by decide) (by decide +kernel) (by decide) (by decide)
  have pb : Prim (1, 0) := by
    intro m q hm e
    have e1 : 1 = m * q.1 := congrArg Prod.fst e
    exact Int.eq_one_of_mul_eq_one_right (Int.le_of_lt hm) e1.symm
  have E : Ends29 (0, 1) (1, 0) := ⟨by decide, by decide, by decide, by decide, by decide, by decide, by decide, by decide, by decide, pb, by decide⟩
  obtain ⟨p, e, T⟩ := second_ok E.a1 E.a1' E.a2 E.a2' E.b1 E.b1' E.b2 E.b2' E.ga E.n
  have z : cr (1, 0) p = 0 := by
    have t1 := T.nn
    have t2 := T.lt
    have : cr (1, 0) (0, 1) = 1 := by decide
    omega
  have ep := T.end_ pb z
  have hC : ∀ F : Nat, cr (1, 0) p < F → hj (1, 0) F (0, 1) p = [(0, 1), (1, 0)] := by
    intro F _
    rw [ep]
    cases F <;> rfl
  have c := cone_ok (most := 2) E (by decide) (by decide) T (h1 _) (h2 _) e hC
  rw [if_pos (by decide)] at c
  exact told_of (refuses_ok (by decide +kernel) (refusal_let nn_int c))
end S29

-- S29s
set_option Elab.async false
set_option linter.all false
set_option maxRecDepth 100000
set_option maxHeartbeats 4000000
namespace S29
open Fx G P29
abbrev stE (low high : D) (k : Nat) : Env := [.val low, .val high, .val (.int c12), .lst ((rowsE low high).take k), .no]
section
variable {low high : D}
theorem er1 : (mSetO 3 (mLst (mCons (mTup (mCons (mTup (mCons (mC (.int 0)) (mCons (mC (.int 0)) mNil))) (mCons (mTup (mCons (mC (.int 0)) (mCons (mC (.int 0)) mNil))) (mCons (mNeg (mC (.int 1))) (mCons (mC (.str "row")) (mCons (mC (.int 0)) mNil)))))) (mCons (mTup (mCons (mLst (mCons (mC (.int 0)) (mCons (mC (.int 0)) mNil))) (mCons (mTup (mCons (mBin gAdd (mV 2) (mC (.int 1))) mNil)) (mCons (mC .non) (mCons (mC (.str "row")) (mCons (mC (.int 0)) mNil)))))) mNil)))) [.val low, .val high, .val (.int c12), .no, .no] = .nx (stE low high 2) := by rfl
theorem er2 : (mApp 3 (mTup (mCons (mV 0) (mCons (mTup (mCons (mC (.int 0)) (mCons (mC (.int 0)) mNil))) (mCons (mC (.int 401)) (mCons (mC (.str "row")) (mCons (mC (.int 1)) mNil))))))) (stE low high 2) = .nx (stE low high 3) := by rfl
theorem er3 : (mApp 3 (mTup (mCons (mTup mNil) (mCons (mTup (mCons (mC (.int 0)) (mCons (mC (.int 0)) mNil))) (mCons (mC .non) (mCons (mC (.str "size")) (mCons (mC (.int 0)) mNil))))))) (stE low high 3) = .nx (stE low high 4) := by rfl
theorem er4 : (mApp 3 (mTup (mCons (mLst (mCons (mBin gAdd (mV 2) (mC (.int 1))) (mCons (mNeg (mC (.int 1))) (mCons (mC (.int 0)) mNil)))) (mCons (mV 1) (mCons (mC .non) (mCons (mC (.str "size")) (mCons (mC (.int 3)) mNil))))))) (stE low high 4) = .nx (stE low high 5) := by rfl
theorem er5 : (mApp 3 (mTup (mCons (mTup (mCons (mBin gAdd (mV 2) (mC (.int 1))) (mCons (mNeg (mC (.int 1))) mNil))) (mCons (mTup (mCons (mC (.int 0)) (mCons (mC (.int 0)) mNil))) (mCons (mC .non) (mCons (mC (.str "number")) (mCons (mBin gAdd (mV 2) (mC (.int 1))) mNil))))))) (stE low high 5) = .nx (stE low high 6) := by rfl
theorem er6 : (mApp 3 (mTup (mCons (mTup (mCons (mNeg (mC (.int 1))) (mCons (mBin gAdd (mV 2) (mC (.int 1))) mNil))) (mCons (mV 1) (mCons (mC .non) (mCons (mC (.str "number")) (mCons (mNeg (mC (.int 1))) mNil))))))) (stE low high 6) = .nx (stE low high 7) := by rfl
theorem er7 : (mApp 3 (mTup (mCons (mTup (mCons (mC (.int 0)) (mCons (mBin gAdd (mV 2) (mC (.int 1))) mNil))) (mCons (mV 1) (mCons (mC (.int 0)) (mCons (mC (.str "number")) (mCons (mBin gAdd (mV 2) (mC (.int 1))) mNil))))))) (stE low high 7) = .nx (stE low high 8) := by rfl
theorem er8 : (mApp 3 (mTup (mCons (mV 0) (mCons (mTup (mCons (mBin gAdd (mV 2) (mC (.int 1))) (mCons (mC (.int 0)) mNil))) (mCons (mNeg (mC (.int 1))) (mCons (mC (.str "number")) (mCons (mBin gAdd (mV 2) (mC (.int 1))) mNil))))))) (stE low high 8) = .nx (stE low high 9) := by rfl
theorem er9 : (mApp 3 (mTup (mCons (mV 0) (mCons (mLst (mCons (mC (.int 0)) (mCons (mNeg (mC (.int 1))) mNil))) (mCons (mC .non) (mCons (mC (.str "number")) (mCons (mNeg (mC (.int 1))) mNil))))))) (stE low high 9) = .nx (stE low high 10) := by rfl
theorem er10 : (mApp 3 (mTup (mCons (mV 0) (mCons (mTup (mCons (mC (.int 1)) mNil)) (mCons (mC (.int 401)) (mCons (mC (.str "size")) (mCons (mC (.int 1)) mNil))))))) (stE low high 10) = .nx (stE low high 11) := by rfl
theorem er11 : (mSetO 3 (mBin gCat (mO 3) (mLst (mCons (mTup (mCons (mV 0) (mCons (mV 1) (mCons (mNeg (mC (.int 1))) (mCons (mC (.str "number")) (mCons (mNeg (mC (.int 1))) mNil)))))) (mCons (mTup (mCons (mV 0) (mCons (mV 1) (mCons (mC (.int 401)) (mCons (mC (.str "number")) (mCons (mC (.int 401)) mNil)))))) mNil))))) (stE low high 11) = .nx (stE low high 13) := by rfl
theorem er12 : (mSetO 3 (mBin gCat (mO 3) (mLst (mCons (mTup (mCons (mV 1) (mCons (mV 0) (mCons (mNeg (mC (.int 1))) (mCons (mC (.str "number")) (mCons (mNeg (mC (.int 1))) mNil)))))) (mCons (mTup (mCons (mV 1) (mCons (mV 0) (mCons (mC (.int 0)) (mCons (mC (.str "flat")) (mCons (mC (.int 0)) mNil)))))) mNil))))) (stE low high 13) = .nx (stE low high 15) := by rfl
theorem er13 : (mSetO 3 (mBin gCat (mO 3) (mLst (mCons (mTup (mCons (mV 1) (mCons (mV 0) (mCons (mC .non) (mCons (mC (.str "flat")) (mCons (mC (.int 0)) mNil)))))) (mCons (mTup (mCons (mV 0) (mCons (mV 0) (mCons (mC .non) (mCons (mC (.str "flat")) (mCons (mC (.int 0)) mNil)))))) mNil))))) (stE low high 15) = .nx (stE low high 17) := by rfl
theorem er14 : (mApp 3 (mTup (mCons (mTup (mCons (mC (.int 2)) (mCons (mC (.int 3)) mNil))) (mCons (mLst (mCons (mC (.int 4)) (mCons (mC (.int 6)) mNil))) (mCons (mC .non) (mCons (mC (.str "flat")) (mCons (mC (.int 0)) mNil))))))) (stE low high 17) = .nx (stE low high 18) := by rfl
theorem er15 : (mFrz 3) (stE low high 18) = .nx [.val low, .val high, .val (.int c12), .val (.lst ((rowsE low high).take 18)), .no] := by rfl
theorem er16 : (mSet 3 (mBin gAdd (mV 3) (mLst (mCons (mTup (mCons (mTup (mCons (mC (.int 0)) (mCons (mV 2) mNil))) (mCons (mTup (mCons (mV 2) (mCons (mC (.int 0)) mNil))) (mCons (mC (.int 2)) (mCons (mC (.str "let")) (mCons (mC (.int 0)) mNil)))))) (mCons (mTup (mCons (mTup (mCons (mV 2) (mCons (mC (.int 0)) mNil))) (mCons (mTup (mCons (mC (.int 0)) (mCons (mC (.int 1)) mNil))) (mCons (mC (.int 2)) (mCons (mC (.str "flat")) (mCons (mC (.int 0)) mNil)))))) mNil))))) [.val low, .val high, .val (.int c12), .val (.lst ((rowsE low high).take 18)), .no] = .nx [.val low, .val high, .val (.int c12), .val (.lst (rowsE low high)), .no] := by rfl
theorem errors_of (h : ∀ d ∈ rowsE low high, Told d) : mf_u_law_errors [low, high] = .ok (.bl true) := by
  obtain ⟨ρ', e⟩ := e_loop (v0 := .val low) (v1 := .val high) (v2 := .val (.int c12)) (v3 := .val (.lst (rowsE low high))) (v4 := .no) h
  have e2 : (mFor (mItems (mV 3)) (gSet 4) (mIte (mNot (mTru (mDef mf_u_law_refuses (mCons (mBin gIx (mV 4) (mC (.int 0))) (mCons (mBin gIx (mV 4) (mC (.int 1))) (mCons (mBin gIx (mV 4) (mC (.int 2))) (mCons (mBin gIx (mV 4) (mC (.int 3))) (mCons (mBin gIx (mV 4) (mC (.int 4))) mNil)))))))) (mRet (mC (.bl false))) mNext)) [.val low, .val high, .val (.int c12), .val (.lst (rowsE low high)), .no] = .nx ρ' := by
    unfold mFor
    exact e
  have : m_u_law_errors [.val low, .val high, .no, .no, .no] = .rt (.bl true) := by
    unfold m_u_law_errors
    refine (s_seq (ρ' := [.val low, .val high, .val (.int c12), .no, .no]) (s_set pow12)).trans ?_
    exact ((s_seq er1).trans ((s_seq er2).trans ((s_seq er3).trans ((s_seq er4).trans ((s_seq er5).trans ((s_seq er6).trans ((s_seq er7).trans ((s_seq er8).trans ((s_seq er9).trans ((s_seq er10).trans ((s_seq er11).trans ((s_seq er12).trans ((s_seq er13).trans ((s_seq er14).trans ((s_seq er15).trans ((s_seq er16).trans ((s_seq e2).trans rfl)))))))))))))))))
  show (m_u_law_errors [.val low, .val high, .no, .no, .no]).res false = _
  rw [this]; rfl
end
end S29

-- S29t
set_option Elab.async false
set_option linter.all false
set_option maxRecDepth 100000
set_option maxHeartbeats 4000000
namespace S29
open Fx G P29
theorem errors_ok {low high a b : Pt} (R : Drs low high a b) : mf_u_law_errors [PD low, PD high] = .ok (.bl true) := by
  refine errors_of fun d hd => ?_
  have e : rowsE (PD low) (PD high) = (rowsE (PD low) (PD high)).take 11 ++ (((rowsE (PD low) (PD high)).drop 11).take 6 ++ [row5 (P 2 3) (.lst [.int 4, .int 6]) .non "flat" 0, row5 (P 0 c12) (P c12 0) (.int 2) "let" 0, row5 (P c12 0) (P 0 1) (.int 2) "flat" 0]) := by rfl
  rw [e] at hd
  rcases List.mem_append.mp hd with h | h
  · exact told_E R d h
  · rcases List.mem_append.mp h with h | h
    · exact told_F R d h
    · simp only [List.mem_cons, List.not_mem_nil, or_false] at h
      rcases h with rfl | rfl | rfl
      · exact told_18
      · exact told_19
      · exact told_20
end S29

-- S29u
set_option Elab.async false
set_option linter.all false
set_option maxRecDepth 100000
set_option maxHeartbeats 4000000
namespace S29
open Fx G P29
/-- the chain of two directions -/
structure Chn (low high a b : Pt) (C : List Pt) : Prop where
  R : Drs low high a b
  g : Good a b C
  two : 2 ≤ C.length
  ok : ∀ (e1 e2 : D) (most : Int), seqD e1 = some [.int low.1, .int low.2] → seqD e2 = some [.int high.1, .int high.2] → 0 ≤ most → most ≤ 400 → mf_cone_chain [e1, e2, .int most] = if (C.length : Int) ≤ most then .ok (.lst (C.map PD)) else .err ⟨"TooMany", [("limit", .int most)]⟩
  len : mf_u_law_length [PD a, PD b] = .ok (.int (C.length : Nat))
theorem two_eq {a b p q : Pt} (T2 : Two b a q) (T : Two b a p) : cr b q = cr b p ∧ q = p := by
  obtain ⟨e1, e2⟩ := by_two q a p T.one
  rw [T2.one] at e1 e2
  have e : cr b q = cr b p - cr q p * cr b a := by
    obtain ⟨m, hm⟩ : ∃ m, m = cr q p := ⟨_, rfl⟩
    rw [← hm] at e1 e2 ⊢
    unfold cr
    rw [e1, e2]
    grind
  have t1 := T.nn; have t2 := T.lt; have t3 := T2.nn; have t4 := T2.lt
  have m0 : cr q p = 0 := by
    rcases Int.lt_trichotomy (cr q p) 0 with h | h | h
    · have : cr q p * cr b a ≤ -1 * cr b a := Int.mul_le_mul_of_nonneg_right (by omega) (by omega)
      omega
    · exact h
    · have : 1 * cr b a ≤ cr q p * cr b a := Int.mul_le_mul_of_nonneg_right (by omega) (by omega)
      omega
  rw [m0] at e e1 e2
  exact ⟨by omega, pt_ext (by omega) (by omega)⟩
theorem chn_of {low high a b : Pt} (R : Drs low high a b) : ∃ C, Chn low high a b C ∧ ∀ q l, Ch b a q l → C = a :: q :: l := by
  obtain ⟨p, e, T⟩ := second_ok R.E.a1 R.E.a1' R.E.a2 R.E.a2' R.E.b1 R.E.b1' R.E.b2 R.E.b2' R.E.ga R.E.n
  have hp := T.nn
  obtain ⟨F, hF⟩ : ∃ F : Nat, cr b p < F := ⟨(cr b p).toNat + 1, by omega⟩
  obtain ⟨l, el, ch⟩ := hj_ch R.E.pb F a p T hF
  have hl := hj_len R.E.pb F a p T hF
  rw [H_eq hp hF] at hl
  have hC : ∀ F' : Nat, cr b p < F' → hj b F' a p = hj b F a p := fun F' h => hj_fuel R.E.pb F' F a p T h hF
  refine ⟨hj b F a p, ⟨R, by rw [el]; exact good_of R.E ch, by rw [el]; simp, fun e1 e2 most s1 s2 m0 m1 => cone_ok R.E m0 m1 T (R.l _ _ s1) (R.h _ _ s2) e hC, ?_⟩, ?_⟩
  · rw [length_ok R.E T, hl]
    congr 2
  · intro q l2 h2
    have T2 := h2.two.1
    have eq := two_eq T2 T
    rw [← eq.2]
    exact h2.eq_hj R.E.pb F (by rw [eq.1]; exact hF)
end S29

-- S29v
set_option Elab.async false
set_option linter.all false
set_option maxRecDepth 100000
set_option maxHeartbeats 4000000
namespace S29
open Fx G P29
section
variable {low high a b : Pt} {C : List Pt}
theorem many_of {m : D} {i : Int} (Q : Chn low high a b C) (nn : NN m (.int i)) (i0 : 0 ≤ i) (i1 : i ≤ 400) (h : i < (C.length : Nat)) : mf_u_law_refuses [PD low, PD high, m, .str "many", .int i] = .ok (.bl true) := by
  have c := Q.ok (PD low) (PD high) i rfl rfl i0 i1
  rw [if_neg (by omega)] at c
  exact refuses_err nn c t_many
abbrev stA (low high a b : Pt) (due : D) (L : Int) (v6 v7 v8 : Sl) : Env := [.val (PD low), .val (PD high), .val due, .val (.int L), .val (PD a), .val (PD b), v6, v7, v8]
def bA1 : MS := mIte (mNot (mTru (mDef mf_u_law_refuses (mCons (mV 0) (mCons (mV 1) (mCons (mV 6) (mCons (mC (.str "many")) (mCons (mV 6) mNil)))))))) (mRet (mC (.bl false))) mNext
def bA2 : MS := mSeq (mIte (mNot (mTru (mDefL mf_u_law_is_chain (mCons (mO 8) (mCons (mV 4) (mCons (mV 5) (mCons (mV 3) mNil))))))) (mRet (mC (.bl false))) mNext)
  (mSeq (mIte (mAnd (mBool (mBin gNe (mV 2) (mLst mNil))) (mNot (mTru (mDefL mf_u_law_are_pairs (mCons (mO 8) (mCons (mV 2) mNil)))))) (mRet (mC (.bl false))) mNext)
  (mSeq (mApp 8 (mV 0))
  (mPutL 8 (mC (.int 0)) (mV 1))))
/-- due: none, or the chain itself -/
def Due (C : List Pt) (due : D) : Prop := due = .lst [] ∨ due = .lst (C.map PD)
theorem a1_loop {due : D} {L : Int} {v6 v7 v8 : Sl} (Q : Chn low high a b C) : ∃ u, mFor (mRange1 (mC (.int 2))) (gSet 6) bA1 (stA low high a b due L v6 v7 v8) = .nx (stA low high a b due L u v7 v8) := by
  obtain ⟨ρ', e, u, rfl⟩ := for_all0 (g := gSet 6) (body := bA1) (ds := rangeD 0 2) (ρ := stA low high a b due L v6 v7 v8) (I := fun _ ρ => ∃ u, ρ = stA low high a b due L u v7 v8) (by
    rintro i ρ d ⟨u, rfl⟩ hd
    obtain ⟨ed, hi⟩ := rangeD1_at hd
    rw [Int.zero_add] at ed
    subst ed
    have h2 := Q.two
    have m := many_of (i := i) Q nn_int (by omega) (by omega) (by omega)
    exact ⟨stA low high a b due L (.val (.int i)) v7 v8, rfl, stA low high a b due L (.val (.int i)) v7 v8, s_if0 (e_not (b := true) (e_tru (d := .bl true) (e_def (ds := [PD low, PD high, .int i, .str "many", .int i]) rfl m) rfl)), ⟨.val (.int i), rfl⟩⟩) ⟨v6, rfl⟩
  refine ⟨u, ?_⟩
  have er : mRange1 (mC (.int 2)) (stA low high a b due L v6 v7 v8) = .ok (rangeD 0 2) := by
    unfold mRange1
    rw [e_C, R.bind_ok]
    dsimp only
    rw [if_pos (by decide +kernel)]
  unfold mFor
  rw [er, R.out_ok]
  exact e
theorem gNe_nil : gNe (.lst []) (.lst []) = some (.bl false) := by rfl
theorem a2_turn {due : D} {v6 : Sl} (Q : Chn low high a b C) (hn : C.length ≤ 400) (hd : Due C due) (hg : gNe (.lst (C.map PD)) (.lst []) = some (.bl true)) : ∃ ds, bA2 (stA low high a b due (C.length : Nat) v6 .no (.lst (C.map PD))) = .nx (stA low high a b due (C.length : Nat) v6 .no (.lst ds)) := by
  have t1 : mIte (mNot (mTru (mDefL mf_u_law_is_chain (mCons (mO 8) (mCons (mV 4) (mCons (mV 5) (mCons (mV 3) mNil))))))) (mRet (mC (.bl false))) mNext (stA low high a b due (C.length : Nat) v6 .no (.lst (C.map PD))) = .nx (stA low high a b due (C.length : Nat) v6 .no (.lst (C.map PD))) :=
    s_if0 (e_not (b := true) (e_tru (d := .bl true) (e_defL (ds := [.lst (C.map PD), PD a, PD b, .int (C.length : Nat)]) rfl (by rw [is_chain_ok Q.g (by omega)]; rfl)) rfl))
  have t2 : mIte (mAnd (mBool (mBin gNe (mV 2) (mLst mNil))) (mNot (mTru (mDefL mf_u_law_are_pairs (mCons (mO 8) (mCons (mV 2) mNil)))))) (mRet (mC (.bl false))) mNext (stA low high a b due (C.length : Nat) v6 .no (.lst (C.map PD))) = .nx (stA low high a b due (C.length : Nat) v6 .no (.lst (C.map PD))) := by
    rcases hd with rfl | rfl
    · exact s_if0 (e_and0 (e_bool (e_bin (e_V rfl) (e_lst e_Nil) gNe_nil)))
    · refine s_if0 ((e_and1 (e_bool (e_bin (e_V rfl) (e_lst e_Nil) hg))).trans ?_)
      exact e_not (b := true) (e_tru (d := .bl true) (e_defL (ds := [.lst (C.map PD), .lst (C.map PD)]) rfl (by rw [are_pairs_ok (by omega)]; rfl)) rfl)
  have h2 := Q.two
  have so : szOk (C.map PD).length = true := by rw [List.length_map]; unfold szOk; exact decide_eq_true (by omega)
  have t3 : mApp 8 (mV 0) (stA low high a b due (C.length : Nat) v6 .no (.lst (C.map PD))) = .nx (stA low high a b due (C.length : Nat) v6 .no (.lst (C.map PD ++ [PD low]))) := s_app rfl (e_V rfl) so
  have t4 : mPutL 8 (mC (.int 0)) (mV 1) (stA low high a b due (C.length : Nat) v6 .no (.lst (C.map PD ++ [PD low]))) = .nx (stA low high a b due (C.length : Nat) v6 .no (.lst ((C.map PD ++ [PD low]).set 0 (PD high)))) := by
    unfold mPutL
    rw [e_V rfl, R.out_ok]
    show (mC (.int 0) _).out _ _ = _
    rw [e_C, R.out_ok]
    dsimp only
    have : ixS (C.map PD ++ [PD low]).length 0 = some 0 := by
      unfold ixS
      simp
    rw [this]
    rfl
  refine ⟨(C.map PD ++ [PD low]).set 0 (PD high), ?_⟩
  unfold bA2
  exact (s_seq t1).trans ((s_seq t2).trans ((s_seq t3).trans t4))
end
end S29

-- S29w
set_option Elab.async false
set_option linter.all false
set_option maxRecDepth 100000
set_option maxHeartbeats 4000000
namespace S29
open Fx G P29
theorem okEs_PD (n : Nat) : ∀ L : List Pt, okEs (L.map PD) (n + 1) = true
  | [] => by simp [okEs]
  | p :: L => by rw [List.map_cons]; simp [okEs, okE, okEs_PD n L]
theorem gNe_C {C : List Pt} (h : 2 ≤ C.length) : gNe (.lst (C.map PD)) (.lst []) = some (.bl true) := by
  have e1 : okE (.lst (C.map PD)) 60 = true := by show okE _ (59 + 1) = _; unfold okE; exact okEs_PD 58 C
  have e2 : okE (.lst []) 60 = true := by rfl
  have e3 : deq (.lst (C.map PD)) (.lst []) = false := by
    cases C with
    | nil => simp at h
    | cons c C => simp [deq, deqs]
  unfold gNe
  rw [e1, e2, e3]
  rfl
section
variable {low high a b : Pt} {C : List Pt}
theorem asked_ok {due : D} (Q : Chn low high a b C) (hd : Due C due) (h1 : mf_u_law_lowest [PD low] = .ok (PD a)) (h2 : mf_u_law_lowest [PD high] = .ok (PD b)) : mf_u_law_asked [PD low, PD high, due, .int (C.length : Nat)] = .ok (.bl true) := by
  have tw := Q.two
  obtain ⟨L, hL⟩ : ∃ L : Int, L = (C.length : Nat) := ⟨_, rfl⟩
  have key : m_u_law_asked [.val (PD low), .val (PD high), .val due, .val (.int L), .no, .no, .no, .no, .no] = .rt (.bl true) := by
    unfold m_u_law_asked
    refine (s_seq (ρ' := [.val (PD low), .val (PD high), .val due, .val (.int L), .val (PD a), .no, .no, .no, .no]) (s_set (e_def (ds := [PD low]) rfl h1))).trans ?_
    refine (s_seq (ρ' := stA low high a b due L .no .no .no) (s_set (e_def (ds := [PD high]) rfl h2))).trans ?_
    obtain ⟨u, hu⟩ := a1_loop (due := due) (L := L) (v6 := .no) (v7 := .no) (v8 := .no) Q
    refine (s_seq hu).trans ?_
    by_cases g : L > 400
    · have c1 : (mBool (mBin (gI (kBl fun i j => decide (j < i))) (mV 3) (mC (.int 400)))) (stA low high a b due L u .no .no) = .ok true := e_bool (e_bin (e_V rfl) e_C (by show some (D.bl (decide (400 < L))) = _; rw [decide_eq_true (by omega)]))
      refine s_seqR ((s_if1 c1).trans ?_)
      have m1 := many_of (m := .non) (i := 400) Q nn_non (by omega) (by omega) (by omega)
      have m2 := many_of (m := .int 400) (i := 400) Q nn_int (by omega) (by omega) (by omega)
      refine (s_seq (ρ' := stA low high a b due L u .no .no) (s_if0 (e_not (b := true) (e_tru (d := .bl true) (e_def (ds := [PD low, PD high, .non, .str "many", .int 400]) rfl m1) rfl)))).trans ?_
      exact s_ret (e_def (ds := [PD low, PD high, .int 400, .str "many", .int 400]) rfl m2)
    · have c1 : (mBool (mBin (gI (kBl fun i j => decide (j < i))) (mV 3) (mC (.int 400)))) (stA low high a b due L u .no .no) = .ok false := e_bool (e_bin (e_V rfl) e_C (by show some (D.bl (decide (400 < L))) = _; rw [decide_eq_false (by omega)]))
      refine (s_seq (ρ' := stA low high a b due L u .no .no) (s_if0 c1)).trans ?_
      have m3 := many_of (m := .int (L - 1)) (i := L - 1) Q nn_int (by omega) (by omega) (by omega)
      refine (s_seq (ρ' := stA low high a b due L u .no .no) (s_if0 (e_not (b := true) (e_tru (d := .bl true) (e_def (ds := [PD low, PD high, .int (L - 1), .str "many", .int (L - 1)]) rfl m3) rfl)))).trans ?_
      have k1 := Q.ok (PD low) (PD high) 400 rfl rfl (by omega) (by omega)
      rw [if_pos (by omega)] at k1
      have k2 := Q.ok (.lst [.int low.1, .int low.2]) (.lst [.int high.1, .int high.2]) L rfl rfl (by omega) (by omega)
      rw [if_pos (by omega)] at k2
      have k3 := Q.ok (.lst [.int low.1, .int low.2]) (PD high) 400 rfl rfl (by omega) (by omega)
      rw [if_pos (by omega)] at k3
      obtain ⟨d1, t1⟩ := a2_turn (due := due) (v6 := u) Q (by omega) hd (gNe_C tw)
      have z1 : (mDefD mf_cone_chain dd_cone_chain (mCons (mV 0) (mCons (mV 1) mNil))) (stA low high a b due L u .no .no) = .ok (.lst (C.map PD)) := k1
      have z2 : (mDefK mf_cone_chain gk_cone_chain (mCons (mCall gList (mCons (mV 0) mNil)) (mCons (mCall gList (mCons (mV 1) mNil)) mNil)) (mCons (mV 3) mNil)) (stA low high a b due L u .no .no) = .ok (.lst (C.map PD)) := k2
      have ic := is_chain_ok Q.g (by omega)
      rw [← hL] at t1 ic
      have z3 : (mRet (mDef mf_u_law_is_chain (mCons (mDefD mf_cone_chain dd_cone_chain (mCons (mCall gList (mCons (mV 0) mNil)) (mCons (mV 1) mNil))) (mCons (mV 4) (mCons (mV 5) (mCons (mV 3) mNil)))))) (stA low high a b due L u .no (.lst d1)) = .rt (.bl true) :=
        s_ret (e_def (ds := [.lst (C.map PD), PD a, PD b, .int L]) (e_cons k3 (e_cons (e_V rfl) (e_cons (e_V rfl) (e_cons (e_V rfl) e_Nil)))) ic)
      have t2 : bA2 ((stA low high a b due L u .no (.lst d1)).set 8 (.lst (C.map PD))) = .nx (stA low high a b due L u .no (.lst d1)) := t1
      unfold mTwo
      rw [if_pos (by show 7 < 9; omega), z1, R.out_ok]
      dsimp only
      have z2' : (mDefK mf_cone_chain gk_cone_chain (mCons (mCall gList (mCons (mV 0) mNil)) (mCons (mCall gList (mCons (mV 1) mNil)) mNil)) (mCons (mV 3) mNil)) ((stA low high a b due L u .no .no).set 7 .no) = .ok (.lst (C.map PD)) := z2
      rw [z2', R.out_ok]
      dsimp only
      have t1' : bA2 (((stA low high a b due L u .no .no).set 7 .no).set 8 (.lst (C.map PD))) = .nx (stA low high a b due L u .no (.lst d1)) := t1
      unfold bA2 at t1' t2
      rw [t1']
      dsimp only
      rw [t2]
      exact z3
  rw [← hL]
  show (m_u_law_asked [.val (PD low), .val (PD high), .val due, .val (.int L), .no, .no, .no, .no, .no]).res false = _
  rw [key]
  rfl
end
end S29

-- S29x
set_option Elab.async false
set_option linter.all false
set_option maxRecDepth 100000
set_option maxHeartbeats 4000000
/-! _law_small_due -/
namespace S29
open Fx G P29
theorem keq_PD (p q : Pt) : keq (PD p) (PD q) = decide (p = q) := by
  have h := keq_T [Sum.inl p.1, Sum.inl p.2] [Sum.inl q.1, Sum.inl q.2]
  have e1 : D.tup ([Sum.inl p.1, Sum.inl p.2].map keyD) = PD p := by rfl
  have e2 : D.tup ([Sum.inl q.1, Sum.inl q.2].map keyD) = PD q := by rfl
  rw [e1, e2] at h
  rw [h]
  congr 1
  simp
  constructor
  · rintro ⟨h1, h2⟩; exact pt_ext h1 h2
  · rintro rfl; exact ⟨rfl, rfl⟩
def has (kvs : List (D × D)) (p : Pt) : Bool := kvs.any fun kv => keq kv.1 (PD p)
theorem valD_has (kvs : List (D × D)) (p : Pt) : (valD kvs (PD p)).isSome = has kvs p := by
  unfold valD has
  rw [Option.isSome_map, Bool.eq_iff_iff, List.find?_isSome, List.any_eq_true]
theorem has_put (kvs : List (D × D)) (u p : Pt) (v : D) : has (putD kvs (PD u) v) p = (has kvs p || decide (u = p)) := by
  unfold putD
  split
  · rename_i h
    have e : has (kvs.map fun kv => if keq kv.1 (PD u) = true then (kv.1, v) else kv) p = has kvs p := by
      unfold has
      rw [List.any_map]
      congr 1
      funext kv
      dsimp only [Function.comp]
      split <;> rfl
    rw [e]
    by_cases z : u = p
    · subst z
      have : has kvs u = true := h
      rw [this]; rfl
    · rw [decide_eq_false z, Bool.or_false]
  · unfold has
    rw [List.any_append]
    congr 1
    show (keq (PD u) (PD p) || false) = _
    rw [keq_PD, Bool.or_false]
theorem len_put (kvs : List (D × D)) (k v : D) : (putD kvs k v).length ≤ kvs.length + 1 := by
  unfold putD
  split
  · rw [List.length_map]; omega
  · rw [List.length_append]; exact Nat.le_refl _
/-- the sums so far -/
structure Sums (pts : List Pt) (i j : Nat) (kvs : List (D × D)) : Prop where
  len : kvs.length ≤ 169 * i + j
  has : ∀ p, has kvs p = true ↔ ∃ (i' j' : Nat) (u v : Pt), pts[i']? = some u ∧ pts[j']? = some v ∧ i' ≤ j' ∧ (i' < i ∨ (i' = i ∧ j' < i + j)) ∧ p = (u.1 + v.1, u.2 + v.2)
theorem Sums.start {pts : List Pt} : Sums pts 0 0 [] := ⟨Nat.zero_le _, fun p => ⟨fun h => absurd h Bool.false_ne_true, fun ⟨i', j', u, v, h1, h2, h3, h4, h5⟩ => by omega⟩⟩
theorem Sums.step {pts : List Pt} {i j : Nat} {kvs : List (D × D)} (S : Sums pts i j kvs) {u v : Pt} (hu : pts[i]? = some u) (hv : pts[i + j]? = some v) : Sums pts i (j + 1) (putD kvs (PD (u.1 + v.1, u.2 + v.2)) (.bl true)) := by
  refine ⟨Nat.le_trans (len_put _ _ _) (by have := S.len; omega), fun p => ?_⟩
  rw [has_put, Bool.or_eq_true, S.has, decide_eq_true_eq]
  constructor
  · rintro (⟨i', j', u', v', h1, h2, h3, h4, h5⟩ | h)
    · exact ⟨i', j', u', v', h1, h2, h3, by omega, h5⟩
    · exact ⟨i, i + j, u, v, hu, hv, by omega, by omega, h.symm⟩
  · rintro ⟨i', j', u', v', h1, h2, h3, h4, h5⟩
    by_cases z : i' = i ∧ j' = i + j
    · obtain ⟨z1, z2⟩ := z
      subst z1 z2
      rw [hu] at h1
      rw [hv] at h2
      cases h1
      cases h2
      exact .inr h5.symm
    · exact .inl ⟨i', j', u', v', h1, h2, h3, by omega, h5⟩
theorem Sums.row {pts : List Pt} {i : Nat} {kvs : List (D × D)} (S : Sums pts i (pts.length - i) kvs) (hi : i < pts.length) (hn : pts.length ≤ 169) : Sums pts (i + 1) 0 kvs := by
  refine ⟨by have := S.len; omega, fun p => ?_⟩
  rw [S.has]
  constructor
  · rintro ⟨i', j', u', v', h1, h2, h3, h4, h5⟩
    exact ⟨i', j', u', v', h1, h2, h3, by omega, h5⟩
  · rintro ⟨i', j', u', v', h1, h2, h3, h4, h5⟩
    have := (List.getElem?_eq_some_iff.mp h2).1
    exact ⟨i', j', u', v', h1, h2, h3, by omega, h5⟩
theorem Sums.all {pts : List Pt} {kvs : List (D × D)} (S : Sums pts pts.length 0 kvs) (p : Pt) : S29.has kvs p = true ↔ ∃ u v, u ∈ pts ∧ v ∈ pts ∧ p = (u.1 + v.1, u.2 + v.2) := by
  rw [S.has]
  constructor
  · rintro ⟨i', j', u, v, h1, h2, h3, h4, h5⟩
    exact ⟨u, v, List.mem_of_getElem? h1, List.mem_of_getElem? h2, h5⟩
  · rintro ⟨u, v, hu, hv, h5⟩
    obtain ⟨i', hi, rfl⟩ := List.getElem_of_mem hu
    obtain ⟨j', hj, rfl⟩ := List.getElem_of_mem hv
    rcases Nat.le_total i' j' with z | z
    · exact ⟨i', j', _, _, List.getElem?_eq_getElem hi, List.getElem?_eq_getElem hj, z, .inl hi, h5⟩
    · exact ⟨j', i', _, _, List.getElem?_eq_getElem hj, List.getElem?_eq_getElem hi, z, .inl hj, by rw [h5]; exact pt_ext (Int.add_comm _ _) (Int.add_comm _ _)⟩
theorem cutD_from {ds : List D} {k : Nat} (h : k ≤ ds.length) : cutD ds (some (k : Int)) none = ds.drop k := by
  unfold cutD
  rw [HT.sIx_nat, HT.sIx_none, Nat.min_eq_left h]
  exact List.take_of_length_le (by rw [List.length_drop]; omega)
/-- a comprehension that keeps some -/
theorem lc_keep {i : Nat} {t : MT} {e : ME} {ρ : Env} {f : Pt → Bool} (ht : ∀ p, t (ρ.set i (.val (PD p))) = .ok (f p)) (he : ∀ p, e (ρ.set i (.val (PD p))) = .ok (PD p)) : ∀ L : List Pt, lcL i t e (L.map PD) ρ = .ok ((L.filter f).map PD)
  | [] => rfl
  | p :: L => by
    rw [List.map_cons]
    unfold lcL
    rw [ht, he, lc_keep ht he L]
    cases z : f p
    · rw [List.filter_cons_of_neg (by rw [z]; decide)]
    · rw [List.filter_cons_of_pos z]; rfl
/-! ### the walk -/
abbrev sD (low high : Pt) (s2 s3 s4 s5 s6 s7 s8 s9 s10 s11 s12 s13 : Sl) : Env := [.val (PD low), .val (PD high), s2, s3, s4, s5, s6, s7, s8, s9, s10, s11, s12, s13]
def bG2 : MS := mSeq (mSet 12 (mTup (mCons (mV 3) (mCons (mV 9) mNil))))
  (mIte (mAnd (mBool (mBin (gI (kBl fun i j => decide (j ≤ i))) (mDef mf_u_law_turn (mCons (mV 12) (mCons (mV 0) mNil))) (mC (.int 0)))) (mBool (mBin (gI (kBl fun i j => decide (j ≤ i))) (mDef mf_u_law_turn (mCons (mV 1) (mCons (mV 12) mNil))) (mC (.int 0))))) (mApp 2 (mV 12)) mNext)
def bS2 : MS := mPutD 4 (mTup (mCons (mBin gAdd (mBin gIx (mV 10) (mC (.int 0))) (mBin gIx (mV 11) (mC (.int 0)))) (mCons (mBin gAdd (mBin gIx (mV 10) (mC (.int 1))) (mBin gIx (mV 11) (mC (.int 1)))) mNil))) (mC (.bl true))
def bS1 : MS := mSeq (mSet 10 (mBin gIx (mV 2) (mV 5))) (mFor (mItems (mSl (mV 2) (mPart (mV 5)) mNo)) (gSet 11) bS2)
def bT2 : MS := mSeq (mSet 13 (mLc 10 (mItems (mV 6)) (mBool (mBin (gI (kBl fun i j => decide (j < i))) (mDef mf_u_law_turn (mCons (mV 12) (mCons (mV 10) mNil))) (mC (.int 0)))) (mV 10)))
  (mIte (mBool (mBin gEq (mCall gLen (mCons (mV 13) mNil)) (mV 8))) (mApp 7 (mV 12)) mNext)
section
variable {low high : Pt} {s2 s3 s4 s5 s6 s7 s8 s9 s10 s11 s12 s13 : Sl} {L pts : List Pt} {x y : Int}
/-- small -/
def Sml (p : Pt) : Prop := (0 ≤ p.1 ∧ p.1 ≤ 1000) ∧ 0 ≤ p.2 ∧ p.2 ≤ 1000
theorem lturn {p q : Pt} (hp : Sml p) (hq : Sml q) : mf_u_law_turn [PD p, PD q] = .ok (.int (cr p q)) := by
  obtain ⟨⟨a1, a2⟩, a3, a4⟩ := hp
  obtain ⟨⟨b1, b2⟩, b3, b4⟩ := hq
  exact law_turn_ok ⟨by omega, by omega⟩ ⟨by omega, by omega⟩ ⟨by omega, by omega⟩ ⟨by omega, by omega⟩
theorem g2_turn (hl : Sml low) (hh : Sml high) (G : Grid low high x y L) (hx : 0 ≤ x) (hx2 : x < 13) (hy : 0 ≤ y) (hy2 : y < 13) : ∃ L', Grid low high x (y + 1) L' ∧
    bG2 (sD low high (.lst (L.map PD)) (.val (.int x)) s4 s5 s6 s7 s8 (.val (.int y)) s10 s11 s12 s13) = .nx (sD low high (.lst (L'.map PD)) (.val (.int x)) s4 s5 s6 s7 s8 (.val (.int y)) s10 s11 (.val (PD (x, y))) s13) := by
  have sp : Sml (x, y) := ⟨⟨hx, by dsimp only; omega⟩, hy, by dsimp only; omega⟩
  have t1 := lturn sp hl
  have t2 := lturn hh sp
  unfold bG2
  have st : mSet 12 (mTup (mCons (mV 3) (mCons (mV 9) mNil))) (sD low high (.lst (L.map PD)) (.val (.int x)) s4 s5 s6 s7 s8 (.val (.int y)) s10 s11 s12 s13) = .nx (sD low high (.lst (L.map PD)) (.val (.int x)) s4 s5 s6 s7 s8 (.val (.int y)) s10 s11 (.val (PD (x, y))) s13) := s_set (e_tup (e_cons (e_V rfl) (e_cons (e_V rfl) e_Nil)))
  have k1 : (mBool (mBin (gI (kBl fun i j => decide (j ≤ i))) (mDef mf_u_law_turn (mCons (mV 12) (mCons (mV 0) mNil))) (mC (.int 0)))) (sD low high (.lst (L.map PD)) (.val (.int x)) s4 s5 s6 s7 s8 (.val (.int y)) s10 s11 (.val (PD (x, y))) s13) = .ok (decide (0 ≤ cr (x, y) low)) :=
    e_bool (e_bin (e_def (ds := [PD (x, y), PD low]) rfl t1) e_C rfl)
  have k2 : (mBool (mBin (gI (kBl fun i j => decide (j ≤ i))) (mDef mf_u_law_turn (mCons (mV 1) (mCons (mV 12) mNil))) (mC (.int 0)))) (sD low high (.lst (L.map PD)) (.val (.int x)) s4 s5 s6 s7 s8 (.val (.int y)) s10 s11 (.val (PD (x, y))) s13) = .ok (decide (0 ≤ cr high (x, y))) :=
    e_bool (e_bin (e_def (ds := [PD high, PD (x, y)]) rfl t2) e_C rfl)
  by_cases c1 : 0 ≤ cr (x, y) low
  · by_cases c2 : 0 ≤ cr high (x, y)
    · refine ⟨L ++ [(x, y)], G.yes hx hy hy2 c1 c2, (s_seq st).trans ?_⟩
      rw [decide_eq_true c1] at k1
      rw [decide_eq_true c2] at k2
      refine (s_if1 ((e_and1 k1).trans k2)).trans ?_
      have gl := G.len
      rw [List.map_append]
      exact s_app rfl (e_V rfl) (by rw [List.length_map]; unfold szOk; exact decide_eq_true (by omega))
    · refine ⟨L, G.no hx hy hy2 fun z => c2 z.2, (s_seq st).trans ?_⟩
      rw [decide_eq_true c1] at k1
      rw [decide_eq_false c2] at k2
      exact s_if0 ((e_and1 k1).trans k2)
  · refine ⟨L, G.no hx hy hy2 fun z => c1 z.1, (s_seq st).trans ?_⟩
    rw [decide_eq_false c1] at k1
    exact s_if0 (e_and0 k1)
theorem rng13 {ρ : Env} : mRange1 (mC (.int 13)) ρ = .ok (rangeD 0 13) := by
  unfold mRange1
  rw [e_C, R.bind_ok]
  dsimp only
  rw [if_pos (by decide +kernel)]
theorem g1_turn (hl : Sml low) (hh : Sml high) (G : Grid low high x 0 L) (hx : 0 ≤ x) (hx2 : x < 13) : ∃ L' u v, Grid low high (x + 1) 0 L' ∧
    mFor (mRange1 (mC (.int 13))) (gSet 9) bG2 (sD low high (.lst (L.map PD)) (.val (.int x)) s4 s5 s6 s7 s8 s9 s10 s11 s12 s13) = .nx (sD low high (.lst (L'.map PD)) (.val (.int x)) s4 s5 s6 s7 s8 u s10 s11 v s13) := by
  obtain ⟨ρ', e, L', u, v, rfl, G'⟩ := for_all0 (g := gSet 9) (body := bG2) (ds := rangeD 0 13) (ρ := sD low high (.lst (L.map PD)) (.val (.int x)) s4 s5 s6 s7 s8 s9 s10 s11 s12 s13) (I := fun j ρ => ∃ L' u v, ρ = sD low high (.lst (L'.map PD)) (.val (.int x)) s4 s5 s6 s7 s8 u s10 s11 v s13 ∧ Grid low high x j L') (by
    rintro j ρ d ⟨L1, u, v, rfl, G1⟩ hd
    obtain ⟨ed, hj⟩ := rangeD1_at hd
    rw [Int.zero_add] at ed
    subst ed
    obtain ⟨L2, G2, t⟩ := g2_turn (s4 := s4) (s5 := s5) (s6 := s6) (s7 := s7) (s8 := s8) (s10 := s10) (s11 := s11) (s12 := v) (s13 := s13) hl hh G1 hx hx2 (by omega) (by omega)
    exact ⟨_, rfl, _, t, L2, _, _, rfl, by rw [Int.natCast_succ]; exact G2⟩) ⟨L, _, _, rfl, G⟩
  have e13 : (rangeD 0 13).length = 13 := by decide +kernel
  rw [e13] at G'
  refine ⟨L', u, v, G'.row hx, ?_⟩
  unfold mFor
  rw [rng13, R.out_ok]
  exact e
theorem g_loop (hl : Sml low) (hh : Sml high) : ∃ L u v w, Grid low high 13 0 L ∧
    mFor (mRange1 (mC (.int 13))) (gSet 3) (mFor (mRange1 (mC (.int 13))) (gSet 9) bG2) (sD low high (.lst []) s3 s4 s5 s6 s7 s8 s9 s10 s11 s12 s13) = .nx (sD low high (.lst (L.map PD)) w s4 s5 s6 s7 s8 u s10 s11 v s13) := by
  obtain ⟨ρ', e, L', u, v, w, rfl, G'⟩ := for_all0 (g := gSet 3) (body := mFor (mRange1 (mC (.int 13))) (gSet 9) bG2) (ds := rangeD 0 13) (ρ := sD low high (.lst []) s3 s4 s5 s6 s7 s8 s9 s10 s11 s12 s13) (I := fun j ρ => ∃ L' u v w, ρ = sD low high (.lst (L'.map PD)) w s4 s5 s6 s7 s8 u s10 s11 v s13 ∧ Grid low high j 0 L') (by
    rintro j ρ d ⟨L1, u, v, w, rfl, G1⟩ hd
    obtain ⟨ed, hj⟩ := rangeD1_at hd
    rw [Int.zero_add] at ed
    subst ed
    obtain ⟨L2, u2, v2, G2, t⟩ := g1_turn (s4 := s4) (s5 := s5) (s6 := s6) (s7 := s7) (s8 := s8) (s9 := u) (s10 := s10) (s11 := s11) (s12 := v) (s13 := s13) hl hh G1 (by omega) (by omega)
    exact ⟨_, rfl, _, t, L2, _, _, _, rfl, by rw [Int.natCast_succ]; exact G2⟩) ⟨[], _, _, _, rfl, Grid.start⟩
  have e13 : (rangeD 0 13).length = 13 := by decide +kernel
  rw [e13] at G'
  refine ⟨L', u, v, w, G', ?_⟩
  unfold mFor
  rw [rng13, R.out_ok]
  exact e
end
end S29

-- S29y
set_option Elab.async false
set_option linter.all false
set_option maxRecDepth 100000
set_option maxHeartbeats 4000000
namespace S29
open Fx G P29
section
variable {low high : Pt} {s2 s3 s4 s5 s6 s7 s8 s9 s10 s11 s12 s13 : Sl} {L pts left C : List Pt} {x y : Int} {kvs : List (D × D)}
theorem keyOk_P {a b : Int} : keyOk true (P a b) = true := by rfl
theorem s2_turn {i j : Nat} {u v : Pt} (S : Sums pts i j kvs) (hn : pts.length ≤ 169) (hu : pts[i]? = some u) (hv : pts[i + j]? = some v) :
    bS2 (sD low high s2 s3 (.dic true kvs) s5 s6 s7 s8 s9 (.val (PD u)) (.val (PD v)) s12 s13) = .nx (sD low high s2 s3 (.dic true (putD kvs (PD (u.1 + v.1, u.2 + v.2)) (.bl true))) s5 s6 s7 s8 s9 (.val (PD u)) (.val (PD v)) s12 s13) := by
  have hi := (List.getElem?_eq_some_iff.mp hu).1
  have hj := (List.getElem?_eq_some_iff.mp hv).1
  unfold bS2 mPutD
  rw [e_C, R.out_ok]
  have ek : (mTup (mCons (mBin gAdd (mBin gIx (mV 10) (mC (.int 0))) (mBin gIx (mV 11) (mC (.int 0)))) (mCons (mBin gAdd (mBin gIx (mV 10) (mC (.int 1))) (mBin gIx (mV 11) (mC (.int 1)))) mNil))) (sD low high s2 s3 (.dic true kvs) s5 s6 s7 s8 s9 (.val (PD u)) (.val (PD v)) s12 s13) = .ok (PD (u.1 + v.1, u.2 + v.2)) :=
    e_tup (e_cons (e_bin (e_bin (e_V rfl) e_C rfl) (e_bin (e_V rfl) e_C rfl) rfl) (e_cons (e_bin (e_bin (e_V rfl) e_C rfl) (e_bin (e_V rfl) e_C rfl) rfl) e_Nil))
  have so : szOk kvs.length = true := by
    unfold szOk
    have := S.len
    have h1 : i ≤ 169 := by omega
    exact decide_eq_true (by omega)
  show ((mTup _ _).out _ _) = _
  rw [ek, R.out_ok]
  rw [so, keyOk_P]
  rfl
theorem s1_turn {i : Nat} {u : Pt} (S : Sums pts i 0 kvs) (hn : pts.length ≤ 169) (hu : pts[i]? = some u) : ∃ kvs' v, Sums pts (i + 1) 0 kvs' ∧
    bS1 (sD low high (.val (.lst (pts.map PD))) s3 (.dic true kvs) (.val (.int i)) s6 s7 s8 s9 s10 s11 s12 s13) = .nx (sD low high (.val (.lst (pts.map PD))) s3 (.dic true kvs') (.val (.int i)) s6 s7 s8 s9 (.val (PD u)) v s12 s13) := by
  have hi := (List.getElem?_eq_some_iff.mp hu).1
  unfold bS1
  have st : mSet 10 (mBin gIx (mV 2) (mV 5)) (sD low high (.val (.lst (pts.map PD))) s3 (.dic true kvs) (.val (.int i)) s6 s7 s8 s9 s10 s11 s12 s13) = .nx (sD low high (.val (.lst (pts.map PD))) s3 (.dic true kvs) (.val (.int i)) s6 s7 s8 s9 (.val (PD u)) s11 s12 s13) :=
    s_set (e_bin (e_V rfl) (e_V rfl) (ixC rfl hu))
  obtain ⟨ρ', e, kvs', v, rfl, S'⟩ := for_all0 (g := gSet 11) (body := bS2) (ds := (pts.map PD).drop i) (ρ := sD low high (.val (.lst (pts.map PD))) s3 (.dic true kvs) (.val (.int i)) s6 s7 s8 s9 (.val (PD u)) s11 s12 s13) (I := fun j ρ => ∃ kvs' v, ρ = sD low high (.val (.lst (pts.map PD))) s3 (.dic true kvs') (.val (.int i)) s6 s7 s8 s9 (.val (PD u)) v s12 s13 ∧ Sums pts i j kvs') (by
    rintro j ρ d ⟨k1, v, rfl, S1⟩ hd
    rw [List.getElem?_drop, List.getElem?_map] at hd
    cases q : pts[i + j]? with
    | none => rw [q] at hd; cases hd
    | some w =>
      rw [q] at hd
      cases hd
      exact ⟨_, rfl, _, s2_turn (u := u) (v := w) S1 hn hu q, _, _, rfl, S1.step hu q⟩) ⟨kvs, _, rfl, S⟩
  rw [List.length_drop, List.length_map] at S'
  refine ⟨kvs', v, S'.row hi hn, (s_seq st).trans ?_⟩
  unfold mFor
  have ei : (mItems (mSl (mV 2) (mPart (mV 5)) mNo)) (sD low high (.val (.lst (pts.map PD))) s3 (.dic true kvs) (.val (.int i)) s6 s7 s8 s9 (.val (PD u)) s11 s12 s13) = .ok ((pts.map PD).drop i) := by
    show R.ok (cutD (pts.map PD) (some (i : Int)) none) = _
    rw [cutD_from (by rw [List.length_map]; omega)]
  rw [ei, R.out_ok]
  exact e
theorem rngN {ρ : Env} {n : Nat} {k : Nat} (hk : ρ[k]? = some (.val (.lst (pts.map PD)))) (hn : pts.length ≤ 169) : mRange1 (mCall gLen (mCons (mV k) mNil)) ρ = .ok (rangeD 0 (pts.length : Nat)) := by
  unfold mRange1
  rw [e_call (e_cons (e_V hk) e_Nil) (d := .int (pts.length : Nat)) (by show some (D.int (((pts.map PD).length : Nat) : Int)) = _; rw [List.length_map]), R.bind_ok]
  dsimp only
  rw [if_pos (farOk_small (by omega) (by omega))]
theorem s_loop (hn : pts.length ≤ 169) : ∃ kvs u v w, Sums pts pts.length 0 kvs ∧
    mFor (mRange1 (mCall gLen (mCons (mV 2) mNil))) (gSet 5) bS1 (sD low high (.val (.lst (pts.map PD))) s3 (.dic true []) s5 s6 s7 s8 s9 s10 s11 s12 s13) = .nx (sD low high (.val (.lst (pts.map PD))) s3 (.dic true kvs) u s6 s7 s8 s9 v w s12 s13) := by
  obtain ⟨ρ', e, kvs', u, v, w, rfl, S'⟩ := for_all0 (g := gSet 5) (body := bS1) (ds := rangeD 0 (pts.length : Nat)) (ρ := sD low high (.val (.lst (pts.map PD))) s3 (.dic true []) s5 s6 s7 s8 s9 s10 s11 s12 s13) (I := fun j ρ => ∃ kvs' u v w, ρ = sD low high (.val (.lst (pts.map PD))) s3 (.dic true kvs') u s6 s7 s8 s9 v w s12 s13 ∧ Sums pts j 0 kvs') (by
    rintro j ρ d ⟨k1, u, v, w, rfl, S1⟩ hd
    obtain ⟨ed, hj⟩ := rangeD1_at hd
    rw [Int.zero_add] at ed
    subst ed
    have hl : j < pts.length := by omega
    obtain ⟨k2, w2, S2, t⟩ := s1_turn (low := low) (high := high) (s3 := s3) (s6 := s6) (s7 := s7) (s8 := s8) (s9 := s9) (s10 := v) (s11 := w) (s12 := s12) (s13 := s13) S1 hn (List.getElem?_eq_getElem hl)
    exact ⟨_, rfl, _, t, k2, _, _, _, rfl, S2⟩) ⟨[], _, _, _, rfl, Sums.start⟩
  rw [len_rangeD] at S'
  refine ⟨kvs', u, v, w, S', ?_⟩
  unfold mFor
  rw [rngN (n := 0) rfl hn, R.out_ok]
  exact e
/-! ### told in order -/
theorem t2_turn {k : Nat} {p : Pt} {T : List Pt} (hs : ∀ z ∈ left, Sml z) (hp : Sml p) (hn : left.length ≤ 169) (hT : T.length ≤ 1000) : ∃ v,
    bT2 (sD low high s2 s3 s4 s5 (.val (.lst (left.map PD))) (.lst (T.map PD)) (.val (.int k)) s9 s10 s11 (.val (PD p)) s13) = .nx (sD low high s2 s3 s4 s5 (.val (.lst (left.map PD))) (.lst ((if cnt left p = k then T ++ [p] else T).map PD)) (.val (.int k)) s9 s10 s11 (.val (PD p)) v) := by
  refine ⟨.val (.lst ((left.filter fun o => decide (0 < cr p o)).map PD)), ?_⟩
  have so : szOk (left.map PD).length = true := by rw [List.length_map]; unfold szOk; exact decide_eq_true (by omega)
  have lc : ∀ L : List Pt, (∀ z ∈ L, Sml z) → lcL 10 (mBool (mBin (gI (kBl fun i j => decide (j < i))) (mDef mf_u_law_turn (mCons (mV 12) (mCons (mV 10) mNil))) (mC (.int 0)))) (mV 10) (L.map PD) ((noExc (sD low high s2 s3 s4 s5 (.val (.lst (left.map PD))) (.lst (T.map PD)) (.val (.int k)) s9 s10 s11 (.val (PD p)) s13)).set 10 .no) = .ok ((L.filter fun o => decide (0 < cr p o)).map PD) := by
    intro L
    induction L with
    | nil => intro _; rfl
    | cons z L ih =>
      intro hz
      have t := lturn hp (hz z (by simp))
      have e1 : (mBool (mBin (gI (kBl fun i j => decide (j < i))) (mDef mf_u_law_turn (mCons (mV 12) (mCons (mV 10) mNil))) (mC (.int 0)))) ((((noExc (sD low high s2 s3 s4 s5 (.val (.lst (left.map PD))) (.lst (T.map PD)) (.val (.int k)) s9 s10 s11 (.val (PD p)) s13)).set 10 .no)).set 10 (.val (PD z))) = .ok (decide (0 < cr p z)) :=
        e_bool (e_bin (e_def (ds := [PD p, PD z]) (e_cons (e_V rfl) (e_cons (e_V rfl) e_Nil)) t) e_C rfl)
      have e2 : (mV 10) ((((noExc (sD low high s2 s3 s4 s5 (.val (.lst (left.map PD))) (.lst (T.map PD)) (.val (.int k)) s9 s10 s11 (.val (PD p)) s13)).set 10 .no)).set 10 (.val (PD z))) = .ok (PD z) := e_V rfl
      rw [List.map_cons]
      unfold lcL
      rw [e1, e2, ih fun y hy => hz y (List.mem_cons_of_mem _ hy)]
      by_cases c : 0 < cr p z
      · rw [decide_eq_true c, List.filter_cons_of_pos (by rw [decide_eq_true c])]
        rfl
      · rw [decide_eq_false c, List.filter_cons_of_neg (by rw [decide_eq_false c]; decide)]
  have e3 : (mLc 10 (mItems (mV 6)) (mBool (mBin (gI (kBl fun i j => decide (j < i))) (mDef mf_u_law_turn (mCons (mV 12) (mCons (mV 10) mNil))) (mC (.int 0)))) (mV 10)) (sD low high s2 s3 s4 s5 (.val (.lst (left.map PD))) (.lst (T.map PD)) (.val (.int k)) s9 s10 s11 (.val (PD p)) s13) = .ok (.lst ((left.filter fun o => decide (0 < cr p o)).map PD)) := by
    unfold mLc
    have ei : (mItems (mV 6)) (sD low high s2 s3 s4 s5 (.val (.lst (left.map PD))) (.lst (T.map PD)) (.val (.int k)) s9 s10 s11 (.val (PD p)) s13) = .ok (left.map PD) := rfl
    rw [ei, R.bind_ok, if_pos so, lc left hs]
    rfl
  unfold bT2
  refine (s_seq (s_set e3)).trans ?_
  have e4 : (mBool (mBin gEq (mCall gLen (mCons (mV 13) mNil)) (mV 8))) (sD low high s2 s3 s4 s5 (.val (.lst (left.map PD))) (.lst (T.map PD)) (.val (.int k)) s9 s10 s11 (.val (PD p)) (.val (.lst ((left.filter fun o => decide (0 < cr p o)).map PD)))) = .ok (((cnt left p : Nat) : Int) == (k : Int)) := by
    refine e_bool (e_bin (x := .int (cnt left p : Nat)) (e_call (e_cons (e_V rfl) e_Nil) ?_) (e_V rfl) gEq_int)
    show some (D.int (((_ : List D).length : Nat) : Int)) = _
    rw [List.length_map]
    rfl
  by_cases c : cnt left p = k
  · rw [if_pos c]
    have c' : (((cnt left p : Nat) : Int) == (k : Int)) = true := by rw [c]; exact beq_self_eq_true _
    rw [c'] at e4
    refine (s_if1 e4).trans ?_
    rw [List.map_append]
    exact s_app rfl (e_V rfl) (by rw [List.length_map]; unfold szOk; exact decide_eq_true (by omega))
  · rw [if_neg c]
    have c' : (((cnt left p : Nat) : Int) == (k : Int)) = false := by
      refine beq_eq_false_iff_ne.mpr fun z => c (by omega)
    rw [c'] at e4
    exact s_if0 e4
end
end S29

-- S29z
set_option Elab.async false
set_option linter.all false
set_option maxRecDepth 100000
set_option maxHeartbeats 4000000
namespace S29
open Fx G P29
theorem take_filter {f : Pt → Bool} {left : List Pt} {j : Nat} {p : Pt} (h : left[j]? = some p) : (left.take (j + 1)).filter f = (left.take j).filter f ++ (if f p = true then [p] else []) := by
  rw [List.take_succ, List.filter_append, h]
  congr 1
  cases z : f p
  · exact List.filter_cons_of_neg (by rw [z]; decide)
  · exact List.filter_cons_of_pos z
section
variable {low high a b : Pt} {s2 s3 s4 s5 s6 s7 s8 s9 s10 s11 s12 s13 : Sl} {L pts left C : List Pt} {x y : Int} {kvs : List (D × D)}
theorem t1_turn {k : Nat} (pw : C.Pairwise fun u v => 0 < cr v u) (nd : left.Nodup) (hm : ∀ x, x ∈ left ↔ x ∈ C) (hs : ∀ z ∈ left, Sml z) (hn : left.length ≤ 169) (hk : k < C.length) : ∃ u v,
    mFor (mItems (mV 6)) (gSet 12) bT2 (sD low high s2 s3 s4 s5 (.val (.lst (left.map PD))) (.lst ((C.take k).map PD)) (.val (.int k)) s9 s10 s11 s12 s13) = .nx (sD low high s2 s3 s4 s5 (.val (.lst (left.map PD))) (.lst ((C.take (k + 1)).map PD)) (.val (.int k)) s9 s10 s11 u v) := by
  have cl : left.length = C.length := same_len nd (pw_nodup pw) hm
  obtain ⟨ρ', e, u, v, rfl⟩ := for_all0 (g := gSet 12) (body := bT2) (ds := left.map PD) (ρ := sD low high s2 s3 s4 s5 (.val (.lst (left.map PD))) (.lst ((C.take k).map PD)) (.val (.int k)) s9 s10 s11 s12 s13)
    (I := fun j ρ => ∃ u v, ρ = sD low high s2 s3 s4 s5 (.val (.lst (left.map PD))) (.lst ((C.take k ++ (left.take j).filter fun x => decide (cnt left x = k)).map PD)) (.val (.int k)) s9 s10 s11 u v) (by
    rintro j ρ d ⟨u, v, rfl⟩ hd
    rw [List.getElem?_map] at hd
    cases q : left[j]? with
    | none => rw [q] at hd; cases hd
    | some p =>
      rw [q] at hd
      cases hd
      have hT : (C.take k ++ (left.take j).filter fun x => decide (cnt left x = k)).length ≤ 1000 := by
        rw [List.length_append]
        have l1 : (C.take k).length ≤ 169 := by rw [List.length_take]; omega
        have l2 : ((left.take j).filter fun x => decide (cnt left x = k)).length ≤ 169 := Nat.le_trans (List.length_filter_le _ _) (by rw [List.length_take]; omega)
        omega
      obtain ⟨w, t⟩ := t2_turn (low := low) (high := high) (s2 := s2) (s3 := s3) (s4 := s4) (s5 := s5) (s9 := s9) (s10 := s10) (s11 := s11) (s13 := v) (k := k) hs (hs p (List.mem_of_getElem? q)) hn hT
      refine ⟨_, rfl, _, t, .val (PD p), w, ?_⟩
      have eT : (if cnt left p = k then (C.take k ++ (left.take j).filter fun x => decide (cnt left x = k)) ++ [p] else C.take k ++ (left.take j).filter fun x => decide (cnt left x = k)) = C.take k ++ (left.take (j + 1)).filter fun x => decide (cnt left x = k) := by
        rw [take_filter q]
        by_cases c : cnt left p = k
        · rw [if_pos c, if_pos (decide_eq_true c), List.append_assoc]
        · rw [if_neg c, if_neg (by rw [decide_eq_false c]; decide), List.append_nil]
      rw [eT]) ⟨s12, s13, by rw [List.take_zero, List.filter_nil, List.append_nil]⟩
  rw [List.length_map, List.take_length, left_k pw nd hm hk] at e
  have ek : C.take k ++ [C[k]] = C.take (k + 1) := by rw [List.take_succ, List.getElem?_eq_getElem hk]; rfl
  rw [ek] at e
  refine ⟨u, v, ?_⟩
  unfold mFor
  have ei : (mItems (mV 6)) (sD low high s2 s3 s4 s5 (.val (.lst (left.map PD))) (.lst ((C.take k).map PD)) (.val (.int k)) s9 s10 s11 s12 s13) = .ok (left.map PD) := rfl
  rw [ei, R.out_ok]
  exact e
theorem t_loop (pw : C.Pairwise fun u v => 0 < cr v u) (nd : left.Nodup) (hm : ∀ x, x ∈ left ↔ x ∈ C) (hs : ∀ z ∈ left, Sml z) (hn : left.length ≤ 169) : ∃ u v w,
    mFor (mRange1 (mCall gLen (mCons (mV 6) mNil))) (gSet 8) (mFor (mItems (mV 6)) (gSet 12) bT2) (sD low high s2 s3 s4 s5 (.val (.lst (left.map PD))) (.lst []) s8 s9 s10 s11 s12 s13) = .nx (sD low high s2 s3 s4 s5 (.val (.lst (left.map PD))) (.lst (C.map PD)) u s9 s10 s11 v w) := by
  have cl : left.length = C.length := same_len nd (pw_nodup pw) hm
  obtain ⟨ρ', e, u, v, w, rfl⟩ := for_all0 (g := gSet 8) (body := mFor (mItems (mV 6)) (gSet 12) bT2) (ds := rangeD 0 (left.length : Nat)) (ρ := sD low high s2 s3 s4 s5 (.val (.lst (left.map PD))) (.lst []) s8 s9 s10 s11 s12 s13)
    (I := fun j ρ => ∃ u v w, ρ = sD low high s2 s3 s4 s5 (.val (.lst (left.map PD))) (.lst ((C.take j).map PD)) u s9 s10 s11 v w) (by
    rintro j ρ d ⟨u, v, w, rfl⟩ hd
    obtain ⟨ed, hj⟩ := rangeD1_at hd
    rw [Int.zero_add] at ed
    subst ed
    obtain ⟨u2, v2, t⟩ := t1_turn (low := low) (high := high) (s2 := s2) (s3 := s3) (s4 := s4) (s5 := s5) (s9 := s9) (s10 := s10) (s11 := s11) (s12 := v) (s13 := w) (k := j) pw nd hm hs hn (by omega)
    exact ⟨_, rfl, _, t, _, _, _, rfl⟩) ⟨s8, s12, s13, rfl⟩
  rw [len_rangeD, cl, List.take_length] at e
  refine ⟨u, v, w, ?_⟩
  unfold mFor
  rw [rngN (n := 0) rfl hn, R.out_ok]
  rw [cl]
  exact e
theorem small_due_ok {g h : Int} (hg : 0 < g) (hh : 0 < h) (e1 : low.1 = g * a.1) (e2 : low.2 = g * a.2) (f1 : high.1 = h * b.1) (f2 : high.2 = h * b.2)
    (bl : (0 ≤ low.1 ∧ low.1 < 13) ∧ 0 ≤ low.2 ∧ low.2 < 13) (bh : (0 ≤ high.1 ∧ high.1 < 13) ∧ 0 ≤ high.2 ∧ high.2 < 13) (Gd : Good a b C) :
    mf_u_law_small_due [PD low, PD high] = .ok (.lst (C.map PD)) := by
  obtain ⟨q, l, eC, hch⟩ := id Gd.ex
  have hl : Sml low := ⟨⟨bl.1.1, by omega⟩, bl.2.1, by omega⟩
  have hh' : Sml high := ⟨⟨bh.1.1, by omega⟩, bh.2.1, by omega⟩
  have pw : C.Pairwise fun u v => 0 < cr v u := by rw [eC]; exact hch.pw
  have key : m_u_law_small_due (sD low high .no .no .no .no .no .no .no .no .no .no .no .no) = .rt (.lst (C.map PD)) := by
    unfold m_u_law_small_due
    refine (s_seq (ρ' := sD low high (.lst []) .no .no .no .no .no .no .no .no .no .no .no) (s_setO (e_lst e_Nil))).trans ?_
    obtain ⟨L, u1, u2, u3, G, t1⟩ := g_loop (s3 := .no) (s4 := .no) (s5 := .no) (s6 := .no) (s7 := .no) (s8 := .no) (s9 := .no) (s10 := .no) (s11 := .no) (s12 := .no) (s13 := .no) hl hh'
    refine (s_seq t1).trans ?_
    obtain ⟨pts, eL⟩ : ∃ pts, L = (0, 0) :: pts := by
      rcases G.hd with z | z
      · omega
      · exact z
    have hn : pts.length ≤ 169 := by have := G.len; rw [eL] at this; simp at this; omega
    have nd : pts.Nodup := by have := G.nd; rw [eL] at this; exact (List.nodup_cons.mp this).2
    have n0 : (0, 0) ∉ pts := by have := G.nd; rw [eL] at this; exact (List.nodup_cons.mp this).1
    have mp : ∀ p : Pt, p ∈ pts ↔ p ≠ (0, 0) ∧ 0 ≤ p.1 ∧ p.1 < 13 ∧ 0 ≤ p.2 ∧ p.2 < 13 ∧ 0 ≤ cr p low ∧ 0 ≤ cr high p := fun p => by
      have m := G.mem p
      rw [eL, List.mem_cons] at m
      constructor
      · intro hp
        have := m.mp (.inr hp)
        exact ⟨fun z => n0 (z ▸ hp), by omega⟩
      · rintro ⟨z, h⟩
        rcases m.mpr (by omega) with h2 | h2
        · exact absurd h2 z
        · exact h2
    refine (s_seq (ρ' := sD low high (.val (.lst (L.map PD))) u3 .no .no .no .no .no u1 .no .no u2 .no) rfl).trans ?_
    refine (s_seq (ρ' := sD low high (.val (.lst (pts.map PD))) u3 .no .no .no .no .no u1 .no .no u2 .no) (s_set (d := .lst (pts.map PD)) (by
      show R.ok (D.lst (cutD (L.map PD) (some ((1 : Nat) : Int)) none)) = _
      rw [cutD_from (by rw [List.length_map, eL]; simp), eL]
      rfl))).trans ?_
    refine (s_seq (ρ' := sD low high (.val (.lst (pts.map PD))) u3 (.dic true []) .no .no .no .no u1 .no .no u2 .no) rfl).trans ?_
    obtain ⟨kvs, u4, u5, u6, S, t2⟩ := s_loop (low := low) (high := high) (s3 := u3) (s5 := .no) (s6 := .no) (s7 := .no) (s8 := .no) (s9 := u1) (s10 := .no) (s11 := .no) (s12 := u2) (s13 := .no) hn
    refine (s_seq t2).trans ?_
    refine (s_seq (ρ' := sD low high (.val (.lst (pts.map PD))) u3 (.val (.dic true kvs)) u4 .no .no .no u1 u5 u6 u2 .no) rfl).trans ?_
    have so : szOk (pts.map PD).length = true := by rw [List.length_map]; unfold szOk; exact decide_eq_true (by omega)
    have e3 : (mLc 12 (mItems (mV 2)) (mBool (mIn not (mV 12) (mV 4))) (mV 12)) (sD low high (.val (.lst (pts.map PD))) u3 (.val (.dic true kvs)) u4 .no .no .no u1 u5 u6 u2 .no) = .ok (.lst ((pts.filter fun p => !has kvs p).map PD)) := by
      unfold mLc
      have ei : (mItems (mV 2)) (sD low high (.val (.lst (pts.map PD))) u3 (.val (.dic true kvs)) u4 .no .no .no u1 u5 u6 u2 .no) = .ok (pts.map PD) := rfl
      rw [ei, R.bind_ok, if_pos so, lc_keep (f := fun p => !has kvs p) (fun p => by
        refine e_bool ?_
        show (if keyOk true (PD p) = true then R.ok (D.bl (!(valD kvs (PD p)).isSome)) else R.bad) = _
        rw [if_pos keyOk_P, valD_has]) (fun p => e_V rfl)]
      rfl
    have lm : ∀ x, x ∈ (pts.filter fun p => !has kvs p) ↔ x ∈ C := fun x => by
      have h1 := left_mem hg hh e1 e2 f1 f2 ⟨bl.1.2, bl.2.2⟩ ⟨bh.1.2, bh.2.2⟩ hch (fun z hz => by have := Gd.nn z (by rw [eC]; exact hz); omega) (fun z hz => by have := Gd.nn z (by rw [eC]; exact hz); omega) mp x
      rw [eC, ← h1, List.mem_filter]
      have h2 := S.all x
      constructor
      · rintro ⟨z1, z2⟩
        refine ⟨z1, fun z3 => ?_⟩
        rw [h2.mpr z3] at z2
        cases z2
      · rintro ⟨z1, z2⟩
        refine ⟨z1, ?_⟩
        cases z3 : has kvs x
        · rfl
        · exact absurd (h2.mp z3) z2
    have hs : ∀ z ∈ (pts.filter fun p => !has kvs p), Sml z := fun z hz => by
      have := (mp z).mp (List.mem_filter.mp hz).1
      exact ⟨⟨this.2.1, by omega⟩, this.2.2.2.1, by omega⟩
    obtain ⟨left, hleft⟩ : ∃ left, left = pts.filter fun p => !has kvs p := ⟨_, rfl⟩
    have ndl : left.Nodup := by rw [hleft]; exact nd.filter _
    have hnl : left.length ≤ 169 := by rw [hleft]; exact Nat.le_trans (List.length_filter_le _ _) hn
    rw [← hleft] at e3 lm hs
    refine (s_seq (ρ' := sD low high (.val (.lst (pts.map PD))) u3 (.val (.dic true kvs)) u4 (.val (.lst (left.map PD))) .no .no u1 u5 u6 u2 .no) (s_set e3)).trans ?_
    refine (s_seq (ρ' := sD low high (.val (.lst (pts.map PD))) u3 (.val (.dic true kvs)) u4 (.val (.lst (left.map PD))) (.lst []) .no u1 u5 u6 u2 .no) (s_setO (e_lst e_Nil))).trans ?_
    obtain ⟨w1, w2, w3, t3⟩ := t_loop (low := low) (high := high) (s2 := .val (.lst (pts.map PD))) (s3 := u3) (s4 := .val (.dic true kvs)) (s5 := u4) (s8 := .no) (s9 := u1) (s10 := u5) (s11 := u6) (s12 := u2) (s13 := .no) pw ndl lm hs hnl
    exact (s_seq t3).trans rfl
  show (m_u_law_small_due (sD low high .no .no .no .no .no .no .no .no .no .no .no .no)).res false = _
  rw [key]
  rfl
end
end S29

-- S30
set_option Elab.async false
set_option linter.all false
set_option maxRecDepth 100000
set_option maxHeartbeats 4000000
/-! law k29 -/
namespace P29
theorem gc_one {b p : Pt} (h : cr b p = 1) : gc b = 1 := by
  have e := lo_mul (p := b)
  have h0 : 0 ≤ gc b := by unfold gc; omega
  have h2 : gc b ∣ 1 := ⟨(lo b).1 * p.2 - (lo b).2 * p.1, by
    rw [← h]
    unfold cr
    obtain ⟨e1, e2⟩ := e
    obtain ⟨g, hg⟩ : ∃ g, g = gc b := ⟨_, rfl⟩
    obtain ⟨u, hu⟩ : ∃ u, u = lo b := ⟨_, rfl⟩
    rw [← hg, ← hu] at e1 e2 ⊢
    rw [e1, e2]
    grind⟩
  exact Int.eq_one_of_dvd_one h0 h2
theorem Ch.gc_end {b p q : Pt} {l : List Pt} (h : Ch b p q l) : gc b = 1 := by
  induction h with
  | last h => exact gc_one h
  | step _ _ _ _ _ ih => exact ih
end P29
namespace S29
open Fx G P29
/-- within the bounds -/
def Bd (p : Pt) : Prop := (0 ≤ p.1 ∧ p.1 ≤ coin) ∧ 0 ≤ p.2 ∧ p.2 ≤ coin
theorem ends_of {low high : Pt} (hl : Bd low) (hh : Bd high) (n : 0 < cr high low) : Drs low high (lo low) (lo high) ∧ mf_u_law_lowest [PD low] = .ok (PD (lo low)) ∧ mf_u_law_lowest [PD high] = .ok (PD (lo high)) ∧ 0 < gc low ∧ 0 < gc high := by
  obtain ⟨⟨l1, l2⟩, l3, l4⟩ := hl
  obtain ⟨⟨h1, h2⟩, h3, h4⟩ := hh
  have p1 := Int.mul_nonneg h3 l1
  have lz : low.2 ≠ 0 := fun z => by
    have : cr high low = - (high.2 * low.1) := by unfold cr; rw [z]; grind
    omega
  have ln : low.1 ≠ 0 ∨ low.2 ≠ 0 := .inr lz
  have hn : high.1 ≠ 0 ∨ high.2 ≠ 0 := by
    false_or_by_contra
    have z1 : high.1 = 0 := by omega
    have z2 : high.2 = 0 := by omega
    have : cr high low = 0 := by unfold cr; rw [z1, z2]; grind
    omega
  have gl := gc_pos ln
  have gh := gc_pos hn
  have bl := lo_bd ln l1 l2 l3 l4
  have bh := lo_bd hn h1 h2 h3 h4
  have ml := lo_mul (p := low)
  have mh := lo_mul (p := high)
  have cg := cr_gg ml.1 ml.2 mh.1 mh.2
  refine ⟨⟨fun e at_ he => primitive_ok he l1 l2 l3 l4 ln, fun e at_ he => primitive_ok he h1 h2 h3 h4 hn, ⟨bl.1.1, bl.1.2, ?_, bl.2.2, bh.1.1, bh.1.2, bh.2.1, bh.2.2, ?_, prim_of (gc_lo hn), ?_⟩⟩, lowest_ok l1 l2 l3 l4 ln, lowest_ok h1 h2 h3 h4 hn, gl, gh⟩
  · have : (lo low).2 ≠ 0 := fun z => by rw [z, Int.mul_zero] at ml; exact lz ml.2
    omega
  · have g1 := gc_lo ln
    unfold gc at g1
    show Nat.gcd _ _ = 1
    rw [Nat.gcd_comm]
    omega
  · rw [cg] at n
    exact (pos_mul' (Int.mul_pos gh gl)).mp n
/-! ### the law's tail -/
abbrev sL (s0 s1 s2 s3 s4 : Sl) (low high : Pt) (due : D) (s8 s9 s10 s11 : Sl) : Env := [s0, s1, s2, s3, s4, .val (PD low), .val (PD high), .val due, s8, s9, s10, s11]
def tailS : MS := (mSeq (mSet 8 (mDef mf_u_law_length (mCons (mDef mf_u_law_lowest (mCons (mV 5) mNil)) (mCons (mDef mf_u_law_lowest (mCons (mV 6) mNil)) mNil))))
  (mSeq (mIte (mBool (mBin (gI (kBl fun i j => decide (i < j))) (mV 1) (mC (.int 3)))) (mSet 7 (mDef mf_u_law_small_due (mCons (mV 5) (mCons (mV 6) mNil)))) mNext)
  (mSeq (mIte (mAnd (mBool (mBin gNe (mV 7) (mLst mNil))) (mBool (mBin gNe (mV 8) (mCall gLen (mCons (mV 7) mNil))))) (mRet (mC (.bl false))) mNext)
  (mRet (mAndV (mDef mf_u_law_asked (mCons (mV 5) (mCons (mV 6) (mCons (mV 7) (mCons (mV 8) mNil))))) (mDef mf_u_law_errors (mCons (mV 5) (mCons (mV 6) mNil))))))))
def swapS : MS := (mIte (mBool (mBin (gI (kBl fun i j => decide (i < j))) (mDef mf_u_law_turn (mCons (mV 6) (mCons (mV 5) mNil))) (mC (.int 0)))) (mSeq (mSet 10 (mV 5))
  (mSeq (mSet 5 (mV 6))
  (mSet 6 (mV 10)))) mNext)
def flatS : MS := (mIte (mBool (mBin gEq (mDef mf_u_law_turn (mCons (mV 6) (mCons (mV 5) mNil))) (mC (.int 0)))) (mSeq (mIte (mNot (mTru (mDef mf_u_law_refuses (mCons (mV 5) (mCons (mV 6) (mCons (mC .non) (mCons (mC (.str "flat")) (mCons (mC (.int 0)) mNil)))))))) (mRet (mC (.bl false))) mNext)
  (mSeq (mSet 5 (mTup (mCons (mC (.int 0)) (mCons (mC (.int 3)) mNil))))
  (mSet 6 (mTup (mCons (mC (.int 5)) (mCons (mC (.int 7)) mNil)))))) mNext)
def zeroL : MS := (mIte (mBool (mBin gEq (mV 5) (mTup (mCons (mC (.int 0)) (mCons (mC (.int 0)) mNil))))) (mSet 5 (mTup (mCons (mC (.int 0)) (mCons (mC (.int 1)) mNil)))) mNext)
def zeroH : MS := (mIte (mBool (mBin gEq (mV 6) (mTup (mCons (mC (.int 0)) (mCons (mC (.int 0)) mNil))))) (mSet 6 (mTup (mCons (mC (.int 1)) (mCons (mC (.int 0)) mNil)))) mNext)
/-- below 13 -/
def B13 (p : Pt) : Prop := (0 ≤ p.1 ∧ p.1 < 13) ∧ 0 ≤ p.2 ∧ p.2 < 13
/-- what a share brings -/
def Brings (share : Int) (low high : Pt) (due : D) : Prop := (share < 3 ∧ due = .lst [] ∧ B13 low ∧ B13 high) ∨ (3 ≤ share ∧ due = .lst []) ∨ (3 ≤ share ∧ 0 < cr high low ∧ ∃ q l, Ch (lo high) (lo low) q l ∧ due = .lst ((lo low :: q :: l).map PD))
section
variable {low high : Pt} {s0 s2 s3 s4 s8 s9 s10 s11 : Sl} {due : D} {share : Int}
theorem tail_ok (hl : Bd low) (hh : Bd high) (n : 0 < cr high low) (hb : Brings share low high due) : tailS (sL s0 (.val (.int share)) s2 s3 s4 low high due s8 s9 s10 s11) = .rt (.bl true) := by
  obtain ⟨R, h1, h2, gl, gh⟩ := ends_of hl hh n
  obtain ⟨C, Q, uq⟩ := chn_of R
  unfold tailS
  refine (s_seq (ρ' := sL s0 (.val (.int share)) s2 s3 s4 low high due (.val (.int (C.length : Nat))) s9 s10 s11) (s_set (e_def (ds := [PD (lo low), PD (lo high)]) (e_cons (e_def (ds := [PD low]) rfl h1) (e_cons (e_def (ds := [PD high]) rfl h2) e_Nil)) Q.len))).trans ?_
  have go : ∀ due', Due C due' → (mSeq (mIte (mAnd (mBool (mBin gNe (mV 7) (mLst mNil))) (mBool (mBin gNe (mV 8) (mCall gLen (mCons (mV 7) mNil))))) (mRet (mC (.bl false))) mNext)
      (mRet (mAndV (mDef mf_u_law_asked (mCons (mV 5) (mCons (mV 6) (mCons (mV 7) (mCons (mV 8) mNil))))) (mDef mf_u_law_errors (mCons (mV 5) (mCons (mV 6) mNil)))))) (sL s0 (.val (.int share)) s2 s3 s4 low high due' (.val (.int (C.length : Nat))) s9 s10 s11) = .rt (.bl true) := by
    intro due' hd
    have t1 : (mIte (mAnd (mBool (mBin gNe (mV 7) (mLst mNil))) (mBool (mBin gNe (mV 8) (mCall gLen (mCons (mV 7) mNil))))) (mRet (mC (.bl false))) mNext) (sL s0 (.val (.int share)) s2 s3 s4 low high due' (.val (.int (C.length : Nat))) s9 s10 s11) = .nx (sL s0 (.val (.int share)) s2 s3 s4 low high due' (.val (.int (C.length : Nat))) s9 s10 s11) := by
      rcases hd with rfl | rfl
      · exact s_if0 (e_and0 (e_bool (e_bin (e_V rfl) (e_lst e_Nil) gNe_nil)))
      · refine s_if0 ((e_and1 (e_bool (e_bin (e_V rfl) (e_lst e_Nil) (gNe_C Q.two)))).trans ?_)
        refine (e_bool (e_bin (y := .int (C.length : Nat)) (e_V rfl) (e_call (e_cons (e_V rfl) e_Nil) ?_) gNe_int)).trans ?_
        · show some (D.int (((C.map PD).length : Nat) : Int)) = _
          rw [List.length_map]
        · rw [beq_self_eq_true]; rfl
    refine (s_seq t1).trans (s_ret ?_)
    unfold mAndV
    rw [e_def (ds := [PD low, PD high, due', .int (C.length : Nat)]) rfl (asked_ok Q hd h1 h2), Fx.R.bind_ok]
    exact e_def (ds := [PD low, PD high]) rfl (errors_ok R)
  rcases hb with ⟨z1, z2, z3, z4⟩ | ⟨z1, z2⟩ | ⟨z1, z2, q, l, ch, z3⟩
  · have c1 : (mBool (mBin (gI (kBl fun i j => decide (i < j))) (mV 1) (mC (.int 3)))) (sL s0 (.val (.int share)) s2 s3 s4 low high due (.val (.int (C.length : Nat))) s9 s10 s11) = .ok true := e_bool (e_bin (e_V rfl) e_C (by show some (D.bl (decide (share < 3))) = _; rw [decide_eq_true z1]))
    have sd := small_due_ok gl gh lo_mul.1 lo_mul.2 lo_mul.1 lo_mul.2 z3 z4 Q.g
    refine (s_seq (ρ' := sL s0 (.val (.int share)) s2 s3 s4 low high (.lst (C.map PD)) (.val (.int (C.length : Nat))) s9 s10 s11) ((s_if1 c1).trans (s_set (e_def (ds := [PD low, PD high]) rfl sd)))).trans ?_
    exact go _ (.inr rfl)
  · have c1 : (mBool (mBin (gI (kBl fun i j => decide (i < j))) (mV 1) (mC (.int 3)))) (sL s0 (.val (.int share)) s2 s3 s4 low high due (.val (.int (C.length : Nat))) s9 s10 s11) = .ok false := e_bool (e_bin (e_V rfl) e_C (by show some (D.bl (decide (share < 3))) = _; rw [decide_eq_false (by omega)]))
    refine (s_seq (ρ' := sL s0 (.val (.int share)) s2 s3 s4 low high due (.val (.int (C.length : Nat))) s9 s10 s11) (s_if0 c1)).trans ?_
    exact go _ (.inl z2)
  · have c1 : (mBool (mBin (gI (kBl fun i j => decide (i < j))) (mV 1) (mC (.int 3)))) (sL s0 (.val (.int share)) s2 s3 s4 low high due (.val (.int (C.length : Nat))) s9 s10 s11) = .ok false := e_bool (e_bin (e_V rfl) e_C (by show some (D.bl (decide (share < 3))) = _; rw [decide_eq_false (by omega)]))
    refine (s_seq (ρ' := sL s0 (.val (.int share)) s2 s3 s4 low high due (.val (.int (C.length : Nat))) s9 s10 s11) (s_if0 c1)).trans ?_
    exact go _ (.inr (by rw [z3, uq q l ch]))
theorem bd_turn (hl : Bd low) (hh : Bd high) : mf_u_law_turn [PD high, PD low] = .ok (.int (cr high low)) := by
  have hc : coin = 1000000000000 := rfl
  obtain ⟨⟨a1, a2⟩, a3, a4⟩ := hl
  obtain ⟨⟨b1, b2⟩, b3, b4⟩ := hh
  exact law_turn_ok ⟨by omega, by omega⟩ ⟨by omega, by omega⟩ ⟨by omega, by omega⟩ ⟨by omega, by omega⟩
theorem swap_ok (hl : Bd low) (hh : Bd high) (n : cr high low ≠ 0) (hb : Brings share low high due) : mSeq swapS tailS (sL s0 (.val (.int share)) s2 s3 s4 low high due s8 s9 s10 s11) = .rt (.bl true) := by
  have t := bd_turn hl hh
  have c : (mBool (mBin (gI (kBl fun i j => decide (i < j))) (mDef mf_u_law_turn (mCons (mV 6) (mCons (mV 5) mNil))) (mC (.int 0)))) (sL s0 (.val (.int share)) s2 s3 s4 low high due s8 s9 s10 s11) = .ok (decide (cr high low < 0)) := e_bool (e_bin (e_def (ds := [PD high, PD low]) rfl t) e_C rfl)
  by_cases z : cr high low < 0
  · rw [decide_eq_true z] at c
    have cn : cr low high = - cr high low := cr_neg _ _
    refine (s_seq (ρ' := sL s0 (.val (.int share)) s2 s3 s4 high low due s8 s9 (.val (PD low)) s11) ((s_if1 c).trans ?_)).trans (tail_ok hh hl (by omega) ?_)
    · refine (s_seq (ρ' := sL s0 (.val (.int share)) s2 s3 s4 low high due s8 s9 (.val (PD low)) s11) (s_set (e_V rfl))).trans ?_
      refine (s_seq (ρ' := sL s0 (.val (.int share)) s2 s3 s4 high high due s8 s9 (.val (PD low)) s11) (s_set (e_V rfl))).trans ?_
      exact s_set (e_V rfl)
    · rcases hb with ⟨z1, z2, z3, z4⟩ | ⟨z1, z2⟩ | ⟨z1, z2, _⟩
      · exact .inl ⟨z1, z2, z4, z3⟩
      · exact .inr (.inl ⟨z1, z2⟩)
      · omega
  · rw [decide_eq_false z] at c
    exact (s_seq (ρ' := sL s0 (.val (.int share)) s2 s3 s4 low high due s8 s9 s10 s11) (s_if0 c)).trans (tail_ok hl hh (by omega) hb)
theorem flat_ok (hl : Bd low) (hh : Bd high) (ln : low.1 ≠ 0 ∨ low.2 ≠ 0) (hn : high.1 ≠ 0 ∨ high.2 ≠ 0) (hb : Brings share low high due) : mSeq flatS (mSeq swapS tailS) (sL s0 (.val (.int share)) s2 s3 s4 low high due s8 s9 s10 s11) = .rt (.bl true) := by
  have t := bd_turn hl hh
  have c : (mBool (mBin gEq (mDef mf_u_law_turn (mCons (mV 6) (mCons (mV 5) mNil))) (mC (.int 0)))) (sL s0 (.val (.int share)) s2 s3 s4 low high due s8 s9 s10 s11) = .ok (cr high low == 0) := e_bool (e_bin (e_def (ds := [PD high, PD low]) rfl t) e_C gEq_int)
  by_cases z : cr high low = 0
  · have z' : (cr high low == 0) = true := by rw [z]; rfl
    rw [z'] at c
    have ml := lo_mul (p := low)
    have mh := lo_mul (p := high)
    have cg := cr_gg ml.1 ml.2 mh.1 mh.2
    have c0 : cr (lo high) (lo low) = 0 := by
      rw [z] at cg
      have p := Int.mul_pos (gc_pos hn) (gc_pos ln)
      rcases Int.mul_eq_zero.mp cg.symm with h | h
      · omega
      · exact h
    have pl := lo_bd ln hl.1.1 hl.1.2 hl.2.1 hl.2.2
    have ph := lo_bd hn hh.1.1 hh.1.2 hh.2.1 hh.2.2
    have rf := flat_of (l := PD low) (h := PD high) (p := lo low) (q := lo high) nn_non rfl (by omega) (by omega) (primitive_ok rfl hl.1.1 hl.1.2 hl.2.1 hl.2.2 ln) (primitive_ok rfl hh.1.1 hh.1.2 hh.2.1 hh.2.2 hn) (turn_cr ph.1 ph.2 pl.1 pl.2) (by omega)
    refine (s_seq (ρ' := sL s0 (.val (.int share)) s2 s3 s4 (0, 3) (5, 7) due s8 s9 s10 s11) ((s_if1 c).trans ?_)).trans (swap_ok ?_ ?_ (by decide) ?_)
    · refine (s_seq (ρ' := sL s0 (.val (.int share)) s2 s3 s4 low high due s8 s9 s10 s11) (s_if0 (e_not (b := true) (e_tru (d := .bl true) (e_def (ds := [PD low, PD high, .non, .str "flat", .int 0]) rfl rf) rfl)))).trans ?_
      refine (s_seq (ρ' := sL s0 (.val (.int share)) s2 s3 s4 (0, 3) high due s8 s9 s10 s11) (s_set (e_tup (e_cons e_C (e_cons e_C e_Nil))))).trans ?_
      exact s_set (e_tup (e_cons e_C (e_cons e_C e_Nil)))
    · exact ⟨⟨by decide, by decide⟩, by decide, by decide⟩
    · exact ⟨⟨by decide, by decide⟩, by decide, by decide⟩
    · rcases hb with ⟨z1, z2, z3, z4⟩ | ⟨z1, z2⟩ | ⟨z1, z2, _⟩
      · exact .inl ⟨z1, z2, ⟨⟨by decide, by decide⟩, by decide, by decide⟩, ⟨⟨by decide, by decide⟩, by decide, by decide⟩⟩
      · exact .inr (.inl ⟨z1, z2⟩)
      · omega
  · have z' : (cr high low == 0) = false := beq_eq_false_iff_ne.mpr z
    rw [z'] at c
    exact (s_seq (ρ' := sL s0 (.val (.int share)) s2 s3 s4 low high due s8 s9 s10 s11) (s_if0 c)).trans (swap_ok hl hh z hb)
theorem zero_ok (hl : Bd low) (hh : Bd high) (hb : Brings share low high due) : mSeq zeroL (mSeq zeroH (mSeq flatS (mSeq swapS tailS))) (sL s0 (.val (.int share)) s2 s3 s4 low high due s8 s9 s10 s11) = .rt (.bl true) := by
  have nz : 0 < cr high low → (low.1 ≠ 0 ∨ low.2 ≠ 0) ∧ (high.1 ≠ 0 ∨ high.2 ≠ 0) := fun n => by
    constructor
    · false_or_by_contra
      have z1 : low.1 = 0 := by omega
      have z2 : low.2 = 0 := by omega
      have : cr high low = 0 := by unfold cr; rw [z1, z2]; grind
      omega
    · false_or_by_contra
      have z1 : high.1 = 0 := by omega
      have z2 : high.2 = 0 := by omega
      have : cr high low = 0 := by unfold cr; rw [z1, z2]; grind
      omega
  have b01 : Bd (0, 1) := ⟨⟨by decide, by decide⟩, by decide, by decide⟩
  have b10 : Bd (1, 0) := ⟨⟨by decide, by decide⟩, by decide, by decide⟩
  have t01 : B13 (0, 1) := ⟨⟨by decide, by decide⟩, by decide, by decide⟩
  have t10 : B13 (1, 0) := ⟨⟨by decide, by decide⟩, by decide, by decide⟩
  have c : ∀ low high : Pt, (mBool (mBin gEq (mV 5) (mTup (mCons (mC (.int 0)) (mCons (mC (.int 0)) mNil))))) (sL s0 (.val (.int share)) s2 s3 s4 low high due s8 s9 s10 s11) = .ok (low.1 == 0 && low.2 == 0) := fun low high => e_bool (e_bin (e_V rfl) (e_tup (e_cons e_C (e_cons e_C e_Nil))) gEq_P)
  have c2 : ∀ low high : Pt, (mBool (mBin gEq (mV 6) (mTup (mCons (mC (.int 0)) (mCons (mC (.int 0)) mNil))))) (sL s0 (.val (.int share)) s2 s3 s4 low high due s8 s9 s10 s11) = .ok (high.1 == 0 && high.2 == 0) := fun low high => e_bool (e_bin (e_V rfl) (e_tup (e_cons e_C (e_cons e_C e_Nil))) gEq_P)
  have s1 : ∃ low', Bd low' ∧ (low'.1 ≠ 0 ∨ low'.2 ≠ 0) ∧ Brings share low' high due ∧ zeroL (sL s0 (.val (.int share)) s2 s3 s4 low high due s8 s9 s10 s11) = .nx (sL s0 (.val (.int share)) s2 s3 s4 low' high due s8 s9 s10 s11) := by
    have c := c low high
    by_cases z : low.1 = 0 ∧ low.2 = 0
    · have z' : (low.1 == 0 && low.2 == 0) = true := by rw [z.1, z.2]; rfl
      rw [z'] at c
      refine ⟨(0, 1), b01, .inr (by decide), ?_, (s_if1 c).trans (s_set (e_tup (e_cons e_C (e_cons e_C e_Nil))))⟩
      rcases hb with ⟨z1, z2, z3, z4⟩ | ⟨z1, z2⟩ | ⟨z1, z2, _⟩
      · exact .inl ⟨z1, z2, t01, z4⟩
      · exact .inr (.inl ⟨z1, z2⟩)
      · have := (nz z2).1; omega
    · have z' : (low.1 == 0 && low.2 == 0) = false := by
        rw [Bool.and_eq_false_iff]
        by_cases y : low.1 = 0
        · exact .inr (beq_eq_false_iff_ne.mpr (by omega))
        · exact .inl (beq_eq_false_iff_ne.mpr y)
      rw [z'] at c
      exact ⟨low, hl, by omega, hb, s_if0 c⟩
  obtain ⟨low', hl', ln, hb', e1⟩ := s1
  have s2' : ∃ high', Bd high' ∧ (high'.1 ≠ 0 ∨ high'.2 ≠ 0) ∧ Brings share low' high' due ∧ zeroH (sL s0 (.val (.int share)) s2 s3 s4 low' high due s8 s9 s10 s11) = .nx (sL s0 (.val (.int share)) s2 s3 s4 low' high' due s8 s9 s10 s11) := by
    have c := c2 low' high
    by_cases z : high.1 = 0 ∧ high.2 = 0
    · have z' : (high.1 == 0 && high.2 == 0) = true := by rw [z.1, z.2]; rfl
      rw [z'] at c
      refine ⟨(1, 0), b10, .inl (by decide), ?_, (s_if1 c).trans (s_set (e_tup (e_cons e_C (e_cons e_C e_Nil))))⟩
      rcases hb' with ⟨z1, z2, z3, z4⟩ | ⟨z1, z2⟩ | ⟨z1, z2, _⟩
      · exact .inl ⟨z1, z2, z3, t10⟩
      · exact .inr (.inl ⟨z1, z2⟩)
      · exfalso
        have : cr high low' = 0 := by unfold cr; rw [z.1, z.2]; grind
        omega
    · have z' : (high.1 == 0 && high.2 == 0) = false := by
        rw [Bool.and_eq_false_iff]
        by_cases y : high.1 = 0
        · exact .inr (beq_eq_false_iff_ne.mpr (by omega))
        · exact .inl (beq_eq_false_iff_ne.mpr y)
      rw [z'] at c
      exact ⟨high, hh, by omega, hb', s_if0 c⟩
  obtain ⟨high', hh', hn, hb2, e2⟩ := s2'
  exact (s_seq e1).trans ((s_seq e2).trans (flat_ok hl' hh' ln hn hb2))
end
end S29

-- S31
set_option Elab.async false
set_option linter.all false
set_option maxRecDepth 100000
set_option maxHeartbeats 4000000
namespace S29
open Fx G P29
def builtS : MS := (mSeq (mSet 7 (mDef mf_u_law_built (mCons (mV 0) mNil)))
  (mSeq (mSet 9 (mBin gAdd (mC (.int 1)) (mBin (gI kMod) (mBin gIx (mV 3) (mC (.int 0))) (mC (.int 90)))))
  (mSeq (mSet 5 (mTup (mCons (mBin (gI kMul) (mV 9) (mBin gIx (mBin gIx (mV 7) (mC (.int 0))) (mC (.int 0)))) (mCons (mBin (gI kMul) (mV 9) (mBin gIx (mBin gIx (mV 7) (mC (.int 0))) (mC (.int 1)))) mNil))))
  (mSeq (mSet 9 (mBin gAdd (mC (.int 1)) (mBin (gI kMod) (mBin gIx (mV 3) (mC (.int 1))) (mC (.int 90)))))
  (mSet 6 (mTup (mCons (mBin (gI kMul) (mV 9) (mBin gIx (mBin gIx (mV 7) (mNeg (mC (.int 1)))) (mC (.int 0)))) (mCons (mBin (gI kMul) (mV 9) (mBin gIx (mBin gIx (mV 7) (mNeg (mC (.int 1)))) (mC (.int 1)))) mNil))))))))
abbrev nums (n0 n1 n2 n3 : Int) : D := .lst [.int n0, .int n1, .int n2, .int n3]
theorem small_bd {p : Pt} {k : Int} (k0 : 0 < k) (k1 : k ≤ 90) (h : (0 ≤ p.1 ∧ p.1 ≤ 10 ^ 10) ∧ 0 ≤ p.2 ∧ p.2 ≤ 10 ^ 10) : Bd (k * p.1, k * p.2) := by
  have hc : coin = 1000000000000 := rfl
  have m1 := Int.mul_nonneg (Int.le_of_lt k0) h.1.1
  have m2 := Int.mul_nonneg (Int.le_of_lt k0) h.2.1
  have m3 : k * p.1 ≤ 90 * p.1 := Int.mul_le_mul_of_nonneg_right k1 h.1.1
  have m4 : k * p.2 ≤ 90 * p.2 := Int.mul_le_mul_of_nonneg_right k1 h.2.1
  exact ⟨⟨m1, by dsimp only; omega⟩, m2, by dsimp only; omega⟩
theorem built_step (ns : List Int) {s2 s4 s5 s6 s8 s9 s10 s11 : Sl} {share n0 n1 n2 n3 : Int} (hs : 3 ≤ share) : ∃ low high due u, Bd low ∧ Bd high ∧ Brings share low high due ∧
    builtS [.val (.lst (ns.map .int)), .val (.int share), s2, .val (nums n0 n1 n2 n3), s4, s5, s6, .val (.lst []), s8, s9, s10, s11] = .nx (sL (.val (.lst (ns.map .int))) (.val (.int share)) s2 (.val (nums n0 n1 n2 n3)) s4 low high due s8 u s10 s11) := by
  obtain ⟨a, C, B, hC, a0, a1, a2, e⟩ := built_ok ns
  obtain ⟨q, l, b, eC, ch, p1, p2, p3, p4, p5, p6⟩ := B.ex
  obtain ⟨k, hk⟩ : ∃ k, k = 1 + n0 % 90 := ⟨_, rfl⟩
  obtain ⟨m, hm⟩ : ∃ m, m = 1 + n1 % 90 := ⟨_, rfl⟩
  have k0 : 0 < k := by omega
  have k1 : k ≤ 90 := by omega
  have m0 : 0 < m := by omega
  have m1 : m ≤ 90 := by omega
  have ba := small_bd (p := a) k0 k1 ⟨⟨a0, by omega⟩, by omega, by omega⟩
  have bb := small_bd (p := b) m0 m1 ⟨⟨by omega, p5⟩, by omega, p6⟩
  have ga : gc a = 1 := by
    unfold gc
    rw [a2]
    show ((Nat.gcd a.1.natAbs 1 : Nat) : Int) = 1
    rw [Nat.gcd_one_right]
    rfl
  have gb := ch.gc_end
  have la := lo_of k0 ga
  have lb := lo_of m0 gb
  have T := ch.two.1
  have cp : 0 < cr b a := by have := T.nn; have := T.lt; omega
  refine ⟨(k * a.1, k * a.2), (m * b.1, m * b.2), .lst (C.map PD), .val (.int m), ba, bb, .inr (.inr ⟨hs, ?_, q, l, by rw [la, lb]; exact ch, by rw [la, eC]⟩), ?_⟩
  · rw [cr_gg (low := (k * a.1, k * a.2)) (high := (m * b.1, m * b.2)) rfl rfl rfl rfl]
    exact Int.mul_pos (Int.mul_pos m0 k0) cp
  · have i0 : gIx (.lst (C.map PD)) (.int 0) = some (PD a) := ixC (i := 0) rfl (by rw [eC]; rfl)
    have i1 : gIx (.lst (C.map PD)) (.int (-1)) = some (PD b) := ixL_last (by rw [eC]; exact Ch_last ch)
    have sk : small k = true := sm_of (by omega) (by omega)
    have sm : small m = true := sm_of (by omega) (by omega)
    have s1 : small a.1 = true := sm_of (by omega) (by omega)
    have s2' : small a.2 = true := sm_of (by omega) (by omega)
    have s3 : small b.1 = true := sm_of (by omega) (by omega)
    have s4' : small b.2 = true := sm_of (by omega) (by omega)
    unfold builtS
    refine (s_seq (ρ' := [.val (.lst (ns.map .int)), .val (.int share), s2, .val (nums n0 n1 n2 n3), s4, s5, s6, .val (.lst (C.map PD)), s8, s9, s10, s11]) (s_set (e_def (ds := [.lst (ns.map .int)]) rfl e))).trans ?_
    refine (s_seq (ρ' := [.val (.lst (ns.map .int)), .val (.int share), s2, .val (nums n0 n1 n2 n3), s4, s5, s6, .val (.lst (C.map PD)), s8, .val (.int k), s10, s11]) (s_set (e_bin e_C (e_bin (y := .int 90) (d := .int (n0 % 90)) (e_bin (e_V rfl) e_C rfl) e_C (kMod_ok (by decide))) (by rw [hk]; rfl)))).trans ?_
    refine (s_seq (ρ' := [.val (.lst (ns.map .int)), .val (.int share), s2, .val (nums n0 n1 n2 n3), s4, .val (PD (k * a.1, k * a.2)), s6, .val (.lst (C.map PD)), s8, .val (.int k), s10, s11]) (s_set (e_tup (e_cons (e_bin (e_V rfl) (e_bin (e_bin (e_V rfl) e_C i0) e_C rfl) (kMul_ok sk s1)) (e_cons (e_bin (e_V rfl) (e_bin (e_bin (e_V rfl) e_C i0) e_C rfl) (kMul_ok sk s2')) e_Nil))))).trans ?_
    refine (s_seq (ρ' := [.val (.lst (ns.map .int)), .val (.int share), s2, .val (nums n0 n1 n2 n3), s4, .val (PD (k * a.1, k * a.2)), s6, .val (.lst (C.map PD)), s8, .val (.int m), s10, s11]) (s_set (e_bin e_C (e_bin (y := .int 90) (d := .int (n1 % 90)) (e_bin (e_V rfl) e_C rfl) e_C (kMod_ok (by decide))) (by rw [hm]; rfl)))).trans ?_
    exact s_set (e_tup (e_cons (e_bin (e_V rfl) (e_bin (e_bin (e_V rfl) (e_neg e_C) i1) e_C rfl) (kMul_ok sm s3)) (e_cons (e_bin (e_V rfl) (e_bin (e_bin (e_V rfl) (e_neg e_C) i1) e_C rfl) (kMul_ok sm s4')) e_Nil)))
theorem rng4 {ρ : Env} : mRange1 (mC (.int 4)) ρ = .ok [.int 0, .int 1, .int 2, .int 3] := by
  unfold mRange1
  rw [e_C, R.bind_ok]
  dsimp only
  rw [if_pos (by decide +kernel)]
  rfl
theorem nums_ok (ns : List Int) {ρ : Env} (h : (noExc ρ)[0]? = some (.val (.lst (ns.map .int)))) (hl : ρ.length = 12) : (mLc 11 (mRange1 (mC (.int 4))) mYes (mBin gAdd (mDef mf_u_law_cell (mCons (mV 0) (mCons (mBin gAdd (mC (.int 1)) (mV 11)) mNil))) (mBin gIx (mLst (mCons (mC (.int 1)) (mCons (mC (.int 12)) (mCons (mC (.int 9)) (mCons (mC (.int 4)) mNil))))) (mV 11)))) ρ = .ok (nums (cell ns 1 + 1) (cell ns 2 + 12) (cell ns 3 + 9) (cell ns 4 + 4)) := by
  have hn : (noExc ρ).length = 12 := by unfold noExc; rw [List.length_map, hl]
  obtain ⟨σ, hσ⟩ : ∃ σ, σ = noExc ρ := ⟨_, rfl⟩
  rw [← hσ] at h hn
  unfold mLc
  rw [rng4, R.bind_ok, if_pos (by decide +kernel), ← hσ]
  have tk : ∀ (k : Nat) (w : Int), ixL [.int 1, .int 12, .int 9, .int 4] (k : Int) = some (.int w) → (mBin gAdd (mDef mf_u_law_cell (mCons (mV 0) (mCons (mBin gAdd (mC (.int 1)) (mV 11)) mNil))) (mBin gIx (mLst (mCons (mC (.int 1)) (mCons (mC (.int 12)) (mCons (mC (.int 9)) (mCons (mC (.int 4)) mNil))))) (mV 11))) ((σ.set 11 .no).set 11 (.val (.int (k : Int)))) = .ok (.int (cell ns (1 + k) + w)) := by
    intro k w hw
    have g0 : (mV 0) ((σ.set 11 .no).set 11 (.val (.int (k : Int)))) = .ok (.lst (ns.map .int)) := e_V (by rw [List.getElem?_set_ne (by decide), List.getElem?_set_ne (by decide)]; exact h)
    have g1 : (mV 11) ((σ.set 11 .no).set 11 (.val (.int (k : Int)))) = .ok (.int (k : Int)) := e_V (by rw [List.getElem?_set_self (by rw [List.length_set, hn]; decide)])
    have ck := cell_ok (ns := ns) (k := 1 + k)
    rw [Int.natCast_add] at ck
    exact e_bin (x := .int (cell ns (1 + k))) (y := .int w) (e_def (ds := [.lst (ns.map .int), .int (1 + (k : Int))]) (e_cons g0 (e_cons (e_bin e_C g1 rfl) e_Nil)) ck) (e_bin (e_lst (e_cons e_C (e_cons e_C (e_cons e_C (e_cons e_C e_Nil))))) g1 hw) rfl
  have t0 := tk 0 1 rfl
  have t1 := tk 1 12 rfl
  have t2 := tk 2 9 rfl
  have t3 := tk 3 4 rfl
  have st : ∀ {d y : D} {ds ys : List D}, (mBin gAdd (mDef mf_u_law_cell (mCons (mV 0) (mCons (mBin gAdd (mC (.int 1)) (mV 11)) mNil))) (mBin gIx (mLst (mCons (mC (.int 1)) (mCons (mC (.int 12)) (mCons (mC (.int 9)) (mCons (mC (.int 4)) mNil))))) (mV 11))) ((σ.set 11 .no).set 11 (.val d)) = .ok y →
      lcL 11 mYes (mBin gAdd (mDef mf_u_law_cell (mCons (mV 0) (mCons (mBin gAdd (mC (.int 1)) (mV 11)) mNil))) (mBin gIx (mLst (mCons (mC (.int 1)) (mCons (mC (.int 12)) (mCons (mC (.int 9)) (mCons (mC (.int 4)) mNil))))) (mV 11))) ds (σ.set 11 .no) = .ok ys →
      lcL 11 mYes (mBin gAdd (mDef mf_u_law_cell (mCons (mV 0) (mCons (mBin gAdd (mC (.int 1)) (mV 11)) mNil))) (mBin gIx (mLst (mCons (mC (.int 1)) (mCons (mC (.int 12)) (mCons (mC (.int 9)) (mCons (mC (.int 4)) mNil))))) (mV 11))) (d :: ds) (σ.set 11 .no) = .ok (y :: ys) := by
    intro d y ds ys h1 h2
    rw [lcL, x_mYes, h1, h2]
  have L := st t0 (st t1 (st t2 (st t3 (ds := []) (ys := []) rfl)))
  exact congrArg (fun r : R (List D) => r.bind fun ys => R.ok (D.lst ys)) L
theorem law_ok (ns : List Int) : mf_law [.lst (ns.map .int)] = .ok (.bl true) := by
  have hc : coin = 1000000000000 := rfl
  obtain ⟨S, hS⟩ : ∃ S : D, S = .lst (ns.map .int) := ⟨_, rfl⟩
  obtain ⟨share, hsh⟩ : ∃ s, s = cell ns 0 % 8 := ⟨_, rfl⟩
  obtain ⟨n0, h0⟩ : ∃ n, n = cell ns 1 + 1 := ⟨_, rfl⟩
  obtain ⟨n1, h1⟩ : ∃ n, n = cell ns 2 + 12 := ⟨_, rfl⟩
  obtain ⟨n2, h2⟩ : ∃ n, n = cell ns 3 + 9 := ⟨_, rfl⟩
  obtain ⟨n3, h3⟩ : ∃ n, n = cell ns 4 + 4 := ⟨_, rfl⟩
  have key : m_law [.val S, .no, .no, .no, .no, .no, .no, .no, .no, .no, .no, .no] = .rt (.bl true) := by
    unfold m_law
    refine (s_seq (ρ' := [.val S, .val (.int share), .no, .no, .no, .no, .no, .no, .no, .no, .no, .no]) (s_set (e_bin (x := .int (cell ns 0)) (y := .int 8) (e_def (ds := [S, .int 0]) rfl (by rw [hS]; exact cell_ok (k := 0))) e_C (by rw [hsh]; exact kMod_ok (by decide))))).trans ?_
    refine (s_seq (ρ' := [.val S, .val (.int share), .val (.int coin), .no, .no, .no, .no, .no, .no, .no, .no, .no]) (s_set (e_bin (x := .int 10) (y := .int 12) e_C e_C (by show kPow 10 12 = _; unfold kPow; rw [if_pos (by decide +kernel)]; rfl)))).trans ?_
    have en := nums_ok ns (ρ := [.val S, .val (.int share), .val (.int coin), .no, .no, .no, .no, .no, .no, .no, .no, .no]) (by rw [hS]; rfl) rfl
    rw [← h0, ← h1, ← h2, ← h3] at en
    refine (s_seq (ρ' := [.val S, .val (.int share), .val (.int coin), .val (nums n0 n1 n2 n3), .no, .no, .no, .no, .no, .no, .no, .no]) (s_set en)).trans ?_
    refine (s_seq (ρ' := [.val S, .val (.int share), .val (.int coin), .val (nums n0 n1 n2 n3), .val (.int 13), .no, .no, .no, .no, .no, .no, .no]) (s_set e_C)).trans ?_
    have hsb : 0 ≤ share ∧ share < 8 := by omega
    have hm : ∃ many : Int, 0 < many ∧ many ≤ coin + 1 ∧ (share ≤ 5 → many = 13) ∧ (mIte (mBool (mBin (gI (kBl fun i j => decide (j < i))) (mV 1) (mC (.int 5)))) (mSet 4 (mBin gAdd (mV 2) (mC (.int 1)))) mNext) [.val S, .val (.int share), .val (.int coin), .val (nums n0 n1 n2 n3), .val (.int 13), .no, .no, .no, .no, .no, .no, .no] = .nx [.val S, .val (.int share), .val (.int coin), .val (nums n0 n1 n2 n3), .val (.int many), .no, .no, .no, .no, .no, .no, .no] := by
      have c : (mBool (mBin (gI (kBl fun i j => decide (j < i))) (mV 1) (mC (.int 5)))) [.val S, .val (.int share), .val (.int coin), .val (nums n0 n1 n2 n3), .val (.int 13), .no, .no, .no, .no, .no, .no, .no] = .ok (decide (5 < share)) := e_bool (e_bin (e_V rfl) e_C rfl)
      by_cases z : 5 < share
      · rw [decide_eq_true z] at c
        exact ⟨coin + 1, by omega, by omega, fun h => by omega, (s_if1 c).trans (s_set (e_bin (e_V rfl) e_C rfl))⟩
      · rw [decide_eq_false z] at c
        exact ⟨13, by omega, by omega, fun _ => rfl, s_if0 c⟩
    obtain ⟨many, m0, m1, m13, em⟩ := hm
    refine (s_seq em).trans ?_
    have md : ∀ n : Int, 0 ≤ n % many ∧ n % many < many := fun n => ⟨Int.emod_nonneg _ (Int.ne_of_gt m0), Int.emod_lt_of_pos _ m0⟩
    have d0 := md n0; have d1 := md n1; have d2 := md n2; have d3 := md n3
    have bl : Bd (n0 % many, n1 % many) := ⟨⟨d0.1, by dsimp only; omega⟩, d1.1, by dsimp only; omega⟩
    have bh : Bd (n2 % many, n3 % many) := ⟨⟨d2.1, by dsimp only; omega⟩, d3.1, by dsimp only; omega⟩
    refine (s_seq (ρ' := [.val S, .val (.int share), .val (.int coin), .val (nums n0 n1 n2 n3), .val (.int many), .val (PD (n0 % many, n1 % many)), .no, .no, .no, .no, .no, .no]) (s_set (e_tup (e_cons (e_bin (x := .int n0) (y := .int many) (e_bin (e_V rfl) e_C rfl) (e_V rfl) (kMod_ok m0)) (e_cons (e_bin (x := .int n1) (y := .int many) (e_bin (e_V rfl) e_C rfl) (e_V rfl) (kMod_ok m0)) e_Nil))))).trans ?_
    refine (s_seq (ρ' := [.val S, .val (.int share), .val (.int coin), .val (nums n0 n1 n2 n3), .val (.int many), .val (PD (n0 % many, n1 % many)), .val (PD (n2 % many, n3 % many)), .no, .no, .no, .no, .no]) (s_set (e_tup (e_cons (e_bin (x := .int n2) (y := .int many) (e_bin (e_V rfl) e_C rfl) (e_V rfl) (kMod_ok m0)) (e_cons (e_bin (x := .int n3) (y := .int many) (e_bin (e_V rfl) e_C rfl) (e_V rfl) (kMod_ok m0)) e_Nil))))).trans ?_
    refine (s_seq (ρ' := sL (.val S) (.val (.int share)) (.val (.int coin)) (.val (nums n0 n1 n2 n3)) (.val (.int many)) (n0 % many, n1 % many) (n2 % many, n3 % many) (.lst []) .no .no .no .no) (s_set (e_lst e_Nil))).trans ?_
    have c2 : (mBool (mChain (gI (kBl fun i j => decide (i < j))) (gI (kBl fun i j => decide (i < j))) (mC (.int 2)) (mV 1) (mC (.int 6)))) (sL (.val S) (.val (.int share)) (.val (.int coin)) (.val (nums n0 n1 n2 n3)) (.val (.int many)) (n0 % many, n1 % many) (n2 % many, n3 % many) (.lst []) .no .no .no .no) = .ok (decide (2 < share) && decide (share < 6)) := by
      by_cases z : 2 < share
      · rw [decide_eq_true z, Bool.true_and]
        refine e_bool ?_
        unfold mChain
        rw [e_C, R.bind_ok, e_V (d := .int share) rfl, R.bind_ok]
        show (match some (D.bl (decide (2 < share))) with | some (.bl true) => _ | some (.bl false) => _ | _ => _) = _
        rw [decide_eq_true z]
        rfl
      · rw [decide_eq_false z, Bool.false_and]
        refine e_bool ?_
        unfold mChain
        rw [e_C, R.bind_ok, e_V (d := .int share) rfl, R.bind_ok]
        show (match some (D.bl (decide (2 < share))) with | some (.bl true) => _ | some (.bl false) => _ | _ => _) = _
        rw [decide_eq_false z]
    by_cases z : 2 < share ∧ share < 6
    · rw [decide_eq_true z.1, decide_eq_true z.2] at c2
      obtain ⟨low, high, due, u, b1, b2, br, eb⟩ := built_step ns (s2 := .val (.int coin)) (s4 := .val (.int many)) (s5 := .val (PD (n0 % many, n1 % many))) (s6 := .val (PD (n2 % many, n3 % many))) (s8 := .no) (s9 := .no) (s10 := .no) (s11 := .no) (n0 := n0) (n1 := n1) (n2 := n2) (n3 := n3) (share := share) (by omega)
      rw [← hS] at eb
      exact (s_seq ((s_if1 c2).trans eb)).trans (zero_ok b1 b2 br)
    · have c3 : (decide (2 < share) && decide (share < 6)) = false := by
        rw [Bool.and_eq_false_iff]
        by_cases y : 2 < share
        · exact .inr (decide_eq_false (by omega))
        · exact .inl (decide_eq_false y)
      rw [c3] at c2
      refine (s_seq (s_if0 c2)).trans (zero_ok bl bh ?_)
      by_cases y : share < 3
      · have m13 := m13 (by omega)
        exact .inl ⟨y, rfl, ⟨⟨d0.1, by dsimp only; omega⟩, d1.1, by dsimp only; omega⟩, ⟨⟨d2.1, by dsimp only; omega⟩, d3.1, by dsimp only; omega⟩⟩
      · exact .inr (.inl ⟨by omega, rfl⟩)
  rw [← hS]
  show (m_law [.val S, .no, .no, .no, .no, .no, .no, .no, .no, .no, .no, .no]).res false = _
  rw [key]
  rfl
end S29

-- E29
set_option Elab.async false
set_option linter.all false
set_option maxRecDepth 100000
set_option maxHeartbeats 0
namespace G
open PySem PySem.Spec PyProof.Rows L2 Fx
theorem law_F : LawOk PySem.Challenge.pw_coinholes_k29_far_chains 9 mf_law hk.says := by
  intro w mg fa h Y G hmg
  obtain ⟨K, KX, c, nl⟩ := Y
  have F := ft KX G c
  have e := hmg.symm.trans F.g_law
  cases e
  obtain ⟨fd, FD⟩ := F.d_law
  have b := FunD.bindsA (ps := ["script"]) FD fun _ _ _ _ _ _ us hl => match us, hl with | [_], _ => rfl
  refine ⟨K, fd, KX, nl, fun s u => b s [u] rfl, fun base _ _ => ?_⟩
  obtain ⟨fd2, FD2, h2⟩ := fn_law (w := w) (base := base) F
  obtain ⟨_, _, _, _, _, _, _, _, _, _, _, k1, _⟩ := FD.ex
  obtain ⟨_, _, _, _, _, _, _, _, _, _, _, k2, _⟩ := FD2.ex
  have k3 := k1.symm.trans k2
  cases k3
  exact h2
end G
open PySem PySem.W PySem.Calls PyProof.Rows
theorem PySem.Challenge.cw_coinholes_k29_far_chains_holds : PySem.Challenge.rw_coinholes_k29_far_chains.Holds := by
  w_on; o_law
  refine HandSHeadRun.head_imp (r := OpenLaw.row PySem.Challenge.rw_coinholes_k29_far_chains) (q := G.qv) (H := G.hk) (ob := G.ob) (M := 20000) (loose := G.loose) (d := HandSHeadRun.topDef (OpenLaw.row PySem.Challenge.rw_coinholes_k29_far_chains).prog 58) (kwd := []) G.ob_eq G.run
    (by kernel_rfl) (by kernel_rfl) (by kernel_rfl) (by rfl) (by first | assumption | decide +kernel) (by decide +kernel) ⟨rfl, rfl, rfl, rfl, rfl, by decide +kernel⟩ ?hw ?hc
  case hw => w_witness2
  case hc => exact Fx.walk_w (l := PySem.Challenge.rw_coinholes_k29_far_chains) (n := 63) (k := 9) rfl (by decide) (by kernel_rfl) ⟨rfl, by decide, by decide⟩ (by kernel_rfl) G.law_F (fun ns _ => S29.law_ok ns)
