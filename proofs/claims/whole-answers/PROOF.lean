import PyProof.Rows.All
import Wide.All
import OpenK.AllK
import Wide.FinOn
import HandS.Base
import HandS.Call
import HandS.List
import HandS.Comp
import HandS.Dict
import HandS.Iter
import HandS.Words
import HandS.WordsList
import HandS.Text
import HandS.DictComp
import HandS.IsInst
import HandS.More
import HandS.Wide
import HandS.Style
import HandS.Zip
import HandS.DictEq
import HandS.DeepEq
import KE.KDictList
import HandS.Codes
import HandS.Finally
import HandS.SlotsOwn
import PyProof.Methods
import PySem.Challenge.RW_gameworths_k07_whole_answers
set_option Elab.async false
set_option linter.all false
set_option maxRecDepth 100000
set_option maxHeartbeats 8000000
/-! A layer of data over HandS: what stands frozen in the abstract heap is told by a datum D; F is the part of the heap that nobody writes. -/
namespace Gw
open PySem L2

inductive D where
  | non | bl (b : Bool) | int (i : Int) | str (x : Str) | ty (n : String) | strm
  | tup (ds : List D) | lst (ds : List D) | dct (o : Option Addr) (kvs : List (Str × D)) | obj (t : D)

def Ex (F F' : Hp) : Prop := ∀ a o, F a = some o → F' a = some o
theorem Ex.refl (F : Hp) : Ex F F := fun _ _ h => h
theorem Ex.trans {F F1 F2 : Hp} (a : Ex F F1) (b : Ex F1 F2) : Ex F F2 := fun x o h => b x o (a x o h)
theorem Ex.new {F : Hp} {p : Addr} {o : HO} (h : F p = none) : Ex F (upd F p o) := fun a u e => by
  rw [upd_ne (ne_of_none e h)]
  exact e
theorem Ex.back {F F' : Hp} {p : Addr} (e : Ex F F') (h : F' p = none) : F p = none := by
  cases h1 : F p with
  | none => rfl
  | some o =>
    rw [e p o h1] at h
    cases h

inductive Rep (C sa : Addr) (F : Hp) : V → D → Prop
  | non : Rep C sa F .non .non
  | bl {b : Bool} : Rep C sa F (.bl b) (.bl b)
  | int {i : Int} : Rep C sa F (.int i) (.int i)
  | str {x : Str} : Rep C sa F (.str x) (.str x)
  | ty {n : String} : Rep C sa F (.ty n) (.ty n)
  | strm : Rep C sa F (.ref sa) .strm
  | tup {a : Addr} {vs : List V} {ds : List D} (h : F a = some (.tup vs)) (hl : vs.length = ds.length) (hr : ∀ (i : Nat) v d, vs[i]? = some v → ds[i]? = some d → Rep C sa F v d) : Rep C sa F (.ref a) (.tup ds)
  | lst {a : Addr} {vs : List V} {ds : List D} (h : F a = some (.lst vs)) (hl : vs.length = ds.length) (hr : ∀ (i : Nat) v d, vs[i]? = some v → ds[i]? = some d → Rep C sa F v d) : Rep C sa F (.ref a) (.lst ds)
  | dct {a : Addr} {o : Option Addr} {kv : List (Key × V)} {kvs : List (Str × D)} (h : F a = some (.dK kv)) (ho : ∀ b, o = some b → b = a) (hk : kv.map (·.1) = kvs.map fun q => (Sum.inr q.1 : Key))
      (hr : ∀ (i : Nat) p q, kv[i]? = some p → kvs[i]? = some q → Rep C sa F p.2 q.2) : Rep C sa F (.ref a) (.dct o kvs)
  | obj {a dx t : Addr} {d : D} (h : F a = some (.ins C dx [("place_table", .ref t)])) (hr : Rep C sa F (.ref t) d) : Rep C sa F (.ref a) (.obj d)

theorem Rep.mono {C sa : Addr} {F F' : Hp} {v : V} {d : D} (e : Ex F F') (h : Rep C sa F v d) : Rep C sa F' v d := by
  induction h with
  | non => exact .non
  | bl => exact .bl
  | int => exact .int
  | str => exact .str
  | ty => exact .ty
  | strm => exact .strm
  | tup h hl _ ih => exact .tup (e _ _ h) hl ih
  | lst h hl _ ih => exact .lst (e _ _ h) hl ih
  | dct h ho hk _ ih => exact .dct (e _ _ h) ho hk ih
  | obj h _ ih => exact .obj (e _ _ h) ih

/-- lists of data -/
def Reps (C sa : Addr) (F : Hp) (vs : List V) (ds : List D) : Prop := vs.length = ds.length ∧ ∀ (i : Nat) v d, vs[i]? = some v → ds[i]? = some d → Rep C sa F v d
def RepK (C sa : Addr) (F : Hp) (kv : List (Key × V)) (kvs : List (Str × D)) : Prop := kv.map (·.1) = (kvs.map fun q => (Sum.inr q.1 : Key)) ∧ ∀ (i : Nat) p q, kv[i]? = some p → kvs[i]? = some q → Rep C sa F p.2 q.2
theorem Rep.mkl {C sa : Addr} {F : Hp} {a : Addr} {vs : List V} {ds : List D} (h : F a = some (.lst vs)) (r : Reps C sa F vs ds) : Rep C sa F (.ref a) (.lst ds) := .lst h r.1 r.2
theorem Rep.mkt {C sa : Addr} {F : Hp} {a : Addr} {vs : List V} {ds : List D} (h : F a = some (.tup vs)) (r : Reps C sa F vs ds) : Rep C sa F (.ref a) (.tup ds) := .tup h r.1 r.2
theorem Rep.mkd {C sa : Addr} {F : Hp} {a : Addr} {kv : List (Key × V)} {kvs : List (Str × D)} (h : F a = some (.dK kv)) (r : RepK C sa F kv kvs) : Rep C sa F (.ref a) (.dct none kvs) := .dct h (fun _ z => nomatch z) r.1 r.2
theorem Rep.mka {C sa : Addr} {F : Hp} {a : Addr} {kv : List (Key × V)} {kvs : List (Str × D)} (h : F a = some (.dK kv)) (r : RepK C sa F kv kvs) : Rep C sa F (.ref a) (.dct (some a) kvs) := .dct h (fun _ z => (Option.some.inj z).symm) r.1 r.2
section
variable {C sa : Addr} {F F' : Hp} {vs ws : List V} {ds es : List D} {v : V} {d : D} {kv : List (Key × V)} {kvs : List (Str × D)}
theorem Reps.mono (e : Ex F F') (h : Reps C sa F vs ds) : Reps C sa F' vs ds := ⟨h.1, fun i v d a b => (h.2 i v d a b).mono e⟩
theorem RepK.mono (e : Ex F F') (h : RepK C sa F kv kvs) : RepK C sa F' kv kvs := ⟨h.1, fun i p q a b => (h.2 i p q a b).mono e⟩
theorem Reps.nil : Reps C sa F [] [] := ⟨rfl, fun i v d a => by simp at a⟩
theorem Reps.cons (h : Rep C sa F v d) (t : Reps C sa F vs ds) : Reps C sa F (v :: vs) (d :: ds) := by
  refine ⟨by simp [t.1], fun i x y a b => ?_⟩
  cases i with
  | zero => simp at a b; subst a; subst b; exact h
  | succ i => exact t.2 i x y (by simpa using a) (by simpa using b)
theorem Reps.inv {vs : List V} {d : D} {ds : List D} (h : Reps C sa F vs (d :: ds)) : ∃ v r, vs = v :: r ∧ Rep C sa F v d ∧ Reps C sa F r ds := by
  cases vs with
  | nil => exact absurd h.1 (by simp)
  | cons v r =>
    refine ⟨v, r, rfl, h.2 0 v d rfl rfl, by simpa using h.1, fun i x y a b => h.2 (i + 1) x y (by simpa using a) (by simpa using b)⟩
theorem Reps.inv0 {vs : List V} (h : Reps C sa F vs []) : vs = [] := by
  cases vs with
  | nil => rfl
  | cons v r => exact absurd h.1 (by simp)
theorem Reps.append (h : Reps C sa F vs ds) (t : Reps C sa F ws es) : Reps C sa F (vs ++ ws) (ds ++ es) := by
  refine ⟨by simp [h.1, t.1], fun i x y a b => ?_⟩
  by_cases hi : i < vs.length
  · rw [List.getElem?_append_left hi] at a
    rw [List.getElem?_append_left (by rw [← h.1]; exact hi)] at b
    exact h.2 i x y a b
  · rw [List.getElem?_append_right (by omega)] at a
    rw [List.getElem?_append_right (by rw [← h.1]; omega)] at b
    rw [← h.1] at b
    exact t.2 _ x y a b
theorem Reps.get {i : Nat} (h : Reps C sa F vs ds) (e : ds[i]? = some d) : ∃ v, vs[i]? = some v ∧ Rep C sa F v d := by
  have hi : i < ds.length := (List.getElem?_eq_some_iff.mp e).1
  have hv : vs[i]? = some (vs[i]'(by rw [h.1]; exact hi)) := List.getElem?_eq_getElem _
  exact ⟨_, hv, h.2 i _ d hv e⟩
theorem Reps.getV {i : Nat} (h : Reps C sa F vs ds) (e : vs[i]? = some v) : ∃ d, ds[i]? = some d ∧ Rep C sa F v d := by
  have hi : i < vs.length := (List.getElem?_eq_some_iff.mp e).1
  have hv : ds[i]? = some (ds[i]'(by rw [← h.1]; exact hi)) := List.getElem?_eq_getElem _
  exact ⟨_, hv, h.2 i v _ e hv⟩
theorem Reps.drop (k : Nat) (h : Reps C sa F vs ds) : Reps C sa F (vs.drop k) (ds.drop k) :=
  ⟨by simp [h.1], fun i x y a b => h.2 (k + i) x y (by simpa using a) (by simpa using b)⟩
theorem Reps.take (k : Nat) (h : Reps C sa F vs ds) : Reps C sa F (vs.take k) (ds.take k) := by
  refine ⟨by simp [h.1], fun i x y a b => ?_⟩
  rw [List.getElem?_take] at a b
  split at a
  · rename_i hk
    rw [if_pos hk] at b
    exact h.2 i x y a b
  · cases a
theorem Reps.reverse (h : Reps C sa F vs ds) : Reps C sa F vs.reverse ds.reverse := by
  refine ⟨by simp [h.1], fun i x y a b => ?_⟩
  have hi : i < vs.length := by
    have := (List.getElem?_eq_some_iff.mp a).1
    simpa using this
  rw [List.getElem?_reverse hi] at a
  rw [List.getElem?_reverse (by rw [← h.1]; exact hi)] at b
  rw [← h.1] at b
  exact h.2 _ x y a b
theorem Reps.dropLast (h : Reps C sa F vs ds) : Reps C sa F vs.dropLast ds.dropLast := by
  rw [List.dropLast_eq_take, List.dropLast_eq_take, h.1]
  exact h.take _

/-! ### dicts -/
def lk (kvs : List (Str × D)) (k : Str) : Option D := (kvs.find? fun q => decide (q.1 = k)).map (·.2)
def putD (kvs : List (Str × D)) (k : Str) (d : D) : List (Str × D) := if (kvs.any fun q => decide (q.1 = k)) = true then kvs.map (fun q => if q.1 = k then (q.1, d) else q) else kvs ++ [(k, d)]
def mergeD (kvs more : List (Str × D)) : List (Str × D) := more.foldl (fun acc q => putD acc q.1 q.2) kvs
theorem lk_pos {q : Str × D} {r : List (Str × D)} {k : Str} (e : q.1 = k) : lk (q :: r) k = some q.2 := by simp [lk, e]
theorem lk_neg {q : Str × D} {r : List (Str × D)} {k : Str} (e : ¬ q.1 = k) : lk (q :: r) k = lk r k := by simp [lk, e]
theorem RepK.nil : RepK C sa F [] [] := ⟨rfl, fun i v d a => by simp at a⟩
theorem RepK.length (h : RepK C sa F kv kvs) : kv.length = kvs.length := by
  have := congrArg List.length h.1
  simpa using this
theorem RepK.cons {k : Str} (h : Rep C sa F v d) (t : RepK C sa F kv kvs) : RepK C sa F ((Sum.inr k, v) :: kv) ((k, d) :: kvs) := by
  refine ⟨by simp [t.1], fun i x y a b => ?_⟩
  cases i with
  | zero => simp at a b; subst a; subst b; exact h
  | succ i => exact t.2 i x y (by simpa using a) (by simpa using b)
theorem RepK.inv {kv : List (Key × V)} {q : Str × D} {kvs : List (Str × D)} (h : RepK C sa F kv (q :: kvs)) : ∃ v r, kv = (Sum.inr q.1, v) :: r ∧ Rep C sa F v q.2 ∧ RepK C sa F r kvs := by
  cases kv with
  | nil => exact absurd h.1 (by simp)
  | cons p r =>
    have h1 := h.1
    simp only [List.map_cons, List.cons.injEq] at h1
    obtain ⟨pk, pv⟩ := p
    have e : pk = Sum.inr q.1 := h1.1
    subst e
    exact ⟨pv, r, rfl, h.2 0 _ q rfl rfl, h1.2, fun i x y a b => h.2 (i + 1) x y (by simpa using a) (by simpa using b)⟩
theorem RepK.inv0 {kv : List (Key × V)} (h : RepK C sa F kv []) : kv = [] := by
  cases kv with
  | nil => rfl
  | cons p r => exact absurd h.1 (by simp)
theorem RepK.get {k : Str} : ∀ {kv : List (Key × V)} {kvs : List (Str × D)}, RepK C sa F kv kvs → lk kvs k = some d → ∃ v, valV kv (Sum.inr k : Key) = some v ∧ Rep C sa F v d
  | _, [], _, e => by simp [lk] at e
  | kv, q :: r, h, e => by
    obtain ⟨v, r', rfl, hv, hr⟩ := h.inv
    by_cases hk : q.1 = k
    · rw [lk_pos hk] at e
      cases e
      exact ⟨v, valV_pos (by simp [hk]), hv⟩
    · rw [lk_neg hk] at e
      obtain ⟨w, hw, rw'⟩ := RepK.get hr e
      exact ⟨w, by rw [valV_neg (by simpa using hk)]; exact hw, rw'⟩
theorem RepK.getNone {k : Str} : ∀ {kv : List (Key × V)} {kvs : List (Str × D)}, RepK C sa F kv kvs → lk kvs k = none → valV kv (Sum.inr k : Key) = none
  | kv, [], h, _ => by
    rw [h.inv0]
    rfl
  | kv, q :: r, h, e => by
    obtain ⟨v, r', rfl, hv, hr⟩ := h.inv
    by_cases hk : q.1 = k
    · rw [lk_pos hk] at e
      cases e
    · rw [lk_neg hk] at e
      rw [valV_neg (by simpa using hk)]
      exact RepK.getNone hr e
theorem RepK.isSome {k : Str} (h : RepK C sa F kv kvs) : (valV kv (Sum.inr k : Key)).isSome = (lk kvs k).isSome := by
  cases e : lk kvs k with
  | none => rw [h.getNone e]; rfl
  | some d =>
    obtain ⟨v, hv, _⟩ := h.get e
    rw [hv]; rfl
theorem RepK.snoc {k : Str} (h : RepK C sa F kv kvs) (hd : Rep C sa F v d) : RepK C sa F (kv ++ [(Sum.inr k, v)]) (kvs ++ [(k, d)]) := by
  refine ⟨by simp [h.1], fun i x y a b => ?_⟩
  have hl := h.length
  by_cases hi : i < kv.length
  · rw [List.getElem?_append_left hi] at a
    rw [List.getElem?_append_left (by rw [← hl]; exact hi)] at b
    exact h.2 i x y a b
  · rw [List.getElem?_append_right (by omega)] at a
    rw [List.getElem?_append_right (by rw [← hl]; omega)] at b
    rw [← hl] at b
    cases j : i - kv.length with
    | zero => rw [j] at a b; simp at a b; subst a; subst b; exact hd
    | succ m => rw [j] at a; simp at a
theorem RepK.repl {k : Str} (hd : Rep C sa F v d) : ∀ {kv : List (Key × V)} {kvs : List (Str × D)}, RepK C sa F kv kvs →
    RepK C sa F (kv.map fun p => if p.1 = (Sum.inr k : Key) then (p.1, v) else p) (kvs.map fun q => if q.1 = k then (q.1, d) else q)
  | kv, [], h => by
    rw [h.inv0]
    exact RepK.nil
  | kv, q :: r, h => by
    obtain ⟨w, r', rfl, hv, hr⟩ := h.inv
    have ih := RepK.repl (k := k) hd hr
    obtain ⟨qk, qd⟩ := q
    by_cases hk : qk = k
    · subst hk
      simp only [List.map_cons, if_pos]
      exact RepK.cons hd ih
    · simp only [List.map_cons, if_neg hk, if_neg (show ¬ (Sum.inr qk : Key) = Sum.inr k by simpa using hk)]
      exact RepK.cons hv ih
theorem RepK.any {k : Str} (h : RepK C sa F kv kvs) : (kv.any fun p => decide (p.1 = (Sum.inr k : Key))) = kvs.any fun q => decide (q.1 = k) := by
  have e1 : (kv.any fun p => decide (p.1 = (Sum.inr k : Key))) = (kv.map (·.1)).any fun x => decide (x = (Sum.inr k : Key)) := by
    rw [List.any_map]; rfl
  rw [e1, h.1, List.any_map]
  congr 1
  funext q
  simp
theorem RepK.put {k : Str} (h : RepK C sa F kv kvs) (hd : Rep C sa F v d) : RepK C sa F (putK kv (Sum.inr k) v) (putD kvs k d) := by
  unfold putK putD
  rw [h.any]
  split
  · exact h.repl hd
  · exact h.snoc hd
theorem RepK.merge : ∀ {more : List (Key × V)} {mored : List (Str × D)} {kv : List (Key × V)} {kvs : List (Str × D)}, RepK C sa F more mored → RepK C sa F kv kvs → RepK C sa F (mergeK kv more) (mergeD kvs mored)
  | more, [], kv, kvs, h, t => by
    rw [h.inv0]
    exact t
  | more, q :: r, kv, kvs, h, t => by
    obtain ⟨w, r', rfl, hv, hr⟩ := h.inv
    exact RepK.merge (kv := putK kv (Sum.inr q.1) w) (kvs := putD kvs q.1 q.2) hr (t.put hv)
end

/-! ### the stream of draws -/
def StrmOk (sa ca : Addr) (H : Hp) (n : Nat) : Prop := sa ≠ ca ∧ ∃ (c : List Int) (x m : Int), H sa = some (.lst [.ref ca, .int x, .int (n : Int), .int m]) ∧ H ca = some (.lst (c.map V.int)) ∧ 0 ≤ x ∧ 0 ≤ m ∧ m < 2147483647 ∧ c.length ≤ 63
theorem StrmOk.at {sa ca : Addr} {H H' : Hp} {n : Nat} (h : StrmOk sa ca H n) (k : ∀ o, H sa = some o → H' sa = some o) (k' : ∀ o, H ca = some o → H' ca = some o) : StrmOk sa ca H' n := by
  obtain ⟨ne, c, x, m, h1, h2, h3⟩ := h
  exact ⟨ne, c, x, m, k _ h1, k' _ h2, h3⟩
theorem StrmOk.sa_some {sa ca : Addr} {H : Hp} {n : Nat} (h : StrmOk sa ca H n) : H sa ≠ none ∧ H ca ≠ none := by
  obtain ⟨ne, c, x, m, h1, h2, h3⟩ := h
  exact ⟨by rw [h1]; simp, by rw [h2]; simp⟩

/-- (F, H) has grown to (F2, H2); with a stream (st) its two objects may have changed -/
structure Step (st : Bool) (sa ca : Addr) (F H F2 H2 : Hp) (n2 : Nat) : Prop where
  ex : Ex F F2
  ht : ∀ a o, H a = some o → (st = true → a ≠ sa ∧ a ≠ ca) → H2 a = some o
  fr : ∀ a, H a ≠ none → F a = none → F2 a = none
  nw : ∀ a o, F a = none → F2 a = some o → H2 a = some o
  sm : st = true → StrmOk sa ca H2 n2 ∧ F2 sa = none ∧ F2 ca = none
section
variable {st : Bool} {sa ca p : Addr} {F H F1 H1 F2 H2 : Hp} {n n1 n2 : Nat} {o : HO}
theorem Step.refl (sm : st = true → StrmOk sa ca H n ∧ F sa = none ∧ F ca = none) : Step st sa ca F H F H n :=
  ⟨Ex.refl F, fun _ _ h _ => h, fun _ _ h => h, fun a o h h' => (by rw [h] at h'; cases h'), sm⟩
theorem Step.some (s : Step st sa ca F H F1 H1 n1) {a : Addr} (h : H a ≠ none) : H1 a ≠ none := by
  by_cases hs : st = true ∧ (a = sa ∨ a = ca)
  · have q := (s.sm hs.1).1.sa_some
    rcases hs.2 with e | e
    · rw [e]; exact q.1
    · rw [e]; exact q.2
  · cases e : H a with
    | none => exact absurd e h
    | some o => rw [s.ht a o e fun z => ⟨fun q => hs ⟨z, .inl q⟩, fun q => hs ⟨z, .inr q⟩⟩]; simp
theorem Step.trans (s : Step st sa ca F H F1 H1 n1) (t : Step st sa ca F1 H1 F2 H2 n2) : Step st sa ca F H F2 H2 n2 where
  ex := s.ex.trans t.ex
  ht := fun a o h z => t.ht a o (s.ht a o h z) z
  fr := fun a h h' => t.fr a (s.some h) (s.fr a h h')
  nw := fun a o h h' => by
    cases e : F1 a with
    | none => exact t.nw a o e h'
    | some u =>
      have q := t.ex a u e
      rw [h'] at q; cases q
      refine t.ht a _ (s.nw a _ h e) fun z => ⟨fun q => ?_, fun q => ?_⟩
      · rw [q, (s.sm z).2.1] at e; cases e
      · rw [q, (s.sm z).2.2] at e; cases e
  sm := t.sm
/-- a new object, frozen at once -/
theorem Step.new (sm : st = true → StrmOk sa ca H n ∧ F sa = none ∧ F ca = none) (hp : H p = none) (fp : F p = none) : Step st sa ca F H (upd F p o) (upd H p o) n where
  ex := Ex.new fp
  ht := fun a u h _ => by rw [upd_ne (ne_of_none h hp)]; exact h
  fr := fun a h h' => by
    have ne : a ≠ p := fun e => h (by rw [e]; exact hp)
    rw [upd_ne ne]; exact h'
  nw := fun a u h h' => by
    by_cases e : a = p
    · subst e; rw [upd_same] at h' ⊢; exact h'
    · rw [upd_ne e] at h'; rw [h] at h'; cases h'
  sm := fun z => by
    obtain ⟨q, f1, f2⟩ := sm z
    have n1 : sa ≠ p := fun e => q.sa_some.1 (by rw [e]; exact hp)
    have n2 : ca ≠ p := fun e => q.sa_some.2 (by rw [e]; exact hp)
    exact ⟨q.at (fun o h => by rw [upd_ne n1]; exact h) fun o h => by rw [upd_ne n2]; exact h, by rw [upd_ne n1]; exact f1, by rw [upd_ne n2]; exact f2⟩
/-- a new object that is nobody's, or my own -/
theorem Step.lay (sm : st = true → StrmOk sa ca H n ∧ F sa = none ∧ F ca = none) (hp : H p = none) : Step st sa ca F H F (upd H p o) n where
  ex := Ex.refl F
  ht := fun a u h _ => by rw [upd_ne (ne_of_none h hp)]; exact h
  fr := fun a h h' => h'
  nw := fun a u h h' => by rw [h] at h'; cases h'
  sm := fun z => by
    obtain ⟨q, f1, f2⟩ := sm z
    have n1 : sa ≠ p := fun e => q.sa_some.1 (by rw [e]; exact hp)
    have n2 : ca ≠ p := fun e => q.sa_some.2 (by rw [e]; exact hp)
    exact ⟨q.at (fun o h => by rw [upd_ne n1]; exact h) fun o h => by rw [upd_ne n2]; exact h, f1, f2⟩
end

/-! ### the state of a def's body -/
inductive Sl where
  | any | raw (v : V) | sh (d : D) | owl (ds : List D) | owd (kvs : List (Str × D)) | owi (p dx : Addr) (d : Option D)
structure Bk where
  K : PySem.W.Frag
  C : Addr
  sa : Addr
  ca : Addr
  st : Bool
  L : List Addr
  F0 : Hp
  H0 : Hp
/-- the fields of an own instance -/
def OwI (B : Bk) (F : Hp) (fs : List (Str × V)) : Option D → Prop
  | none => fs = []
  | some d => ∃ t : Addr, fs = [(("place_table" : Str), V.ref t)] ∧ Rep B.C B.sa F (.ref t) d
theorem OwI.mono {B : Bk} {F F' : Hp} {fs : List (Str × V)} {d : Option D} (e : Ex F F') (h : OwI B F fs d) : OwI B F' fs d := by
  cases d with
  | none => exact h
  | some d =>
    obtain ⟨t, h1, h2⟩ := h
    exact ⟨t, h1, h2.mono e⟩
def SlOk (B : Bk) (F H : Hp) (r : Addr → Option Nat) (i : Nat) (x : Option (Option V)) : Sl → Prop
  | .any => True
  | .raw v => x = some (some v)
  | .sh d => ∃ v, x = some (some v) ∧ Rep B.C B.sa F v d
  | .owl ds => ∃ p vs, x = some (some (.ref p)) ∧ r p = some i ∧ H p = some (.lst vs) ∧ Reps B.C B.sa F vs ds
  | .owd kvs => ∃ p kv, x = some (some (.ref p)) ∧ r p = some i ∧ H p = some (.dK kv) ∧ RepK B.C B.sa F kv kvs
  | .owi p dx d => ∃ fs, x = some (some (.ref p)) ∧ r p = some i ∧ H p = some (.ins B.C dx fs) ∧ OwI B F fs d
/-- the addresses of M -/
abbrev lks (M : List (Addr × Obj)) : List Addr := M.map (·.1)
structure Sta (B : Bk) (M : List (Addr × Obj)) (σ : St) (l : List Sl) (n : Nat) (F H : Hp) (r : Addr → Option Nat) : Prop where
  len : σ.length = l.length
  grow : Ex B.F0 F
  new : ∀ a, B.H0 a ≠ none → B.F0 a = none → F a = none
  kept : ∀ a o, B.H0 a = some o → (B.st = true → a ≠ B.sa ∧ a ≠ B.ca) → (a ∉ lks M → H a = some o) ∧ (∀ od, (a, od) ∈ M → H a = some (.frz od o))
  le : ∀ a o, F a = some o → (a ∉ lks M → a ∉ B.L → H a = some o) ∧ (∀ od, (a, od) ∈ M → H a = some (.frz od o)) ∧ (a ∈ B.L → ∃ od, H a = some (.frz od o))
  lk : ∀ a, a ∈ lks M ∨ a ∈ B.L → H a ≠ none
  lkd : ∀ a o, (a ∈ lks M ∨ a ∈ B.L) → F a = some o → ∃ kv, o = .dK kv
  own : ∀ a i, r a = some i → F a = none ∧ B.H0 a = none ∧ H a ≠ none ∧ a ∉ lks M
  s0 : B.st = true → B.H0 B.sa ≠ none ∧ B.H0 B.ca ≠ none
  l0 : ∀ a ∈ B.L, B.H0 a ≠ none
  sm : B.st = true → StrmOk B.sa B.ca H n ∧ F B.sa = none ∧ F B.ca = none
  slots : ∀ i s, l[i]? = some s → SlOk B F H r i σ[i]? s
section
variable {B : Bk} {M : List (Addr × Obj)} {σ : St} {l : List Sl} {n n2 : Nat} {F H F2 H2 : Hp} {r : Addr → Option Nat}
theorem lks_mem {a : Addr} (h : a ∈ lks M) : ∃ od, (a, od) ∈ M := by
  obtain ⟨p, hp, e⟩ := List.mem_map.mp h
  exact ⟨p.2, by rw [← e]; exact hp⟩
theorem Sta.rd (S : Sta B M σ l n F H r) {a : Addr} {o : HO} (h : F a = some o) : Rd H a o := by
  by_cases hm : a ∈ lks M
  · obtain ⟨od, e⟩ := lks_mem hm
    exact .inr ⟨od, (S.le a o h).2.1 od e⟩
  · by_cases hl : a ∈ B.L
    · obtain ⟨od, e⟩ := (S.le a o h).2.2 hl
      exact .inr ⟨od, e⟩
    · exact .inl ((S.le a o h).1 hm hl)
/-- what is no dict is never locked -/
theorem Sta.here (S : Sta B M σ l n F H r) {a : Addr} {o : HO} (h : F a = some o) (nd : ∀ kv, o ≠ .dK kv) : H a = some o := by
  have nl : ¬ (a ∈ lks M ∨ a ∈ B.L) := fun z => by
    obtain ⟨kv, e⟩ := S.lkd a o z h
    exact nd kv e
  exact (S.le a o h).1 (fun z => nl (.inl z)) fun z => nl (.inr z)
theorem Sta.fnone (S : Sta B M σ l n F H r) {a : Addr} (h : H a = none) : F a = none := by
  cases e : F a with
  | none => rfl
  | some o =>
    rcases S.rd e with q | ⟨od, q⟩
    · rw [h] at q; cases q
    · rw [h] at q; cases q
theorem Sta.h0none (S : Sta B M σ l n F H r) {a : Addr} (h : H a = none) : B.H0 a = none := by
  cases e : B.H0 a with
  | none => rfl
  | some o =>
    by_cases hs : B.st = true ∧ (a = B.sa ∨ a = B.ca)
    · have q := (S.sm hs.1).1.sa_some
      rcases hs.2 with z | z
      · rw [z] at h; exact absurd h q.1
      · rw [z] at h; exact absurd h q.2
    · have q := S.kept a o e fun z => ⟨fun y => hs ⟨z, .inl y⟩, fun y => hs ⟨z, .inr y⟩⟩
      by_cases hm : a ∈ lks M
      · obtain ⟨od, w⟩ := lks_mem hm
        rw [h] at q; cases q.2 od w
      · rw [q.1 hm] at h; cases h
theorem Sta.notS (S : Sta B M σ l n F H r) {a : Addr} {i : Nat} (h : r a = some i) : B.st = true → a ≠ B.sa ∧ a ≠ B.ca := fun z => by
  have q := S.s0 z
  have w := (S.own a i h).2.1
  exact ⟨fun e => q.1 (by rw [← e]; exact w), fun e => q.2 (by rw [← e]; exact w)⟩
/-- a free address is not the stream's -/
theorem Sta.newS (S : Sta B M σ l n F H r) {a : Addr} (h : H a = none) : B.st = true → a ≠ B.sa ∧ a ≠ B.ca := fun z => by
  have q := (S.sm z).1.sa_some
  exact ⟨fun e => q.1 (by rw [← e]; exact h), fun e => q.2 (by rw [← e]; exact h)⟩
theorem SlOk.step (h : Step B.st B.sa B.ca F H F2 H2 n2) (hs : ∀ a i, r a = some i → B.st = true → a ≠ B.sa ∧ a ≠ B.ca) {i : Nat} {x : Option (Option V)} {s : Sl} (q : SlOk B F H r i x s) : SlOk B F2 H2 r i x s := by
  cases s with
  | any => trivial
  | raw v => exact q
  | sh d => obtain ⟨v, e, k⟩ := q; exact ⟨v, e, k.mono h.ex⟩
  | owl ds => obtain ⟨p, vs, e, k, hp, z⟩ := q; exact ⟨p, vs, e, k, h.ht p _ hp (hs p i k), z.mono h.ex⟩
  | owd ds => obtain ⟨p, vs, e, k, hp, z⟩ := q; exact ⟨p, vs, e, k, h.ht p _ hp (hs p i k), z.mono h.ex⟩
  | owi p dx d => obtain ⟨fs, e, k, hp, z⟩ := q; exact ⟨fs, e, k, h.ht p _ hp (hs p i k), z.mono h.ex⟩
theorem Sta.step (S : Sta B M σ l n F H r) (h : Step B.st B.sa B.ca F H F2 H2 n2) : Sta B M σ l n2 F2 H2 r where
  len := S.len
  grow := S.grow.trans h.ex
  new := fun a q q' => by
    refine h.fr a ?_ (S.new a q q')
    intro z
    exact q (S.h0none z)
  kept := fun a o e z => by
    have q := S.kept a o e z
    exact ⟨fun hm => h.ht a o (q.1 hm) z, fun od hm => h.ht a _ (q.2 od hm) z⟩
  le := fun a o e => by
    cases e0 : F a with
    | none =>
      have w := h.nw a o e0 e
      have nl : ¬ (a ∈ lks M ∨ a ∈ B.L) := fun z => by
        have y := h.fr a (S.lk a z) e0
        rw [e] at y; cases y
      exact ⟨fun _ _ => w, fun od z => absurd (Or.inl (List.mem_map.mpr ⟨_, z, rfl⟩)) nl, fun z => absurd (Or.inr z) nl⟩
    | some u =>
      have y := h.ex a u e0
      rw [e] at y; cases y
      have ns : B.st = true → a ≠ B.sa ∧ a ≠ B.ca := fun z => ⟨fun w => (by rw [w, (S.sm z).2.1] at e0; cases e0), fun w => (by rw [w, (S.sm z).2.2] at e0; cases e0)⟩
      refine ⟨fun h1 h2 => h.ht a _ ((S.le a _ e0).1 h1 h2) ns, fun od z => h.ht a _ ((S.le a _ e0).2.1 od z) ns, fun z => ?_⟩
      obtain ⟨od, w⟩ := (S.le a _ e0).2.2 z
      exact ⟨od, h.ht a _ w ns⟩
  lk := fun a z => h.some (S.lk a z)
  lkd := fun a o z e => by
    cases e0 : F a with
    | none =>
      have y := h.fr a (S.lk a z) e0
      rw [e] at y; cases y
    | some u =>
      have y := h.ex a u e0
      rw [e] at y; cases y
      exact S.lkd a _ z e0
  own := fun a i e => by
    obtain ⟨f, g, k, m⟩ := S.own a i e
    exact ⟨h.fr a k f, g, h.some k, m⟩
  s0 := S.s0
  l0 := S.l0
  sm := h.sm
  slots := fun i s e => (S.slots i s e).step h fun a i k => S.notS k
/-- nothing has happened -/
theorem Sta.r0 (S : Sta B M σ l n F H r) : Step B.st B.sa B.ca F H F H n := Step.refl S.sm
/-- another name's slot -/
theorem Sta.set (S : Sta B M σ l n F H r) (i : Nat) {v : V} {d : D} (h : Rep B.C B.sa F v d) : Sta B M (σ.set i (some v)) (l.set i (.sh d)) n F H r :=
  ⟨by simp [S.len], S.grow, S.new, S.kept, S.le, S.lk, S.lkd, S.own, S.s0, S.l0, S.sm, fun j s e => by
    by_cases hj : i = j
    · subst hj
      have hi : i < l.length := by
        have := (List.getElem?_eq_some_iff.mp e).1
        simpa using this
      rw [List.getElem?_set_self hi] at e
      cases e
      exact ⟨v, by rw [List.getElem?_set_self (by rw [S.len]; exact hi)], h⟩
    · rw [List.getElem?_set_ne hj] at e
      rw [List.getElem?_set_ne hj]
      exact S.slots j s e⟩
theorem Sta.forget (S : Sta B M σ l n F H r) (i : Nat) (x : Option V) : Sta B M (σ.set i x) (l.set i .any) n F H r :=
  ⟨by simp [S.len], S.grow, S.new, S.kept, S.le, S.lk, S.lkd, S.own, S.s0, S.l0, S.sm, fun j s e => by
    by_cases hj : i = j
    · subst hj
      have hi : i < l.length := by
        have := (List.getElem?_eq_some_iff.mp e).1
        simpa using this
      rw [List.getElem?_set_self hi] at e
      cases e
      trivial
    · rw [List.getElem?_set_ne hj] at e
      rw [List.getElem?_set_ne hj]
      exact S.slots j s e⟩
def wipeL (l : List Sl) : List Nat → List Sl
  | [] => l
  | v :: vs => (wipeL l vs).set v .any
theorem Sta.wipe (S : Sta B M σ l n F H r) : ∀ vs : List Nat, Sta B M (L2.wipe σ vs) (wipeL l vs) n F H r
  | [] => S
  | v :: vs => (S.wipe vs).forget v none
/-- a new object of slot i's own -/
theorem Sta.alloc (S : Sta B M σ l n F H r) (i : Nat) {p : Addr} {o : HO} {s : Sl} (hp : H p = none)
    (h : SlOk B F (upd H p o) (fun a => if a = p then some i else r a) i (some (some (.ref p))) s) : Sta B M (σ.set i (some (.ref p))) (l.set i s) n F (upd H p o) (fun a => if a = p then some i else r a) := by
  have S1 := S.step (Step.lay (o := o) S.sm hp)
  refine ⟨by simp [S.len], S.grow, S.new, S1.kept, S1.le, S1.lk, S.lkd, fun a j e => ?_, S.s0, S.l0, S1.sm, fun j t e => ?_⟩
  · by_cases ea : a = p
    · rw [ea]
      refine ⟨S.fnone hp, S.h0none hp, by rw [upd_same]; simp, fun z => ?_⟩
      exact S.lk p (.inl z) hp
    · simp only [if_neg ea] at e
      exact S1.own a j e
  · by_cases hj : i = j
    · subst hj
      have hi : i < l.length := by
        have := (List.getElem?_eq_some_iff.mp e).1
        simpa using this
      rw [List.getElem?_set_self hi] at e
      cases e
      rw [List.getElem?_set_self (by rw [S.len]; exact hi)]
      exact h
    · rw [List.getElem?_set_ne hj] at e
      rw [List.getElem?_set_ne hj]
      have q := S1.slots j t e
      cases t with
      | any => trivial
      | raw v => exact q
      | sh d => exact q
      | owl ds =>
        obtain ⟨a, vs, e1, e2, e3, e4⟩ := q
        have ne : a ≠ p := fun z => (S.own a j e2).2.2.1 (by rw [z]; exact hp)
        exact ⟨a, vs, e1, by show (if a = p then some i else r a) = some j; rw [if_neg ne]; exact e2, e3, e4⟩
      | owd ds =>
        obtain ⟨a, vs, e1, e2, e3, e4⟩ := q
        have ne : a ≠ p := fun z => (S.own a j e2).2.2.1 (by rw [z]; exact hp)
        exact ⟨a, vs, e1, by show (if a = p then some i else r a) = some j; rw [if_neg ne]; exact e2, e3, e4⟩
      | owi p0 dx0 d0 =>
        obtain ⟨vs, e1, e2, e3, e4⟩ := q
        have ne : p0 ≠ p := fun z => (S.own p0 j e2).2.2.1 (by rw [z]; exact hp)
        exact ⟨vs, e1, by show (if p0 = p then some i else r p0) = some j; rw [if_neg ne]; exact e2, e3, e4⟩
/-- a new object for slot i, not stored yet -/
theorem Sta.claim (S : Sta B M σ l n F H r) (i : Nat) {p : Addr} {o : HO} (hp : H p = none) : Sta B M σ l n F (upd H p o) (fun a => if a = p then some i else r a) := by
  have S1 := S.step (Step.lay (o := o) S.sm hp)
  refine ⟨S.len, S.grow, S.new, S1.kept, S1.le, S1.lk, S.lkd, fun a j e => ?_, S.s0, S.l0, S1.sm, fun j t e => ?_⟩
  · by_cases ea : a = p
    · rw [ea]
      refine ⟨S.fnone hp, S.h0none hp, by rw [upd_same]; simp, fun z => ?_⟩
      exact S.lk p (.inl z) hp
    · simp only [if_neg ea] at e
      exact S1.own a j e
  · have q := S1.slots j t e
    cases t with
    | any => trivial
    | raw v => exact q
    | sh d => exact q
    | owl ds =>
      obtain ⟨a, vs, e1, e2, e3, e4⟩ := q
      have ne : a ≠ p := fun z => (S.own a j e2).2.2.1 (by rw [z]; exact hp)
      exact ⟨a, vs, e1, by show (if a = p then some i else r a) = some j; rw [if_neg ne]; exact e2, e3, e4⟩
    | owd ds =>
      obtain ⟨a, vs, e1, e2, e3, e4⟩ := q
      have ne : a ≠ p := fun z => (S.own a j e2).2.2.1 (by rw [z]; exact hp)
      exact ⟨a, vs, e1, by show (if a = p then some i else r a) = some j; rw [if_neg ne]; exact e2, e3, e4⟩
    | owi p0 dx0 d0 =>
      obtain ⟨vs, e1, e2, e3, e4⟩ := q
      have ne : p0 ≠ p := fun z => (S.own p0 j e2).2.2.1 (by rw [z]; exact hp)
      exact ⟨vs, e1, by show (if p0 = p then some i else r p0) = some j; rw [if_neg ne]; exact e2, e3, e4⟩
/-- .. stored -/
theorem Sta.put (S : Sta B M σ l n F H r) (i : Nat) {v : V} {s : Sl} (h : SlOk B F H r i (some (some v)) s) : Sta B M (σ.set i (some v)) (l.set i s) n F H r :=
  ⟨by simp [S.len], S.grow, S.new, S.kept, S.le, S.lk, S.lkd, S.own, S.s0, S.l0, S.sm, fun j t e => by
    by_cases hj : i = j
    · subst hj
      have hi : i < l.length := by
        have := (List.getElem?_eq_some_iff.mp e).1
        simpa using this
      rw [List.getElem?_set_self hi] at e
      cases e
      rw [List.getElem?_set_self (by rw [S.len]; exact hi)]
      exact h
    · rw [List.getElem?_set_ne hj] at e
      rw [List.getElem?_set_ne hj]
      exact S.slots j t e⟩
/-- an own object is written -/
theorem Sta.write (S : Sta B M σ l n F H r) {i : Nat} {p : Addr} {o : HO} {s : Sl} (rp : r p = some i) (hx : σ[i]? = some (some (.ref p))) (h : SlOk B F (upd H p o) r i (some (some (.ref p))) s) : Sta B M σ (l.set i s) n F (upd H p o) r := by
  obtain ⟨f1, f2, f3, f4⟩ := S.own p i rp
  have ns := S.notS rp
  refine ⟨by simp [S.len], S.grow, S.new, fun a u e z => ?_, fun a u e => ?_, fun a z => ?_, S.lkd, fun a j e => ?_, S.s0, S.l0, fun z => ?_, fun j t e => ?_⟩
  · have ne : a ≠ p := fun q => by rw [q, f2] at e; cases e
    rw [upd_ne ne]
    exact S.kept a u e z
  · have ne : a ≠ p := fun q => by rw [q, f1] at e; cases e
    rw [upd_ne ne]
    exact S.le a u e
  · by_cases ne : a = p
    · rw [ne, upd_same]; simp
    · rw [upd_ne ne]; exact S.lk a z
  · obtain ⟨g1, g2, g3, g4⟩ := S.own a j e
    refine ⟨g1, g2, ?_, g4⟩
    by_cases ne : a = p
    · rw [ne, upd_same]; simp
    · rw [upd_ne ne]; exact g3
  · obtain ⟨a1, a2, a3⟩ := S.sm z
    have q := ns z
    exact ⟨a1.at (fun o e => by rw [upd_ne q.1.symm]; exact e) fun o e => by rw [upd_ne q.2.symm]; exact e, a2, a3⟩
  · by_cases hj : i = j
    · subst hj
      have hi : i < l.length := by
        have := (List.getElem?_eq_some_iff.mp e).1
        simpa using this
      rw [List.getElem?_set_self hi] at e
      cases e
      rw [hx]
      exact h
    · rw [List.getElem?_set_ne hj] at e
      have q := S.slots j t e
      cases t with
      | any => trivial
      | raw v => exact q
      | sh d => exact q
      | owl ds =>
        obtain ⟨a, vs, e1, e2, e3, e4⟩ := q
        have ne : a ≠ p := fun z => by rw [z, rp] at e2; exact hj (Option.some.inj e2)
        exact ⟨a, vs, e1, e2, by rw [upd_ne ne]; exact e3, e4⟩
      | owd ds =>
        obtain ⟨a, vs, e1, e2, e3, e4⟩ := q
        have ne : a ≠ p := fun z => by rw [z, rp] at e2; exact hj (Option.some.inj e2)
        exact ⟨a, vs, e1, e2, by rw [upd_ne ne]; exact e3, e4⟩
      | owi p0 dx0 d0 =>
        obtain ⟨vs, e1, e2, e3, e4⟩ := q
        have ne : p0 ≠ p := fun z => by rw [z, rp] at e2; exact hj (Option.some.inj e2)
        exact ⟨vs, e1, e2, by rw [upd_ne ne]; exact e3, e4⟩
/-- an own object becomes everybody's -/
theorem Sta.freeze (S : Sta B M σ l n F H r) {i : Nat} {p : Addr} {o : HO} {d : D} (rp : r p = some i) (hp : H p = some o) (hx : σ[i]? = some (some (.ref p))) (h : Rep B.C B.sa (upd F p o) (.ref p) d) :
    Ex F (upd F p o) ∧ Sta B M σ (l.set i (.sh d)) n (upd F p o) H (fun a => if a = p then none else r a) := by
  obtain ⟨f1, f2, f3, f4⟩ := S.own p i rp
  have ns := S.notS rp
  have ex : Ex F (upd F p o) := Ex.new f1
  have hL : p ∉ B.L := fun z => S.l0 p z f2
  refine ⟨ex, by simp [S.len], S.grow.trans ex, fun a e e' => ?_, S.kept, fun a u e => ?_, S.lk, fun a u z e => ?_, fun a j e => ?_, S.s0, S.l0, fun z => ?_, fun j t e => ?_⟩
  · have ne : a ≠ p := fun q => e (by rw [q]; exact f2)
    rw [upd_ne ne]
    exact S.new a e e'
  · by_cases ne : a = p
    · subst ne
      rw [upd_same] at e
      cases e
      exact ⟨fun _ _ => hp, fun od z => absurd (List.mem_map.mpr ⟨_, z, rfl⟩) f4, fun z => absurd z hL⟩
    · rw [upd_ne ne] at e
      exact S.le a u e
  · have ne : a ≠ p := fun q => by
      rcases z with z | z
      · exact f4 (by rw [← q]; exact z)
      · exact hL (by rw [← q]; exact z)
    rw [upd_ne ne] at e
    exact S.lkd a u z e
  · by_cases ne : a = p
    · simp only [if_pos ne] at e; cases e
    · simp only [if_neg ne] at e
      obtain ⟨g1, g2, g3, g4⟩ := S.own a j e
      exact ⟨by rw [upd_ne ne]; exact g1, g2, g3, g4⟩
  · obtain ⟨a1, a2, a3⟩ := S.sm z
    have q := ns z
    exact ⟨a1, by rw [upd_ne q.1.symm]; exact a2, by rw [upd_ne q.2.symm]; exact a3⟩
  · by_cases hj : i = j
    · subst hj
      have hi : i < l.length := by
        have := (List.getElem?_eq_some_iff.mp e).1
        simpa using this
      rw [List.getElem?_set_self hi] at e
      cases e
      exact ⟨.ref p, hx, h⟩
    · rw [List.getElem?_set_ne hj] at e
      have q := S.slots j t e
      cases t with
      | any => trivial
      | raw v => exact q
      | sh d => obtain ⟨v, e1, e2⟩ := q; exact ⟨v, e1, e2.mono ex⟩
      | owl ds =>
        obtain ⟨a, vs, e1, e2, e3, e4⟩ := q
        have ne : a ≠ p := fun z => by rw [z, rp] at e2; exact hj (Option.some.inj e2)
        exact ⟨a, vs, e1, by show (if a = p then none else r a) = some j; rw [if_neg ne]; exact e2, e3, e4.mono ex⟩
      | owd ds =>
        obtain ⟨a, vs, e1, e2, e3, e4⟩ := q
        have ne : a ≠ p := fun z => by rw [z, rp] at e2; exact hj (Option.some.inj e2)
        exact ⟨a, vs, e1, by show (if a = p then none else r a) = some j; rw [if_neg ne]; exact e2, e3, e4.mono ex⟩
      | owi p0 dx0 d0 =>
        obtain ⟨vs, e1, e2, e3, e4⟩ := q
        have ne : p0 ≠ p := fun z => by rw [z, rp] at e2; exact hj (Option.some.inj e2)
        exact ⟨vs, e1, by show (if p0 = p then none else r p0) = some j; rw [if_neg ne]; exact e2, e3, e4.mono ex⟩
end
section
variable {st : Bool} {sa ca p : Addr} {F H F2 H2 : Hp} {n2 : Nat} {o : HO}
/-- an object that is new since (F, H) and nobody's yet may change -/
theorem Step.poke (s : Step st sa ca F H F2 H2 n2) (hp : H p = none) (fp : F2 p = none) (ns : st = true → p ≠ sa ∧ p ≠ ca) : Step st sa ca F H F2 (upd H2 p o) n2 where
  ex := s.ex
  ht := fun a u e z => by rw [upd_ne (ne_of_none e hp)]; exact s.ht a u e z
  fr := s.fr
  nw := fun a u e e' => by
    have ne : a ≠ p := fun q => by rw [q, fp] at e'; cases e'
    rw [upd_ne ne]; exact s.nw a u e e'
  sm := fun z => by
    obtain ⟨a1, a2, a3⟩ := s.sm z
    have q := ns z
    exact ⟨a1.at (fun o e => by rw [upd_ne q.1.symm]; exact e) fun o e => by rw [upd_ne q.2.symm]; exact e, a2, a3⟩
/-- .. and becomes everybody's -/
theorem Step.freeze (s : Step st sa ca F H F2 H2 n2) (hp : H p = none) (h2 : H2 p = Option.some o) (fp : F2 p = none) (ns : st = true → p ≠ sa ∧ p ≠ ca) : Step st sa ca F H (upd F2 p o) H2 n2 where
  ex := s.ex.trans (Ex.new fp)
  ht := s.ht
  fr := fun a e e' => by
    have ne : a ≠ p := fun q => e (by rw [q]; exact hp)
    rw [upd_ne ne]; exact s.fr a e e'
  nw := fun a u e e' => by
    by_cases ne : a = p
    · subst ne; rw [upd_same] at e'; cases e'; exact h2
    · rw [upd_ne ne] at e'; exact s.nw a u e e'
  sm := fun z => by
    obtain ⟨a1, a2, a3⟩ := s.sm z
    have q := ns z
    exact ⟨a1, by rw [upd_ne q.1.symm]; exact a2, by rw [upd_ne q.2.symm]; exact a3⟩
end
end Gw

/-! Expressions over data. -/
namespace Gw
open PySem L2

def WE (B : Bk) (M : List (Addr × Obj)) (te : TE) (l : List Sl) (n : Nat) (Q : D → Nat → Prop) : Prop :=
  ∀ F H σ r, Sta B M σ l n F H r → ∀ k : VK, (∀ v F2 H2 d n2, Q d n2 → Step B.st B.sa B.ca F H F2 H2 n2 → Rep B.C B.sa F2 v d → k v H2) → te σ H k
def WT (B : Bk) (M : List (Addr × Obj)) (tt : TT) (l : List Sl) (n : Nat) (Q : Bool → Nat → Prop) : Prop :=
  ∀ F H σ r, Sta B M σ l n F H r → ∀ k : Bool → Hp → Prop, (∀ b F2 H2 n2, Q b n2 → Step B.st B.sa B.ca F H F2 H2 n2 → k b H2) → tt σ H k
def WA (B : Bk) (M : List (Addr × Obj)) (ta : TA) (l : List Sl) (n : Nat) (Q : List D → Nat → Prop) : Prop :=
  ∀ F H σ r, Sta B M σ l n F H r → ∀ k : List V → Hp → Prop, (∀ vs F2 H2 ds n2, Q ds n2 → Step B.st B.sa B.ca F H F2 H2 n2 → Reps B.C B.sa F2 vs ds → k vs H2) → ta σ H k
def WO (B : Bk) (M : List (Addr × Obj)) (to : TO) (l : List Sl) (n : Nat) (Q : Option Int → Nat → Prop) : Prop :=
  ∀ F H σ r, Sta B M σ l n F H r → ∀ k : Option Int → Hp → Prop, (∀ o F2 H2 n2, Q o n2 → Step B.st B.sa B.ca F H F2 H2 n2 → k o H2) → to σ H k
/-- an operation by values; a call by values -/
def RO (B : Bk) (M : List (Addr × Obj)) (f : R2) (x y : D) (l : List Sl) (n : Nat) (Q : D → Nat → Prop) : Prop :=
  ∀ F H σ r, Sta B M σ l n F H r → ∀ vx vy, Rep B.C B.sa F vx x → Rep B.C B.sa F vy y → ∀ k : VK, (∀ v F2 H2 d n2, Q d n2 → Step B.st B.sa B.ca F H F2 H2 n2 → Rep B.C B.sa F2 v d → k v H2) → f vx vy H k
def RC (B : Bk) (M : List (Addr × Obj)) (f : List V → Hp → VK → Prop) (ds : List D) (l : List Sl) (n : Nat) (Q : D → Nat → Prop) : Prop :=
  ∀ F H σ r, Sta B M σ l n F H r → ∀ vs, Reps B.C B.sa F vs ds → ∀ k : VK, (∀ v F2 H2 d n2, Q d n2 → Step B.st B.sa B.ca F H F2 H2 n2 → Rep B.C B.sa F2 v d → k v H2) → f vs H k

/-! ### what a datum's value is -/
section
variable {C sa : Addr} {F : Hp} {v : V}
theorem Rep.int_inv {i : Int} (h : Rep C sa F v (.int i)) : v = .int i := by cases h; rfl
theorem Rep.str_inv {x : Str} (h : Rep C sa F v (.str x)) : v = .str x := by cases h; rfl
theorem Rep.bl_inv {b : Bool} (h : Rep C sa F v (.bl b)) : v = .bl b := by cases h; rfl
theorem Rep.non_inv (h : Rep C sa F v .non) : v = .non := by cases h; rfl
theorem Rep.tup_inv {ds : List D} (h : Rep C sa F v (.tup ds)) : ∃ a vs, v = .ref a ∧ F a = some (.tup vs) ∧ Reps C sa F vs ds := by cases h with | tup h hl hr => exact ⟨_, _, rfl, h, hl, hr⟩
theorem Rep.lst_inv {ds : List D} (h : Rep C sa F v (.lst ds)) : ∃ a vs, v = .ref a ∧ F a = some (.lst vs) ∧ Reps C sa F vs ds := by cases h with | lst h hl hr => exact ⟨_, _, rfl, h, hl, hr⟩
theorem Rep.dct_inv {o : Option Addr} {kvs : List (Str × D)} (h : Rep C sa F v (.dct o kvs)) : ∃ a kv, v = .ref a ∧ F a = some (.dK kv) ∧ (∀ b, o = some b → b = a) ∧ RepK C sa F kv kvs := by
  cases h with | dct h ho hk hr => exact ⟨_, _, rfl, h, ho, hk, hr⟩
theorem Rep.obj_inv {d : D} (h : Rep C sa F v (.obj d)) : ∃ a dx t, v = .ref a ∧ F a = some (.ins C dx [("place_table", .ref t)]) ∧ Rep C sa F (.ref t) d := by
  cases h with | obj h hr => exact ⟨_, _, _, rfl, h, hr⟩
theorem Reps.ints {vs : List V} : ∀ {is : List Int}, Reps C sa F vs (is.map D.int) → vs = is.map V.int := fun {is} h => by
  induction is generalizing vs with
  | nil => exact h.inv0
  | cons i r ih =>
    obtain ⟨v, w, rfl, h1, h2⟩ := h.inv
    rw [h1.int_inv, ih h2]; rfl
theorem Reps.strs {vs : List V} : ∀ {is : List Str}, Reps C sa F vs (is.map D.str) → vs = is.map V.str := fun {is} h => by
  induction is generalizing vs with
  | nil => exact h.inv0
  | cons i r ih =>
    obtain ⟨v, w, rfl, h1, h2⟩ := h.inv
    rw [h1.str_inv, ih h2]; rfl
theorem Reps.bls {vs : List V} : ∀ {is : List Bool}, Reps C sa F vs (is.map D.bl) → vs = is.map V.bl := fun {is} h => by
  induction is generalizing vs with
  | nil => exact h.inv0
  | cons i r ih =>
    obtain ⟨v, w, rfl, h1, h2⟩ := h.inv
    rw [h1.bl_inv, ih h2]; rfl
theorem Reps.of_ints {is : List Int} : Reps C sa F (is.map V.int) (is.map D.int) := by
  induction is with
  | nil => exact Reps.nil
  | cons i r ih => exact Reps.cons .int ih
theorem Reps.of_strs {is : List Str} : Reps C sa F (is.map V.str) (is.map D.str) := by
  induction is with
  | nil => exact Reps.nil
  | cons i r ih => exact Reps.cons .str ih
end

section
variable {B : Bk} {M : List (Addr × Obj)} {l : List Sl} {n : Nat} {Q : D → Nat → Prop} {P : Bool → Nat → Prop} {ta tb tc te td ty : TE} {t u : TT} {tr : TA} {f g : R2} {x y d : D}
theorem we_mono {Q' : D → Nat → Prop} (h : WE B M te l n Q) (m : ∀ d n2, Q d n2 → Q' d n2) : WE B M te l n Q' := fun F H σ r S k q => h F H σ r S k fun v F2 H2 d n2 z => q v F2 H2 d n2 (m d n2 z)
theorem wt_mono {P' : Bool → Nat → Prop} (h : WT B M t l n P) (m : ∀ d n2, P d n2 → P' d n2) : WT B M t l n P' := fun F H σ r S k q => h F H σ r S k fun v F2 H2 n2 z => q v F2 H2 n2 (m v n2 z)
theorem we_var {i : Nat} (h : l[i]? = some (.sh d)) (q : Q d n) : WE B M (tVar i) l n Q := fun F H σ r S k c => by
  obtain ⟨v, e, rep⟩ := S.slots i _ h
  exact ⟨v, e, c v F H d n q S.r0 rep⟩
theorem we_int {i : Int} (q : Q (.int i) n) : WE B M (tC (.int i)) l n Q := fun F H σ r S k c => c _ F H _ n q S.r0 .int
theorem we_str {i : Str} (q : Q (.str i) n) : WE B M (tC (.str i)) l n Q := fun F H σ r S k c => c _ F H _ n q S.r0 .str
theorem we_bl {i : Bool} (q : Q (.bl i) n) : WE B M (tC (.bl i)) l n Q := fun F H σ r S k c => c _ F H _ n q S.r0 .bl
theorem we_non (q : Q .non n) : WE B M (tC .non) l n Q := fun F H σ r S k c => c _ F H _ n q S.r0 .non
theorem we_op (h : WE B M ta l n fun x n1 => WE B M tb l n1 fun y n2 => RO B M f x y l n2 Q) : WE B M (tOp f ta tb) l n Q := fun F H σ r S k c =>
  h F H σ r S _ fun v F1 H1 x n1 q1 s1 r1 => q1 F1 H1 σ r (S.step s1) _ fun w F2 H2 y n2 q2 s2 r2 =>
    q2 F2 H2 σ r ((S.step s1).step s2) v w (r1.mono s2.ex) r2 k fun z F3 H3 d n3 q s3 r3 => c z F3 H3 d n3 q ((s1.trans s2).trans s3) r3
theorem we_un {f : V → Hp → VK → Prop} (h : WE B M ta l n fun x n1 => RO B M (fun a _ H k => f a H k) x x l n1 Q) : WE B M (tUn f ta) l n Q := fun F H σ r S k c =>
  h F H σ r S _ fun v F1 H1 x n1 q1 s1 r1 => q1 F1 H1 σ r (S.step s1) v v r1 r1 k fun z F3 H3 d n3 q s3 r3 => c z F3 H3 d n3 q (s1.trans s3) r3
theorem ro_I0 {h : Int → Int → Int} {i j : Int} (q : Q (.int (h i j)) n) : RO B M (rI0 fun i j => .int (h i j)) (.int i) (.int j) l n Q := fun F H σ r S vx vy rx ry k c =>
  ⟨i, j, rx.int_inv, ry.int_inv, c _ F H _ n q S.r0 .int⟩
theorem ro_B0 {h : Int → Int → Bool} {i j : Int} (q : Q (.bl (h i j)) n) : RO B M (rI0 fun i j => .bl (h i j)) (.int i) (.int j) l n Q := fun F H σ r S vx vy rx ry k c =>
  ⟨i, j, rx.int_inv, ry.int_inv, c _ F H _ n q S.r0 .bl⟩
theorem ro_I {c0 : Int → Int → Prop} {h : Int → Int → Int} {i j : Int} (hc : c0 i j) (q : Q (.int (h i j)) n) : RO B M (rI c0 fun i j => .int (h i j)) (.int i) (.int j) l n Q := fun F H σ r S vx vy rx ry k c =>
  ⟨i, j, rx.int_inv, ry.int_inv, hc, c _ F H _ n q S.r0 .int⟩
theorem dec_int {i j : Int} : decide (V.int i = V.int j) = decide (i = j) := by simp
theorem dec_str {i j : Str} : decide (V.str i = V.str j) = decide (i = j) := by simp
theorem dec_bl {i j : Bool} : decide (V.bl i = V.bl j) = decide (i = j) := by simp
theorem ro_eqI {i j : Int} (q : Q (.bl (decide (i = j))) n) : RO B M rEq (.int i) (.int j) l n Q := fun F H σ r S vx vy rx ry k c => by
  rw [rx.int_inv, ry.int_inv]
  exact ⟨rfl, by rw [dec_int]; exact c _ F H _ n q S.r0 .bl⟩
theorem ro_eqS {i j : Str} (q : Q (.bl (decide (i = j))) n) : RO B M rEq (.str i) (.str j) l n Q := fun F H σ r S vx vy rx ry k c => by
  rw [rx.str_inv, ry.str_inv]
  exact ⟨rfl, by rw [dec_str]; exact c _ F H _ n q S.r0 .bl⟩
theorem ro_neI {i j : Int} (q : Q (.bl (!decide (i = j))) n) : RO B M rNe (.int i) (.int j) l n Q := fun F H σ r S vx vy rx ry k c => by
  rw [rx.int_inv, ry.int_inv]
  exact ⟨rfl, by rw [dec_int]; exact c _ F H _ n q S.r0 .bl⟩
theorem ro_neS {i j : Str} (q : Q (.bl (!decide (i = j))) n) : RO B M rNe (.str i) (.str j) l n Q := fun F H σ r S vx vy rx ry k c => by
  rw [rx.str_inv, ry.str_inv]
  exact ⟨rfl, by rw [dec_str]; exact c _ F H _ n q S.r0 .bl⟩
theorem ro_neB {i j : Bool} (q : Q (.bl (!decide (i = j))) n) : RO B M rNe (.bl i) (.bl j) l n Q := fun F H σ r S vx vy rx ry k c => by
  rw [rx.bl_inv, ry.bl_inv]
  exact ⟨rfl, by rw [dec_bl]; exact c _ F H _ n q S.r0 .bl⟩
theorem ro_eqB {i j : Bool} (q : Q (.bl (decide (i = j))) n) : RO B M rEq (.bl i) (.bl j) l n Q := fun F H σ r S vx vy rx ry k c => by
  rw [rx.bl_inv, ry.bl_inv]
  exact ⟨rfl, by rw [dec_bl]; exact c _ F H _ n q S.r0 .bl⟩
def rNotN : R2 := fun x y H Q => y = .non ∧ Q (.bl (!decide (x = .non))) H
theorem op_notN1 {X : Cx} : OpR X (compareOp .IsNot) rNotN := op_notN
theorem ro_notNon (q : Q (.bl false) n) : RO B M rNotN .non .non l n Q := fun F H σ r S vx vy rx ry k c => by
  rw [rx.non_inv, ry.non_inv]
  exact ⟨rfl, c _ F H _ n q S.r0 .bl⟩
/-! ### subscripts -/
theorem atI_rep {C sa : Addr} {F : Hp} {vs : List V} {ds : List D} {i : Int} (h : Reps C sa F vs ds) (e : atI ds i = some d) : ∃ v, atI vs i = some v ∧ Rep C sa F v d := by
  unfold atI at e ⊢
  rw [h.1]
  cases q : ixN ds.length i with
  | none => rw [q] at e; cases e
  | some j =>
    rw [q] at e
    exact h.get (i := j) e
theorem Sta.sql {σ : L2.St} {F H : Hp} {r : Addr → Option Nat} (S : Sta B M σ l n F H r) {a : Addr} {vs : List V} (h : F a = some (.lst vs)) : SqL B.K H a vs := .inl (S.rd h)
theorem Sta.sqt {σ : L2.St} {F H : Hp} {r : Addr → Option Nat} (S : Sta B M σ l n F H r) {a : Addr} {vs : List V} (h : F a = some (.tup vs)) : SqT B.K H a vs := .inl (S.rd h)
theorem ro_ixL {ds : List D} {i : Int} (e : atI ds i = some d) (q : Q d n) : RO B M (rIxL B.K) (.lst ds) (.int i) l n Q := fun F H σ r S vx vy rx ry k c => by
  obtain ⟨a, vs, rfl, ha, hr⟩ := rx.lst_inv
  obtain ⟨v, ev, rv⟩ := atI_rep hr e
  exact ⟨a, vs, i, v, rfl, ry.int_inv, S.sql ha, ev, c _ F H _ n q S.r0 rv⟩
theorem ro_ixT {ds : List D} {i : Int} (e : atI ds i = some d) (q : Q d n) : RO B M (rIxT B.K) (.tup ds) (.int i) l n Q := fun F H σ r S vx vy rx ry k c => by
  obtain ⟨a, vs, rfl, ha, hr⟩ := rx.tup_inv
  obtain ⟨v, ev, rv⟩ := atI_rep hr e
  exact ⟨a, vs, i, v, rfl, ry.int_inv, S.sqt ha, ev, c _ F H _ n q S.r0 rv⟩
theorem ro_ixS {z : Str} {i : Int} {c0 : Nat} (hz : z.length ≤ 100000) (e : atI z.cps.toList i = some c0) (q : Q (.str ⟨#[c0]⟩) n) : RO B M rIxS (.str z) (.int i) l n Q := fun F H σ r S vx vy rx ry k c =>
  ⟨z, i, c0, rx.str_inv, ry.int_inv, Nat.le_trans hz (by decide), e, c _ F H _ n q S.r0 .str⟩
/-- an own list at an index -/
theorem we_ixO {i : Nat} {ds : List D} {j : Int} (h : l[i]? = some (.owl ds)) (hb : WE B M tb l n fun y n1 => y = .int j ∧ ∃ d, atI ds j = some d ∧ Q d n1) : WE B M (tOp (rIxL B.K) (tVar i) tb) l n Q := fun F H σ r S k c => by
  obtain ⟨p, vs, e, rp, hp, hr⟩ := S.slots i _ h
  refine ⟨_, e, hb F H σ r S _ fun w F2 H2 y n2 q2 s2 r2 => ?_⟩
  obtain ⟨rfl, d, e2, q⟩ := q2
  obtain ⟨v, ev, rv⟩ := atI_rep (hr.mono s2.ex) e2
  exact ⟨p, vs, j, v, rfl, r2.int_inv, SqL.of (s2.ht p _ hp (S.notS rp)), ev, c _ F2 H2 _ n2 q s2 rv⟩
theorem we_dget (h : WE B M td l n fun x n1 => WE B M ty l n1 fun y n2 => ∃ o kvs s, x = .dct o kvs ∧ y = .str s ∧ ∃ d, lk kvs s = some d ∧ Q d n2) : WE B M (tDGet td ty) l n Q := fun F H σ r S k c =>
  h F H σ r S _ fun v F1 H1 x n1 q1 s1 r1 => q1 F1 H1 σ r (S.step s1) _ fun w F2 H2 y n2 q2 s2 r2 => by
    obtain ⟨o, kvs, s, rfl, rfl, d, e, q⟩ := q2
    obtain ⟨a, kv, rfl, ha, _, hk⟩ := (r1.mono s2.ex).dct_inv
    obtain ⟨z, ez, rz⟩ := hk.get e
    exact ⟨a, z, rfl, .inl ⟨kv, .inr s, ((S.step s1).step s2).rd ha, r2.str_inv, ez.symm⟩, c z F2 H2 d n2 q (s1.trans s2) rz⟩
theorem we_dgetO {i : Nat} {kvs : List (Str × D)} (h : l[i]? = some (.owd kvs)) (hb : WE B M ty l n fun y n2 => ∃ s, y = .str s ∧ ∃ d, lk kvs s = some d ∧ Q d n2) : WE B M (tDGet (tVar i) ty) l n Q := fun F H σ r S k c => by
  obtain ⟨p, kv, e, rp, hp, hr⟩ := S.slots i _ h
  refine ⟨_, e, hb F H σ r S _ fun w F2 H2 y n2 q2 s2 r2 => ?_⟩
  obtain ⟨s, rfl, d, ed, q⟩ := q2
  obtain ⟨z, ez, rz⟩ := (hr.mono s2.ex).get ed
  exact ⟨p, z, rfl, .inl ⟨kv, .inr s, .inl (s2.ht p _ hp (S.notS rp)), r2.str_inv, ez.symm⟩, c z F2 H2 d n2 q s2 rz⟩
theorem we_din (h : WE B M ty l n fun y n1 => WE B M td l n1 fun x n2 => ∃ o kvs s, x = .dct o kvs ∧ y = .str s ∧ Q (.bl (lk kvs s).isSome) n2) : WE B M (tDIn ty td) l n Q := fun F H σ r S k c =>
  h F H σ r S _ fun v F1 H1 x n1 q1 s1 r1 => q1 F1 H1 σ r (S.step s1) _ fun w F2 H2 y n2 q2 s2 r2 => by
    obtain ⟨o, kvs, s, rfl, rfl, q⟩ := q2
    obtain ⟨a, kv, rfl, ha, _, hk⟩ := r2.dct_inv
    refine ⟨a, valV kv (.inr s), rfl, .inl ⟨kv, .inr s, ((S.step s1).step s2).rd ha, r1.str_inv, rfl⟩, ?_⟩
    rw [hk.isSome]
    exact c _ F2 H2 _ n2 q (s1.trans s2) .bl
theorem we_dnotin (h : WE B M ty l n fun y n1 => WE B M td l n1 fun x n2 => ∃ o kvs s, x = .dct o kvs ∧ y = .str s ∧ Q (.bl (!(lk kvs s).isSome)) n2) : WE B M (tDNotIn ty td) l n Q := fun F H σ r S k c =>
  h F H σ r S _ fun v F1 H1 x n1 q1 s1 r1 => q1 F1 H1 σ r (S.step s1) _ fun w F2 H2 y n2 q2 s2 r2 => by
    obtain ⟨o, kvs, s, rfl, rfl, q⟩ := q2
    obtain ⟨a, kv, rfl, ha, _, hk⟩ := r2.dct_inv
    refine ⟨a, valV kv (.inr s), rfl, .inl ⟨kv, .inr s, ((S.step s1).step s2).rd ha, r1.str_inv, rfl⟩, ?_⟩
    rw [hk.isSome]
    exact c _ F2 H2 _ n2 q (s1.trans s2) .bl
theorem we_dinO {i : Nat} {kvs : List (Str × D)} (h : l[i]? = some (.owd kvs)) (hb : WE B M ty l n fun y n2 => ∃ s, y = .str s ∧ Q (.bl (lk kvs s).isSome) n2) : WE B M (tDIn ty (tVar i)) l n Q := fun F H σ r S k c =>
  hb F H σ r S _ fun w F2 H2 y n2 q2 s2 r2 => by
    obtain ⟨p, kv, e, rp, hp, hr⟩ := (S.step s2).slots i _ h
    obtain ⟨s, rfl, q⟩ := q2
    refine ⟨_, e, p, valV kv (.inr s), rfl, .inl ⟨kv, .inr s, .inl hp, r2.str_inv, rfl⟩, ?_⟩
    rw [hr.isSome]
    exact c _ F2 H2 _ n2 q s2 .bl
theorem we_dnotinO {i : Nat} {kvs : List (Str × D)} (h : l[i]? = some (.owd kvs)) (hb : WE B M ty l n fun y n2 => ∃ s, y = .str s ∧ Q (.bl (!(lk kvs s).isSome)) n2) : WE B M (tDNotIn ty (tVar i)) l n Q := fun F H σ r S k c =>
  hb F H σ r S _ fun w F2 H2 y n2 q2 s2 r2 => by
    obtain ⟨p, kv, e, rp, hp, hr⟩ := (S.step s2).slots i _ h
    obtain ⟨s, rfl, q⟩ := q2
    refine ⟨_, e, p, valV kv (.inr s), rfl, .inl ⟨kv, .inr s, .inl hp, r2.str_inv, rfl⟩, ?_⟩
    rw [hr.isSome]
    exact c _ F2 H2 _ n2 q s2 .bl
/-! ### in a list or tuple of texts -/
theorem inV_strs {s : Str} {zs : List Str} : inV (.str s) (zs.map V.str) = decide (s ∈ zs) := by
  unfold inV
  induction zs with
  | nil => simp
  | cons a r ih =>
    rw [List.map_cons, List.any_cons, ih]
    show ((a == s) || decide (s ∈ r)) = decide (s ∈ a :: r)
    by_cases e : a = s
    · subst e; simp
    · have e' : ¬ s = a := fun z => e z.symm
      simp [e, e']
theorem flat_strs {zs : List Str} : (zs.map V.str).all flatV = true := by
  rw [List.all_map]
  exact List.all_eq_true.mpr fun _ _ => rfl
theorem ro_inL {s : Str} {zs : List Str} (q : Q (.bl (decide (s ∈ zs))) n) : RO B M (rIn B.K false) (.str s) (.lst (zs.map D.str)) l n Q := fun F H σ r S vx vy rx ry k c => by
  obtain ⟨a, vs, rfl, ha, hr⟩ := ry.lst_inv
  rw [hr.strs] at ha
  rw [rx.str_inv]
  refine ⟨a, _, rfl, .inl (S.sql ha), rfl, flat_strs, ?_⟩
  rw [if_neg Bool.false_ne_true, inV_strs]
  exact c _ F H _ n q S.r0 .bl
theorem ro_inT {s : Str} {zs : List Str} (q : Q (.bl (decide (s ∈ zs))) n) : RO B M (rIn B.K false) (.str s) (.tup (zs.map D.str)) l n Q := fun F H σ r S vx vy rx ry k c => by
  obtain ⟨a, vs, rfl, ha, hr⟩ := ry.tup_inv
  rw [hr.strs] at ha
  rw [rx.str_inv]
  refine ⟨a, _, rfl, .inr (S.sqt ha), rfl, flat_strs, ?_⟩
  rw [if_neg Bool.false_ne_true, inV_strs]
  exact c _ F H _ n q S.r0 .bl
theorem ro_ninL {s : Str} {zs : List Str} (q : Q (.bl (!decide (s ∈ zs))) n) : RO B M (rIn B.K true) (.str s) (.lst (zs.map D.str)) l n Q := fun F H σ r S vx vy rx ry k c => by
  obtain ⟨a, vs, rfl, ha, hr⟩ := ry.lst_inv
  rw [hr.strs] at ha
  rw [rx.str_inv]
  refine ⟨a, _, rfl, .inl (S.sql ha), rfl, flat_strs, ?_⟩
  rw [if_pos rfl, inV_strs]
  exact c _ F H _ n q S.r0 .bl
theorem ro_ninT {s : Str} {zs : List Str} (q : Q (.bl (!decide (s ∈ zs))) n) : RO B M (rIn B.K true) (.str s) (.tup (zs.map D.str)) l n Q := fun F H σ r S vx vy rx ry k c => by
  obtain ⟨a, vs, rfl, ha, hr⟩ := ry.tup_inv
  rw [hr.strs] at ha
  rw [rx.str_inv]
  refine ⟨a, _, rfl, .inr (S.sqt ha), rfl, flat_strs, ?_⟩
  rw [if_pos rfl, inV_strs]
  exact c _ F H _ n q S.r0 .bl
/-- in an own list of texts -/
theorem we_inO {neg : Bool} {i : Nat} {zs : List Str} (h : l[i]? = some (.owl (zs.map D.str))) (ha : WE B M ta l n fun x n1 => ∃ s, x = .str s ∧ Q (.bl (if neg = true then !decide (s ∈ zs) else decide (s ∈ zs))) n1) : WE B M (tOp (rIn B.K neg) ta (tVar i)) l n Q := fun F H σ r S k c =>
  ha F H σ r S _ fun w F2 H2 y n2 q2 s2 r2 => by
    obtain ⟨p, vs, e, rp, hp, hr⟩ := (S.step s2).slots i _ h
    obtain ⟨s, rfl, q⟩ := q2
    rw [hr.strs] at hp
    refine ⟨_, e, p, _, rfl, .inl (SqL.of hp), by rw [r2.str_inv]; rfl, flat_strs, ?_⟩
    rw [r2.str_inv, inV_strs]
    exact c _ F2 H2 _ n2 q s2 .bl
def rInS : R2 := fun x y H Q => ∃ (c : Nat) (z : Str), x = .str ⟨#[c]⟩ ∧ y = .str z ∧ Q (.bl (decide (c ∈ z.cps.toList))) H
theorem op_inS {X : Cx} : OpR X (compareOp .In) rInS := op_in_sign
theorem ro_inS {c0 : Nat} {z : Str} (q : Q (.bl (decide (c0 ∈ z.cps.toList))) n) : RO B M rInS (.str ⟨#[c0]⟩) (.str z) l n Q := fun F H σ r S vx vy rx ry k c =>
  ⟨c0, z, rx.str_inv, ry.str_inv, c _ F H _ n q S.r0 .bl⟩
def rAddS : R2 := fun x y H Q => ∃ i j, x = .str i ∧ y = .str j ∧ i.length + j.length ≤ sizeLine ∧ Q (.str (i ++ j)) H
theorem op_addS {X : Cx} : OpR X (binaryOp .Add) rAddS := op_add_str
theorem ro_addS {i j : Str} (hl : i.length + j.length ≤ 100000) (q : Q (.str (i ++ j)) n) : RO B M rAddS (.str i) (.str j) l n Q := fun F H σ r S vx vy rx ry k c =>
  ⟨i, j, rx.str_inv, ry.str_inv, Nat.le_trans hl (by decide), c _ F H _ n q S.r0 .str⟩
theorem ro_cat {xs ys : List D} (hl : xs.length + ys.length ≤ 100000) (q : Q (.lst (xs ++ ys)) n) : RO B M rCat (.lst xs) (.lst ys) l n Q := fun F H σ r S vx vy rx ry k c => by
  obtain ⟨a, vs, rfl, ha, hr⟩ := rx.lst_inv
  obtain ⟨b, ws, rfl, hb, hs⟩ := ry.lst_inv
  refine ⟨a, b, vs, ws, rfl, rfl, S.here ha (fun kv z => nomatch z), S.here hb (fun kv z => nomatch z), by rw [hr.1, hs.1]; exact Nat.le_trans hl (by decide), fun p hp => ?_⟩
  have st := Step.new (o := .lst (vs ++ ws)) S.sm hp (S.fnone hp)
  have ap := hr.append hs
  exact c _ _ _ _ n q st (.lst upd_same ap.1 (ap.mono st.ex).2)

/-! ### truth, and, or, if -/
theorem wt_B (h : WE B M te l n fun d n1 => ∃ b, d = .bl b ∧ P b n1) : WT B M (tB te) l n P := fun F H σ r S k c =>
  h F H σ r S _ fun v F1 H1 x n1 q1 s1 r1 => by
    obtain ⟨b, rfl, q⟩ := q1
    exact ⟨b, r1.bl_inv, c b F1 H1 n1 q s1⟩
theorem wt_test (h : WE B M te l n fun d n1 => ∃ b, d = .bl b ∧ P b n1) : WT B M (tTest te) l n P := fun F H σ r S k c =>
  h F H σ r S _ fun v F1 H1 x n1 q1 s1 r1 => by
    obtain ⟨b, rfl, q⟩ := q1
    exact ⟨b, r1.bl_inv, c b F1 H1 n1 q s1⟩
theorem wt_and (h : WT B M t l n fun a n1 => (a = true → WT B M u l n1 P) ∧ (a = false → P false n1)) : WT B M (tAnd t u) l n P := fun F H σ r S k c =>
  h F H σ r S _ fun a F1 H1 n1 q1 s1 => by
    cases a with
    | true =>
      show u σ H1 k
      exact q1.1 rfl F1 H1 σ r (S.step s1) k fun b F2 H2 n2 q s2 => c b F2 H2 n2 q (s1.trans s2)
    | false =>
      show k false H1
      exact c false F1 H1 n1 (q1.2 rfl) s1
theorem wt_or (h : WT B M t l n fun a n1 => (a = true → P true n1) ∧ (a = false → WT B M u l n1 P)) : WT B M (tOr t u) l n P := fun F H σ r S k c =>
  h F H σ r S _ fun a F1 H1 n1 q1 s1 => by
    cases a with
    | false =>
      show u σ H1 k
      exact q1.2 rfl F1 H1 σ r (S.step s1) k fun b F2 H2 n2 q s2 => c b F2 H2 n2 q (s1.trans s2)
    | true =>
      show k true H1
      exact c true F1 H1 n1 (q1.1 rfl) s1
theorem wt_not (h : WT B M t l n fun a n1 => P (!a) n1) : WT B M (tNot t) l n P := fun F H σ r S k c =>
  h F H σ r S _ fun a F1 H1 n1 q1 s1 => c _ F1 H1 n1 q1 s1
theorem we_andV (h : WE B M ta l n fun x n1 => ∃ a, x = .bl a ∧ (a = true → WE B M tb l n1 Q) ∧ (a = false → Q (.bl false) n1)) : WE B M (tAndV ta tb) l n Q := fun F H σ r S k c =>
  h F H σ r S _ fun v F1 H1 x n1 q1 s1 r1 => by
    obtain ⟨a, rfl, q⟩ := q1
    refine ⟨a, r1.bl_inv, ?_⟩
    cases a with
    | true =>
      show tb σ H1 k
      exact q.1 rfl F1 H1 σ r (S.step s1) k fun v F2 H2 b n2 q s2 r2 => c v F2 H2 b n2 q (s1.trans s2) r2
    | false =>
      show k (.bl false) H1
      exact c _ F1 H1 _ n1 (q.2 rfl) s1 .bl
theorem we_orV (h : WE B M ta l n fun x n1 => ∃ a, x = .bl a ∧ (a = true → Q (.bl true) n1) ∧ (a = false → WE B M tb l n1 Q)) : WE B M (tOrV ta tb) l n Q := fun F H σ r S k c =>
  h F H σ r S _ fun v F1 H1 x n1 q1 s1 r1 => by
    obtain ⟨a, rfl, q⟩ := q1
    refine ⟨a, r1.bl_inv, ?_⟩
    cases a with
    | false =>
      show tb σ H1 k
      exact q.2 rfl F1 H1 σ r (S.step s1) k fun v F2 H2 b n2 q s2 r2 => c v F2 H2 b n2 q (s1.trans s2) r2
    | true =>
      show k (.bl true) H1
      exact c _ F1 H1 _ n1 (q.1 rfl) s1 .bl
theorem we_notV (h : WE B M ta l n fun x n1 => ∃ a, x = .bl a ∧ Q (.bl (!a)) n1) : WE B M (tNotV ta) l n Q := fun F H σ r S k c =>
  h F H σ r S _ fun v F1 H1 x n1 q1 s1 r1 => by
    obtain ⟨a, rfl, q⟩ := q1
    exact ⟨a, r1.bl_inv, c _ F1 H1 _ n1 q s1 .bl⟩
theorem we_if (h : WT B M t l n fun a n1 => (a = true → WE B M ta l n1 Q) ∧ (a = false → WE B M tb l n1 Q)) : WE B M (tIf t ta tb) l n Q := fun F H σ r S k c =>
  h F H σ r S _ fun a F1 H1 n1 q1 s1 => by
    cases a with
    | true =>
      show ta σ H1 k
      exact q1.1 rfl F1 H1 σ r (S.step s1) k fun v F2 H2 b n2 q s2 r2 => c v F2 H2 b n2 q (s1.trans s2) r2
    | false =>
      show tb σ H1 k
      exact q1.2 rfl F1 H1 σ r (S.step s1) k fun v F2 H2 b n2 q s2 r2 => c v F2 H2 b n2 q (s1.trans s2) r2
theorem we_chain (h : WE B M ta l n fun x n1 => WE B M tb l n1 fun y n2 => RO B M f x y l n2 fun z n3 => ∃ a, z = .bl a ∧ (a = true → WE B M tc l n3 fun w n4 => RO B M g y w l n4 Q) ∧ (a = false → Q (.bl false) n3)) : WE B M (tChain f g ta tb tc) l n Q := fun F H σ r S k c =>
  h F H σ r S _ fun v F1 H1 x n1 q1 s1 r1 => q1 F1 H1 σ r (S.step s1) _ fun w F2 H2 y n2 q2 s2 r2 =>
    q2 F2 H2 σ r ((S.step s1).step s2) v w (r1.mono s2.ex) r2 _ fun z F3 H3 d n3 q s3 r3 => by
      obtain ⟨a, rfl, q⟩ := q
      refine ⟨a, r3.bl_inv, ?_⟩
      have S3 := ((S.step s1).step s2).step s3
      cases a with
      | true =>
        rw [if_pos rfl]
        refine q.1 rfl F3 H3 σ r S3 _ fun w' F4 H4 e n4 q4 s4 r4 => ?_
        refine q4 F4 H4 σ r (S3.step s4) w w' ((r2.mono s3.ex).mono s4.ex) r4 k fun z F5 H5 d n5 q5 s5 r5 => ?_
        exact c z F5 H5 d n5 q5 ((((s1.trans s2).trans s3).trans s4).trans s5) r5
      | false =>
        rw [if_neg Bool.false_ne_true]
        exact c _ F3 H3 _ n3 (q.2 rfl) ((s1.trans s2).trans s3) .bl

/-! ### arguments, displays -/
variable {R : List D → Nat → Prop}
theorem wa_nil (q : R [] n) : WA B M tNil l n R := fun F H σ r S k c => c [] F H [] n q S.r0 Reps.nil
theorem wa_cons (h : WE B M te l n fun x n1 => WA B M tr l n1 fun xs n2 => R (x :: xs) n2) : WA B M (tCons te tr) l n R := fun F H σ r S k c =>
  h F H σ r S _ fun v F1 H1 x n1 q1 s1 r1 => q1 F1 H1 σ r (S.step s1) _ fun vs F2 H2 xs n2 q2 s2 r2 => c (v :: vs) F2 H2 (x :: xs) n2 q2 (s1.trans s2) (Reps.cons (r1.mono s2.ex) r2)
theorem we_tup (h : WA B M tr l n fun ds n1 => ds.length ≤ 100000 ∧ Q (.tup ds) n1) : WE B M (tTup tr) l n Q := fun F H σ r S k c =>
  h F H σ r S _ fun vs F1 H1 ds n1 q1 s1 r1 => ⟨by rw [r1.1]; exact Nat.le_trans q1.1 (by decide), fun p hp => by
    have S1 := S.step s1
    have st := Step.new (o := .tup vs) S1.sm hp (S1.fnone hp)
    exact c _ _ _ _ n1 q1.2 (s1.trans st) (.tup upd_same r1.1 (r1.mono st.ex).2)⟩
theorem we_lst (h : WA B M tr l n fun ds n1 => ds.length ≤ 100000 ∧ Q (.lst ds) n1) : WE B M (tLst tr) l n Q := fun F H σ r S k c =>
  h F H σ r S _ fun vs F1 H1 ds n1 q1 s1 r1 => ⟨by rw [r1.1]; exact Nat.le_trans q1.1 (by decide), fun p hp => by
    have S1 := S.step s1
    have st := Step.new (o := .lst vs) S1.sm hp (S1.fnone hp)
    exact c _ _ _ _ n1 q1.2 (s1.trans st) (.lst upd_same r1.1 (r1.mono st.ex).2)⟩
theorem we_dnewK (q : Q (.dct none []) n) : WE B M tDNewK l n Q := fun F H σ r S k c p hp => by
  have st := Step.new (o := .dK []) S.sm hp (S.fnone hp)
  exact c _ _ _ _ n q st (.mkd upd_same RepK.nil)
/-- a written dict with text keys -/
def WPs (B : Bk) (M : List (Addr × Obj)) : List (TE × TE) → List Sl → Nat → (List (Str × D) → Nat → Prop) → Prop
  | [], _, n, R => R [] n
  | (tk, tv) :: r, l, n, R => WE B M tk l n fun x n1 => ∃ s, x = .str s ∧ WE B M tv l n1 fun y n2 => WPs B M r l n2 fun ps n3 => R ((s, y) :: ps) n3
theorem wps_run : ∀ {trs : List (TE × TE)} {n : Nat} {R : List (Str × D) → Nat → Prop}, WPs B M trs l n R → ∀ F H σ r, Sta B M σ l n F H r → ∀ k : List (V × V) → Hp → Prop,
    (∀ (kv : List (Key × V)) F2 H2 ps n2, R ps n2 → Step B.st B.sa B.ca F H F2 H2 n2 → RepK B.C B.sa F2 kv ps → k (kv.map fun q => (kV q.1, q.2)) H2) → tPairs trs σ H k
  | [], n, R, h, F, H, σ, r, S, k, c => c [] F H [] n h S.r0 RepK.nil
  | (tk, tv) :: rest, n, R, h, F, H, σ, r, S, k, c => h F H σ r S _ fun v F1 H1 x n1 q1 s1 r1 => by
    obtain ⟨s, rfl, q1⟩ := q1
    refine q1 F1 H1 σ r (S.step s1) _ fun w F2 H2 y n2 q2 s2 r2 => ?_
    refine wps_run q2 F2 H2 σ r ((S.step s1).step s2) _ fun kv F3 H3 ps n3 q3 s3 r3 => ?_
    rw [r1.str_inv]
    exact c ((Sum.inr s, w) :: kv) F3 H3 ((s, y) :: ps) n3 q3 ((s1.trans s2).trans s3) (RepK.cons (r2.mono s3.ex) r3)
theorem we_disp {trs : List (TE × TE)} (h : WPs B M trs l n fun ps n1 => ps.length ≤ 15 ∧ Q (.dct none (mergeD [] ps)) n1) : WE B M (tDisp trs) l n Q := fun F H σ r S k c p hp => by
  have s0 := Step.lay (o := .dK []) S.sm hp
  have S0 := S.step s0
  refine wps_run h F (upd H p (.dK [])) σ r S0 _ fun kv F2 H2 ps n2 q s2 r2 => ?_
  have hl : kv.length = ps.length := r2.length
  have np : B.st = true → p ≠ B.sa ∧ p ≠ B.ca := fun z => by
    have q := (S.sm z).1.sa_some
    exact ⟨fun e => q.1 (by rw [← e]; exact hp), fun e => q.2 (by rw [← e]; exact hp)⟩
  have h2 : H2 p = some (.dK []) := s2.ht p _ upd_same np
  refine ⟨h2, kv, rfl, by omega, ?_⟩
  have f2 : F2 p = none := s2.fr p (by rw [upd_same]; simp) (S.fnone hp)
  have mg := r2.merge RepK.nil
  refine c _ (upd F2 p (.dK (mergeK [] kv))) _ _ n2 q.2 ⟨fun a o e => ?_, fun a o e z => ?_, fun a e e' => ?_, fun a o e e' => ?_, fun z => ?_⟩ (.mkd upd_same (mg.mono (Ex.new f2)))
  · exact Ex.new f2 a o (s2.ex a o e)
  · have ne : a ≠ p := ne_of_none e hp
    rw [upd_ne ne]
    exact s2.ht a o (by rw [upd_ne ne]; exact e) z
  · have ne : a ≠ p := fun z => e (by rw [z]; exact hp)
    rw [upd_ne ne]
    exact s2.fr a (by rw [upd_ne ne]; exact e) e'
  · by_cases ne : a = p
    · subst ne; rw [upd_same] at e' ⊢; exact e'
    · rw [upd_ne ne] at e' ⊢
      exact s2.nw a o e e'
  · obtain ⟨a1, a2, a3⟩ := s2.sm z
    have q := np z
    exact ⟨a1.at (fun o e => by rw [upd_ne q.1.symm]; exact e) fun o e => by rw [upd_ne q.2.symm]; exact e, by rw [upd_ne q.1.symm]; exact a2, by rw [upd_ne q.2.symm]; exact a3⟩

/-! ### fields, slices -/
theorem we_fld (hc : Cls B.K B.C) (hn : NoAttr B.K B.C "place_table") (h : WE B M ta l n fun x n1 => ∃ d, x = .obj d ∧ Q d n1) : WE B M (tFld B.K ta "place_table") l n Q := fun F H σ r S k c =>
  h F H σ r S _ fun v F1 H1 x n1 q1 s1 r1 => by
    obtain ⟨d, rfl, q⟩ := q1
    obtain ⟨a, dx, t, rfl, ha, rt⟩ := r1.obj_inv
    exact ⟨a, B.C, dx, _, .ref t, rfl, (S.step s1).here ha (fun kv z => nomatch z), hc, hn, rfl, c _ F1 H1 _ n1 q s1 rt⟩
theorem wo_no {R : Option Int → Nat → Prop} (q : R none n) : WO B M tNoPart l n R := fun F H σ r S k c => c none F H n q S.r0
theorem wo_part {R : Option Int → Nat → Prop} (h : WE B M te l n fun x n1 => ∃ i, x = .int i ∧ R (some i) n1) : WO B M (tPart te) l n R := fun F H σ r S k c =>
  h F H σ r S _ fun v F1 H1 x n1 q1 s1 r1 => by
    obtain ⟨i, rfl, q⟩ := q1
    exact ⟨i, r1.int_inv, c _ F1 H1 n1 q s1⟩
def cutD (ds : List D) (lo hi : Option Int) : List D := (ds.drop (HT.sIx ds.length 0 lo)).take (HT.sIx ds.length ds.length hi - HT.sIx ds.length 0 lo)
theorem we_slL {lo hi : TO} (h : WE B M te l n fun x n1 => WO B M lo l n1 fun a n2 => WO B M hi l n2 fun b n3 => ∃ ds, x = .lst ds ∧ Q (.lst (cutD ds a b)) n3) : WE B M (tSl (rSlL B.K) te lo hi) l n Q := fun F H σ r S k c =>
  h F H σ r S _ fun v F1 H1 x n1 q1 s1 r1 => q1 F1 H1 σ r (S.step s1) _ fun a F2 H2 n2 q2 s2 => q2 F2 H2 σ r ((S.step s1).step s2) _ fun b F3 H3 n3 q3 s3 => by
    obtain ⟨ds, rfl, q⟩ := q3
    have S3 := ((S.step s1).step s2).step s3
    obtain ⟨p, vs, rfl, hp, hr⟩ := ((r1.mono s2.ex).mono s3.ex).lst_inv
    refine ⟨p, vs, rfl, S3.sql hp, fun z hz => ?_⟩
    have e : Reps B.C B.sa F3 (cutV vs a b) (cutD ds a b) := by
      unfold cutV cutD
      rw [hr.1]
      exact (hr.drop _).take _
    have st := Step.new (o := .lst (cutV vs a b)) S3.sm hz (S3.fnone hz)
    exact c _ _ _ _ n3 q (((s1.trans s2).trans s3).trans st) (.lst upd_same e.1 (e.mono st.ex).2)
theorem we_rev (h : WE B M te l n fun x n1 => ∃ ds, x = .lst ds ∧ Q (.lst ds.reverse) n1) : WE B M (tRevL B.K te) l n Q := fun F H σ r S k c =>
  h F H σ r S _ fun v F1 H1 x n1 q1 s1 r1 => by
    obtain ⟨ds, rfl, q⟩ := q1
    have S1 := S.step s1
    obtain ⟨p, vs, rfl, hp, hr⟩ := r1.lst_inv
    refine ⟨p, vs, rfl, S1.sql hp, fun z hz => ?_⟩
    have st := Step.new (o := .lst vs.reverse) S1.sm hz (S1.fnone hz)
    exact c _ _ _ _ n1 q (s1.trans st) (.lst upd_same hr.reverse.1 (hr.reverse.mono st.ex).2)

/-! ### built-in functions -/
theorem we_cb {f : List V → Hp → VK → Prop} (h : WA B M tr l n fun ds n1 => RC B M f ds l n1 Q) : WE B M (tCB f tr) l n Q := fun F H σ r S k c =>
  h F H σ r S _ fun vs F1 H1 ds n1 q1 s1 r1 => q1 F1 H1 σ r (S.step s1) vs r1 k fun v F2 H2 d n2 q s2 r2 => c v F2 H2 d n2 q (s1.trans s2) r2
theorem reps1 {C sa : Addr} {F : Hp} {vs : List V} (h : Reps C sa F vs [d]) : ∃ v, vs = [v] ∧ Rep C sa F v d := by
  obtain ⟨v, w, rfl, h1, h2⟩ := h.inv
  exact ⟨v, by rw [h2.inv0], h1⟩
theorem reps2 {C sa : Addr} {F : Hp} {vs : List V} {d e : D} (h : Reps C sa F vs [d, e]) : ∃ v w, vs = [v, w] ∧ Rep C sa F v d ∧ Rep C sa F w e := by
  obtain ⟨v, w, rfl, h1, h2⟩ := h.inv
  obtain ⟨v', rfl, h3⟩ := reps1 h2
  exact ⟨v, v', rfl, h1, h3⟩
def cAbs : List V → Hp → VK → Prop := fun xs H Q => ∃ i, xs = [.int i] ∧ Q (.int (if i < 0 then -i else i)) H
theorem call_abs1 {X : Cx} : CallR X (.builtin "abs") cAbs := call_abs
theorem rc_abs {i : Int} (q : Q (.int (if i < 0 then -i else i)) n) : RC B M cAbs [.int i] l n Q := fun F H σ r S vs rs k c => by
  obtain ⟨v, rfl, h1⟩ := reps1 rs
  exact ⟨i, by rw [h1.int_inv], c _ F H _ n q S.r0 .int⟩
def cInt : List V → Hp → VK → Prop := fun xs H Q => (∃ i, xs = [.int i] ∧ Q (.int i) H) ∨ ∃ k, xs = [.bl k] ∧ Q (.int (if k then 1 else 0)) H
theorem call_int2 {X : Cx} : CallR X (.type "int") cInt := call_int1
theorem rc_int {i : Int} (q : Q (.int i) n) : RC B M cInt [.int i] l n Q := fun F H σ r S vs rs k c => by
  obtain ⟨v, rfl, h1⟩ := reps1 rs
  exact .inl ⟨i, by rw [h1.int_inv], c _ F H _ n q S.r0 .int⟩
def cLenS (K : PySem.W.Frag) : List V → Hp → VK → Prop := fun xs H Q => ∃ p ys, xs = [.ref p] ∧ (SqL K H p ys ∨ SqT K H p ys) ∧ Q (.int ys.length) H
theorem call_lenS {X : Cx} : CallR X (.builtin "len") (cLenS X.K) := call_len_seq
theorem rc_lenL {ds : List D} (q : Q (.int (ds.length : Int)) n) : RC B M (cLenS B.K) [.lst ds] l n Q := fun F H σ r S vs rs k c => by
  obtain ⟨v, rfl, h1⟩ := reps1 rs
  obtain ⟨a, ws, rfl, ha, hr⟩ := h1.lst_inv
  exact ⟨a, ws, rfl, .inl (S.sql ha), by rw [hr.1]; exact c _ F H _ n q S.r0 .int⟩
theorem rc_lenT {ds : List D} (q : Q (.int (ds.length : Int)) n) : RC B M (cLenS B.K) [.tup ds] l n Q := fun F H σ r S vs rs k c => by
  obtain ⟨v, rfl, h1⟩ := reps1 rs
  obtain ⟨a, ws, rfl, ha, hr⟩ := h1.tup_inv
  exact ⟨a, ws, rfl, .inr (S.sqt ha), by rw [hr.1]; exact c _ F H _ n q S.r0 .int⟩
def cLenT : List V → Hp → VK → Prop := fun xs H Q => ∃ z, xs = [.str z] ∧ z.length ≤ sizeLine ∧ Q (.int z.length) H
theorem call_lenT {X : Cx} : CallR X (.builtin "len") cLenT := call_len_str
theorem rc_lenS {z : Str} (hz : z.length ≤ 100000) (q : Q (.int (z.length : Int)) n) : RC B M cLenT [.str z] l n Q := fun F H σ r S vs rs k c => by
  obtain ⟨v, rfl, h1⟩ := reps1 rs
  exact ⟨z, by rw [h1.str_inv], Nat.le_trans hz (by decide), c _ F H _ n q S.r0 .int⟩
/-- len of a dict, locked or not -/
def cLenD : List V → Hp → VK → Prop := fun xs H Q => ∃ a kvs, xs = [V.ref a] ∧ Rd H a (.dK kvs) ∧ Q (.int kvs.length) H
theorem call_lenD1 {X : Cx} : CallR X (.builtin "len") cLenD := by
  intro pins s σ H xs us Q I r h
  obtain ⟨a, kvs, rfl, ha, q⟩ := h
  obtain ⟨u, rfl, ru⟩ := vals1 r
  cases ru
  exact d_len I ha fun t s' I' => ⟨.int kvs.length, H, I', ⟨t, rfl⟩, q⟩
theorem rc_lenD {o : Option Addr} {kvs : List (Str × D)} (q : Q (.int (kvs.length : Int)) n) : RC B M cLenD [.dct o kvs] l n Q := fun F H σ r S vs rs k c => by
  obtain ⟨v, rfl, h1⟩ := reps1 rs
  obtain ⟨a, kv, rfl, ha, _, hr⟩ := h1.dct_inv
  exact ⟨a, kv, rfl, S.rd ha, by rw [hr.length]; exact c _ F H _ n q S.r0 .int⟩
def cListS (K : PySem.W.Frag) : List V → Hp → VK → Prop := fun xs H Q => ∃ p ys, xs = [.ref p] ∧ (SqL K H p ys ∨ SqT K H p ys) ∧ ∀ l, H l = none → Q (.ref l) (upd H l (.lst ys))
theorem call_listS {X : Cx} : CallR X (.type "list") (cListS X.K) := call_list_of
theorem rc_listL {ds : List D} (q : Q (.lst ds) n) : RC B M (cListS B.K) [.lst ds] l n Q := fun F H σ r S vs rs k c => by
  obtain ⟨v, rfl, h1⟩ := reps1 rs
  obtain ⟨a, ws, rfl, ha, hr⟩ := h1.lst_inv
  refine ⟨a, ws, rfl, .inl (S.sql ha), fun p hp => ?_⟩
  have st := Step.new (o := .lst ws) S.sm hp (S.fnone hp)
  exact c _ _ _ _ n q st (.lst upd_same hr.1 (hr.mono st.ex).2)
def cListD : List V → Hp → VK → Prop := fun xs H Q => ∃ (a : Addr) (kvs : List (Key × V)), xs = [.ref a] ∧ Rd H a (.dK kvs) ∧ ∀ p, H p = none → Q (.ref p) (upd H p (.lst (kvs.map fun kv => kV kv.1)))
theorem call_listD1 {X : Cx} (hc : X.calm = true) : CallR X (.type "list") cListD := call_listD hc
theorem keys_rep {C sa : Addr} {F : Hp} : ∀ {kv : List (Key × V)} {kvs : List (Str × D)}, RepK C sa F kv kvs → (kv.map fun q => kV q.1) = (kvs.map (·.1)).map V.str
  | kv, [], h => by rw [h.inv0]; rfl
  | kv, q :: r, h => by
    obtain ⟨v, w, rfl, h1, h2⟩ := h.inv
    rw [List.map_cons, keys_rep h2]
    rfl
theorem rc_listD {o : Option Addr} {kvs : List (Str × D)} (q : Q (.lst ((kvs.map (·.1)).map D.str)) n) : RC B M cListD [.dct o kvs] l n Q := fun F H σ r S vs rs k c => by
  obtain ⟨v, rfl, h1⟩ := reps1 rs
  obtain ⟨a, kv, rfl, ha, _, hr⟩ := h1.dct_inv
  refine ⟨a, kv, rfl, S.rd ha, fun p hp => ?_⟩
  rw [keys_rep hr]
  have st := Step.new (o := .lst ((kvs.map (·.1)).map V.str)) S.sm hp (S.fnone hp)
  have e : Reps B.C B.sa F ((kvs.map (·.1)).map V.str) ((kvs.map (·.1)).map D.str) := Reps.of_strs
  exact c _ _ _ _ n q st (.lst upd_same e.1 (e.mono st.ex).2)
def cDictD : List V → Hp → VK → Prop := fun xs H Q => ∃ (a : Addr) (kvs : List (Key × V)), xs = [.ref a] ∧ Rd H a (.dK kvs) ∧ ∀ p, H p = none → Q (.ref p) (upd H p (.dK kvs))
theorem call_dictD1 {X : Cx} : CallR X (.type "dict") cDictD := call_dictD
theorem rc_dictD {o : Option Addr} {kvs : List (Str × D)} (q : ∀ p, B.H0 p = none → Q (.dct (some p) kvs) n) : RC B M cDictD [.dct o kvs] l n Q := fun F H σ r S vs rs k c => by
  obtain ⟨v, rfl, h1⟩ := reps1 rs
  obtain ⟨a, kv, rfl, ha, _, hr⟩ := h1.dct_inv
  refine ⟨a, kv, rfl, S.rd ha, fun p hp => ?_⟩
  have st := Step.new (o := .dK kv) S.sm hp (S.fnone hp)
  exact c _ _ _ _ n (q p (S.h0none hp)) st (.mka upd_same (hr.mono st.ex))
def cDictP (K : PySem.W.Frag) : List V → Hp → VK → Prop := fun xs H Q => ∃ (a : Addr) (ps : List Addr) (kvs : List (Key × V)), xs = [.ref a] ∧ SqL K H a (ps.map V.ref) ∧ Paired (fun p kv => SqT K H p [kV kv.1, kv.2]) ps kvs ∧ ∀ p, H p = none → Q (.ref p) (upd H p (.dK (mergeK [] kvs)))
theorem call_dictP1 {X : Cx} (hc : X.calm = true) : CallR X (.type "dict") (cDictP X.K) := call_dictP hc
theorem pairs_rep {σ : L2.St} {F H : Hp} {r : Addr → Option Nat} (S : Sta B M σ l n F H r) : ∀ {vs : List V} {ps : List (Str × D)}, Reps B.C B.sa F vs (ps.map fun q => D.tup [.str q.1, q.2]) →
    ∃ (as : List Addr) (kv : List (Key × V)), vs = as.map V.ref ∧ Paired (fun p kv => SqT B.K H p [kV kv.1, kv.2]) as kv ∧ RepK B.C B.sa F kv ps
  | vs, [], h => ⟨[], [], h.inv0, .nil, RepK.nil⟩
  | vs, q :: rest, h => by
    obtain ⟨v, w, rfl, h1, h2⟩ := h.inv
    obtain ⟨as, kv, rfl, pr, rk⟩ := pairs_rep S h2
    obtain ⟨a, ws, rfl, ha, hr⟩ := h1.tup_inv
    obtain ⟨x, y, rfl, rx, ry⟩ := reps2 hr
    rw [rx.str_inv] at ha
    exact ⟨a :: as, (Sum.inr q.1, y) :: kv, rfl, .cons (S.sqt ha) pr, RepK.cons ry rk⟩
theorem rc_dictP {ps : List (Str × D)} (q : ∀ p, B.H0 p = none → Q (.dct (some p) (mergeD [] ps)) n) : RC B M (cDictP B.K) [.lst (ps.map fun q => D.tup [.str q.1, q.2])] l n Q := fun F H σ r S vs rs k c => by
  obtain ⟨v, rfl, h1⟩ := reps1 rs
  obtain ⟨a, ws, rfl, ha, hr⟩ := h1.lst_inv
  obtain ⟨as, kv, rfl, pr, rk⟩ := pairs_rep S hr
  refine ⟨a, as, kv, rfl, S.sql ha, pr, fun p hp => ?_⟩
  have st := Step.new (o := .dK (mergeK [] kv)) S.sm hp (S.fnone hp)
  have mg := rk.merge RepK.nil
  exact c _ _ _ _ n (q p (S.h0none hp)) st (.mka upd_same (mg.mono st.ex))
theorem rc_sum {is : List Int} (q : Q (.int is.sum) n) : RC B M (rSum B.K) [.lst (is.map D.int)] l n Q := fun F H σ r S vs rs k c => by
  obtain ⟨v, rfl, h1⟩ := reps1 rs
  obtain ⟨a, ws, rfl, ha, hr⟩ := h1.lst_inv
  rw [hr.ints] at ha
  exact ⟨a, is, rfl, S.sql ha, c _ F H _ n q S.r0 .int⟩
theorem rc_all {bs : List Bool} (q : Q (.bl (bs.all id)) n) : RC B M (rAll B.K) [.lst (bs.map D.bl)] l n Q := fun F H σ r S vs rs k c => by
  obtain ⟨v, rfl, h1⟩ := reps1 rs
  obtain ⟨a, ws, rfl, ha, hr⟩ := h1.lst_inv
  rw [hr.bls] at ha
  exact ⟨a, bs, rfl, S.sql ha, c _ F H _ n q S.r0 .bl⟩
theorem rc_any {bs : List Bool} (q : Q (.bl (bs.any id)) n) : RC B M (rAny B.K) [.lst (bs.map D.bl)] l n Q := fun F H σ r S vs rs k c => by
  obtain ⟨v, rfl, h1⟩ := reps1 rs
  obtain ⟨a, ws, rfl, ha, hr⟩ := h1.lst_inv
  rw [hr.bls] at ha
  exact ⟨a, bs, rfl, S.sql ha, c _ F H _ n q S.r0 .bl⟩
def cTupS (K : PySem.W.Frag) : List V → Hp → VK → Prop := fun xs H Q => ∃ p ys, xs = [.ref p] ∧ ((SqL K H p ys ∧ ∀ l, H l = none → Q (.ref l) (upd H l (.tup ys))) ∨ (SqT K H p ys ∧ Q (.ref p) H))
theorem call_tupS {X : Cx} : CallR X (.type "tuple") (cTupS X.K) := call_tuple_of
theorem rc_tupT {ds : List D} (q : Q (.tup ds) n) : RC B M (cTupS B.K) [.tup ds] l n Q := fun F H σ r S vs rs k c => by
  obtain ⟨v, rfl, h1⟩ := reps1 rs
  obtain ⟨a, ws, rfl, ha, hr⟩ := id h1.tup_inv
  exact ⟨a, ws, rfl, .inr ⟨S.sqt ha, c _ F H _ n q S.r0 h1⟩⟩
end
end Gw

/-! Statements, locks, loops, comprehensions over data. -/
namespace Gw
open PySem L2

structure Post where
  nx : List Sl → Nat → Prop
  rt : D → Nat → Prop
  bk : List Sl → Nat → Prop := fun _ _ => False
  ct : List Sl → Nat → Prop := fun _ _ => False
structure Fin (B : Bk) (M : List (Addr × Obj)) (P : Post) (F : Hp) (E : Ends) : Prop where
  nx : ∀ σ F2 H2 r l n, P.nx l n → Ex F F2 → Sta B M σ l n F2 H2 r → E.nx σ H2
  rt : ∀ v σ F2 H2 r l n d, P.rt d n → Ex F F2 → Sta B M σ l n F2 H2 r → Rep B.C B.sa F2 v d → E.rt v H2
  bk : ∀ σ F2 H2 r l n, P.bk l n → Ex F F2 → Sta B M σ l n F2 H2 r → E.bk σ H2
  ct : ∀ σ F2 H2 r l n, P.ct l n → Ex F F2 → Sta B M σ l n F2 H2 r → E.ct σ H2
theorem Fin.mono {B : Bk} {M : List (Addr × Obj)} {P : Post} {F F1 : Hp} {E : Ends} (f : Fin B M P F E) (e : Ex F F1) : Fin B M P F1 E :=
  ⟨fun σ F2 H2 r l n p x => f.nx σ F2 H2 r l n p (e.trans x), fun v σ F2 H2 r l n d p x => f.rt v σ F2 H2 r l n d p (e.trans x), fun σ F2 H2 r l n p x => f.bk σ F2 H2 r l n p (e.trans x), fun σ F2 H2 r l n p x => f.ct σ F2 H2 r l n p (e.trans x)⟩
def WS (B : Bk) (M : List (Addr × Obj)) (t : TS) (l : List Sl) (n : Nat) (P : Post) : Prop := ∀ F H σ r, Sta B M σ l n F H r → ∀ E : Ends, Fin B M P F E → t E σ H

/-! ### what stands within a datum -/
inductive Sub : D → D → Prop
  | refl {d : D} : Sub d d
  | tup {ds : List D} {i : Nat} {d e : D} (h : ds[i]? = some d) (s : Sub d e) : Sub (.tup ds) e
  | lst {ds : List D} {i : Nat} {d e : D} (h : ds[i]? = some d) (s : Sub d e) : Sub (.lst ds) e
  | dct {o : Option Addr} {kvs : List (Str × D)} {i : Nat} {q : Str × D} {e : D} (h : kvs[i]? = some q) (s : Sub q.2 e) : Sub (.dct o kvs) e
  | obj {d e : D} (s : Sub d e) : Sub (.obj d) e
theorem Rep.sub {C sa : Addr} {F : Hp} {d e : D} (s : Sub d e) : ∀ {v : V}, Rep C sa F v d → ∃ w, Rep C sa F w e := by
  induction s with
  | refl => exact fun h => ⟨_, h⟩
  | tup h s ih =>
    intro v r
    obtain ⟨a, vs, rfl, _, q⟩ := r.tup_inv
    obtain ⟨w, _, rw⟩ := q.get h
    exact ih rw
  | lst h s ih =>
    intro v r
    obtain ⟨a, vs, rfl, _, q⟩ := r.lst_inv
    obtain ⟨w, _, rw⟩ := q.get h
    exact ih rw
  | @dct o kvs i q e h s ih =>
    intro v r
    obtain ⟨a, kv, rfl, _, _, k⟩ := r.dct_inv
    have hl := k.length
    have hi : i < kvs.length := (List.getElem?_eq_some_iff.mp h).1
    have hv : kv[i]? = some (kv[i]'(by rw [hl]; exact hi)) := List.getElem?_eq_getElem _
    exact ih (k.2 i _ q hv h)
  | obj s ih =>
    intro v r
    obtain ⟨a, dx, t, rfl, _, q⟩ := r.obj_inv
    exact ih q
/-- the dict at a stands in a shared slot -/
def InL (l : List Sl) (a : Addr) : Prop := ∃ (i : Nat) (d : D) (kvs : List (Str × D)), l[i]? = some (.sh d) ∧ Sub d (.dct (some a) kvs)

section
variable {B : Bk} {M : List (Addr × Obj)} {l : List Sl} {n : Nat} {Q : D → Nat → Prop} {P : Post} {ta tb tc te td ty : TE} {t u : TT} {tr : TA} {d x y : D} {ts us : TS}
theorem InL.at {σ : L2.St} {F H : Hp} {r : Addr → Option Nat} (S : Sta B M σ l n F H r) {a : Addr} (h : InL l a) : ∃ kv, F a = some (.dK kv) := by
  obtain ⟨i, d, kvs, e, s⟩ := h
  obtain ⟨v, _, rv⟩ := S.slots i _ e
  obtain ⟨w, rw⟩ := rv.sub s
  obtain ⟨b, kv, _, hb, ho, _⟩ := rw.dct_inv
  rw [ho a rfl]
  exact ⟨kv, hb⟩

/-! ### small statements -/
theorem ws_next (q : P.nx l n) : WS B M tNext l n P := fun F H σ r S E f => f.nx σ F H r l n q (Ex.refl F) S
theorem ws_seq (h : WS B M ts l n { P with nx := fun l1 n1 => WS B M us l1 n1 P }) : WS B M (tSeq ts us) l n P := fun F H σ r S E f =>
  h F H σ r S _ ⟨fun σ1 F1 H1 r1 l1 n1 p x S1 => p F1 H1 σ1 r1 S1 E (f.mono x), f.rt, f.bk, f.ct⟩
theorem ws_if (h : WT B M t l n fun b n1 => (b = true → WS B M ts l n1 P) ∧ (b = false → WS B M us l n1 P)) : WS B M (tIfS t ts us) l n P := fun F H σ r S E f =>
  h F H σ r S _ fun b F1 H1 n1 q s1 => by
    cases b with
    | true =>
      show ts E σ H1
      exact q.1 rfl F1 H1 σ r (S.step s1) E (f.mono s1.ex)
    | false =>
      show us E σ H1
      exact q.2 rfl F1 H1 σ r (S.step s1) E (f.mono s1.ex)
theorem ws_ret (h : WE B M te l n P.rt) : WS B M (tRet te) l n P := fun F H σ r S E f =>
  h F H σ r S _ fun v F1 H1 d n1 q s1 r1 => f.rt v σ F1 H1 r l n1 d q s1.ex (S.step s1) r1
theorem ws_cont (q : P.ct l n) : WS B M tCont l n P := fun F H σ r S E f => f.ct σ F H r l n q (Ex.refl F) S
theorem ws_brk (q : P.bk l n) : WS B M tBreak l n P := fun F H σ r S E f => f.bk σ F H r l n q (Ex.refl F) S
theorem ws_drop (h : WE B M te l n fun _ n1 => P.nx l n1) : WS B M (tDrop te) l n P := fun F H σ r S E f =>
  h F H σ r S _ fun v F1 H1 d n1 q s1 r1 => f.nx σ F1 H1 r l n1 q s1.ex (S.step s1)
/-- what is frozen while the rest runs -/
theorem ws_frl {i : Nat} {ds : List D} (h : l[i]? = some (.owl ds)) (k : WS B M ts (l.set i (.sh (.lst ds))) n P) : WS B M ts l n P := fun F H σ r S E f => by
  obtain ⟨p, vs, e, rp, hp, hr⟩ := S.slots i _ h
  have fp := (S.own p i rp).1
  obtain ⟨ex, S1⟩ := S.freeze (d := .lst ds) rp hp e (.mkl upd_same (hr.mono (Ex.new fp)))
  exact k _ _ _ _ S1 E (f.mono ex)
theorem ws_frd {i : Nat} {kvs : List (Str × D)} (h : l[i]? = some (.owd kvs)) (k : ∀ a, B.H0 a = none → WS B M ts (l.set i (.sh (.dct (some a) kvs))) n P) : WS B M ts l n P := fun F H σ r S E f => by
  obtain ⟨p, vs, e, rp, hp, hr⟩ := S.slots i _ h
  have fp := (S.own p i rp).1
  obtain ⟨ex, S1⟩ := S.freeze (d := .dct (some p) kvs) rp hp e (.mka upd_same (hr.mono (Ex.new fp)))
  exact k p (S.own p i rp).2.1 _ _ _ _ S1 E (f.mono ex)

/-! ### targets -/
def WG (B : Bk) (M : List (Addr × Obj)) (g : TG) (js : List Nat) (x : D) (l : List Sl) (n : Nat) (R : List Sl → Prop) : Prop :=
  ∀ F H σ r, Sta B M σ l n F H r → ∀ v, Rep B.C B.sa F v x → ∀ k : L2.St → Hp → Prop, (∀ σ2 l2, R l2 → Sta B M σ2 l2 n F H r → (∀ vs, (∀ j ∈ js, j ∈ vs) → wipe σ2 vs = wipe σ vs) → k σ2 H) → g v σ H k
theorem wipe_set {σ : L2.St} {j : Nat} {x : Option V} : ∀ {vs : List Nat}, j ∈ vs → wipe (σ.set j x) vs = wipe σ vs
  | v :: vs, h => by
    by_cases hj : j ∈ vs
    · show (wipe (σ.set j x) vs).set v none = (wipe σ vs).set v none
      rw [wipe_set hj]
    · have e : j = v := (List.mem_cons.mp h).resolve_right hj
      subst e
      have key : ∀ (ws : List Nat), j ∉ ws → wipe (σ.set j x) ws = (wipe σ ws).set j x := by
        intro ws
        induction ws with
        | nil => intro _; rfl
        | cons w ws ih =>
          intro hn
          have n1 : j ≠ w := fun z => hn (by rw [z]; exact List.mem_cons_self)
          have n2 : j ∉ ws := fun z => hn (List.mem_cons_of_mem _ z)
          show (wipe (σ.set j x) ws).set w none = ((wipe σ ws).set w none).set j x
          rw [ih n2, List.set_comm _ _ n1]
      show (wipe (σ.set j x) vs).set j none = (wipe σ vs).set j none
      rw [key vs hj, List.set_set]
theorem wg_name {j : Nat} {R : List Sl → Prop} (q : R (l.set j (.sh x))) : WG B M (gName j) [j] x l n R := fun F H σ r S v rv k c =>
  c _ _ q (S.set j rv) fun vs hv => wipe_set (hv j (by simp))
theorem wg_two {i j : Nat} {y : D} {R : List Sl → Prop} (q : R ((l.set i (.sh x)).set j (.sh y))) : WG B M (gTup B.K 2 (gCons (gName i) (gCons (gName j) gNil))) [i, j] (.tup [x, y]) l n R := fun F H σ r S v rv k c => by
  obtain ⟨a, vs, rfl, ha, hr⟩ := rv.tup_inv
  obtain ⟨v1, v2, rfl, h1, h2⟩ := reps2 hr
  refine ⟨a, _, rfl, S.sqt ha, rfl, v1, _, rfl, v2, _, rfl, rfl, ?_⟩
  refine c _ _ q ((S.set i h1).set j h2) fun vs hv => ?_
  rw [wipe_set (hv j (by simp)), wipe_set (hv i (by simp))]
theorem ws_asg {g : TG} {js : List Nat} (h : WE B M te l n fun d n1 => WG B M g js d l n1 fun l2 => P.nx l2 n1) : WS B M (tAsg te g) l n P := fun F H σ r S E f =>
  h F H σ r S _ fun v F1 H1 d n1 q s1 r1 => q F1 H1 σ r (S.step s1) v r1 _ fun σ2 l2 q2 S2 _ => f.nx σ2 F1 H1 r l2 n1 q2 s1.ex S2
theorem ws_set {i : Nat} (h : WE B M te l n fun d n1 => P.nx (l.set i (.sh d)) n1) : WS B M (tAsg te (gName i)) l n P := fun F H σ r S E f =>
  h F H σ r S _ fun v F1 H1 d n1 q s1 r1 => f.nx _ F1 H1 r _ n1 q s1.ex ((S.step s1).set i r1)
theorem ws_newl {i : Nat} (q : P.nx (l.set i (.owl [])) n) : WS B M (tAsg (tLst tNil) (gName i)) l n P := fun F H σ r S E f =>
  ⟨Nat.zero_le _, fun p hp => f.nx _ F _ _ _ n q (Ex.refl F) (S.alloc i hp ⟨p, [], rfl, if_pos rfl, upd_same, Reps.nil⟩)⟩
theorem ws_newd {i : Nat} (q : P.nx (l.set i (.owd [])) n) : WS B M (tAsg tDNewK (gName i)) l n P := fun F H σ r S E f =>
  fun p hp => f.nx _ F _ _ _ n q (Ex.refl F) (S.alloc i hp ⟨p, [], rfl, if_pos rfl, upd_same, RepK.nil⟩)
/-- an own list made of given things -/
theorem ws_newlx {i : Nat} (h : WA B M tr l n fun ds n1 => ds.length ≤ 100000 ∧ P.nx (l.set i (.owl ds)) n1) : WS B M (tAsg (tLst tr) (gName i)) l n P := fun F H σ r S E f =>
  h F H σ r S _ fun vs F1 H1 ds n1 q s1 r1 => ⟨by rw [r1.1]; exact Nat.le_trans q.1 (by decide), fun p hp => f.nx _ F1 _ _ _ n1 q.2 s1.ex ((S.step s1).alloc i hp ⟨p, vs, rfl, if_pos rfl, upd_same, r1⟩)⟩
/-- a list made by list(..), for its owner -/
theorem ws_newlo {i : Nat} (h : WA B M tr l n fun ds n1 => ∃ xs, ds = [.lst xs] ∧ P.nx (l.set i (.owl xs)) n1) : WS B M (tAsg (tCB (cListS B.K) tr) (gName i)) l n P := fun F H σ r S E f =>
  h F H σ r S _ fun vs F1 H1 ds n1 q s1 r1 => by
    obtain ⟨xs, rfl, q⟩ := q
    obtain ⟨v, rfl, h1⟩ := reps1 r1
    obtain ⟨a, ws, rfl, ha, hr⟩ := h1.lst_inv
    exact ⟨a, ws, rfl, .inl ((S.step s1).sql ha), fun p hp => f.nx _ F1 _ _ _ n1 q s1.ex ((S.step s1).alloc i hp ⟨p, ws, rfl, if_pos rfl, upd_same, hr⟩)⟩
theorem ws_newdo {i : Nat} (h : WA B M tr l n fun ds n1 => ∃ o kvs, ds = [.dct o kvs] ∧ P.nx (l.set i (.owd kvs)) n1) : WS B M (tAsg (tCB cDictD tr) (gName i)) l n P := fun F H σ r S E f =>
  h F H σ r S _ fun vs F1 H1 ds n1 q s1 r1 => by
    obtain ⟨o, kvs, rfl, q⟩ := q
    obtain ⟨v, rfl, h1⟩ := reps1 r1
    obtain ⟨a, kv, rfl, ha, _, hr⟩ := h1.dct_inv
    exact ⟨a, kv, rfl, (S.step s1).rd ha, fun p hp => f.nx _ F1 _ _ _ n1 q s1.ex ((S.step s1).alloc i hp ⟨p, kv, rfl, if_pos rfl, upd_same, hr⟩)⟩
theorem ws_par {i j : Nat} (h : WA B M tr l n fun ds n1 => ∃ x y, ds = [x, y] ∧ P.nx ((l.set i (.sh x)).set j (.sh y)) n1) : WS B M (tPar i j tr) l n P := fun F H σ r S E f =>
  h F H σ r S _ fun vs F1 H1 ds n1 q s1 r1 => by
    obtain ⟨x, y, rfl, q⟩ := q
    obtain ⟨v, w, rfl, h1, h2⟩ := reps2 r1
    exact ⟨v, w, rfl, f.nx _ F1 H1 r _ n1 q s1.ex (((S.step s1).set i h1).set j h2)⟩
theorem ws_par3 {i j m : Nat} (h : WA B M tr l n fun ds n1 => ∃ x y z, ds = [x, y, z] ∧ P.nx (((l.set i (.sh x)).set j (.sh y)).set m (.sh z)) n1) : WS B M (tPar3 i j m tr) l n P := fun F H σ r S E f =>
  h F H σ r S _ fun vs F1 H1 ds n1 q s1 r1 => by
    obtain ⟨x, y, z, rfl, q⟩ := q
    obtain ⟨v, r', rfl, h1, h2⟩ := r1.inv
    obtain ⟨w, w', rfl, h2, h3⟩ := reps2 h2
    exact ⟨v, w, w', rfl, f.nx _ F1 H1 r _ n1 q s1.ex ((((S.step s1).set i h1).set j h2).set m h3)⟩
/-- x, d = e, {} -/
theorem ws_par_xd {i j : Nat} (hij : i ≠ j) (h : WE B M te l n fun x n1 => P.nx ((l.set i (.sh x)).set j (.owd [])) n1) : WS B M (tPar i j (tCons te (tCons tDNewK tNil))) l n P := fun F H σ r S E f =>
  h F H σ r S _ fun v F1 H1 x n1 q s1 r1 => fun p hp =>
    ⟨v, _, rfl, f.nx _ F1 _ _ _ n1 q s1.ex (((S.step s1).set i r1).alloc j hp ⟨p, [], rfl, if_pos rfl, upd_same, RepK.nil⟩)⟩
/-- d, xs = {}, [e] -/
theorem ws_par_dl {i j : Nat} (hij : i ≠ j) (h : WE B M te l n fun x n1 => P.nx ((l.set i (.owd [])).set j (.owl [x])) n1) : WS B M (tPar i j (tCons tDNewK (tCons (tLst (tCons te tNil)) tNil))) l n P := fun F H σ r S E f => by
  intro p hp
  have S1 := S.claim (o := .dK []) i hp
  refine h F _ σ _ S1 _ fun v F1 H1 x n1 q s1 r1 => ?_
  refine ⟨by show 1 ≤ sizeLine; decide, fun z hz => ⟨_, _, rfl, ?_⟩⟩
  have S2 := S1.step s1
  have rp : (fun a => if a = p then some i else r a) p = some i := if_pos rfl
  have hp1 : H1 p = some (.dK []) := s1.ht p _ upd_same (S1.notS rp)
  have S3 := S2.put (v := .ref p) (s := .owd []) i ⟨p, [], rfl, rp, hp1, RepK.nil⟩
  exact f.nx _ F1 _ _ _ n1 q s1.ex (S3.alloc j hz ⟨z, [v], rfl, if_pos rfl, upd_same, Reps.cons r1 Reps.nil⟩)
theorem ws_app {i : Nat} {ds : List D} (h : l[i]? = some (.owl ds)) (hb : WE B M te l n fun d n1 => ds.length < 100000 ∧ P.nx (l.set i (.owl (ds ++ [d]))) n1) : WS B M (tDrop (tBM B.K "list" rAppend (tVar i) (tCons te tNil))) l n P := fun F H σ r S E f => by
  obtain ⟨p, vs, e, rp, hp, hr⟩ := S.slots i _ h
  refine ⟨_, e, .inl ⟨rfl, _, SqL.of hp⟩, hb F H σ r S _ fun v F1 H1 d n1 q s1 r1 => ?_⟩
  have S1 := S.step s1
  have hp1 : H1 p = some (.lst vs) := s1.ht p _ hp (S.notS rp)
  refine ⟨p, vs, v, rfl, rfl, hp1, by rw [hr.1]; exact Nat.lt_of_lt_of_le q.1 (by decide), ?_⟩
  exact f.nx _ F1 _ r _ n1 q.2 s1.ex (S1.write rp e ⟨p, _, rfl, rp, upd_same, (hr.mono s1.ex).append (Reps.cons r1 Reps.nil)⟩)
theorem ws_dput {i : Nat} {kvs : List (Str × D)} (h : l[i]? = some (.owd kvs)) (hv : WE B M te l n fun v n1 => WE B M ty l n1 fun y n2 => ∃ s, y = .str s ∧ kvs.length < 100000 ∧ P.nx (l.set i (.owd (putD kvs s v))) n2) : WS B M (sDPut (tVar i) ty te) l n P := fun F H σ r S E f =>
  hv F H σ r S _ fun v F1 H1 d n1 q s1 r1 => by
    obtain ⟨p, kv, e, rp, hp, hr⟩ := (S.step s1).slots i _ h
    refine ⟨_, e, q F1 H1 σ r (S.step s1) _ fun w F2 H2 y n2 q2 s2 r2 => ?_⟩
    obtain ⟨s, rfl, hl, q2⟩ := q2
    have hp2 : H2 p = some (.dK kv) := s2.ht p _ hp (S.notS rp)
    have S2 := (S.step s1).step s2
    have hr2 := (hr.mono s2.ex).put (k := s) (r1.mono s2.ex)
    refine ⟨p, _, rfl, .inl ⟨kv, .inr s, hp2, r2.str_inv, by rw [hr.length]; exact Nat.lt_of_lt_of_le hl (by decide), rfl⟩, ?_⟩
    exact f.nx _ F2 _ r _ n2 q2 (s1.ex.trans s2.ex) (S2.write rp e ⟨p, _, rfl, rp, upd_same, hr2⟩)

/-! ### expressions that change an own object -/
def WX (B : Bk) (M : List (Addr × Obj)) (te : TE) (l : List Sl) (n : Nat) (R : D → List Sl → Nat → Prop) : Prop :=
  ∀ F H σ r, Sta B M σ l n F H r → ∀ k : VK, (∀ v F2 H2 d l2 n2, R d l2 n2 → Ex F F2 → Sta B M σ l2 n2 F2 H2 r → Rep B.C B.sa F2 v d → k v H2) → te σ H k
theorem wx_of {R : D → List Sl → Nat → Prop} (h : WE B M te l n fun d n1 => R d l n1) : WX B M te l n R := fun F H σ r S k c =>
  h F H σ r S k fun v F1 H1 d n1 q s1 r1 => c v F1 H1 d l n1 q s1.ex (S.step s1) r1
theorem wx_pop {i : Nat} {ds : List D} {R : D → List Sl → Nat → Prop} (h : l[i]? = some (.owl ds)) (e0 : ds[ds.length - 1]? = some d) (q : R d (l.set i (.owl ds.dropLast)) n) : WX B M (tBM0 B.K "list" rPop (tVar i)) l n R := fun F H σ r S k c => by
  obtain ⟨p, vs, e, rp, hp, hr⟩ := S.slots i _ h
  obtain ⟨v, hv, rv⟩ := hr.get e0
  exact ⟨_, e, .inl ⟨rfl, _, SqL.of hp⟩, p, vs, v, rfl, rfl, hp, by rw [hr.1]; exact hv, c v F _ d _ n q (Ex.refl F) (S.write rp e ⟨p, _, rfl, rp, upd_same, hr.dropLast⟩) rv⟩
theorem wx_dget {R : D → List Sl → Nat → Prop} (h : WE B M td l n fun x n1 => WX B M ty l n1 fun y l2 n2 => ∃ o kvs s, x = .dct o kvs ∧ y = .str s ∧ ∃ d, lk kvs s = some d ∧ R d l2 n2) : WX B M (tDGet td ty) l n R := fun F H σ r S k c =>
  h F H σ r S _ fun v F1 H1 x n1 q1 s1 r1 => q1 F1 H1 σ r (S.step s1) _ fun w F2 H2 y l2 n2 q2 e2 S2 r2 => by
    obtain ⟨o, kvs, s, rfl, rfl, d, e, q⟩ := q2
    obtain ⟨a, kv, rfl, ha, _, hk⟩ := (r1.mono e2).dct_inv
    obtain ⟨z, ez, rz⟩ := hk.get e
    exact ⟨a, z, rfl, .inl ⟨kv, .inr s, S2.rd ha, r2.str_inv, ez.symm⟩, c z F2 H2 d l2 n2 q (s1.ex.trans e2) S2 rz⟩
/-- own[pop()] = e -/
theorem ws_dputX {i : Nat} {kvs : List (Str × D)} (h : l[i]? = some (.owd kvs)) (hv : WE B M te l n fun v n1 => WX B M ty l n1 fun y l2 n2 => l2[i]? = some (.owd kvs) ∧ ∃ s, y = .str s ∧ kvs.length < 100000 ∧ P.nx (l2.set i (.owd (putD kvs s v))) n2) : WS B M (sDPut (tVar i) ty te) l n P := fun F H σ r S E f =>
  hv F H σ r S _ fun v F1 H1 d n1 q s1 r1 => by
    obtain ⟨p, kv, e, rp, hp, hr⟩ := (S.step s1).slots i _ h
    refine ⟨_, e, q F1 H1 σ r (S.step s1) _ fun w F2 H2 y l2 n2 q2 e2 S2 r2 => ?_⟩
    obtain ⟨h2, s, rfl, hl, q2⟩ := q2
    obtain ⟨p2, kv2, e3, rp2, hp2, hr2⟩ := S2.slots i _ h2
    rw [e] at e3
    cases e3
    refine ⟨p, _, rfl, .inl ⟨kv2, .inr s, hp2, r2.str_inv, by rw [hr2.length]; exact Nat.lt_of_lt_of_le hl (by decide), rfl⟩, ?_⟩
    exact f.nx _ F2 _ r _ n2 q2 (s1.ex.trans e2) (S2.write rp e ⟨p, _, rfl, rp, upd_same, hr2.put (k := s) (r1.mono e2)⟩)

/-! ### locks -/
theorem Sta.lock {σ : L2.St} {F H : Hp} {r : Addr → Option Nat} (S : Sta B M σ l n F H r) {a : Addr} {kv : List (Key × V)} (ha : F a = some (.dK kv)) (hM : a ∉ lks M) (hL : a ∉ B.L) (od : Obj) : Sta B ((a, od) :: M) σ l n F (upd H a (.frz od (.dK kv))) r := by
  have hH : H a = some (.dK kv) := (S.le a _ ha).1 hM hL
  have ns : B.st = true → a ≠ B.sa ∧ a ≠ B.ca := fun z => ⟨fun e => (by rw [e, (S.sm z).2.1] at ha; cases ha), fun e => (by rw [e, (S.sm z).2.2] at ha; cases ha)⟩
  have notM : ∀ od', (a, od') ∉ M := fun od' z => hM (List.mem_map.mpr ⟨_, z, rfl⟩)
  refine ⟨S.len, S.grow, S.new, fun b u e z => ?_, fun b u e => ?_, fun b z => ?_, fun b u z e => ?_, fun b j e => ?_, S.s0, S.l0, fun z => ?_, fun j t e => ?_⟩
  · by_cases ne : b = a
    · subst ne
      have w := (S.kept b u e z).1 hM
      rw [hH] at w
      cases w
      refine ⟨fun y => absurd List.mem_cons_self y, fun od' y => ?_⟩
      rcases List.mem_cons.mp y with y | y
      · cases y; exact upd_same
      · exact absurd y (notM od')
    · rw [upd_ne ne]
      have w := S.kept b u e z
      refine ⟨fun y => w.1 fun x => y (List.mem_cons_of_mem _ x), fun od' y => ?_⟩
      rcases List.mem_cons.mp y with y | y
      · cases y; exact absurd rfl ne
      · exact w.2 od' y
  · by_cases ne : b = a
    · subst ne
      rw [ha] at e
      cases e
      refine ⟨fun y => absurd List.mem_cons_self y, fun od' y => ?_, fun y => absurd y hL⟩
      rcases List.mem_cons.mp y with y | y
      · cases y; exact upd_same
      · exact absurd y (notM od')
    · rw [upd_ne ne]
      have w := S.le b u e
      refine ⟨fun y => w.1 fun x => y (List.mem_cons_of_mem _ x), fun od' y => ?_, w.2.2⟩
      rcases List.mem_cons.mp y with y | y
      · cases y; exact absurd rfl ne
      · exact w.2.1 od' y
  · by_cases ne : b = a
    · subst ne; rw [upd_same]; simp
    · rw [upd_ne ne]
      refine S.lk b (z.imp (fun y => ?_) id)
      rcases List.mem_cons.mp y with y | y
      · exact absurd y ne
      · exact y
  · by_cases ne : b = a
    · subst ne; rw [ha] at e; cases e; exact ⟨_, rfl⟩
    · refine S.lkd b u (z.imp (fun y => ?_) id) e
      rcases List.mem_cons.mp y with y | y
      · exact absurd y ne
      · exact y
  · obtain ⟨g1, g2, g3, g4⟩ := S.own b j e
    have ne : b ≠ a := fun q => by rw [q, ha] at g1; cases g1
    refine ⟨g1, g2, by rw [upd_ne ne]; exact g3, fun y => ?_⟩
    rcases List.mem_cons.mp y with y | y
    · exact ne y
    · exact g4 y
  · obtain ⟨a1, a2, a3⟩ := S.sm z
    have q := ns z
    exact ⟨a1.at (fun o e => by rw [upd_ne q.1.symm]; exact e) fun o e => by rw [upd_ne q.2.symm]; exact e, a2, a3⟩
  · have q := S.slots j t e
    cases t with
    | any => trivial
    | raw v => exact q
    | sh d => exact q
    | owl ds =>
      obtain ⟨b, vs, e1, e2, e3, e4⟩ := q
      have ne : b ≠ a := fun z => by rw [z] at e2; rw [(S.own a j e2).1] at ha; cases ha
      exact ⟨b, vs, e1, e2, by rw [upd_ne ne]; exact e3, e4⟩
    | owd ds =>
      obtain ⟨b, vs, e1, e2, e3, e4⟩ := q
      have ne : b ≠ a := fun z => by rw [z] at e2; rw [(S.own a j e2).1] at ha; cases ha
      exact ⟨b, vs, e1, e2, by rw [upd_ne ne]; exact e3, e4⟩
    | owi p0 dx0 d0 =>
      obtain ⟨vs, e1, e2, e3, e4⟩ := q
      have ne : p0 ≠ a := fun z => by rw [z] at e2; rw [(S.own a j e2).1] at ha; cases ha
      exact ⟨vs, e1, e2, by rw [upd_ne ne]; exact e3, e4⟩
theorem Sta.unlock {σ : L2.St} {F H : Hp} {r : Addr → Option Nat} {a : Addr} {kv : List (Key × V)} {od : Obj} (S : Sta B ((a, od) :: M) σ l n F H r) (ha : F a = some (.dK kv)) (hM : a ∉ lks M) (hL : a ∉ B.L) (h0 : ∀ o, B.H0 a = some o → o = .dK kv) : H a = some (.frz od (.dK kv)) ∧ Sta B M σ l n F (upd H a (.dK kv)) r := by
  have hH : H a = some (.frz od (.dK kv)) := (S.le a _ ha).2.1 od List.mem_cons_self
  have ns : B.st = true → a ≠ B.sa ∧ a ≠ B.ca := fun z => ⟨fun e => (by rw [e, (S.sm z).2.1] at ha; cases ha), fun e => (by rw [e, (S.sm z).2.2] at ha; cases ha)⟩
  have notM : ∀ od', (a, od') ∉ M := fun od' z => hM (List.mem_map.mpr ⟨_, z, rfl⟩)
  refine ⟨hH, S.len, S.grow, S.new, fun b u e z => ?_, fun b u e => ?_, fun b z => ?_, fun b u z e => ?_, fun b j e => ?_, S.s0, S.l0, fun z => ?_, fun j t e => ?_⟩
  · by_cases ne : b = a
    · subst ne
      rw [h0 u e]
      exact ⟨fun _ => upd_same, fun od' y => absurd y (notM od')⟩
    · rw [upd_ne ne]
      have w := S.kept b u e z
      exact ⟨fun y => w.1 fun x => (List.mem_cons.mp x).elim ne y, fun od' y => w.2 od' (List.mem_cons_of_mem _ y)⟩
  · by_cases ne : b = a
    · subst ne
      rw [ha] at e
      cases e
      exact ⟨fun _ _ => upd_same, fun od' y => absurd y (notM od'), fun y => absurd y hL⟩
    · rw [upd_ne ne]
      have w := S.le b u e
      exact ⟨fun y => w.1 fun x => (List.mem_cons.mp x).elim ne y, fun od' y => w.2.1 od' (List.mem_cons_of_mem _ y), w.2.2⟩
  · by_cases ne : b = a
    · subst ne; rw [upd_same]; simp
    · rw [upd_ne ne]
      exact S.lk b (z.imp (fun y => List.mem_cons_of_mem _ y) id)
  · exact S.lkd b u (z.imp (fun y => List.mem_cons_of_mem _ y) id) e
  · obtain ⟨g1, g2, g3, g4⟩ := S.own b j e
    have ne : b ≠ a := fun q => by rw [q, ha] at g1; cases g1
    exact ⟨g1, g2, by rw [upd_ne ne]; exact g3, fun y => g4 (List.mem_cons_of_mem _ y)⟩
  · obtain ⟨a1, a2, a3⟩ := S.sm z
    have q := ns z
    exact ⟨a1.at (fun o e => by rw [upd_ne q.1.symm]; exact e) fun o e => by rw [upd_ne q.2.symm]; exact e, a2, a3⟩
  · have q := S.slots j t e
    cases t with
    | any => trivial
    | raw v => exact q
    | sh d => exact q
    | owl ds =>
      obtain ⟨b, vs, e1, e2, e3, e4⟩ := q
      have ne : b ≠ a := fun z => by rw [z] at e2; rw [(S.own a j e2).1] at ha; cases ha
      exact ⟨b, vs, e1, e2, by rw [upd_ne ne]; exact e3, e4⟩
    | owd ds =>
      obtain ⟨b, vs, e1, e2, e3, e4⟩ := q
      have ne : b ≠ a := fun z => by rw [z] at e2; rw [(S.own a j e2).1] at ha; cases ha
      exact ⟨b, vs, e1, e2, by rw [upd_ne ne]; exact e3, e4⟩
    | owi p0 dx0 d0 =>
      obtain ⟨vs, e1, e2, e3, e4⟩ := q
      have ne : p0 ≠ a := fun z => by rw [z] at e2; rw [(S.own a j e2).1] at ha; cases ha
      exact ⟨vs, e1, e2, by rw [upd_ne ne]; exact e3, e4⟩
theorem ws_lock {a : Addr} (h : InL l a) (hM : a ∉ lks M) (hL : a ∉ B.L) (k : ∀ od, WS B ((a, od) :: M) ts l n P) : WS B M (tLock ts) l n P := fun F H σ r S E f => by
  obtain ⟨kv, ha⟩ := h.at S
  have hH : H a = some (.dK kv) := (S.le a _ ha).1 hM hL
  have h0 : ∀ o, B.H0 a = some o → o = .dK kv := fun o e => by
    have ns : B.st = true → a ≠ B.sa ∧ a ≠ B.ca := fun z => ⟨fun e => (by rw [e, (S.sm z).2.1] at ha; cases ha), fun e => (by rw [e, (S.sm z).2.2] at ha; cases ha)⟩
    have w := (S.kept a o e ns).1 hM
    rw [hH] at w
    exact (Option.some.inj w).symm
  refine ⟨a, .dK kv, hH, trivial, fun od => ?_⟩
  refine k od F _ σ r (S.lock ha hM hL od) _ ⟨fun σ1 F1 H1 r1 l1 n1 p x S1 => ?_, fun v σ1 F1 H1 r1 l1 n1 d p x S1 rv => ?_, fun σ1 F1 H1 r1 l1 n1 p x S1 => ?_, fun σ1 F1 H1 r1 l1 n1 p x S1 => ?_⟩
  · obtain ⟨e, S2⟩ := S1.unlock (x _ _ ha) hM hL h0
    exact ⟨e, f.nx _ F1 _ r1 _ n1 p x S2⟩
  · obtain ⟨e, S2⟩ := S1.unlock (x _ _ ha) hM hL h0
    exact ⟨e, f.rt v _ F1 _ r1 _ n1 d p x S2 rv⟩
  · obtain ⟨e, S2⟩ := S1.unlock (x _ _ ha) hM hL h0
    exact ⟨e, f.bk _ F1 _ r1 _ n1 p x S2⟩
  · obtain ⟨e, S2⟩ := S1.unlock (x _ _ ha) hM hL h0
    exact ⟨e, f.ct _ F1 _ r1 _ n1 p x S2⟩
theorem we_lock {a : Addr} (h : InL l a) (hM : a ∉ lks M) (hL : a ∉ B.L) (k : ∀ od, WE B ((a, od) :: M) te l n Q) : WE B M (tLockE te) l n Q := fun F H σ r S kk c => by
  obtain ⟨kv, ha⟩ := h.at S
  have hH : H a = some (.dK kv) := (S.le a _ ha).1 hM hL
  have ns : B.st = true → a ≠ B.sa ∧ a ≠ B.ca := fun z => ⟨fun e => (by rw [e, (S.sm z).2.1] at ha; cases ha), fun e => (by rw [e, (S.sm z).2.2] at ha; cases ha)⟩
  refine ⟨a, .dK kv, hH, trivial, fun od => ?_⟩
  refine k od F _ σ r (S.lock ha hM hL od) _ fun v F1 H1 d n1 q s1 r1 => ⟨s1.ht a _ upd_same ns, c v F1 _ d n1 q ⟨s1.ex, fun b o e z => ?_, fun b e e' => ?_, fun b o e e' => ?_, fun z => ?_⟩ r1⟩
  · by_cases ne : b = a
    · subst ne; rw [upd_same, ← hH]; exact e
    · rw [upd_ne ne]; exact s1.ht b o (by rw [upd_ne ne]; exact e) z
  · refine s1.fr b ?_ e'
    by_cases ne : b = a
    · subst ne; rw [upd_same]; simp
    · rw [upd_ne ne]; exact e
  · have ne : b ≠ a := fun z => by rw [z, ha] at e; cases e
    rw [upd_ne ne]
    exact s1.nw b o e e'
  · obtain ⟨a1, a2, a3⟩ := s1.sm z
    have q := ns z
    exact ⟨a1.at (fun o e => by rw [upd_ne q.1.symm]; exact e) fun o e => by rw [upd_ne q.2.symm]; exact e, a2, a3⟩
end
end Gw

/-! What is walked; for, while, comprehensions over data. -/
namespace Gw
open PySem L2

structure IsIt (B : Bk) (M : List (Addr × Obj)) (J : It) (F1 : Hp) (ds : List D) : Prop where
  stop : ∀ F H σ r l n, Sta B M σ l n F H r → Ex F1 F → J.stop ds.length H
  go : ∀ F H σ r l n i x, Sta B M σ l n F H r → Ex F1 F → ds[i]? = some x → J.go i H
  yld : ∀ F H σ r l n i x, Sta B M σ l n F H r → Ex F1 F → ds[i]? = some x → ∀ v H2, J.yld i H v H2 → ∃ F2, Step B.st B.sa B.ca F H F2 H2 n ∧ Rep B.C B.sa F2 v x
def WI (B : Bk) (M : List (Addr × Obj)) (wi : TI) (l : List Sl) (n : Nat) (Q : List D → Nat → Prop) : Prop :=
  ∀ F H σ r, Sta B M σ l n F H r → ∀ R : It → Hp → Prop, (∀ J F1 H1 ds n1, Q ds n1 → Step B.st B.sa B.ca F H F1 H1 n1 → IsIt B M J F1 ds → R J H1) → wi σ H R
def enumD (xs : List D) : List D := xs.mapIdx fun i x => D.tup [.int (i : Nat), x]
def zipD (xs ys : List D) : List D := List.zipWith (fun x y => D.tup [x, y]) xs ys

section
variable {B : Bk} {M : List (Addr × Obj)} {l : List Sl} {n : Nat} {Q : D → Nat → Prop} {R : List D → Nat → Prop} {P : Post} {ta tb tc te td ty : TE} {t u : TT} {tr : TA} {d x y : D} {ts us : TS}
theorem wi_list (h : WE B M te l n fun x n1 => ∃ ds, x = .lst ds ∧ R ds n1) : WI B M (iList B.K te) l n R := fun F H σ r S k c =>
  h F H σ r S _ fun v F1 H1 x n1 q s1 r1 => by
    obtain ⟨ds, rfl, q⟩ := q
    obtain ⟨a, vs, rfl, ha, hr⟩ := r1.lst_inv
    refine ⟨a, rfl, ⟨vs, (S.step s1).sql ha⟩, c _ F1 H1 ds n1 q s1 ⟨fun F2 H2 σ2 r2 l2 n2 S2 e2 => ?_, fun F2 H2 σ2 r2 l2 n2 i x S2 e2 hx => ?_, fun F2 H2 σ2 r2 l2 n2 i x S2 e2 hx v H3 y => ?_⟩⟩
    · exact ⟨vs, S2.sql (e2 _ _ ha), by rw [hr.1]; exact Nat.le_refl _⟩
    · obtain ⟨w, hw, _⟩ := hr.get hx
      exact ⟨vs, w, S2.sql (e2 _ _ ha), hw⟩
    · obtain ⟨rfl, y⟩ := y
      have hv := y vs (S2.sql (e2 _ _ ha))
      exact ⟨F2, S2.r0, (hr.2 i v x hv hx).mono e2⟩
theorem wi_range1 (h : WA B M tr l n fun ds n1 => ∃ j : Int, ds = [.int j] ∧ 0 ≤ j ∧ j ≤ 100000 ∧ R ((List.range j.toNat).map fun k : Nat => D.int (k : Int)) n1) : WI B M (iRng1 tr) l n R := fun F H σ r S k c =>
  h F H σ r S _ fun vs F1 H1 ds n1 q s1 r1 => by
    obtain ⟨j, rfl, h0, h1, q⟩ := q
    obtain ⟨v, rfl, rv⟩ := reps1 r1
    refine ⟨j, by rw [rv.int_inv], by omega, by omega, c _ F1 H1 _ n1 q s1 ⟨fun F2 H2 σ2 r2 l2 n2 S2 e2 => ?_, fun F2 H2 σ2 r2 l2 n2 i x S2 e2 hx => ?_, fun F2 H2 σ2 r2 l2 n2 i x S2 e2 hx v H3 y => ?_⟩⟩
    · show j.toNat ≤ _
      simp
    · have := (List.getElem?_eq_some_iff.mp hx).1
      show i < j.toNat
      simpa using this
    · obtain ⟨rfl, rfl⟩ := y
      have hi := (List.getElem?_eq_some_iff.mp hx).1
      have hi' : i < j.toNat := by simpa using hi
      rw [List.getElem?_map, List.getElem?_range hi'] at hx
      cases hx
      refine ⟨F2, S2.r0, ?_⟩
      rw [Int.zero_add]
      exact .int
theorem wi_str (h : WE B M te l n fun x n1 => ∃ z : Str, x = .str z ∧ R (z.cps.toList.map fun c => D.str ⟨#[c]⟩) n1) : WI B M (iStr te) l n R := fun F H σ r S k c =>
  h F H σ r S _ fun v F1 H1 x n1 q s1 r1 => by
    obtain ⟨z, rfl, q⟩ := q
    refine ⟨z, r1.str_inv, c _ F1 H1 _ n1 q s1 ⟨fun F2 H2 σ2 r2 l2 n2 S2 e2 => ?_, fun F2 H2 σ2 r2 l2 n2 i x S2 e2 hx => ?_, fun F2 H2 σ2 r2 l2 n2 i x S2 e2 hx v H3 y => ?_⟩⟩
    · show z.cps.size ≤ _
      simp
    · have := (List.getElem?_eq_some_iff.mp hx).1
      show i < z.cps.size
      simpa using this
    · obtain ⟨rfl, c0, hc, rfl⟩ := y
      rw [List.getElem?_map, Array.getElem?_toList, hc] at hx
      cases hx
      exact ⟨F2, S2.r0, .str⟩
theorem wi_keys (h : WE B M td l n fun x n1 => ∃ a kvs od, x = .dct (some a) kvs ∧ (a, od) ∈ M ∧ R ((kvs.map (·.1)).map D.str) n1) : WI B M (iKeys td) l n R := fun F H σ r S k c =>
  h F H σ r S _ fun v F1 H1 x n1 q s1 r1 => by
    obtain ⟨a, kvs, od, rfl, hm, q⟩ := q
    obtain ⟨b, kv, rfl, ha, ho, hk⟩ := r1.dct_inv
    have e := ho a rfl
    subst e
    have S1 := S.step s1
    have hd : ∀ {F2 H2 σ2 r2 l2 n2}, Sta B M σ2 l2 n2 F2 H2 r2 → Ex F1 F2 → H2 a = some (.frz od (.dK kv)) := fun S2 e2 => (S2.le a _ (e2 _ _ ha)).2.1 od hm
    refine ⟨a, od, rfl, .inl ⟨kv, hd S1 (Ex.refl F1), c _ F1 H1 _ n1 q s1 ⟨fun F2 H2 σ2 r2 l2 n2 S2 e2 => ?_, fun F2 H2 σ2 r2 l2 n2 i x S2 e2 hx => ?_, fun F2 H2 σ2 r2 l2 n2 i x S2 e2 hx v H3 y => ?_⟩⟩⟩
    · exact ⟨hd S2 e2, by rw [hk.length]; simp⟩
    · have := (List.getElem?_eq_some_iff.mp hx).1
      exact ⟨hd S2 e2, by rw [hk.length]; simpa using this⟩
    · obtain ⟨rfl, key, w, hkv, rfl⟩ := y
      refine ⟨F2, S2.r0, ?_⟩
      have e1 : (kv.map (·.1))[i]? = some key := by rw [List.getElem?_map, hkv]; rfl
      rw [hk.1, List.getElem?_map] at e1
      rw [List.map_map, List.getElem?_map] at hx
      cases hq : kvs[i]? with
      | none => rw [hq] at hx; cases hx
      | some p =>
        rw [hq] at hx e1
        cases hx; cases e1
        exact .str
theorem wi_vals (h : WE B M td l n fun x n1 => ∃ a kvs od, x = .dct (some a) kvs ∧ (a, od) ∈ M ∧ R (kvs.map (·.2)) n1) : WI B M (iVals td) l n R := fun F H σ r S k c =>
  h F H σ r S _ fun v F1 H1 x n1 q s1 r1 => by
    obtain ⟨a, kvs, od, rfl, hm, q⟩ := q
    obtain ⟨b, kv, rfl, ha, ho, hk⟩ := r1.dct_inv
    have e := ho a rfl
    subst e
    have S1 := S.step s1
    have hd : ∀ {F2 H2 σ2 r2 l2 n2}, Sta B M σ2 l2 n2 F2 H2 r2 → Ex F1 F2 → H2 a = some (.frz od (.dK kv)) := fun S2 e2 => (S2.le a _ (e2 _ _ ha)).2.1 od hm
    refine ⟨a, od, kv, rfl, hd S1 (Ex.refl F1), c _ F1 H1 _ n1 q s1 ⟨fun F2 H2 σ2 r2 l2 n2 S2 e2 => ?_, fun F2 H2 σ2 r2 l2 n2 i x S2 e2 hx => ?_, fun F2 H2 σ2 r2 l2 n2 i x S2 e2 hx v H3 y => ?_⟩⟩
    · exact ⟨hd S2 e2, by rw [hk.length]; simp⟩
    · have := (List.getElem?_eq_some_iff.mp hx).1
      exact ⟨hd S2 e2, by rw [hk.length]; simpa using this⟩
    · obtain ⟨rfl, key, hkv⟩ := y
      refine ⟨F2, S2.r0, ?_⟩
      rw [List.getElem?_map] at hx
      cases hq : kvs[i]? with
      | none => rw [hq] at hx; cases hx
      | some p =>
        rw [hq] at hx
        cases hx
        exact (hk.2 i _ p hkv hq).mono e2
theorem wi_enum (h : WA B M tr l n fun ds n1 => ∃ xs, ds = [.lst xs] ∧ R (enumD xs) n1) : WI B M (iEnum B.K tr) l n R := fun F H σ r S k c =>
  h F H σ r S _ fun vs F1 H1 ds n1 q s1 r1 => by
    obtain ⟨xs, rfl, q⟩ := q
    obtain ⟨v, rfl, rv⟩ := reps1 r1
    obtain ⟨a, ws, rfl, ha, hr⟩ := rv.lst_inv
    refine ⟨a, ws, rfl, (S.step s1).sql ha, c _ F1 H1 _ n1 q s1 ⟨fun F2 H2 σ2 r2 l2 n2 S2 e2 => ?_, fun F2 H2 σ2 r2 l2 n2 i x S2 e2 hx => ?_, fun F2 H2 σ2 r2 l2 n2 i x S2 e2 hx v H3 y => ?_⟩⟩
    · exact ⟨ws, S2.sql (e2 _ _ ha), by rw [hr.1]; simp [enumD]⟩
    · have hi := (List.getElem?_eq_some_iff.mp hx).1
      have hi' : i < ws.length := by rw [hr.1]; simpa [enumD] using hi
      exact ⟨ws, ws[i], S2.sql (e2 _ _ ha), List.getElem?_eq_getElem hi'⟩
    · obtain ⟨T, w, rfl, hT, rfl, hw⟩ := y
      have hv := hw ws (S2.sql (e2 _ _ ha))
      obtain ⟨z, hz, rz⟩ := hr.getV hv
      have ex : x = D.tup [.int (i : Nat), z] := by
        unfold enumD at hx
        rw [List.getElem?_mapIdx, hz] at hx
        exact (Option.some.inj hx).symm
      have st := Step.new (o := .tup [.int (i : Nat), w]) S2.sm hT (S2.fnone hT)
      rw [ex]
      exact ⟨_, st, .mkt upd_same (Reps.cons .int (Reps.cons ((rz.mono e2).mono st.ex) Reps.nil))⟩
theorem wi_zipT (h : WA B M tr l n fun ds n1 => ∃ xs ys, ds = [.tup xs, .tup ys] ∧ xs.length = ys.length ∧ R (zipD xs ys) n1) : WI B M (RZ.iZipA B.K tr) l n R := fun F H σ r S k c =>
  h F H σ r S _ fun vs F1 H1 ds n1 q s1 r1 => by
    obtain ⟨xs, ys, rfl, hl, q⟩ := q
    obtain ⟨v, w, rfl, rv, rw'⟩ := reps2 r1
    obtain ⟨a, ws, rfl, ha, hr⟩ := rv.tup_inv
    obtain ⟨b, us, rfl, hb, hs⟩ := rw'.tup_inv
    have hlen : (zipD xs ys).length = ws.length := by rw [hr.1]; simp [zipD, hl]
    have S1 := S.step s1
    refine ⟨a, b, ws, us, rfl, .inr ⟨S1.sqt ha, S1.sqt hb, c _ F1 H1 _ n1 q s1 ⟨fun F2 H2 σ2 r2 l2 n2 S2 e2 => ?_, fun F2 H2 σ2 r2 l2 n2 i x S2 e2 hx => ?_, fun F2 H2 σ2 r2 l2 n2 i x S2 e2 hx v H3 y => ?_⟩⟩⟩
    · exact ⟨ws, us, S2.sqt (e2 _ _ ha), S2.sqt (e2 _ _ hb), .inl (by rw [hlen]; exact Nat.le_refl _)⟩
    · have hi := (List.getElem?_eq_some_iff.mp hx).1
      have hi1 : i < ws.length := by rw [← hlen]; exact hi
      have hi2 : i < us.length := by rw [hs.1, ← hl, ← hr.1]; exact hi1
      exact ⟨ws, us, ws[i], us[i], S2.sqt (e2 _ _ ha), S2.sqt (e2 _ _ hb), List.getElem?_eq_getElem hi1, List.getElem?_eq_getElem hi2⟩
    · obtain ⟨T, p, q, rfl, hT, rfl, hp, hq⟩ := y
      obtain ⟨z1, hz1, rz1⟩ := hr.getV (hp ws (S2.sqt (e2 _ _ ha)))
      obtain ⟨z2, hz2, rz2⟩ := hs.getV (hq us (S2.sqt (e2 _ _ hb)))
      have ex : x = D.tup [z1, z2] := by
        unfold zipD at hx
        rw [List.getElem?_zipWith, hz1, hz2] at hx
        exact (Option.some.inj hx).symm
      have st := Step.new (o := .tup [p, q]) S2.sm hT (S2.fnone hT)
      rw [ex]
      exact ⟨_, st, .mkt upd_same (Reps.cons ((rz1.mono e2).mono st.ex) (Reps.cons ((rz2.mono e2).mono st.ex) Reps.nil))⟩

/-! ### for, while -/
theorem ws_for {wi : TI} {g : TG} {js : List Nat} (h : WI B M wi l n fun ds n1 => ∃ I : Nat → List Sl → Nat → Prop, I 0 l n1 ∧
      (∀ i x l1 n2, ds[i]? = some x → I i l1 n2 → WG B M g js x l1 n2 fun l2 => WS B M ts l2 n2 { nx := I (i + 1), rt := P.rt, bk := P.nx, ct := I (i + 1) }) ∧ (∀ l1 n2, I ds.length l1 n2 → P.nx l1 n2)) : WS B M (tFor wi g ts) l n P := fun F H σ r S E f =>
  h F H σ r S _ fun J F1 H1 ds n1 q s1 it => by
    obtain ⟨I, h0, hs, hd⟩ := q
    refine ⟨fun i m σ' H' => m = ds.length - i ∧ i ≤ ds.length ∧ ∃ F' l' n' r', Ex F1 F' ∧ Sta B M σ' l' n' F' H' r' ∧ I i l' n', ⟨ds.length, by simp, Nat.zero_le _, F1, l, n1, r, Ex.refl F1, S.step s1, h0⟩, ?_⟩
    rintro i m σ1 H2 ⟨rfl, hi, F2, l2, n2, r2, e2, S2, hI⟩
    by_cases hlt : i < ds.length
    · have hx : ds[i]? = some ds[i] := List.getElem?_eq_getElem hlt
      refine .inr ⟨it.go F2 H2 σ1 r2 l2 n2 i _ S2 e2 hx, fun σ' H' => ∃ F' l' n' r', Ex F1 F' ∧ Sta B M σ' l' n' F' H' r' ∧ I (i + 1) l' n', fun σ' H' w => ⟨ds.length - (i + 1), by omega, rfl, hlt, w⟩, fun v H3 y => ?_⟩
      obtain ⟨F3, s3, rv⟩ := it.yld F2 H2 σ1 r2 l2 n2 i _ S2 e2 hx v H3 y
      have S3 := S2.step s3
      refine hs i _ l2 n2 hx hI F3 H3 σ1 r2 S3 v rv _ fun σ4 l4 ws S4 _ => ?_
      have e3 : Ex F1 F3 := e2.trans s3.ex
      have e4 : Ex F F3 := s1.ex.trans e3
      refine ws F3 H3 σ4 r2 S4 _ ⟨fun σ5 F5 H5 r5 l5 n5 p x S5 => ⟨F5, l5, n5, r5, e3.trans x, S5, p⟩, fun v σ5 F5 H5 r5 l5 n5 d p x S5 rv => f.rt v σ5 F5 H5 r5 l5 n5 d p (e4.trans x) S5 rv,
        fun σ5 F5 H5 r5 l5 n5 p x S5 => f.nx σ5 F5 H5 r5 l5 n5 p (e4.trans x) S5, fun σ5 F5 H5 r5 l5 n5 p x S5 => ⟨F5, l5, n5, r5, e3.trans x, S5, p⟩⟩
    · have e : i = ds.length := by omega
      subst e
      exact .inl ⟨it.stop F2 H2 σ1 r2 l2 n2 S2 e2, f.nx σ1 F2 H2 r2 l2 n2 (hd l2 n2 hI) (s1.ex.trans e2) S2⟩
theorem ws_while (I : Nat → List Sl → Nat → Prop) {m0 : Nat} (h0 : I m0 l n)
    (hs : ∀ m l1 n1, I m l1 n1 → WT B M t l1 n1 fun b n2 => (b = true → WS B M ts l1 n2 { nx := fun l2 n3 => ∃ m', m' < m ∧ I m' l2 n3, rt := P.rt, bk := P.nx, ct := fun l2 n3 => ∃ m', m' < m ∧ I m' l2 n3 }) ∧ (b = false → P.nx l1 n2)) : WS B M (tWhile t ts) l n P := fun F H σ r S E f => by
  refine ⟨fun m σ' H' => ∃ F' l' n' r', Ex F F' ∧ Sta B M σ' l' n' F' H' r' ∧ I m l' n', ⟨m0, F, l, n, r, Ex.refl F, S, h0⟩, ?_⟩
  rintro m σ1 H1 ⟨F1, l1, n1, r1, e1, S1, hI⟩
  refine hs m l1 n1 hI F1 H1 σ1 r1 S1 _ fun b F2 H2 n2 q s2 => ?_
  have S2 := S1.step s2
  have e2 : Ex F F2 := e1.trans s2.ex
  cases b with
  | true =>
    rw [if_pos rfl]
    refine ⟨fun σ' H' => ∃ m', m' < m ∧ ∃ F' l' n' r', Ex F F' ∧ Sta B M σ' l' n' F' H' r' ∧ I m' l' n', fun σ' H' w => w, ?_⟩
    refine q.1 rfl F2 H2 σ1 r1 S2 _ ⟨fun σ5 F5 H5 r5 l5 n5 p x S5 => ?_, fun v σ5 F5 H5 r5 l5 n5 d p x S5 rv => f.rt v σ5 F5 H5 r5 l5 n5 d p (e2.trans x) S5 rv,
        fun σ5 F5 H5 r5 l5 n5 p x S5 => f.nx σ5 F5 H5 r5 l5 n5 p (e2.trans x) S5, fun σ5 F5 H5 r5 l5 n5 p x S5 => ?_⟩
    · obtain ⟨m', hm, hI'⟩ := p
      exact ⟨m', hm, F5, l5, n5, r5, e2.trans x, S5, hI'⟩
    · obtain ⟨m', hm, hI'⟩ := p
      exact ⟨m', hm, F5, l5, n5, r5, e2.trans x, S5, hI'⟩
  | false =>
    rw [if_neg Bool.false_ne_true]
    exact f.nx σ1 F2 H2 r1 l1 n2 (q.2 rfl) e2 S2

/-! ### comprehensions -/
theorem wipe_wipe {σ : L2.St} : ∀ vs : List Nat, wipe (wipe σ vs) vs = wipe σ vs := by
  have key : ∀ (vs ws : List Nat) (τ : L2.St), (∀ v ∈ vs, v ∈ ws) → wipe (wipe τ vs) ws = wipe τ ws := by
    intro vs
    induction vs with
    | nil => intro ws τ _; rfl
    | cons v vs ih =>
      intro ws τ h
      show wipe ((wipe τ vs).set v none) ws = wipe τ ws
      rw [wipe_set (h v List.mem_cons_self)]
      exact ih ws τ fun w hw => h w (List.mem_cons_of_mem _ hw)
  exact fun vs => key vs vs σ fun _ h => h
theorem we_lc {wi : TI} {g : TG} {js vs : List Nat} (hj : ∀ j ∈ js, j ∈ vs) (h : WI B M wi l n fun ds n1 => ds.length ≤ 100000 ∧ ∃ I : Nat → List D → Nat → Prop, I 0 [] n1 ∧
      (∀ i x acc n2, ds[i]? = some x → I i acc n2 → WG B M g js x (wipeL l vs) n2 fun l2 => WT B M t l2 n2 fun b n3 => (b = true → WE B M te l2 n3 fun y n4 => I (i + 1) (acc ++ [y]) n4) ∧ (b = false → I (i + 1) acc n3)) ∧
      (∀ acc n2, I ds.length acc n2 → Q (.lst acc) n2)) : WE B M (tLc wi g t te vs) l n Q := fun F H σ r S k c =>
  h F H σ r S _ fun J F1 H1 ds n1 q s1 it => by
    obtain ⟨hz, I, h0, hs, hd⟩ := q
    intro p hp
    have S1 := S.step s1
    have nS := S1.newS hp
    refine ⟨fun i m H' => m = ds.length - i ∧ i ≤ ds.length ∧ ∃ F' n' acc av, Step B.st B.sa B.ca F1 H1 F' H' n' ∧ H' p = some (.lst av) ∧ Reps B.C B.sa F' av acc ∧ F' p = none ∧ acc.length ≤ i ∧ I i acc n',
      ⟨ds.length, by simp, Nat.zero_le _, F1, n1, [], [], Step.lay S1.sm hp, upd_same, Reps.nil, S1.fnone hp, Nat.le_refl _, h0⟩, ?_⟩
    rintro i m H2 ⟨rfl, hi, F2, n2, acc, av, s2, hp2, hr2, fp2, hl, hI⟩
    have S2 := S1.step s2
    by_cases hlt : i < ds.length
    · have hx : ds[i]? = some ds[i] := List.getElem?_eq_getElem hlt
      refine .inr ⟨it.go F2 H2 σ r l n2 i _ S2 s2.ex hx, fun H' => ∃ F' n' acc av, Step B.st B.sa B.ca F1 H1 F' H' n' ∧ H' p = some (.lst av) ∧ Reps B.C B.sa F' av acc ∧ F' p = none ∧ acc.length ≤ i + 1 ∧ I (i + 1) acc n', fun H' w => ⟨ds.length - (i + 1), by omega, rfl, hlt, w⟩, fun v H3 y => ?_⟩
      obtain ⟨F3, s3, rv⟩ := it.yld F2 H2 σ r l n2 i _ S2 s2.ex hx v H3 y
      have S3 := (S2.step s3).wipe vs
      refine hs i _ acc n2 hx hI F3 H3 _ r S3 v rv _ fun σ4 l4 wt S4 hw => ⟨?_, ?_⟩
      · rw [hw vs hj]; exact wipe_wipe vs
      refine wt F3 H3 σ4 r S4 _ fun b F5 H5 n5 q5 s5 => ?_
      have s35 := s3.trans s5
      have hp5 : H5 p = some (.lst av) := s35.ht p _ hp2 nS
      have fp5 : F5 p = none := s35.fr p (by rw [hp2]; simp) fp2
      cases b with
      | true =>
        rw [if_pos rfl]
        refine q5.1 rfl F5 H5 σ4 r (S4.step s5) _ fun w F6 H6 d n6 q6 s6 r6 => ?_
        have hp6 : H6 p = some (.lst av) := s6.ht p _ hp5 nS
        have fp6 : F6 p = none := s6.fr p (by rw [hp5]; simp) fp5
        refine ⟨av, hp6, ?_, F6, n6, acc ++ [d], av ++ [w], Step.poke (s2.trans (s35.trans s6)) hp fp6 nS, upd_same, (hr2.mono (s35.ex.trans s6.ex)).append (Reps.cons r6 Reps.nil), fp6, by rw [List.length_append, List.length_singleton]; omega, q6⟩
        rw [hr2.1]
        have : sizeLine = 16777216 := sizeLine_eq
        omega
      | false =>
        rw [if_neg Bool.false_ne_true]
        exact ⟨F5, n5, acc, av, s2.trans s35, hp5, hr2.mono s35.ex, fp5, by omega, q5.2 rfl⟩
    · have e : i = ds.length := by omega
      subst e
      have sf := Step.freeze (s1.trans s2) (p := p) (o := .lst av) ?_ hp2 fp2 nS
      · exact .inl ⟨it.stop F2 H2 σ r l n2 S2 s2.ex, c _ _ H2 _ n2 (hd acc n2 hI) sf (.mkl upd_same (hr2.mono (Ex.new fp2)))⟩
      · cases e : H p with
        | none => rfl
        | some o => exact absurd (s1.some (by rw [e]; simp)) (by rw [hp]; simp)
theorem we_dc {wi : TI} {g : TG} {js vs : List Nat} {tk tv : TE} (hj : ∀ j ∈ js, j ∈ vs) (h : WI B M wi l n fun ds n1 => ds.length ≤ 100000 ∧ ∃ I : Nat → List (Str × D) → Nat → Prop, I 0 [] n1 ∧
      (∀ i x acc n2, ds[i]? = some x → I i acc n2 → WG B M g js x (wipeL l vs) n2 fun l2 => WE B M tk l2 n2 fun y n3 => ∃ s, y = .str s ∧ WE B M tv l2 n3 fun z n4 => I (i + 1) (putD acc s z) n4) ∧
      (∀ acc n2 a, I ds.length acc n2 → B.H0 a = none → Q (.dct (some a) acc) n2)) : WE B M (tDc wi g tYes tk tv vs) l n Q := fun F H σ r S k c =>
  h F H σ r S _ fun J F1 H1 ds n1 q s1 it => by
    obtain ⟨hz, I, h0, hs, hd⟩ := q
    intro p hp
    have S1 := S.step s1
    have nS := S1.newS hp
    refine ⟨fun i m H' => m = ds.length - i ∧ i ≤ ds.length ∧ ∃ F' n' acc av, Step B.st B.sa B.ca F1 H1 F' H' n' ∧ H' p = some (.dK av) ∧ RepK B.C B.sa F' av acc ∧ F' p = none ∧ av.length ≤ i ∧ I i acc n',
      ⟨ds.length, by simp, Nat.zero_le _, F1, n1, [], [], Step.lay S1.sm hp, upd_same, RepK.nil, S1.fnone hp, Nat.le_refl _, h0⟩, ?_⟩
    rintro i m H2 ⟨rfl, hi, F2, n2, acc, av, s2, hp2, hr2, fp2, hl, hI⟩
    have S2 := S1.step s2
    by_cases hlt : i < ds.length
    · have hx : ds[i]? = some ds[i] := List.getElem?_eq_getElem hlt
      refine .inr ⟨it.go F2 H2 σ r l n2 i _ S2 s2.ex hx, fun H' => ∃ F' n' acc av, Step B.st B.sa B.ca F1 H1 F' H' n' ∧ H' p = some (.dK av) ∧ RepK B.C B.sa F' av acc ∧ F' p = none ∧ av.length ≤ i + 1 ∧ I (i + 1) acc n', fun H' w => ⟨ds.length - (i + 1), by omega, rfl, hlt, w⟩, fun v H3 y => ?_⟩
      obtain ⟨F3, s3, rv⟩ := it.yld F2 H2 σ r l n2 i _ S2 s2.ex hx v H3 y
      have S3 := (S2.step s3).wipe vs
      refine hs i _ acc n2 hx hI F3 H3 _ r S3 v rv _ fun σ4 l4 wt S4 hw => ⟨?_, ?_⟩
      · rw [hw vs hj]; exact wipe_wipe vs
      unfold tYes
      simp only [if_true]
      refine wt F3 H3 σ4 r S4 _ fun w F5 H5 y n5 q5 s5 r5 => ?_
      obtain ⟨ks, rfl, q5⟩ := q5
      refine q5 F5 H5 σ4 r (S4.step s5) _ fun z F6 H6 d n6 q6 s6 r6 => ?_
      have s36 := (s3.trans s5).trans s6
      have hp6 : H6 p = some (.dK av) := s36.ht p _ hp2 nS
      have fp6 : F6 p = none := s36.fr p (by rw [hp2]; simp) fp2
      refine ⟨av, .inr ks, r5.str_inv, hp6, ?_, F6, n6, putD acc ks d, _, Step.poke (s2.trans s36) hp fp6 nS, upd_same, (hr2.mono s36.ex).put r6, fp6, ?_, q6⟩
      · have : sizeLine = 16777216 := sizeLine_eq
        omega
      · have := length_putK av (.inr ks : Key) z
        omega
    · have e : i = ds.length := by omega
      subst e
      have hp0 : H p = none := by
        cases e : H p with
        | none => rfl
        | some o => exact absurd (s1.some (by rw [e]; simp)) (by rw [hp]; simp)
      have sf := Step.freeze (s1.trans s2) (p := p) (o := .dK av) hp0 hp2 fp2 nS
      exact .inl ⟨it.stop F2 H2 σ r l n2 S2 s2.ex, c _ _ H2 _ n2 (hd acc n2 p hI (S.h0none hp0)) sf (.mka upd_same (hr2.mono (Ex.new fp2)))⟩
end
end Gw

/-! isinstance, == of data, list(d.values()); promises and calls over data. -/
namespace Gw
open PySem L2

section
variable {B : Bk} {M : List (Addr × Obj)} {l : List Sl} {n : Nat} {Q : D → Nat → Prop} {R : List D → Nat → Prop} {P : Post} {ta tb tc te td ty : TE} {t u : TT} {tr : TA} {d x y : D} {ts us : TS}
/-! ### isinstance -/
def tyD : D → Option String
  | .non => some "NoneType" | .bl _ => some "bool" | .int _ => some "int" | .str _ => some "str" | .tup _ => some "tuple" | .lst _ => some "list" | .dct _ _ => some "dict" | _ => none
theorem tyx_of {σ : L2.St} {F H : Hp} {r : Addr → Option Nat} (S : Sta B M σ l n F H r) {v : V} {s : String} (h : Rep B.C B.sa F v x) (e : tyD x = some s) : TyX B.K H v (.type s) := by
  cases h with
  | non => cases e; exact .base .non
  | bl => cases e; exact .base (.bl _)
  | int => cases e; exact .base (.int _)
  | str => cases e; exact .base (.str _)
  | ty => cases e
  | strm => cases e
  | tup ha => cases e; exact .base (.tup (S.here ha (fun kv z => nomatch z)))
  | lst ha => cases e; exact .base (.lst (S.here ha (fun kv z => nomatch z)))
  | dct ha =>
    cases e
    rcases S.rd ha with w | ⟨od, w⟩
    · exact .base (.dK w)
    · exact .fDict w
  | obj => cases e
theorem we_ty {s : String} (q : Q (.ty s) n) : WE B M (tC (.ty s)) l n Q := fun F H σ r S k c => c _ F H _ n q S.r0 .ty
theorem rc_isi {s c0 : String} {b : Bool} (ht : tyD x = some s) (hb : kitB s c0 = some b) (q : Q (.bl b) n) : RC B M (rIsi B.K) [x, .ty c0] l n Q := fun F H σ r S vs rs k c => by
  obtain ⟨v, w, rfl, h1, h2⟩ := reps2 rs
  have e : w = .ty c0 := by cases h2; rfl
  subst e
  exact ⟨v, .ty c0, _, _, b, rfl, .ty c0, tyx_of S h1 ht, kit_ty hb, c _ F H _ n q S.r0 .bl⟩
theorem rc_isiT {s c1 c2 : String} {b1 b2 : Bool} (ht : tyD x = some s) (h1 : kitB s c1 = some b1) (h2 : kitB s c2 = some b2) (q : Q (.bl (b1 || b2)) n) : RC B M (rIsiT B.K) [x, .tup [.ty c1, .ty c2]] l n Q := fun F H σ r S vs rs k c => by
  obtain ⟨v, w, rfl, g1, g2⟩ := reps2 rs
  obtain ⟨a, ws, rfl, ha, hr⟩ := g2.tup_inv
  obtain ⟨v1, v2, rfl, k1, k2⟩ := reps2 hr
  have e1 : v1 = .ty c1 := by cases k1; rfl
  have e2 : v2 = .ty c2 := by cases k2; rfl
  subst e1; subst e2
  refine ⟨v, a, [.ty c1, .ty c2], _, [.type c1, .type c2], b1 || b2, rfl, S.here ha (fun kv z => nomatch z), .cons (.ty _) (.cons (.ty _) .nil), tyx_of S g1 ht, ?_, c _ F H _ n q S.r0 .bl⟩
  refine kitAny_cons (kit_ty h1) (fun z => ?_) fun z => by rw [z]; rfl
  rw [z]
  refine kitAny_cons (kit_ty h2) (fun y => ?_) fun y => by rw [y]; rfl
  rw [y]
  exact kitAny_nil

/-! ### == of tuples of two ints, of lists of texts -/
theorem eqv_two (a b c d : Int) : PyData.eqv (.tuple [.int a, .int b]) (.tuple [.int c, .int d]) = (decide (a = c) && decide (b = d)) := by
  simp only [PyData.eqv, PyData.eqvAll, Bool.and_true]
  by_cases h1 : a = c <;> by_cases h2 : b = d <;> simp [h1, h2]
theorem shaped_two (a b : Int) : SeqAt.shaped (.tuple [.int a, .int b]) = true := by
  simp [SeqAt.shaped, PyData.canLay0, PyData.canLayAll0, PyData.depth, PyData.depthAll]
theorem dp_two {σ : L2.St} {F H : Hp} {r : Addr → Option Nat} (S : Sta B M σ l n F H r) {v : V} {a b : Int} (h : Rep B.C B.sa F v (.tup [.int a, .int b])) : Dp B.K H v (.tuple [.int a, .int b]) := by
  obtain ⟨p, ws, rfl, ha, hr⟩ := h.tup_inv
  obtain ⟨v1, v2, rfl, k1, k2⟩ := reps2 hr
  rw [k1.int_inv, k2.int_inv] at ha
  exact .tup (S.sqt ha) (.cons (.int _) (.cons (.int _) .nil))
theorem ro_eqT {a b a' b' : Int} (q : Q (.bl (decide (a = a') && decide (b = b'))) n) : RO B M (rEqD B.K) (.tup [.int a, .int b]) (.tup [.int a', .int b']) l n Q := fun F H σ r S vx vy rx ry k c =>
  ⟨_, _, dp_two S rx, dp_two S ry, shaped_two _ _, shaped_two _ _, by rw [eqv_two]; exact c _ F H _ n q S.r0 .bl⟩
theorem eqv_strs : ∀ (xs ys : List Str), PyData.eqvAll (xs.map PyData.str) (ys.map PyData.str) = decide (xs = ys)
  | [], [] => by simp [PyData.eqvAll]
  | [], _ :: _ => by simp [PyData.eqvAll]
  | _ :: _, [] => by simp [PyData.eqvAll]
  | x :: xs, y :: ys => by
    simp only [List.map_cons, PyData.eqvAll, PyData.eqv, eqv_strs xs ys]
    by_cases h : x = y <;> by_cases h2 : xs = ys <;> simp [h, h2]
def oks (xs : List Str) : Bool := xs.all PyData.strOk
theorem canLay_strs : ∀ (xs : List Str), oks xs = true → PyData.canLayAll0 (xs.map PyData.str) = true
  | [], _ => by simp [PyData.canLayAll0]
  | x :: xs, h => by
    unfold oks at h
    rw [List.all_cons, Bool.and_eq_true] at h
    rw [List.map_cons, PyData.canLayAll0, PyData.canLay0, h.1, canLay_strs xs h.2]
    rfl
theorem depth_strs : ∀ (xs : List Str), PyData.depthAll (xs.map PyData.str) = 0
  | [] => by simp [PyData.depthAll]
  | x :: xs => by
    rw [List.map_cons, PyData.depthAll, PyData.depth, depth_strs xs]
    rfl
theorem shaped_strs {xs : List Str} (h : oks xs = true) : SeqAt.shaped (.list (xs.map PyData.str)) = true := by
  unfold SeqAt.shaped
  rw [PyData.canLay0, canLay_strs xs h, PyData.depth, depth_strs]
  rfl
theorem dpAll_strs {K : PySem.W.Frag} {H : Hp} : ∀ xs : List Str, DpAll K H (xs.map V.str) (xs.map PyData.str)
  | [] => .nil
  | x :: xs => .cons (.str x) (dpAll_strs xs)
theorem dp_strs {σ : L2.St} {F H : Hp} {r : Addr → Option Nat} (S : Sta B M σ l n F H r) {v : V} {xs : List Str} (h : Rep B.C B.sa F v (.lst (xs.map D.str))) : Dp B.K H v (.list (xs.map PyData.str)) := by
  obtain ⟨p, ws, rfl, ha, hr⟩ := h.lst_inv
  rw [hr.strs] at ha
  exact .lst (S.sql ha) (dpAll_strs xs)
theorem ro_eqLs {xs ys : List Str} (hx : oks xs = true) (hy : oks ys = true) (q : Q (.bl (decide (xs = ys))) n) : RO B M (rEqD B.K) (.lst (xs.map D.str)) (.lst (ys.map D.str)) l n Q := fun F H σ r S vx vy rx ry k c =>
  ⟨_, _, dp_strs S rx, dp_strs S ry, shaped_strs hx, shaped_strs hy, by
    show k (.bl (PyData.eqvAll (xs.map PyData.str) (ys.map PyData.str))) H
    rw [eqv_strs]; exact c _ F H _ n q S.r0 .bl⟩
theorem ro_neLs {xs ys : List Str} (hx : oks xs = true) (hy : oks ys = true) (q : Q (.bl (!decide (xs = ys))) n) : RO B M (rNeD B.K) (.lst (xs.map D.str)) (.lst (ys.map D.str)) l n Q := fun F H σ r S vx vy rx ry k c =>
  ⟨_, _, dp_strs S rx, dp_strs S ry, shaped_strs hx, shaped_strs hy, by
    show k (.bl (!PyData.eqvAll (xs.map PyData.str) (ys.map PyData.str))) H
    rw [eqv_strs]; exact c _ F H _ n q S.r0 .bl⟩
/-- own list != [] -/
theorem we_neO {i : Nat} {xs : List Str} (h : l[i]? = some (.owl (xs.map D.str))) (hx : oks xs = true) (q : Q (.bl (!decide (xs = []))) n) : WE B M (tOp (rNeD B.K) (tVar i) (tLst tNil)) l n Q := fun F H σ r S k c => by
  obtain ⟨p, vs, e, rp, hp, hr⟩ := S.slots i _ h
  refine ⟨_, e, Nat.zero_le _, fun z hz => ?_⟩
  have st := Step.lay (o := .lst []) S.sm hz
  rw [hr.strs] at hp
  refine ⟨.list (xs.map PyData.str), .list [], .lst (SqL.of (st.ht p _ hp (S.notS rp))) (dpAll_strs xs), .lst (SqL.of upd_same) .nil, shaped_strs hx, shaped_strs (xs := []) rfl, ?_⟩
  show k (.bl (!PyData.eqvAll (xs.map PyData.str) (([] : List Str).map PyData.str))) _
  rw [eqv_strs]
  exact c _ F _ _ n q st .bl
end

/-! ### dicts compared -/
inductive HitsD (K : PySem.W.Frag) (H : Hp) (ls : List (Key × V)) : List (Key × V) → Bool → Prop
  | nil : HitsD K H ls [] true
  | hit {k : Key} {v u : V} {r : List (Key × V)} {d e : PyData} {b : Bool} : valV ls k = some u → Dp K H v d → Dp K H u e → SeqAt.shaped d = true → SeqAt.shaped e = true → HitsD K H ls r b → HitsD K H ls ((k, v) :: r) (PyData.eqv d e && b)
def rEqDD (K : PySem.W.Frag) : R2 := fun x y H Q => ∃ a b ks ls r, x = .ref a ∧ y = .ref b ∧ Rd H a (.dK ks) ∧ Rd H b (.dK ls) ∧ (ks.length = ls.length → HitsD K H ls ks r) ∧ Q (.bl (ks.length == ls.length && r)) H
def rNeDD (K : PySem.W.Frag) : R2 := fun x y H Q => ∃ a b ks ls r, x = .ref a ∧ y = .ref b ∧ Rd H a (.dK ks) ∧ Rd H b (.dK ls) ∧ (ks.length = ls.length → HitsD K H ls ks r) ∧ Q (.bl (!(ks.length == ls.length && r))) H
theorem hitsD_run {X : Cx} {pins : List (Addr × Obj)} {σ : L2.St} {H : Hp} {s : Shared} {A : Around} (I : Inv X pins σ H s) (hu : A.units + 64 < cLine) {ls : List (Key × V)} {vb : List (Key × Value)} (rb : KV ls vb) : ∀ {ks : List (Key × V)} {va : List (Key × Value)} {b : Bool}, KV ks va → HitsD X.K H ls ks b → PySem.W.KeqHits A s vb va b := by
  intro ks va b ra h
  induction h generalizing va with
  | nil => cases ra; exact .nil
  | @hit k v u r d e b hk hd he sd se _ ih =>
    cases ra with
    | @cons _ q _ qs h1 t =>
      obtain ⟨k', w⟩ := q
      obtain ⟨e1, e2⟩ := h1
      have e1' : k = k' := e1
      subst e1'
      have rr : RelO (some u) (valueAt vb k) := by rw [← hk]; exact rb.val k
      obtain ⟨y, hy, ry⟩ := rr.some_of
      obtain ⟨as, r1⟩ := Dp.reads I d v w hd e2
      obtain ⟨bs, r2⟩ := Dp.reads I e u y he ry
      have hdep := SeqAt.depth_of_shaped sd
      exact .hit hy (SeqAt.eqAt_reads d e A s w y as bs r1 r2 (SeqAt.canLay_of_shaped sd) (SeqAt.canLay_of_shaped se) (SeqAt.room_of_shaped sd hu)) (ih t)
theorem op_eqDD {X : Cx} (hu : X.A.units + 65 < cLine) : OpR X (compareOp .Eq) (rEqDD X.K) := by
  intro pins s σ H x y v u Q I rx ry h
  obtain ⟨a, b, ks, ls, r, rfl, rfl, ea, eb, hp, q⟩ := h
  obtain rfl : v = Value.ref a := rx
  obtain rfl : u = Value.ref b := ry
  obtain ⟨_, ya, va, ra, da⟩ := dk_rd I.hok ea
  obtain ⟨_, yb, vb, rb, db⟩ := dk_rd I.hok eb
  refine PySem.W.keq_eq (knd := mixKind X.prog X.w) (r := r) ya yb da db (by omega) (fun z => hitsD_run I (A := X.A.in1) (by show X.A.units + 1 + 64 < cLine; omega) rb ra (hp (by rw [ra.length, rb.length]; exact z))) ?_
  rw [← ra.length, ← rb.length]
  exact ⟨.bl _, H, I, rfl, q⟩
theorem op_neDD {X : Cx} (hu : X.A.units + 65 < cLine) : OpR X (compareOp .NotEq) (rNeDD X.K) := by
  intro pins s σ H x y v u Q I rx ry h
  obtain ⟨a, b, ks, ls, r, rfl, rfl, ea, eb, hp, q⟩ := h
  obtain rfl : v = Value.ref a := rx
  obtain rfl : u = Value.ref b := ry
  obtain ⟨_, ya, va, ra, da⟩ := dk_rd I.hok ea
  obtain ⟨_, yb, vb, rb, db⟩ := dk_rd I.hok eb
  refine PySem.W.keq_ne (knd := mixKind X.prog X.w) (r := r) ya yb da db (by omega) (fun z => hitsD_run I (A := X.A.in1) (by show X.A.units + 1 + 64 < cLine; omega) rb ra (hp (by rw [ra.length, rb.length]; exact z))) ?_
  rw [← ra.length, ← rb.length]
  exact ⟨.bl _, H, I, rfl, q⟩
/-- a value of a dict that may be compared -/
inductive Simp : D → PyData → Prop
  | two (a b : Int) : Simp (.tup [.int a, .int b]) (.tuple [.int a, .int b])
  | str {x : Str} (h : PyData.strOk x = true) : Simp (.str x) (.str x)
section
variable {B : Bk} {M : List (Addr × Obj)} {l : List Sl} {n : Nat} {Q : D → Nat → Prop}
theorem Simp.dp {σ : L2.St} {F H : Hp} {r : Addr → Option Nat} (S : Sta B M σ l n F H r) {d : D} {e : PyData} (s : Simp d e) {v : V} (h : Rep B.C B.sa F v d) : Dp B.K H v e ∧ SeqAt.shaped e = true ∧ PyData.eqv e e = true := by
  cases s with
  | two a b => exact ⟨dp_two S h, shaped_two a b, by rw [eqv_two]; simp⟩
  | str hx => rw [h.str_inv]; exact ⟨.str _, by unfold SeqAt.shaped; rw [PyData.canLay0, hx, PyData.depth]; rfl, by simp [PyData.eqv]⟩
theorem hits_all {σ : L2.St} {F H : Hp} {r : Addr → Option Nat} (S : Sta B M σ l n F H r) {ls : List (Key × V)} {kvs2 : List (Str × D)} (hl : RepK B.C B.sa F ls kvs2) : ∀ {ks : List (Key × V)} {kvs : List (Str × D)}, RepK B.C B.sa F ks kvs → (∀ q ∈ kvs, lk kvs2 q.1 = some q.2 ∧ ∃ e, Simp q.2 e) → HitsD B.K H ls ks true
  | ks, [], h, _ => by rw [h.inv0]; exact .nil
  | ks, q :: rest, h, hq => by
    obtain ⟨v, r', rfl, hv, hr⟩ := h.inv
    obtain ⟨e1, e, se⟩ := hq q List.mem_cons_self
    obtain ⟨u, hu, ru⟩ := hl.get e1
    obtain ⟨d1, s1, q1⟩ := se.dp S hv
    obtain ⟨d2, _, _⟩ := se.dp S ru
    have ih := hits_all S hl hr fun q' hm => hq q' (List.mem_cons_of_mem _ hm)
    have w := HitsD.hit (K := B.K) (k := Sum.inr q.1) hu d1 d2 s1 s1 ih
    rw [q1] at w
    exact w
theorem ro_neDD {o o' : Option Addr} {kvs kvs2 : List (Str × D)} (hl : kvs.length = kvs2.length) (hq : ∀ q ∈ kvs, lk kvs2 q.1 = some q.2 ∧ ∃ e, Simp q.2 e) (q : Q (.bl false) n) : RO B M (rNeDD B.K) (.dct o kvs) (.dct o' kvs2) l n Q := fun F H σ r S vx vy rx ry k c => by
  obtain ⟨a, ks, rfl, ha, _, hk⟩ := rx.dct_inv
  obtain ⟨b, ls, rfl, hb, _, hk2⟩ := ry.dct_inv
  have e : ks.length = ls.length := by rw [hk.length, hk2.length]; exact hl
  refine ⟨a, b, ks, ls, true, rfl, rfl, S.rd ha, S.rd hb, fun _ => hits_all S hk2 hk hq, ?_⟩
  rw [show (!(ks.length == ls.length && true)) = false from by rw [e]; simp]
  exact c _ F H _ n q S.r0 .bl
/-- == {} -/
theorem ro_eqD0 {o o' : Option Addr} {kvs : List (Str × D)} (q : Q (.bl (decide (kvs.length = 0))) n) : RO B M (rEqDD B.K) (.dct o kvs) (.dct o' []) l n Q := fun F H σ r S vx vy rx ry k c => by
  obtain ⟨a, ks, rfl, ha, _, hk⟩ := rx.dct_inv
  obtain ⟨b, ls, rfl, hb, _, hk2⟩ := ry.dct_inv
  have e2 := hk2.inv0
  subst e2
  refine ⟨a, b, ks, [], true, rfl, rfl, S.rd ha, S.rd hb, fun z => ?_, ?_⟩
  · cases ks with
    | nil => exact .nil
    | cons p r => simp at z
  rw [show (ks.length == ([] : List (Key × V)).length && true) = decide (kvs.length = 0) from by rw [hk.length, Bool.and_true]; exact Bool.beq_eq_decide_eq _ _]
  exact c _ F H _ n q S.r0 .bl
end

/-! ### list(d.values()) -/
def tListVals (te : TE) : TE := fun σ H Q => te σ H fun x H1 => ∃ (d : Addr) (kvs : List (Key × V)), x = .ref d ∧ Rd H1 d (.dK kvs) ∧ ∀ p, H1 p = none → Q (.ref p) (upd H1 p (.lst (kvs.map (·.2))))
section
open PySem.Spec PyProof.Rows
theorem vals_at : ∀ {us : List Value} {kvs : List (Key × V)} {vs : List (Key × Value)}, KV kvs vs → us.length = vs.length → (∀ (j : Nat) (v : Value), us[j]? = some v → ∃ k : Key, vs[j]? = some (k, v)) → Vals (kvs.map (·.2)) us
  | [], [], vs, h, e, _ => .nil
  | [], _ :: _, vs, h, e, _ => by cases h; cases e
  | u :: us, [], vs, h, e, _ => by cases h; cases e
  | u :: us, p :: kvs, vs, h, e, hj => by
    cases h with
    | @cons _ q _ vs' h1 t =>
      obtain ⟨k, hk⟩ := hj 0 u rfl
      have e1 : q = (k, u) := by simpa using hk
      subst e1
      exact .cons h1.2 (vals_at t (by simpa using e) fun j v hv => by simpa using hj (j + 1) v (by simpa using hv))
theorem pe_listVals {X : Cx} {e : Expr} {te : TE} {p apos cpos pos : Pos} (hc : X.calm = true) (he : PE X e te) (hg : Gl X "list") (hm : X.mg "list" = none) (hv : bootBuiltins "list" = some (.type "list")) (hbase : attributeBase e "values" X.env (eval e X.env) = eval e X.env := by rfl) (hline : (apos.endLine == cpos.line) = true := by rfl)
    (hs : starEach [.Call (.Attribute e "values" apos) [] [] cpos] X.env = (false, eval (.Call (.Attribute e "values" apos) [] [] cpos) X.env) :: starEach [] X.env := by rfl) :
    PE X (.Call (.Name "list" p) [.Call (.Attribute e "values" apos) [] [] cpos] [] pos) (tListVals te) := by
  refine ⟨fun pins s σ H Q I hq => ?_⟩
  refine wpAny_Call_Name_kw (ld_blt I hg hm hv ?_)
  refine PyProof.Rows.callWith_type1 ?_ hs rfl
  rw [hs]
  show wpAny _ _ (spliced ((false, eval (.Call (.Attribute e "values" apos) [] [] cpos) X.env) :: backTo pos (starEach [] X.env))) _ _ s
  refine Calls.spliced_cons ?_
  refine wpAny_Call_method (T := "dict") (id := "dict.values") hbase rfl hline F.plainAttrs_dict F.slot_dict_values F.type_dict_values (thn (he.run pins s σ H _ I hq) fun u s1 ⟨x, H1, I1, rx, d, kvs, ex, hd, q⟩ => ?_)
  subst ex
  obtain rfl : u = Value.ref d := rx
  obtain ⟨hz, hs0, vs, kv, hdo⟩ := dk_rd I1.hok hd
  obtain ⟨ep, hat⟩ := hdo.dictAt
  have lk : kvs.length = vs.length := Paired.length kv
  have I2 : Inv X pins σ H1 { s1 with heap := s1.heap.push { cls := .type "dict_values", data := .fields #[.ref d] } } := I1.kept (t' := s1.toks) fun b ob q => Heap.get?_push_of_some _ q
  refine ⟨hdo.typeIs, hdo.mapOf.noDict, ?_⟩
  show wpAny _ _ (callWith cpos (.builtin "dict.values") [.ref d] [] []) _ X.xe s1
  refine method_meetsIn F.slot_dict_values F.entry_dict_values rfl (PySem.evalArgs_none ⟨rfl, hdo.typeIs, F.args_dict_values_1 _, _, meets_dict_values (mixKind X.prog X.w) d hs0, ⟨vs, hdo⟩, ?_⟩)
  refine Calls.spliced_nil ?_
  refine PySem.W.kdl_call (PySem.W.kdl_values (knd := mixKind X.prog X.w) (kvs := vs) (ep := ep)) (I1.ok.hd hc) ⟨⟨_, Heap.get?_push_size _ rfl, rfl, rfl⟩, hat.push _⟩ (by omega) fun h' tk acc c' hk hD hacc => ?_
  have hvv : Vals (kvs.map (·.2)) acc.toList := vals_at kv (by rw [Array.length_toList]; exact hacc.1) fun j v e => hacc.2 j v (by rw [← Array.getElem?_toList]; exact e)
  have nw : ObjOk X.prog X.w (upd H1 (s1.heap.push { cls := .type "dict_values", data := .fields #[.ref d] }).objs.size (.lst (kvs.map (·.2)))) h' (s1.heap.push { cls := .type "dict_values", data := .fields #[.ref d] }).objs.size (.lst (kvs.map (·.2))) :=
    ⟨by rw [List.length_map]; exact hz, acc.toList, c', hvv, by rw [Array.toArray_toList]; exact hD⟩
  exact ⟨.ref _, _, I2.laid (t' := tk) hk (Nat.le_refl _) nw, rfl, q _ (I2.hok.fresh (Nat.le_refl _))⟩
end
theorem repk_vals {C sa : Addr} {F : Hp} {kv : List (Key × V)} {kvs : List (Str × D)} (h : RepK C sa F kv kvs) : Reps C sa F (kv.map (·.2)) (kvs.map (·.2)) := by
  refine ⟨by simp [h.length], fun i v d a b => ?_⟩
  rw [List.getElem?_map] at a b
  cases e1 : kv[i]? with
  | none => rw [e1] at a; cases a
  | some p =>
    cases e2 : kvs[i]? with
    | none => rw [e2] at b; cases b
    | some q =>
      rw [e1] at a; rw [e2] at b
      cases a; cases b
      exact h.2 i p q e1 e2
theorem we_listVals {B : Bk} {M : List (Addr × Obj)} {l : List Sl} {n : Nat} {Q : D → Nat → Prop} {te : TE} (h : WE B M te l n fun x n1 => ∃ o kvs, x = .dct o kvs ∧ Q (.lst (kvs.map (·.2))) n1) : WE B M (tListVals te) l n Q := fun F H σ r S k c =>
  h F H σ r S _ fun v F1 H1 x n1 q s1 r1 => by
    obtain ⟨o, kvs, rfl, q⟩ := q
    obtain ⟨a, kv, rfl, ha, _, hr⟩ := r1.dct_inv
    have S1 := S.step s1
    refine ⟨a, kv, rfl, S1.rd ha, fun p hp => ?_⟩
    have st := Step.new (o := .lst (kv.map (·.2))) S1.sm hp (S1.fnone hp)
    exact c _ _ _ _ n1 q (s1.trans st) (.mkl upd_same ((repk_vals hr).mono st.ex))
end Gw

/-! Promises and calls over data. -/
namespace Gw
open PySem L2

def Le (L : List Addr) (F H : Hp) : Prop := ∀ a o, F a = some o → (a ∉ L → H a = some o) ∧ (a ∈ L → (∃ od, H a = some (.frz od o)) ∧ ∃ kv, o = .dK kv)
/-- a def's promise: pre of (locked addresses, arguments, draws so far); post of (heap ahead, arguments, draws; result, draws behind) -/
def spG (C : Addr) (st : Bool) (pre : List Addr → List D → Nat → Prop) (post : Hp → List D → Nat → D → Nat → Prop) : Sp := fun vs H Q _ =>
  ∃ (F : Hp) (L : List Addr) (sa ca : Addr) (ds : List D) (n : Nat), Reps C sa F vs ds ∧ Le L F H ∧ (∀ a ∈ L, H a ≠ none) ∧ (st = true → StrmOk sa ca H n ∧ F sa = none ∧ F ca = none) ∧ pre L ds n ∧
    ∀ v F2 H2 d n2, post H ds n d n2 → Step st sa ca F H F2 H2 n2 → Rep C sa F2 v d → Q v H2
def ent (N : List Str) (ds : List D) : List Sl := ds.map Sl.sh ++ List.replicate (N.length - ds.length) Sl.any
theorem Le.fnone {L : List Addr} {F H : Hp} (h : Le L F H) {a : Addr} (e : H a = none) : F a = none := by
  cases q : F a with
  | none => rfl
  | some o =>
    by_cases hl : a ∈ L
    · obtain ⟨⟨od, w⟩, _⟩ := (h a o q).2 hl
      rw [e] at w; cases w
    · rw [(h a o q).1 hl] at e; cases e
theorem sta_enter {K : PySem.W.Frag} {C sa ca : Addr} {st : Bool} {L : List Addr} {F H : Hp} {vs : List V} {ds : List D} {n : Nat} {N : List Str} (hr : Reps C sa F vs ds) (hle : Le L F H) (hL : ∀ a ∈ L, H a ≠ none) (hs : st = true → StrmOk sa ca H n ∧ F sa = none ∧ F ca = none) :
    Sta ⟨K, C, sa, ca, st, L, F, H⟩ [] (L2.start N vs) (ent N ds) n F H (fun _ => none) where
  len := by unfold L2.start ent; simp [hr.1]
  grow := Ex.refl F
  new := fun _ _ h => h
  kept := fun a o h _ => ⟨fun _ => h, fun od z => by cases z⟩
  le := fun a o h => ⟨fun _ z => (hle a o h).1 z, fun od z => (by cases z), fun z => ((hle a o h).2 z).1⟩
  lk := fun a z => hL a (z.resolve_left fun y => by cases y)
  lkd := fun a o z e => ((hle a o e).2 (z.resolve_left fun y => by cases y)).2
  own := fun a i e => by cases e
  s0 := fun z => (hs z).1.sa_some
  l0 := hL
  sm := hs
  slots := fun i s e => by
    unfold ent at e
    by_cases hi : i < ds.length
    · rw [List.getElem?_append_left (by simpa using hi), List.getElem?_map] at e
      cases hd : ds[i]? with
      | none => rw [hd] at e; cases e
      | some d =>
        rw [hd] at e
        cases e
        obtain ⟨v, hv, rv⟩ := hr.get hd
        refine ⟨v, ?_, rv⟩
        unfold L2.start
        rw [List.getElem?_append_left (by simp [hr.1, hi]), List.getElem?_map, hv]
        rfl
    · rw [List.getElem?_append_right (by simp; omega)] at e
      rw [List.getElem?_replicate] at e
      split at e
      · cases e; trivial
      · cases e
theorem Sta.leave {B : Bk} {σ : L2.St} {l : List Sl} {n : Nat} {F H : Hp} {r : Addr → Option Nat} (S : Sta B [] σ l n F H r) : Step B.st B.sa B.ca B.F0 B.H0 F H n where
  ex := S.grow
  ht := fun a o e z => (S.kept a o e z).1 (by simp)
  fr := S.new
  nw := fun a o e e' => (S.le a o e').1 (by simp) fun z => by
    have q := S.new a (S.l0 a z) e
    rw [e'] at q; cases q
  sm := S.sm
theorem enter {K : PySem.W.Frag} {C : Addr} {st : Bool} {pre : List Addr → List D → Nat → Prop} {post : Hp → List D → Nat → D → Nat → Prop} {t : TS} {N : List Str} {vs : List V} {H : Hp} {Q : VK} {E : XK} (hsp : spG C st pre post vs H Q E)
    (h : ∀ sa ca L F0 H0 ds n, pre L ds n → WS ⟨K, C, sa, ca, st, L, F0, H0⟩ [] t (ent N ds) n { nx := fun _ n2 => post H0 ds n .non n2, rt := fun d n2 => post H0 ds n d n2 }) : t { nx := fun _ H' => Q .non H', rt := Q } (L2.start N vs) H := by
  obtain ⟨F, L, sa, ca, ds, n, hr, hle, hL, hs, hp, k⟩ := hsp
  refine h sa ca L F H ds n hp F H _ _ (sta_enter hr hle hL hs) _ ⟨fun σ F2 H2 r l n2 p x S => ?_, fun v σ F2 H2 r l n2 d p x S rv => ?_, fun σ F2 H2 r l n2 p x S => p.elim, fun σ F2 H2 r l n2 p x S => p.elim⟩
  · exact k .non F2 H2 .non n2 p S.leave .non
  · exact k v F2 H2 d n2 p S.leave rv

/-! ### calls -/
section
variable {B : Bk} {M : List (Addr × Obj)} {l : List Sl} {n : Nat} {Q : D → Nat → Prop} {R : List D → Nat → Prop} {P : Post} {ta tb tc te td ty : TE} {t u : TT} {tr : TA} {d x y : D} {ts us : TS}
  {pre : List Addr → List D → Nat → Prop} {post : Hp → List D → Nat → D → Nat → Prop} {E : XK}
/-- what is known of the heap at a call: what stands in the slots is there -/
structure Liv (B : Bk) (M : List (Addr × Obj)) (l : List Sl) (H : Hp) : Prop where
  h0 : ∀ a, H a = none → B.H0 a = none
  inl : ∀ a, InL l a → H a ≠ none
theorem Sta.liv {σ : L2.St} {F H : Hp} {r : Addr → Option Nat} (S : Sta B M σ l n F H r) : Liv B M l H := ⟨fun a h => S.h0none h, fun a h z => by
  obtain ⟨kv, e⟩ := h.at S
  have := S.fnone z
  rw [e] at this; cases this⟩
theorem Sta.le' {σ : L2.St} {F H : Hp} {r : Addr → Option Nat} (S : Sta B M σ l n F H r) : Le (lks M ++ B.L) F H := fun a o e => by
  have w := S.le a o e
  refine ⟨fun z => w.1 (fun y => z (List.mem_append_left _ y)) fun y => z (List.mem_append_right _ y), fun z => ?_⟩
  rcases List.mem_append.mp z with z | z
  · obtain ⟨od, y⟩ := lks_mem z
    exact ⟨⟨od, w.2.1 od y⟩, S.lkd a o (.inl z) e⟩
  · exact ⟨w.2.2 z, S.lkd a o (.inr z) e⟩
theorem Sta.stepF {σ : L2.St} {F H F2 H2 : Hp} {n2 : Nat} {r : Addr → Option Nat} (S : Sta B M σ l n F H r) (s : Step false B.sa B.ca F H F2 H2 n2) : Step B.st B.sa B.ca F H F2 H2 n where
  ex := s.ex
  ht := fun a o e _ => s.ht a o e fun z => by cases z
  fr := s.fr
  nw := s.nw
  sm := fun z => by
    obtain ⟨a1, a2, a3⟩ := S.sm z
    exact ⟨a1.at (fun o e => s.ht _ o e fun y => (by cases y)) (fun o e => s.ht _ o e fun y => (by cases y)), s.fr _ a1.sa_some.1 a2, s.fr _ a1.sa_some.2 a3⟩
/-- a pure def -/
theorem sp_pure {σ : L2.St} {F H : Hp} {r : Addr → Option Nat} (S : Sta B M σ l n F H r) {vs : List V} {ds : List D} (hr : Reps B.C B.sa F vs ds) {n0 : Nat} (hp : pre (lks M ++ B.L) ds n0) {k : VK}
    (c : ∀ v F2 H2 d n2, post H ds n0 d n2 → Step B.st B.sa B.ca F H F2 H2 n → Rep B.C B.sa F2 v d → k v H2) : spG B.C false pre post vs H k E :=
  ⟨F, lks M ++ B.L, B.sa, B.ca, ds, n0, hr, S.le', fun a z => S.lk a (List.mem_append.mp z), fun z => (by cases z), hp, fun v F2 H2 d n2 p s rv => c v F2 H2 d n2 p (S.stepF s) rv⟩
theorem sp_strm {σ : L2.St} {F H : Hp} {r : Addr → Option Nat} (S : Sta B M σ l n F H r) (hst : B.st = true) {vs : List V} {ds : List D} (hr : Reps B.C B.sa F vs ds) (hp : pre (lks M ++ B.L) ds n) {k : VK}
    (c : ∀ v F2 H2 d n2, post H ds n d n2 → Step B.st B.sa B.ca F H F2 H2 n2 → Rep B.C B.sa F2 v d → k v H2) : spG B.C true pre post vs H k E :=
  ⟨F, lks M ++ B.L, B.sa, B.ca, ds, n, hr, S.le', fun a z => S.lk a (List.mem_append.mp z), fun z => S.sm hst, hp, fun v F2 H2 d n2 p s rv => c v F2 H2 d n2 p (by rw [hst]; exact s) rv⟩
theorem we_call (h : WA B M tr l n fun ds n1 => pre (lks M ++ B.L) ds 0 ∧ ∀ d n2 H, Liv B M l H → post H ds 0 d n2 → Q d n1) : WE B M (tCall (spG B.C false pre post) [] E tr) l n Q := fun F H σ r S k c =>
  h F H σ r S _ fun vs F1 H1 ds n1 q s1 r1 => by
    have S1 := S.step s1
    rw [List.append_nil]
    exact sp_pure S1 r1 q.1 fun v F2 H2 d n2 p s2 rv => c v F2 H2 d n1 (q.2 d n2 H1 S1.liv p) (s1.trans s2) rv
theorem we_callS (hst : B.st = true) (h : WA B M tr l n fun ds n1 => pre (lks M ++ B.L) ds n1 ∧ ∀ d n2 H, Liv B M l H → post H ds n1 d n2 → Q d n2) : WE B M (tCall (spG B.C true pre post) [] E tr) l n Q := fun F H σ r S k c =>
  h F H σ r S _ fun vs F1 H1 ds n1 q s1 r1 => by
    have S1 := S.step s1
    rw [List.append_nil]
    exact sp_strm S1 hst r1 q.1 fun v F2 H2 d n2 p s2 rv => c v F2 H2 d n2 (q.2 d n2 H1 S1.liv p) (s1.trans s2) rv
/-- a method of the game -/
theorem we_meth {m : Str} (hm : (m == ("place_table" : Str)) = false) (h : WE B M ta l n fun x n1 => ∃ g, x = .obj g ∧ WA B M tr l n1 fun ds n2 => pre (lks M ++ B.L) (.obj g :: ds) 0 ∧ ∀ d n3 H, Liv B M l H → post H (.obj g :: ds) 0 d n3 → Q d n2) :
    WE B M (tMeth B.C m (spG B.C false pre post) [] E ta tr) l n Q := fun F H σ r S k c =>
  h F H σ r S _ fun v F1 H1 x n1 q s1 r1 => by
    obtain ⟨g, rfl, q⟩ := q
    have S1 := S.step s1
    obtain ⟨a, dx, tt, rfl, ha, rt⟩ := id r1.obj_inv
    refine ⟨a, dx, _, rfl, S1.here ha (fun kv z => nomatch z), by rw [List.lookup_cons, hm]; rfl, q F1 H1 σ r S1 _ fun vs F2 H2 ds n2 q2 s2 r2 => ?_⟩
    have S2 := S1.step s2
    rw [List.append_nil]
    exact sp_pure S2 (Reps.cons (r1.mono s2.ex) r2) q2.1 fun v F3 H3 d n3 p s3 rv => c v F3 H3 d n2 (q2.2 d n3 H2 S2.liv p) ((s1.trans s2).trans s3) rv
/-- f(e), e changing an own object -/
theorem wx_call {R : D → List Sl → Nat → Prop} (h : WX B M te l n fun x l2 n1 => pre (lks M ++ B.L) [x] 0 ∧ ∀ d n2 H, Liv B M l2 H → post H [x] 0 d n2 → R d l2 n1) : WX B M (tCall (spG B.C false pre post) [] E (tCons te tNil)) l n R := fun F H σ r S k c =>
  h F H σ r S _ fun v F1 H1 x l2 n1 q e1 S1 r1 => by
    show spG B.C false pre post ([v] ++ []) H1 k E
    rw [List.append_nil]
    exact sp_pure S1 (Reps.cons r1 Reps.nil) q.1 fun v F2 H2 d n2 p s2 rv => c v F2 H2 d l2 n1 (q.2 d n2 H1 S1.liv p) (e1.trans s2.ex) (S1.step s2) rv
/-- for over such a list -/
theorem ws_forX {g : TG} {js : List Nat} (h : WX B M te l n fun x l1 n1 => ∃ ds, x = .lst ds ∧ ∃ I : Nat → List Sl → Nat → Prop, I 0 l1 n1 ∧
      (∀ i x l1 n2, ds[i]? = some x → I i l1 n2 → WG B M g js x l1 n2 fun l2 => WS B M ts l2 n2 { nx := I (i + 1), rt := P.rt, bk := P.nx, ct := I (i + 1) }) ∧ (∀ l1 n2, I ds.length l1 n2 → P.nx l1 n2)) : WS B M (tFor (iList B.K te) g ts) l n P := fun F H σ r S E f =>
  h F H σ r S _ fun v F1 H1 x l1 n1 q e1 S1 r1 => by
    obtain ⟨ds, rfl, I, h0, hs, hd⟩ := q
    obtain ⟨a, vs, rfl, ha, hr⟩ := r1.lst_inv
    refine ⟨a, rfl, ⟨vs, S1.sql ha⟩, ?_⟩
    have it : IsIt B M (Itl B.K a) F1 ds := ⟨fun F2 H2 σ2 r2 l2 n2 S2 e2 => ⟨vs, S2.sql (e2 _ _ ha), by rw [hr.1]; exact Nat.le_refl _⟩, fun F2 H2 σ2 r2 l2 n2 i x S2 e2 hx => by
        obtain ⟨w, hw, _⟩ := hr.get hx
        exact ⟨vs, w, S2.sql (e2 _ _ ha), hw⟩, fun F2 H2 σ2 r2 l2 n2 i x S2 e2 hx v H3 y => by
        obtain ⟨rfl, y⟩ := y
        have hv := y vs (S2.sql (e2 _ _ ha))
        exact ⟨F2, S2.r0, (hr.2 i v x hv hx).mono e2⟩⟩
    refine ⟨fun i m σ' H' => m = ds.length - i ∧ i ≤ ds.length ∧ ∃ F' l' n' r', Ex F1 F' ∧ Sta B M σ' l' n' F' H' r' ∧ I i l' n', ⟨ds.length, by simp, Nat.zero_le _, F1, l1, n1, r, Ex.refl F1, S1, h0⟩, ?_⟩
    rintro i m σ1 H2 ⟨rfl, hi, F2, l2, n2, r2, e2, S2, hI⟩
    by_cases hlt : i < ds.length
    · have hx : ds[i]? = some ds[i] := List.getElem?_eq_getElem hlt
      refine .inr ⟨it.go F2 H2 σ1 r2 l2 n2 i _ S2 e2 hx, fun σ' H' => ∃ F' l' n' r', Ex F1 F' ∧ Sta B M σ' l' n' F' H' r' ∧ I (i + 1) l' n', fun σ' H' w => ⟨ds.length - (i + 1), by omega, rfl, hlt, w⟩, fun v H3 y => ?_⟩
      obtain ⟨F3, s3, rv⟩ := it.yld F2 H2 σ1 r2 l2 n2 i _ S2 e2 hx v H3 y
      have S3 := S2.step s3
      refine hs i _ l2 n2 hx hI F3 H3 σ1 r2 S3 v rv _ fun σ4 l4 ws S4 _ => ?_
      have e3 : Ex F1 F3 := e2.trans s3.ex
      have e4 : Ex F F3 := e1.trans e3
      refine ws F3 H3 σ4 r2 S4 _ ⟨fun σ5 F5 H5 r5 l5 n5 p x S5 => ⟨F5, l5, n5, r5, e3.trans x, S5, p⟩, fun v σ5 F5 H5 r5 l5 n5 d p x S5 rv => f.rt v σ5 F5 H5 r5 l5 n5 d p (e4.trans x) S5 rv,
        fun σ5 F5 H5 r5 l5 n5 p x S5 => f.nx σ5 F5 H5 r5 l5 n5 p (e4.trans x) S5, fun σ5 F5 H5 r5 l5 n5 p x S5 => ⟨F5, l5, n5, r5, e3.trans x, S5, p⟩⟩
    · have e : i = ds.length := by omega
      subst e
      exact .inl ⟨it.stop F2 H2 σ1 r2 l2 n2 S2 e2, f.nx σ1 F2 H2 r2 l2 n2 (hd l2 n2 hI) (e1.trans e2) S2⟩
end

/-! ### a def by its body -/
section
variable {P : Program} {w : World} {K : PySem.W.Frag} {mg : Str → Option Value} {base : Heap}
/-- a def of the module with its parameters -/
def DefB (K : PySem.W.Frag) (mg : Str → Option Value) (x : Str) (st : Stmt) (ps : List Str) : Prop := ∃ (f : Addr) (fd : FuncData), C8.Def K mg x st f fd ∧ Binds K fd ps []
theorem cal_ok {x : Str} {s : Stmt} {N ps : List Str} {k : Nat} {C : Addr} {st : Bool} {pre : List Addr → List D → Nat → Prop} {post : Hp → List D → Nat → D → Nat → Prop} (DB : DefB K mg x s ps) (S : FnScope N ps (C8.fnScope s)) (hl : ∀ L ds n, pre L ds n → ds.length = ps.length)
    (hb : ∀ (f : Addr) (cdv : Value) (A : Around) (outer : List Env) (sh : Shared) (H : Hp) (E : XK), Room k (A.deeper (PyProof.Rows.envOfC x (C8.fnScope s) sh.heap.objs.size f cdv)) →
      ∃ t, PSs (cxOf CX0 P w K mg base N x (C8.fnScope s) f cdv A outer sh H E).nox (C8.fnBody s) t ∧
        ∀ sa ca L F0 H0 ds n, pre L ds n → WS ⟨K, C, sa, ca, st, L, F0, H0⟩ [] t (ent N ds) n { nx := fun _ n2 => post H0 ds n .non n2, rt := fun d n2 => post H0 ds n d n2 }) :
    C8.Cal P w K mg base (k + 1) x (spG C st pre post) [] := by
  obtain ⟨f, fd, F, b⟩ := DB
  refine C8.cal0 F b .nil S (fun vs H Q E h => ?_) fun cdv A outer s H vs Q E hr h => ?_
  · obtain ⟨_, _, _, _, ds, n, h1, _, _, _, hp, _⟩ := h
    rw [h1.1]
    exact hl _ _ _ hp
  · obtain ⟨t, ht, hw⟩ := hb f cdv A outer s H E hr
    exact ⟨t, ht, enter h hw⟩
/-- a method of the class at C -/
def MetB (K : PySem.W.Frag) (C : Addr) (m qual : Str) (st : Stmt) (ps : List Str) : Prop := ∃ (f : Addr) (fd : FuncData), Meth K C m f ∧ C8.Fun K m qual st f fd ∧ Binds K fd ps []
theorem met_ok {m qual : Str} {s : Stmt} {N ps : List Str} {k : Nat} {C : Addr} {st : Bool} {pre : List Addr → List D → Nat → Prop} {post : Hp → List D → Nat → D → Nat → Prop} (cl : Cls K C) (DB : MetB K C m qual s ps) (S : FnScope N ps (C8.fnScope s)) (hl : ∀ L ds n, pre L ds n → ds.length = ps.length)
    (hb : ∀ (f : Addr) (cdv : Value) (A : Around) (outer : List Env) (sh : Shared) (H : Hp) (E : XK), Room k (A.deeper (PyProof.Rows.envOfC qual (C8.fnScope s) sh.heap.objs.size f cdv)) →
      ∃ t, PSs (cxOf CX0 P w K mg base N qual (C8.fnScope s) f cdv A outer sh H E).nox (C8.fnBody s) t ∧
        ∀ sa ca L F0 H0 ds n, pre L ds n → WS ⟨K, C, sa, ca, st, L, F0, H0⟩ [] t (ent N ds) n { nx := fun _ n2 => post H0 ds n .non n2, rt := fun d n2 => post H0 ds n d n2 }) :
    C8.Met P w K mg base (k + 1) C m (spG C st pre post) [] := by
  obtain ⟨f, fd, me, F, b⟩ := DB
  refine C8.met0 cl me F b S (fun vs H Q E h => ?_) fun cdv A outer s H vs Q E hr h => ?_
  · obtain ⟨_, _, _, _, ds, n, h1, _, _, _, hp, _⟩ := h
    rw [h1.1]
    exact hl _ _ _ hp
  · obtain ⟨t, ht, hw⟩ := hb f cdv A outer s H E hr
    exact ⟨t, ht, enter h hw⟩
end
end Gw

/-! The text by places; what the top leaves. -/
namespace Gw
open PySem L2
def top (i : Nat) : Stmt := PySem.Challenge.pw_gameworths_k07_whole_answers.main.body.getD i (.Pass ⟨0, 0, 0, 0⟩)
abbrev inCls (s : Stmt) (j : Nat) : Stmt := L2.inClass s j
theorem hu65 {k : Nat} {A : Around} (r : Room k A) : A.units + 65 < cLine := by have := r.un; omega
theorem atD {xs : List D} {z : Int} {j : Nat} {d : D} (e : z = (j : Int)) (h : xs[j]? = some d) : atI xs z = some d := by
  rw [e]
  exact atI_nat h
/-! rules that name K, for the blocks of comprehensions -/
section
variable {X : Cx} {K : PySem.W.Frag} {e : Expr} {te : TE} {pos : Pos}
theorem pe_fldK {f : Str} (K : PySem.W.Frag) (he : PE X e te) (hK : X.K = K := by rfl) (hb : attributeBase e f X.env (eval e X.env) = eval e X.env := by rfl) : PE X (.Attribute e f pos) (tFld K te f) := by
  subst hK
  exact pe_fld he hb
theorem pg_tupK {es : List Expr} {k : Nat} {t : TGs} {n : Nat} (K : PySem.W.Frag) (hc : X.calm = true) (h : PGs X es t) (hK : X.K = K := by rfl) (hn : (assignEach es X.env).length = n := by rfl) (hst : (assignEach es X.env).findIdx? (·.1) = none := by rfl) : PG X (.Tuple es k pos) (gTup K n t) := by
  subst hK
  exact pg_tup hc h hn hst
theorem pi_listK {tg l : Expr} {tl : TE} (K : PySem.W.Frag) (hl : PE X l tl) (hK : X.K = K := by rfl) : PI X tg l (iList K tl) := by
  subst hK
  exact pi_list hl
theorem pi_enumK {e : Expr} {ta : TA} {p pos tpos : Pos} {elts : List Expr} {kk : Nat} (K : PySem.W.Frag) (hg : Gl X "enumerate") (hm : X.mg "enumerate" = none) (ha : PA X [e] ta) (hK : X.K = K := by rfl) (hs : starEach [e] X.env = [(false, eval e X.env)] := by rfl) :
    PI X (.Tuple elts kk tpos) (.Call (.Name "enumerate" p) [e] [] pos) (iEnum K ta) := by
  subst hK
  exact pi_enum hg hm ha hs
theorem pi_zipK {e e2 : Expr} {ta : TA} {p pos tpos : Pos} {elts : List Expr} {kk : Nat} (K : PySem.W.Frag) (hg : Gl X "zip") (hm : X.mg "zip" = none) (ha : PA X [e, e2] ta) (hK : X.K = K := by rfl)
    (hs : starEach [e, e2] X.env = (false, eval e X.env) :: starEach [e2] X.env := by rfl) (hpl : (backTo pos (starEach [e2] X.env)).any (·.1) = false := by rfl) :
    PI X (.Tuple elts kk tpos) (.Call (.Name "zip" p) [e, e2] [] pos) (RZ.iZipA K ta) := by
  subst hK
  exact RZ.pi_zipA hg hm ha hs hpl
theorem pe_appK {o a : Expr} {to ta : TE} {apos cpos : Pos} (K : PySem.W.Frag) (ho : PE X o to) (ha : PE X a ta) (hK : X.K = K := by rfl) (hbase : attributeBase o "append" X.env (eval o X.env) = eval o X.env := by rfl)
    (hfew : ((backTo cpos (starEach [a] X.env)).all (fun x => !x.1) && (backToKw cpos (keywordEach [] X.env)).all (fun x => x.1.isSome)
      && decide ([a].length + ([] : List Keyword).length + (if ([] : List Keyword).isEmpty then 0 else 1) < 30)) = true := by rfl)
    (hline : (apos.endLine == cpos.line) = true := by rfl) (hs : starEach [a] X.env = (false, eval a X.env) :: starEach [] X.env := by rfl) (hplain : (backTo cpos (starEach [] X.env)).any (·.1) = false := by rfl) :
    PE X (.Call (.Attribute o "append" apos) [a] [] cpos) (tBM K "list" rAppend to (tCons ta tNil)) := by
  subst hK
  exact pe_bm PySem.F.plainAttrs_list PySem.F.slot_list_append PySem.F.type_list_append mt_append ho (pa_cons ha pa_nil hs) hbase hfew hline hs hplain
theorem pe_popK {o : Expr} {to : TE} {apos cpos : Pos} (K : PySem.W.Frag) (ho : PE X o to) (hK : X.K = K := by rfl) (hbase : attributeBase o "pop" X.env (eval o X.env) = eval o X.env := by rfl) (hline : (apos.endLine == cpos.line) = true := by rfl) :
    PE X (.Call (.Attribute o "pop" apos) [] [] cpos) (tBM0 K "list" rPop to) := by
  subst hK
  exact pe_bm0 PySem.F.plainAttrs_list PySem.F.slot_list_pop PySem.F.type_list_pop mt_pop ho hbase hline
theorem pe_revK {e : Expr} {te : TE} {k : Nat} {p1 p2 p3 pos : Pos} (K : PySem.W.Frag) (he : PE X e te) (hK : X.K = K := by rfl) : PE X (.Subscript e (.Slice none none (some (.UnaryOp .USub (.Constant (.int 1) k p1) p2)) p3) pos) (tRevL K te) := by
  subst hK
  exact pe_revL he
theorem pe_clearK {o : Expr} {to : TE} {apos cpos : Pos} (K : PySem.W.Frag) (ho : PE X o to) (hK : X.K = K := by rfl) (hbase : attributeBase o "clear" X.env (eval o X.env) = eval o X.env := by rfl) (hline : (apos.endLine == cpos.line) = true := by rfl) :
    PE X (.Call (.Attribute o "clear" apos) [] [] cpos) (tBM0 K "dict" rDClear to) := by
  subst hK
  exact pe_dclear ho hbase hline
def tJoin (K : PySem.W.Frag) (to te : TE) : TE := tM1 (fun x xs H Q => ∃ a p, ∃ ys : List Str, x = .str a ∧ xs = [.ref p] ∧ (SqL K H p (ys.map V.str) ∨ SqT K H p (ys.map V.str)) ∧
      (ys.map (·.length)).sum + ys.length * a.length ≤ 16777216 ∧ Q (.str (Txt.join a ys)) H) to te
theorem pe_joinK {o e : Expr} {to te : TE} {apos pos : Pos} (K : PySem.W.Frag) (ho : PE X o to) (he : PE X e te) (hK : X.K = K := by rfl) (hs : starEach [e] X.env = [(false, eval e X.env)] := by rfl) (hbase : attributeBase o "join" X.env (eval o X.env) = eval o X.env := by rfl) (hline : (apos.endLine == pos.line) = true := by rfl) :
    PE X (.Call (.Attribute o "join" apos) [e] [] pos) (tJoin K to te) := by
  subst hK
  exact pe_join ho he hs hbase hline
def tIfT (t u v : TT) : TT := fun σ H Q => t σ H fun c H1 => if c = true then u σ H1 Q else v σ H1 Q
theorem pt_ifExp {c a b : Expr} {tc ta tb : TT} (hc : PT X c tc) (ha : PT X a ta) (hb : PT X b tb) : PT X (.IfExp c a b pos) (tIfT tc ta tb) := by
  refine ⟨fun pins s σ H Q I h => ?_⟩
  refine PyProof.Rows.isTrue_IfExp (thn (hc.run pins s σ H _ I h) fun d s1 ⟨H1, I1, q1⟩ => ?_)
  cases d with
  | true => exact ha.run pins s1 σ H1 Q I1 q1
  | false => exact hb.run pins s1 σ H1 Q I1 q1
end
theorem wt_ifT {B : Bk} {M : List (Addr × Obj)} {l : List Sl} {n : Nat} {Q : Bool → Nat → Prop} {t u v : TT} (h : WT B M t l n fun a n1 => (a = true → WT B M u l n1 Q) ∧ (a = false → WT B M v l n1 Q)) : WT B M (tIfT t u v) l n Q := fun F H σ r S k c =>
  h F H σ r S _ fun a F1 H1 n1 q1 s1 => by
    cases a with
    | true =>
      show u σ H1 k
      exact q1.1 rfl F1 H1 σ r (S.step s1) k fun b F2 H2 n2 q s2 => c b F2 H2 n2 q (s1.trans s2)
    | false =>
      show v σ H1 k
      exact q1.2 rfl F1 H1 σ r (S.step s1) k fun b F2 H2 n2 q s2 => c b F2 H2 n2 q (s1.trans s2)
section
variable {B : Bk} {M : List (Addr × Obj)} {l : List Sl} {n : Nat} {Q : D → Nat → Prop} {P : Post} {ta tb tc te td ty : TE} {t u : TT} {tr : TA} {d x y : D} {ts us : TS}
theorem we_join (h : WE B M ta l n fun x n1 => ∃ a : Str, x = .str a ∧ WE B M tb l n1 fun y n2 => ∃ ys : List Str, y = .lst (ys.map D.str) ∧ (ys.map (·.length)).sum + ys.length * a.length ≤ 16777216 ∧ Q (.str (Txt.join a ys)) n2) : WE B M (tJoin B.K ta tb) l n Q := fun F H σ r S k c =>
  h F H σ r S _ fun v F1 H1 x n1 q1 s1 r1 => by
    obtain ⟨a, rfl, q1⟩ := q1
    refine ⟨⟨a, r1.str_inv⟩, q1 F1 H1 σ r (S.step s1) _ fun w F2 H2 y n2 q2 s2 r2 => ?_⟩
    obtain ⟨ys, rfl, hl, q⟩ := q2
    obtain ⟨p, vs, rfl, hp, hr⟩ := r2.lst_inv
    rw [hr.strs] at hp
    exact ⟨a, p, ys, r1.str_inv, rfl, .inl (((S.step s1).step s2).sql hp), hl, c _ F2 H2 _ n2 q (s1.trans s2) .str⟩
theorem ws_forN {wi : TI} {j : Nat} (h : WI B M wi l n fun ds n1 => ∃ I : Nat → List Sl → Nat → Prop, I 0 l n1 ∧
      (∀ i x l1 n2, ds[i]? = some x → I i l1 n2 → WS B M ts (l1.set j (.sh x)) n2 { nx := I (i + 1), rt := P.rt, bk := P.nx, ct := I (i + 1) }) ∧ (∀ l1 n2, I ds.length l1 n2 → P.nx l1 n2)) : WS B M (tFor wi (gName j) ts) l n P :=
  ws_for (js := [j]) fun F H σ r S R c => h F H σ r S R fun J F1 H1 ds n1 q s it => c J F1 H1 ds n1 (let ⟨I, h0, hs, hd⟩ := q; ⟨I, h0, fun i x l1 n2 hx hI => wg_name (hs i x l1 n2 hx hI), hd⟩) s it
/-- a pair as the target -/
theorem ws_forP {wi : TI} {i1 j1 : Nat} (h : WI B M wi l n fun ds n1 => ∃ I : Nat → List Sl → Nat → Prop, I 0 l n1 ∧
      (∀ i z l1 n2, ds[i]? = some z → I i l1 n2 → ∃ x y, z = .tup [x, y] ∧ WS B M ts ((l1.set i1 (.sh x)).set j1 (.sh y)) n2 { nx := I (i + 1), rt := P.rt, bk := P.nx, ct := I (i + 1) }) ∧ (∀ l1 n2, I ds.length l1 n2 → P.nx l1 n2)) : WS B M (tFor wi (gTup B.K 2 (gCons (gName i1) (gCons (gName j1) gNil))) ts) l n P :=
  ws_for (js := [i1, j1]) fun F H σ r S R c => h F H σ r S R fun J F1 H1 ds n1 q s it => c J F1 H1 ds n1 (let ⟨I, h0, hs, hd⟩ := q; ⟨I, h0, fun i z l1 n2 hx hI => by
    obtain ⟨x, y, rfl, hw⟩ := hs i z l1 n2 hx hI
    exact wg_two hw, hd⟩) s it
theorem wg_three {i j m : Nat} {x y z : D} {R : List Sl → Prop} (q : R (((l.set i (.sh x)).set j (.sh y)).set m (.sh z))) : WG B M (gTup B.K 3 (gCons (gName i) (gCons (gName j) (gCons (gName m) gNil)))) [i, j, m] (.tup [x, y, z]) l n R := fun F H σ r S v rv k c => by
  obtain ⟨a, vs, rfl, ha, hr⟩ := rv.tup_inv
  obtain ⟨v1, r', rfl, h1, h2⟩ := hr.inv
  obtain ⟨v2, v3, rfl, h2, h3⟩ := reps2 h2
  refine ⟨a, _, rfl, S.sqt ha, rfl, v1, _, rfl, v2, _, rfl, v3, _, rfl, rfl, ?_⟩
  refine c _ _ q (((S.set i h1).set j h2).set m h3) fun vs hv => ?_
  rw [wipe_set (hv m (by simp)), wipe_set (hv j (by simp)), wipe_set (hv i (by simp))]
theorem ws_asgP {i1 j1 : Nat} (h : WE B M te l n fun d n1 => ∃ x y, d = .tup [x, y] ∧ P.nx ((l.set i1 (.sh x)).set j1 (.sh y)) n1) : WS B M (tAsg te (gTup B.K 2 (gCons (gName i1) (gCons (gName j1) gNil)))) l n P :=
  ws_asg (js := [i1, j1]) (we_mono h fun d n1 q => by obtain ⟨x, y, rfl, q⟩ := q; exact wg_two q)
theorem ws_asgP3 {i1 j1 m1 : Nat} (h : WE B M te l n fun d n1 => ∃ x y z, d = .tup [x, y, z] ∧ P.nx (((l.set i1 (.sh x)).set j1 (.sh y)).set m1 (.sh z)) n1) : WS B M (tAsg te (gTup B.K 3 (gCons (gName i1) (gCons (gName j1) (gCons (gName m1) gNil))))) l n P :=
  ws_asg (js := [i1, j1, m1]) (we_mono h fun d n1 q => by obtain ⟨x, y, z, rfl, q⟩ := q; exact wg_three q)
/-- comprehensions: the target a name, a pair -/
theorem we_lcN {wi : TI} {j : Nat} {vs : List Nat} (hj : j ∈ vs) (h : WI B M wi l n fun ds n1 => ds.length ≤ 100000 ∧ ∃ I : Nat → List D → Nat → Prop, I 0 [] n1 ∧
      (∀ i x acc n2, ds[i]? = some x → I i acc n2 → WT B M t ((wipeL l vs).set j (.sh x)) n2 fun b n3 => (b = true → WE B M te ((wipeL l vs).set j (.sh x)) n3 fun y n4 => I (i + 1) (acc ++ [y]) n4) ∧ (b = false → I (i + 1) acc n3)) ∧
      (∀ acc n2, I ds.length acc n2 → Q (.lst acc) n2)) : WE B M (tLc wi (gName j) t te vs) l n Q :=
  we_lc (js := [j]) (by simpa using hj) fun F H σ r S R c => h F H σ r S R fun J F1 H1 ds n1 q s it => c J F1 H1 ds n1 (let ⟨hz, I, h0, hs, hd⟩ := q; ⟨hz, I, h0, fun i x acc n2 hx hI => wg_name (hs i x acc n2 hx hI), hd⟩) s it
theorem we_lcP {wi : TI} {i1 j1 : Nat} {vs : List Nat} (hi : i1 ∈ vs) (hj : j1 ∈ vs) (h : WI B M wi l n fun ds n1 => ds.length ≤ 100000 ∧ ∃ I : Nat → List D → Nat → Prop, I 0 [] n1 ∧
      (∀ i z acc n2, ds[i]? = some z → I i acc n2 → ∃ x y, z = .tup [x, y] ∧ WT B M t (((wipeL l vs).set i1 (.sh x)).set j1 (.sh y)) n2 fun b n3 => (b = true → WE B M te (((wipeL l vs).set i1 (.sh x)).set j1 (.sh y)) n3 fun y n4 => I (i + 1) (acc ++ [y]) n4) ∧ (b = false → I (i + 1) acc n3)) ∧
      (∀ acc n2, I ds.length acc n2 → Q (.lst acc) n2)) : WE B M (tLc wi (gTup B.K 2 (gCons (gName i1) (gCons (gName j1) gNil))) t te vs) l n Q :=
  we_lc (js := [i1, j1]) (by intro z hz; rcases List.mem_cons.mp hz with e | e; · rw [e]; exact hi
                             · rw [List.mem_singleton.mp e]; exact hj) fun F H σ r S R c => h F H σ r S R fun J F1 H1 ds n1 q s it => c J F1 H1 ds n1 (let ⟨hz, I, h0, hs, hd⟩ := q; ⟨hz, I, h0, fun i z acc n2 hx hI => by
    obtain ⟨x, y, rfl, hw⟩ := hs i z acc n2 hx hI
    exact wg_two hw, hd⟩) s it
theorem wt_yes {P : Bool → Nat → Prop} (q : P true n) : WT B M tYes l n P := fun F H σ r S k c => c true F H n q S.r0
/-- the plain forms: every element reckoned by itself, nothing drawn -/
theorem we_map {wi : TI} {j : Nat} {vs : List Nat} {f : D → D} (hj : j ∈ vs) (h : WI B M wi l n fun ds n1 => ds.length ≤ 100000 ∧ (∀ x ∈ ds, WE B M te ((wipeL l vs).set j (.sh x)) n1 fun y n2 => y = f x ∧ n2 = n1) ∧ ∃ rs, ds.map f = rs ∧ Q (.lst rs) n1) : WE B M (tLc wi (gName j) tYes te vs) l n Q :=
  we_lcN hj fun F H σ r S R c => h F H σ r S R fun J F1 H1 ds n1 q s it => c J F1 H1 ds n1 ⟨q.1, fun i acc n2 => acc = (ds.take i).map f ∧ n2 = n1, ⟨rfl, rfl⟩, fun i x acc n2 hx hI => by
    obtain ⟨rfl, rfl⟩ := hI
    refine wt_yes ⟨fun _ => we_mono (q.2.1 x (List.mem_of_getElem? hx)) fun y n3 hy => ?_, fun z => Bool.noConfusion z⟩
    obtain ⟨rfl, rfl⟩ := hy
    exact ⟨by rw [List.take_add_one, hx]; simp, rfl⟩, fun acc n2 hI => by
    obtain ⟨rfl, rfl⟩ := hI
    rw [List.take_length]
    obtain ⟨rs, rfl, qq⟩ := q.2.2
    exact qq⟩ s it
theorem we_filter {wi : TI} {j : Nat} {vs : List Nat} {p : D → Bool} {f : D → D} (hj : j ∈ vs) (h : WI B M wi l n fun ds n1 => ds.length ≤ 100000 ∧ (∀ x ∈ ds, WT B M t ((wipeL l vs).set j (.sh x)) n1 fun b n2 => b = p x ∧ n2 = n1) ∧ (∀ x ∈ ds, p x = true → WE B M te ((wipeL l vs).set j (.sh x)) n1 fun y n2 => y = f x ∧ n2 = n1) ∧ ∃ rs, (ds.filter p).map f = rs ∧ Q (.lst rs) n1) : WE B M (tLc wi (gName j) t te vs) l n Q :=
  we_lcN hj fun F H σ r S R c => h F H σ r S R fun J F1 H1 ds n1 q s it => c J F1 H1 ds n1 ⟨q.1, fun i acc n2 => acc = ((ds.take i).filter p).map f ∧ n2 = n1, ⟨rfl, rfl⟩, fun i x acc n2 hx hI => by
    obtain ⟨rfl, rfl⟩ := hI
    have hm := List.mem_of_getElem? hx
    have ht : ds.take (i + 1) = ds.take i ++ [x] := by rw [List.take_add_one, hx]; rfl
    refine wt_mono (q.2.1 x hm) fun b n3 hb => ?_
    obtain ⟨rfl, rfl⟩ := hb
    refine ⟨fun hb => we_mono (q.2.2.1 x hm hb) fun y n4 hy => ?_, fun hb => ?_⟩
    · obtain ⟨rfl, rfl⟩ := hy
      exact ⟨by rw [ht, List.filter_append, List.map_append]; simp [List.filter_cons, hb], rfl⟩
    · exact ⟨by rw [ht, List.filter_append, List.map_append]; simp [List.filter_cons, hb], rfl⟩, fun acc n2 hI => by
    obtain ⟨rfl, rfl⟩ := hI
    rw [List.take_length]
    obtain ⟨rs, rfl, qq⟩ := q.2.2.2
    exact qq⟩ s it
theorem we_mapP {wi : TI} {i1 j1 : Nat} {vs : List Nat} {f : D → D} (hi : i1 ∈ vs) (hj : j1 ∈ vs) (h : WI B M wi l n fun ds n1 => ds.length ≤ 100000 ∧ (∀ z ∈ ds, ∃ x y, z = .tup [x, y] ∧ WE B M te (((wipeL l vs).set i1 (.sh x)).set j1 (.sh y)) n1 fun y n2 => y = f z ∧ n2 = n1) ∧ ∃ rs, ds.map f = rs ∧ Q (.lst rs) n1) : WE B M (tLc wi (gTup B.K 2 (gCons (gName i1) (gCons (gName j1) gNil))) tYes te vs) l n Q :=
  we_lcP hi hj fun F H σ r S R c => h F H σ r S R fun J F1 H1 ds n1 q s it => c J F1 H1 ds n1 ⟨q.1, fun i acc n2 => acc = (ds.take i).map f ∧ n2 = n1, ⟨rfl, rfl⟩, fun i z acc n2 hx hI => by
    obtain ⟨rfl, rfl⟩ := hI
    obtain ⟨x, y, rfl, hw⟩ := q.2.1 z (List.mem_of_getElem? hx)
    refine ⟨x, y, rfl, wt_yes ⟨fun _ => we_mono hw fun y n3 hy => ?_, fun z => Bool.noConfusion z⟩⟩
    obtain ⟨rfl, rfl⟩ := hy
    exact ⟨by rw [List.take_add_one, hx]; simp, rfl⟩, fun acc n2 hI => by
    obtain ⟨rfl, rfl⟩ := hI
    rw [List.take_length]
    obtain ⟨rs, rfl, qq⟩ := q.2.2
    exact qq⟩ s it
theorem we_filterP {wi : TI} {i1 j1 : Nat} {vs : List Nat} {p : D → Bool} {f : D → D} (hi : i1 ∈ vs) (hj : j1 ∈ vs) (h : WI B M wi l n fun ds n1 => ds.length ≤ 100000 ∧ (∀ z ∈ ds, ∃ x y, z = .tup [x, y] ∧ WT B M t (((wipeL l vs).set i1 (.sh x)).set j1 (.sh y)) n1 (fun b n2 => b = p z ∧ n2 = n1) ∧ (p z = true → WE B M te (((wipeL l vs).set i1 (.sh x)).set j1 (.sh y)) n1 fun y n2 => y = f z ∧ n2 = n1)) ∧ ∃ rs, (ds.filter p).map f = rs ∧ Q (.lst rs) n1) : WE B M (tLc wi (gTup B.K 2 (gCons (gName i1) (gCons (gName j1) gNil))) t te vs) l n Q :=
  we_lcP hi hj fun F H σ r S R c => h F H σ r S R fun J F1 H1 ds n1 q s it => c J F1 H1 ds n1 ⟨q.1, fun i acc n2 => acc = ((ds.take i).filter p).map f ∧ n2 = n1, ⟨rfl, rfl⟩, fun i z acc n2 hx hI => by
    obtain ⟨rfl, rfl⟩ := hI
    have ht : ds.take (i + 1) = ds.take i ++ [z] := by rw [List.take_add_one, hx]; rfl
    obtain ⟨x, y, hz, hw, hv⟩ := q.2.1 z (List.mem_of_getElem? hx)
    refine ⟨x, y, hz, wt_mono hw fun b n3 hb => ?_⟩
    obtain ⟨rfl, rfl⟩ := hb
    refine ⟨fun hb => we_mono (hv hb) fun y n4 hy => ?_, fun hb => ?_⟩
    · obtain ⟨rfl, rfl⟩ := hy
      exact ⟨by rw [ht, List.filter_append, List.map_append]; simp [List.filter_cons, hb], rfl⟩
    · exact ⟨by rw [ht, List.filter_append, List.map_append]; simp [List.filter_cons, hb], rfl⟩, fun acc n2 hI => by
    obtain ⟨rfl, rfl⟩ := hI
    rw [List.take_length]
    obtain ⟨rs, rfl, qq⟩ := q.2.2
    exact qq⟩ s it
end
structure Txt (K : PySem.W.Frag) (mg : Str → Option Value) (C : Addr) : Prop where
  cl : Cls K C
  nP : NoAttr K C "place_table"
  n_abs : mg "abs" = none
  n_int : mg "int" = none
  n_len : mg "len" = none
  n_list : mg "list" = none
  n_dict : mg "dict" = none
  n_tuple : mg "tuple" = none
  n_str : mg "str" = none
  n_bool : mg "bool" = none
  n_all : mg "all" = none
  n_any : mg "any" = none
  n_sum : mg "sum" = none
  n_isinstance : mg "isinstance" = none
  n_range : mg "range" = none
  n_enumerate : mg "enumerate" = none
  n_zip : mg "zip" = none
  signs : ∃ t, mg "SIGNS" = some (.str "abcdefghijklmnopqrstuvwxyz0123456789." t)
  most : ∃ t, mg "MOST_SIGNS" = some (.int 60 t)
end Gw

/-! Fractions. -/
namespace Gw
open PySem L2
local macro_rules | `(tactic| walk_at "gw") => `(tactic| first
  | (with_reducible refine ws_seq ?_)
  | (with_reducible refine ws_ret ?_)
  | (with_reducible refine ws_newl ?_)
  | (with_reducible refine ws_newd ?_)
  | (with_reducible refine ws_set ?_)
  | (with_reducible refine ws_par3 ?_)
  | (with_reducible refine ws_par ?_)
  | (with_reducible refine ws_if ?_)
  | (with_reducible refine ws_next ?_)
  | (with_reducible refine ws_cont ?_)
  | (with_reducible refine ws_asgP ?_)
  | (with_reducible refine ws_asgP3 ?_)
  | ((with_reducible refine' ws_app ?h ?_); (case h => rfl))
  | ((with_reducible refine' ws_clear ?h ?_); (case h => rfl))
  | ((with_reducible refine' ws_dput ?h ?_); (case h => rfl))
  | (with_reducible refine ws_drop ?_)
  | ((with_reducible refine' we_var ?h ?_); (case h => rfl))
  | (with_reducible refine we_int ?_)
  | (with_reducible refine we_str ?_)
  | (with_reducible refine we_bl ?_)
  | (with_reducible refine we_non ?_)
  | (with_reducible refine we_ty ?_)
  | ((with_reducible refine' we_ixM ?h ?e ?_); (case h => rfl); (case e => exact atI_last _ _))
  | ((with_reducible refine' we_ixO ?h ?_); (case h => rfl))
  | (with_reducible refine we_neg ?_)
  | (with_reducible refine we_op ?_)
  | (with_reducible refine ro_I0 ?_)
  | (with_reducible refine ro_B0 ?_)
  | ((with_reducible refine ro_I ?h ?_); (case h => first | assumption | omega))
  | ((with_reducible refine' ro_ixT ?h ?_); (case h => rfl))
  | (with_reducible refine ro_inT2 ?_)
  | (with_reducible refine ro_ninT2 ?_)
  | (with_reducible refine ro_eqS ?_)
  | (with_reducible refine ro_neS ?_)
  | (with_reducible refine ro_eqI ?_)
  | (with_reducible refine ro_neI ?_)
  | (with_reducible refine ro_eqB ?_)
  | (with_reducible refine ro_notNon ?_)
  | (with_reducible refine ro_neB ?_)
  | ((with_reducible refine' we_dgetO ?h ?_); (case h => rfl))
  | ((with_reducible refine' we_dinO ?h ?_); (case h => rfl))
  | ((with_reducible refine' we_dnotinO ?h ?_); (case h => rfl))
  | (with_reducible refine we_dget ?_)
  | (with_reducible refine we_din ?_)
  | (with_reducible refine we_dnotin ?_)
  | ((with_reducible refine we_tup ?_))
  | ((with_reducible refine we_lst ?_))
  | (with_reducible refine wa_cons ?_)
  | (with_reducible refine wa_nil ?_)
  | (with_reducible refine we_cb ?_)
  | (with_reducible refine we_chain ?_)
  | (with_reducible refine we_if ?_)
  | (with_reducible refine we_andV ?_)
  | (with_reducible refine we_orV ?_)
  | (with_reducible refine we_notV ?_)
  | (with_reducible refine wt_test ?_)
  | (with_reducible refine wt_B ?_)
  | (with_reducible refine wt_not ?_)
  | (with_reducible refine wt_and ?_)
  | (with_reducible refine wt_or ?_)
  | (with_reducible refine wt_ifT ?_)
  | (with_reducible refine we_call ?_)
  | ((with_reducible refine' we_callS ?h ?_); (case h => rfl))
  | ((with_reducible refine' we_meth ?h ?_); (case h => decide +kernel))
  | (with_reducible refine rc_abs ?_)
  | (with_reducible refine rc_int ?_)
  | (with_reducible refine rc_lenL ?_)
  | (with_reducible refine rc_lenT ?_)
  | (with_reducible refine rc_lenD ?_)
  | (with_reducible refine rc_lenLS ?_)
  | (with_reducible refine rc_sum ?_)
  | (with_reducible refine rc_tupT ?_)
  | ((with_reducible refine' rc_isi ?ht ?hb ?_); (case ht => rfl); (case hb => first | exact kb_int_int | exact kb_int_bool | exact kb_int_list | exact kb_int_tuple | exact kb_str_str | exact kb_dict_dict | exact kb_list_list | exact kb_list_tuple | exact kb_tuple_list | exact kb_tuple_tuple | exact kb_bool_int | exact kb_bool_bool))
  | ((with_reducible refine' rc_isiT ?ht ?h1 ?h2 ?_); (case ht => rfl); (case h1 => first | exact kb_int_int | exact kb_int_bool | exact kb_int_list | exact kb_int_tuple | exact kb_str_str | exact kb_dict_dict | exact kb_list_list | exact kb_list_tuple | exact kb_tuple_list | exact kb_tuple_tuple | exact kb_bool_int | exact kb_bool_bool); (case h2 => first | exact kb_int_int | exact kb_int_bool | exact kb_int_list | exact kb_int_tuple | exact kb_str_str | exact kb_dict_dict | exact kb_list_list | exact kb_list_tuple | exact kb_tuple_list | exact kb_tuple_tuple | exact kb_bool_int | exact kb_bool_bool))
  | (with_reducible refine rc_allT ?_)
  | (with_reducible refine rc_anyF ?_)
  | (with_reducible refine rc_all ?_)
  | (with_reducible refine rc_any ?_)
  | (with_reducible refine rc_listD ?_)
  | (with_reducible refine rc_dictD fun _ _ => ?_)
  | (with_reducible refine we_rev ?_)
  | (with_reducible refine we_slL ?_)
  | (with_reducible refine wo_no ?_)
  | (with_reducible refine wo_part ?_)
  | (with_reducible refine we_listVals ?_)
  | ((with_reducible refine' we_fld ?hc ?hn ?_); (case hc => assumption); (case hn => assumption))
  | (with_reducible refine wi_list ?_)
  | (with_reducible refine wi_range1 ?_)
  | (with_reducible refine wi_str ?_)
  | (with_reducible refine wi_enum ?_)
  | (with_reducible refine wg_name ?_)
  | (with_reducible refine wg_two ?_)
  | (refine ⟨Nat.le_of_ble_eq_true rfl, ?_⟩)
  | (refine ⟨_, rfl, ?_⟩)
  | (refine ⟨_, _, rfl, ?_⟩)
  | (refine ⟨_, _, _, rfl, rfl, ?_⟩)
  | (refine ⟨_, _, _, rfl, ?_⟩)
  | (refine ⟨fun _ => ?_, fun z => Bool.noConfusion z⟩)
  | (refine ⟨fun z => Bool.noConfusion z, fun _ => ?_⟩)
  | (refine ⟨fun _ => ?_, fun z => absurd z (by decide +kernel)⟩)
  | (refine ⟨fun z => absurd z (by decide +kernel), fun _ => ?_⟩))

abbrev fr (q : Int × Int) : D := .tup [.int q.1, .int q.2]
/-- lowest terms -/
def low (t b : Int) : Int × Int := (t / (Int.gcd t b : Int), b / (Int.gcd t b : Int))
theorem gcd_pos {t b : Int} (hb : 0 < b) : 0 < (Int.gcd t b : Int) := by
  have : 0 < Int.gcd t b := Int.gcd_pos_of_ne_zero_right t (by omega)
  omega
theorem low_pos {t b : Int} (hb : 0 < b) : 0 < (low t b).2 := by
  have hd : (Int.gcd t b : Int) ∣ b := Int.gcd_dvd_right ..
  obtain ⟨c, hc⟩ := hd
  have hg := gcd_pos (t := t) hb
  show 0 < b / (Int.gcd t b : Int)
  have : b / (Int.gcd t b : Int) = c := Int.ediv_eq_of_eq_mul_right (by omega) hc
  rw [this]
  rcases Int.lt_or_le 0 c with h | h
  · exact h
  · have h1 := Int.mul_le_mul_of_nonneg_left h (Int.le_of_lt hg)
    rw [Int.mul_zero] at h1
    have h2 : b ≤ 0 := Int.le_trans (Int.le_of_eq hc) h1
    omega
theorem gcd_step {x y : Int} (hx : 0 ≤ x) (hy : 0 < y) : Int.gcd y (x % y) = Int.gcd x y := by
  obtain ⟨a, rfl⟩ := Int.eq_ofNat_of_zero_le hx
  obtain ⟨b, rfl⟩ := Int.eq_ofNat_of_zero_le (Int.le_of_lt hy)
  show Nat.gcd b (((a : Int) % (b : Int)).natAbs) = Nat.gcd a b
  rw [← Int.natCast_emod, Int.natAbs_natCast, Nat.gcd_comm b, Nat.gcd_comm a, Nat.gcd_rec b a]
theorem low_b {t b : Int} (hb : 0 < b) {k : Nat} (h : b.natAbs < 2 ^ k) : (low t b).2.natAbs < 2 ^ k := by
  refine Nat.lt_of_le_of_lt ?_ h
  show (b / (Int.gcd t b : Int)).natAbs ≤ b.natAbs
  rw [Int.natAbs_ediv_of_dvd (Int.gcd_dvd_right ..)]
  exact Nat.div_le_self _ _
theorem low_t {t b : Int} {k : Nat} (h : t.natAbs < 2 ^ k) : (low t b).1.natAbs < 2 ^ k := by
  refine Nat.lt_of_le_of_lt ?_ h
  show (t / (Int.gcd t b : Int)).natAbs ≤ t.natAbs
  rw [Int.natAbs_ediv_of_dvd (Int.gcd_dvd_left ..)]
  exact Nat.div_le_self _ _
theorem gcd_wide {t b : Int} (hb : 0 < b) (h : b.natAbs < 2 ^ 8000) : CDivW t (Int.gcd t b : Int) ∧ CDivW b (Int.gcd t b : Int) := by
  have hg := gcd_pos (t := t) hb
  have hle : Int.gcd t b ≤ b.natAbs := Nat.le_of_dvd (by omega) (Nat.gcd_dvd_right _ _)
  have hlt : (Int.gcd t b : Int).natAbs < 2 ^ 8000 := by
    rw [Int.natAbs_natCast]
    exact Nat.lt_of_le_of_lt hle h
  exact ⟨wide_div hg hlt (by decide) (by decide), wide_div hg hlt (by decide) (by decide)⟩
/-- the number a fraction is less -/
def lessQ (p q : Int × Int) : Bool := decide (p.1 * q.2 < q.1 * p.2)
def Big (q : Int × Int) : Prop := q.1.natAbs < 2 ^ 2000 ∧ q.2.natAbs < 2 ^ 2000
def topQ : List (Int × Int) → Int × Int
  | [] => (0, 1)
  | q :: r => (q :: r).foldl (fun best one => if lessQ best one then one else best) q
def botQ : List (Int × Int) → Int × Int
  | [] => (0, 1)
  | q :: r => (q :: r).foldl (fun best one => if lessQ one best then one else best) q

section
variable {P : Program} {w : World} {K : PySem.W.Frag} {mg : Str → Option Value} {base : Heap} {C : Addr}
abbrev s_lowest : Stmt := top 9
abbrev N_lowest : List Str := ["top", "bottom", "one", "other"]
theorem sc_lowest : FnScope N_lowest ["top", "bottom"] (C8.fnScope s_lowest) := C8.fnScope_by (by decide +kernel)
def preLow : List Addr → List D → Nat → Prop := fun _ ds _ => ∃ t b : Int, ds = [.int t, .int b] ∧ 0 < b ∧ b.natAbs < 2 ^ 8000
def postLow : Hp → List D → Nat → D → Nat → Prop := fun _ ds _ d _ => ∃ t b : Int, ds = [.int t, .int b] ∧ d = fr (low t b)
theorem ok_lowest (T : Txt K mg C) (DB : DefB K mg "lowest" s_lowest ["top", "bottom"]) : C8.Cal P w K mg base 1 "lowest" (spG C false preLow postLow) [] := by
  refine cal_ok DB sc_lowest (fun L ds n hp => ?_) fun f cdv A outer sh H E hr => ?_
  · obtain ⟨t, b, rfl, _⟩ := hp; rfl
  have nd := sc_lowest.nd
  refine ⟨_, (pss_cons (ps_par (i := 2) (j := 3) rfl nd rfl rfl (by decide) rfl rfl (pa_cons (pe_callB (r := cAbs) call_abs1 (by rfl) T.n_abs (by decide +kernel) (pa_cons (pv 0) pa_nil)) (pa_cons (pv 1) pa_nil)) rfl)
    (pss_cons (ps_while PassesOwn.never (pt_cmpR op_gt (pv 3) pe_int (nomark _))
      (pss_one (ps_par (i := 2) (j := 3) rfl nd rfl rfl (by decide) rfl rfl (pa_cons (pv 3) (pa_cons (pe_op op_mod (pv 2) (pv 3)) pa_nil)) rfl)))
    (pss_one (ps_ret (pe_tup (pa_cons (pe_op op_fdivW (pv 0) (pv 2)) (pa_cons (pe_op op_fdivW (pv 1) (pv 2)) pa_nil))))))), fun sa ca L F0 H0 ds n hp => ?_⟩
  obtain ⟨t, b, rfl, hb, hb2⟩ := hp
  repeat walk_at "gw"
  refine ws_while (fun m l _ => ∃ x y : Int, l = [.sh (.int t), .sh (.int b), .sh (.int x), .sh (.int y)] ∧ 0 ≤ y ∧ 0 ≤ x ∧ m = y.toNat ∧ Int.gcd x y = Int.gcd t b) (m0 := b.toNat) ⟨_, b, rfl, by omega, by split <;> omega, rfl, ?_⟩ ?_
  · split
    · exact Int.neg_gcd ..
    · rfl
  rintro m l1 n1 ⟨x, y, rfl, hy, hx, rfl, hg⟩
  repeat walk_at "gw"
  refine ⟨fun hc => ?_, fun hc => ?_⟩
  · have hy0 : 0 < y := of_decide_eq_true hc
    repeat walk_at "gw"
    have hm := Int.emod_lt_of_pos x hy0
    have hn := Int.emod_nonneg x (show y ≠ 0 by omega)
    refine ⟨(x % y).toNat, by omega, y, x % y, rfl, hn, by omega, rfl, ?_⟩
    rw [← hg, gcd_step hx hy0]
  · have hy0 : y = 0 := by
      have := of_decide_eq_false hc
      omega
    subst hy0
    have hx' : x = (Int.gcd t b : Int) := by
      rw [← hg, Int.gcd_zero_right]
      omega
    subst hx'
    obtain ⟨g1, g2⟩ := gcd_wide (t := t) hb hb2
    repeat walk_at "gw"
    rfl
abbrev s_is_less : Stmt := top 10
abbrev N_is_less : List Str := ["one", "other"]
theorem sc_is_less : FnScope N_is_less ["one", "other"] (C8.fnScope s_is_less) := C8.fnScope_by (by decide +kernel)
def preTwoQ : List Addr → List D → Nat → Prop := fun _ ds _ => ∃ p q : Int × Int, ds = [fr p, fr q] ∧ Big p ∧ Big q
def postLess : Hp → List D → Nat → D → Nat → Prop := fun _ ds _ d _ => ∃ p q : Int × Int, ds = [fr p, fr q] ∧ d = .bl (lessQ p q)
theorem fr_inj {p q : Int × Int} (h : fr p = fr q) : p = q := by
  simp only [fr, D.tup.injEq, List.cons.injEq, D.int.injEq, and_true] at h
  exact Prod.ext h.1 h.2
theorem big_mul {p q : Int × Int} (hp : Big p) (hq : Big q) : CMulW p.1 q.2 ∧ CMulW q.1 p.2 :=
  ⟨wide_mul hp.1 hq.2 (by decide) (by decide) (by decide), wide_mul hq.1 hp.2 (by decide) (by decide) (by decide)⟩
theorem ok_is_less (T : Txt K mg C) (DB : DefB K mg "is_less" s_is_less ["one", "other"]) : C8.Cal P w K mg base 1 "is_less" (spG C false preTwoQ postLess) [] := by
  refine cal_ok DB sc_is_less (fun L ds n hp => ?_) fun f cdv A outer sh H E hr => ?_
  · obtain ⟨t, b, rfl, _⟩ := hp; rfl
  have nd := sc_is_less.nd
  refine ⟨_, (pss_one (ps_ret (pe_cmpR op_lt (pe_op op_mulW (pe_ix (r := rIxT K) ix_tup (pv 0) pe_int (fun _ _ => rfl)) (pe_ix (r := rIxT K) ix_tup (pv 1) pe_int (fun _ _ => rfl))) (pe_op op_mulW (pe_ix (r := rIxT K) ix_tup (pv 1) pe_int (fun _ _ => rfl)) (pe_ix (r := rIxT K) ix_tup (pv 0) pe_int (fun _ _ => rfl))) (nomark _)))), fun sa ca L F0 H0 ds n hp => ?_⟩
  obtain ⟨p, q, rfl, hb, hb2⟩ := hp
  obtain ⟨g1, g2⟩ := big_mul hb hb2
  repeat walk_at "gw"
  rfl
theorem fr_inj2 {a b c d : Int × Int} (h : ([fr a, fr b] : List D) = [fr c, fr d]) : a = c ∧ b = d := by
  simp only [List.cons.injEq, and_true] at h
  exact ⟨fr_inj h.1, fr_inj h.2⟩
theorem fr_get {qs : List (Int × Int)} {i : Nat} {d : D} (h : (qs.map fr)[i]? = some d) : ∃ q, qs[i]? = some q ∧ d = fr q := by
  rw [List.getElem?_map] at h
  cases e : qs[i]? with
  | none => rw [e] at h; cases h
  | some q => rw [e] at h; exact ⟨q, rfl, (Option.some.inj h).symm⟩
abbrev s_top_of : Stmt := top 11
abbrev N_top_of : List Str := ["fractions", "best", "one"]
theorem sc_top_of : FnScope N_top_of ["fractions"] (C8.fnScope s_top_of) := C8.fnScope_by (by decide +kernel)
def preQs : List Addr → List D → Nat → Prop := fun _ ds _ => ∃ qs : List (Int × Int), ds = [.lst (qs.map fr)] ∧ qs ≠ [] ∧ qs.length ≤ 1000 ∧ ∀ q ∈ qs, Big q
def postTop : Hp → List D → Nat → D → Nat → Prop := fun _ ds _ d _ => ∃ qs : List (Int × Int), ds = [.lst (qs.map fr)] ∧ d = fr (topQ qs)
def postBot : Hp → List D → Nat → D → Nat → Prop := fun _ ds _ d _ => ∃ qs : List (Int × Int), ds = [.lst (qs.map fr)] ∧ d = fr (botQ qs)
theorem fold_mem {f : Int × Int → Int × Int → Bool} : ∀ {l : List (Int × Int)} {a : Int × Int}, Big a → (∀ q ∈ l, Big q) → Big (l.foldl (fun best one => if f best one then one else best) a)
  | [], a, h, _ => h
  | q :: r, a, h, hl => by
    rw [List.foldl_cons]
    refine fold_mem ?_ fun x hx => hl x (List.mem_cons_of_mem _ hx)
    split
    · exact hl q List.mem_cons_self
    · exact h
theorem ok_top_of (T : Txt K mg C) (DB : DefB K mg "top_of" s_top_of ["fractions"]) (c_is_less : C8.Cal P w K mg base 1 "is_less" (spG C false preTwoQ postLess) []) : C8.Cal P w K mg base 2 "top_of" (spG C false preQs postTop) [] := by
  refine cal_ok DB sc_top_of (fun L ds n hp => ?_) fun f cdv A outer sh H E hr => ?_
  · obtain ⟨t, rfl, _⟩ := hp; rfl
  have nd := sc_top_of.nd
  refine ⟨_, (pss_cons (ps_set (i := 1) nd rfl (Or.inl rfl) (pe_ix (r := rIxL K) ix_list (pv 0) pe_int (fun _ _ => rfl)))
    (pss_cons (ps_for PassesOwn.never rfl (pi_listK K (pv 0)) (pg_name (i := 2) nd rfl (Or.inl rfl))
      (pss_one (ps_if (pt_val (C8.pe_c c_is_less hr (by decide) (by rfl) (pa_cons (pv 1) (pa_cons (pv 2) pa_nil)))) (pss_one (ps_set (i := 1) nd rfl (Or.inl rfl) (pv 2))) pss_nil)))
    (pss_one (ps_ret (pv 1))))), fun sa ca L F0 H0 ds n hp => ?_⟩
  obtain ⟨qs, rfl, hne, hlen, hbig⟩ := hp
  cases qs with
  | nil => exact absurd rfl hne
  | cons q0 r =>
  repeat walk_at "gw"
  refine ro_ixL (d := fr q0) (atD (z := 0) (j := 0) rfl rfl) ?_
  repeat walk_at "gw"
  refine ws_forN ?_
  repeat walk_at "gw"
  refine ⟨fun i l _ => ∃ x, l = [.sh (.lst ((q0 :: r).map fr)), .sh (fr (((q0 :: r).take i).foldl (fun best one => if lessQ best one then one else best) q0)), x], ⟨_, rfl⟩, ?_, ?_⟩
  · rintro i d l1 n1 hi ⟨x, rfl⟩
    obtain ⟨q, hq, rfl⟩ := fr_get hi
    repeat walk_at "gw"
    refine ⟨⟨_, _, rfl, fold_mem (hbig _ List.mem_cons_self) fun z hz => hbig z (List.mem_of_mem_take hz), hbig _ (List.mem_of_getElem? hq)⟩, ?_⟩
    rintro d n2 H' _ ⟨p', q', he, rfl⟩
    obtain ⟨rfl, rfl⟩ := fr_inj2 he
    repeat walk_at "gw"
    have ht : (q0 :: r).take (i + 1) = (q0 :: r).take i ++ [q] := by rw [List.take_add_one, hq]; rfl
    refine ⟨fun hb => ?_, fun hb => ?_⟩
    · repeat walk_at "gw"
      refine ⟨.sh (fr q), ?_⟩
      rw [ht, List.foldl_append, List.foldl_cons, List.foldl_nil, if_pos hb]
      rfl
    · repeat walk_at "gw"
      refine ⟨.sh (fr q), ?_⟩
      rw [ht, List.foldl_append, List.foldl_cons, List.foldl_nil, if_neg (by rw [hb]; exact Bool.false_ne_true)]
      rfl
  · rintro l1 n1 ⟨x, rfl⟩
    repeat walk_at "gw"
    rw [List.length_map, List.take_length]
    rfl
abbrev s_bottom_of : Stmt := top 12
abbrev N_bottom_of : List Str := ["fractions", "best", "one"]
theorem sc_bottom_of : FnScope N_bottom_of ["fractions"] (C8.fnScope s_bottom_of) := C8.fnScope_by (by decide +kernel)
theorem ok_bottom_of (T : Txt K mg C) (DB : DefB K mg "bottom_of" s_bottom_of ["fractions"]) (c_is_less : C8.Cal P w K mg base 1 "is_less" (spG C false preTwoQ postLess) []) : C8.Cal P w K mg base 2 "bottom_of" (spG C false preQs postBot) [] := by
  refine cal_ok DB sc_bottom_of (fun L ds n hp => ?_) fun f cdv A outer sh H E hr => ?_
  · obtain ⟨t, rfl, _⟩ := hp; rfl
  have nd := sc_bottom_of.nd
  refine ⟨_, (pss_cons (ps_set (i := 1) nd rfl (Or.inl rfl) (pe_ix (r := rIxL K) ix_list (pv 0) pe_int (fun _ _ => rfl)))
    (pss_cons (ps_for PassesOwn.never rfl (pi_listK K (pv 0)) (pg_name (i := 2) nd rfl (Or.inl rfl))
      (pss_one (ps_if (pt_val (C8.pe_c c_is_less hr (by decide) (by rfl) (pa_cons (pv 2) (pa_cons (pv 1) pa_nil)))) (pss_one (ps_set (i := 1) nd rfl (Or.inl rfl) (pv 2))) pss_nil)))
    (pss_one (ps_ret (pv 1))))), fun sa ca L F0 H0 ds n hp => ?_⟩
  obtain ⟨qs, rfl, hne, hlen, hbig⟩ := hp
  cases qs with
  | nil => exact absurd rfl hne
  | cons q0 r =>
  repeat walk_at "gw"
  refine ro_ixL (d := fr q0) (atD (z := 0) (j := 0) rfl rfl) ?_
  repeat walk_at "gw"
  refine ws_forN ?_
  repeat walk_at "gw"
  refine ⟨fun i l _ => ∃ x, l = [.sh (.lst ((q0 :: r).map fr)), .sh (fr (((q0 :: r).take i).foldl (fun best one => if lessQ one best then one else best) q0)), x], ⟨_, rfl⟩, ?_, ?_⟩
  · rintro i d l1 n1 hi ⟨x, rfl⟩
    obtain ⟨q, hq, rfl⟩ := fr_get hi
    repeat walk_at "gw"
    refine ⟨⟨_, _, rfl, hbig _ (List.mem_of_getElem? hq), fold_mem (f := fun a b => lessQ b a) (hbig _ List.mem_cons_self) fun z hz => hbig z (List.mem_of_mem_take hz)⟩, ?_⟩
    rintro d n2 H' _ ⟨p', q', he, rfl⟩
    obtain ⟨rfl, rfl⟩ := fr_inj2 he
    repeat walk_at "gw"
    have ht : (q0 :: r).take (i + 1) = (q0 :: r).take i ++ [q] := by rw [List.take_add_one, hq]; rfl
    refine ⟨fun hb => ?_, fun hb => ?_⟩
    · repeat walk_at "gw"
      refine ⟨.sh (fr q), ?_⟩
      rw [ht, List.foldl_append, List.foldl_cons, List.foldl_nil, if_pos hb]
      rfl
    · repeat walk_at "gw"
      refine ⟨.sh (fr q), ?_⟩
      rw [ht, List.foldl_append, List.foldl_cons, List.foldl_nil, if_neg (by rw [hb]; exact Bool.false_ne_true)]
      rfl
  · rintro l1 n1 ⟨x, rfl⟩
    repeat walk_at "gw"
    rw [List.length_map, List.take_length]
    rfl

/-! weighed -/
abbrev rowD (r : Int × (Int × Int)) : D := .tup [.int r.1, fr r.2]
def weighS (s : (Int × Int) × Int) (r : Int × (Int × Int)) : (Int × Int) × Int := (low (s.1.1 * r.2.2 + r.1 * r.2.1 * s.1.2) (s.1.2 * r.2.2), s.2 + r.1)
def weighF (rows : List (Int × (Int × Int))) : Int × Int :=
  let s := rows.foldl weighS ((0, 1), 0)
  low s.1.1 (s.1.2 * s.2)
def RowOk (r : Int × (Int × Int)) : Prop := 0 < r.1 ∧ r.1 ≤ 10 ∧ 0 < r.2.2 ∧ Big r.2
def preRows : List Addr → List D → Nat → Prop := fun _ ds _ => ∃ rows : List (Int × (Int × Int)), ds = [.lst (rows.map rowD)] ∧ rows ≠ [] ∧ rows.length ≤ 3 ∧ ∀ r ∈ rows, RowOk r
def postRows : Hp → List D → Nat → D → Nat → Prop := fun _ ds _ d _ => ∃ rows : List (Int × (Int × Int)), ds = [.lst (rows.map rowD)] ∧ d = fr (weighF rows)
theorem abs_lt_mul {x y : Int} {a b : Nat} (hx : x.natAbs < 2 ^ a) (hy : y.natAbs < 2 ^ b) : (x * y).natAbs < 2 ^ (a + b) := wide_lt hx hy
theorem abs_lt_add {x y : Int} {a : Nat} (hx : x.natAbs < 2 ^ a) (hy : y.natAbs < 2 ^ a) : (x + y).natAbs < 2 ^ (a + 1) := by
  rw [Nat.pow_succ]
  omega
theorem abs_lt_mono {x : Int} {a b : Nat} (hx : x.natAbs < 2 ^ a) (h : a ≤ b) : x.natAbs < 2 ^ b := Nat.lt_of_lt_of_le hx (Nat.pow_le_pow_right (by decide) h)
/-- the bounds that hold ahead of each row -/
structure WOk (i : Nat) (s : (Int × Int) × Int) : Prop where
  b0 : 0 < s.1.2
  bb : s.1.2.natAbs < 2 ^ (2000 * i + 1)
  bt : s.1.1.natAbs < 2 ^ (2010 * i + 1)
  w0 : 0 ≤ s.2
  w1 : s.2 ≤ 10 * i
theorem wok_zero : WOk 0 ((0, 1), 0) := ⟨by decide, by decide, by decide, by decide, by decide⟩
structure WStep (s : (Int × Int) × Int) (r : Int × (Int × Int)) : Prop where
  m1 : CMulW s.1.1 r.2.2
  m2 : CMulW r.1 r.2.1
  m3 : CMulW (r.1 * r.2.1) s.1.2
  m4 : CMulW s.1.2 r.2.2
  p : 0 < s.1.2 * r.2.2
  q : (s.1.2 * r.2.2).natAbs < 2 ^ 8000
theorem w10 {x : Int} (h0 : 0 < x) (h1 : x ≤ 10) : x.natAbs < 2 ^ 4 := by
  have : (2 : Nat) ^ 4 = 16 := by decide
  omega
theorem wstep {i : Nat} {s : (Int × Int) × Int} {r : Int × (Int × Int)} (hi : i < 3) (h : WOk i s) (hr : RowOk r) : WStep s r := by
  obtain ⟨r1, r2, r3, r4, r5⟩ := hr
  have hw := w10 r1 r2
  have e1 := abs_lt_mul hw r4
  have e2 := abs_lt_mul h.bb r5
  exact ⟨wide_mul h.bt r5 (by omega) (by omega) (by omega), wide_mul hw r4 (by omega) (by omega) (by omega), wide_mul e1 h.bb (by omega) (by omega) (by omega), wide_mul h.bb r5 (by omega) (by omega) (by omega), Int.mul_pos h.b0 r3, abs_lt_mono e2 (by omega)⟩
theorem wok_succ {i : Nat} {s : (Int × Int) × Int} {r : Int × (Int × Int)} (hi : i < 3) (h : WOk i s) (hr : RowOk r) : WOk (i + 1) (weighS s r) := by
  have st := wstep hi h hr
  obtain ⟨r1, r2, r3, r4, r5⟩ := hr
  have hw := w10 r1 r2
  have e1 := abs_lt_mul (abs_lt_mul hw r4) h.bb
  have e2 := abs_lt_mul h.bb r5
  have e3 := abs_lt_mul h.bt r5
  have e4 := abs_lt_add (a := 2010 * i + 2005) (abs_lt_mono e3 (by omega)) (abs_lt_mono e1 (by omega))
  refine ⟨low_pos st.p, abs_lt_mono (low_b st.p e2) (by omega), abs_lt_mono (low_t e4) (by omega), ?_, ?_⟩
  · show 0 ≤ s.2 + r.1
    have := h.w0
    omega
  · show s.2 + r.1 ≤ 10 * ((i + 1 : Nat) : Int)
    have := h.w1
    omega
theorem wfold : ∀ {rows : List (Int × (Int × Int))} {i : Nat} {s : (Int × Int) × Int}, i + rows.length ≤ 3 → WOk i s → (∀ r ∈ rows, RowOk r) → WOk (i + rows.length) (rows.foldl weighS s)
  | [], i, s, _, h, _ => h
  | r :: rows, i, s, hl, h, hr => by
    rw [List.length_cons] at hl
    have q := wfold (rows := rows) (i := i + 1) (s := weighS s r) (by omega) (wok_succ (by omega) h (hr r List.mem_cons_self)) fun x hx => hr x (List.mem_cons_of_mem _ hx)
    rw [List.length_cons, List.foldl_cons, show i + (rows.length + 1) = i + 1 + rows.length from by omega]
    exact q
theorem wpos : ∀ {rows : List (Int × (Int × Int))} {s : (Int × Int) × Int}, (∀ r ∈ rows, 0 < r.1) → (0 < s.2 ∨ (rows ≠ [] ∧ 0 ≤ s.2)) → 0 < (rows.foldl weighS s).2
  | [], s, _, h => h.resolve_right fun z => z.1 rfl
  | r :: rows, s, hr, h => by
    rw [List.foldl_cons]
    refine wpos (fun x hx => hr x (List.mem_cons_of_mem _ hx)) (.inl ?_)
    have := hr r List.mem_cons_self
    show 0 < s.2 + r.1
    rcases h with h | ⟨_, h⟩ <;> omega
theorem row_get {rows : List (Int × (Int × Int))} {i : Nat} {d : D} (h : (rows.map rowD)[i]? = some d) : ∃ q, rows[i]? = some q ∧ d = rowD q := by
  rw [List.getElem?_map] at h
  cases e : rows[i]? with
  | none => rw [e] at h; cases h
  | some q => rw [e] at h; exact ⟨q, rfl, (Option.some.inj h).symm⟩
abbrev s_weighed : Stmt := top 13
abbrev N_weighed : List Str := ["rows", "top", "bottom", "whole", "weight", "one"]
theorem sc_weighed : FnScope N_weighed ["rows"] (C8.fnScope s_weighed) := C8.fnScope_by (by decide +kernel)
theorem ok_weighed (T : Txt K mg C) (DB : DefB K mg "weighed" s_weighed ["rows"]) (c_lowest : C8.Cal P w K mg base 1 "lowest" (spG C false preLow postLow) []) : C8.Cal P w K mg base 2 "weighed" (spG C false preRows postRows) [] := by
  refine cal_ok DB sc_weighed (fun L ds n hp => ?_) fun f cdv A outer sh H E hr => ?_
  · obtain ⟨t, rfl, _⟩ := hp; rfl
  have nd := sc_weighed.nd
  refine ⟨_, (pss_cons (ps_asg (pe_tup (pa_cons pe_int (pa_cons pe_int (pa_cons pe_int pa_nil)))) (pg_tupK (n := 3) K rfl (pgs_cons (pg_name (i := 1) nd rfl (Or.inl rfl)) (pgs_cons (pg_name (i := 2) nd rfl (Or.inl rfl)) (pgs_cons (pg_name (i := 3) nd rfl (Or.inl rfl)) pgs_nil)))))
    (pss_cons (ps_for PassesOwn.never rfl (pi_listK K (pv 0)) (pg_tupK (n := 2) K rfl (pgs_cons (pg_name (i := 4) nd rfl (Or.inl rfl)) (pgs_cons (pg_name (i := 5) nd rfl (Or.inl rfl)) pgs_nil)))
      (pss_cons (ps_asg (C8.pe_c c_lowest hr (by decide) (by rfl) (pa_cons (pe_op op_add (pe_op op_mulW (pv 1) (pe_ix (r := rIxT K) ix_tup (pv 5) pe_int (fun _ _ => rfl))) (pe_op op_mulW (pe_op op_mulW (pv 4) (pe_ix (r := rIxT K) ix_tup (pv 5) pe_int (fun _ _ => rfl))) (pv 2))) (pa_cons (pe_op op_mulW (pv 2) (pe_ix (r := rIxT K) ix_tup (pv 5) pe_int (fun _ _ => rfl))) pa_nil))) (pg_tupK (n := 2) K rfl (pgs_cons (pg_name (i := 1) nd rfl (Or.inl rfl)) (pgs_cons (pg_name (i := 2) nd rfl (Or.inl rfl)) pgs_nil))))
      (pss_one (ps_set (i := 3) nd rfl (Or.inl rfl) (pe_op op_add (pv 3) (pv 4))))))
    (pss_one (ps_ret (C8.pe_c c_lowest hr (by decide) (by rfl) (pa_cons (pv 1) (pa_cons (pe_op op_mulW (pv 2) (pv 3)) pa_nil))))))), fun sa ca L F0 H0 ds n hp => ?_⟩
  obtain ⟨rows, rfl, hne, hlen, hok⟩ := hp
  repeat walk_at "gw"
  refine ws_forP ?_
  repeat walk_at "gw"
  refine ⟨fun i l _ => ∃ s x y, s = (rows.take i).foldl weighS ((0, 1), 0) ∧ l = [.sh (.lst (rows.map rowD)), .sh (.int s.1.1), .sh (.int s.1.2), .sh (.int s.2), x, y], ⟨_, _, _, rfl, rfl⟩, ?_, ?_⟩
  · rintro i d l1 n1 hi ⟨s, x, y, hs, rfl⟩
    obtain ⟨q, hq, rfl⟩ := row_get hi
    have hil := (List.getElem?_eq_some_iff.mp hq).1
    have hi3 : i < 3 := by omega
    have hqo := hok q (List.mem_of_getElem? hq)
    have hw : WOk i s := by
      have z := wfold (rows := rows.take i) (i := 0) (by rw [List.length_take]; omega) wok_zero fun r hr => hok r (List.mem_of_mem_take hr)
      rw [← hs, List.length_take, Nat.min_eq_left (by omega), Nat.zero_add] at z
      exact z
    obtain ⟨m1, m2, m3, m4, p1, p2⟩ := wstep hi3 hw hqo
    repeat walk_at "gw"
    refine ⟨⟨_, _, rfl, p1, p2⟩, ?_⟩
    rintro d n2 H' _ ⟨t', b', he, rfl⟩
    simp only [List.cons.injEq, D.int.injEq, and_true] at he
    obtain ⟨rfl, rfl⟩ := he
    repeat walk_at "gw"
    refine ⟨weighS s q, _, _, ?_, rfl⟩
    rw [List.take_add_one, hq, hs]
    simp [List.foldl_append]
  · rintro l1 n1 ⟨s, x, y, hs, rfl⟩
    rw [List.length_map, List.take_length] at hs
    have hw : WOk rows.length s := by
      have z := wfold (rows := rows) (i := 0) (by omega) wok_zero hok
      rw [← hs, Nat.zero_add] at z
      exact z
    have h2 : 0 < s.2 := by
      rw [hs]
      exact wpos (fun r hr => (hok r hr).1) (.inr ⟨hne, by decide⟩)
    have h3 : s.2.natAbs < 2 ^ 6 := by
      have := hw.w1
      have : (2 : Nat) ^ 6 = 64 := by decide
      omega
    have m := wide_mul hw.bb h3 (by omega) (by omega) (by omega)
    have p := Int.mul_pos hw.b0 h2
    have p2 : (s.1.2 * s.2).natAbs < 2 ^ 8000 := abs_lt_mono (abs_lt_mul hw.bb h3) (by omega)
    repeat walk_at "gw"
    refine ⟨⟨_, _, rfl, p, p2⟩, ?_⟩
    rintro d n2 H' _ ⟨t', b', he, rfl⟩
    simp only [List.cons.injEq, D.int.injEq, and_true] at he
    obtain ⟨rfl, rfl⟩ := he
    refine ⟨rows, rfl, ?_⟩
    rw [hs]
    rfl
end
end Gw

/-! The law's own fractions. -/
namespace Gw
open PySem L2
local macro_rules | `(tactic| walk_at "gw") => `(tactic| first
  | (with_reducible refine ws_seq ?_)
  | (with_reducible refine ws_ret ?_)
  | (with_reducible refine ws_newl ?_)
  | (with_reducible refine ws_newd ?_)
  | (with_reducible refine ws_set ?_)
  | (with_reducible refine ws_par3 ?_)
  | (with_reducible refine ws_par ?_)
  | (with_reducible refine ws_if ?_)
  | (with_reducible refine ws_next ?_)
  | (with_reducible refine ws_cont ?_)
  | (with_reducible refine ws_asgP ?_)
  | (with_reducible refine ws_asgP3 ?_)
  | ((with_reducible refine' ws_app ?h ?_); (case h => rfl))
  | ((with_reducible refine' ws_clear ?h ?_); (case h => rfl))
  | ((with_reducible refine' ws_dput ?h ?_); (case h => rfl))
  | (with_reducible refine ws_drop ?_)
  | ((with_reducible refine' we_var ?h ?_); (case h => rfl))
  | (with_reducible refine we_int ?_)
  | (with_reducible refine we_str ?_)
  | (with_reducible refine we_bl ?_)
  | (with_reducible refine we_non ?_)
  | (with_reducible refine we_ty ?_)
  | ((with_reducible refine' we_ixM ?h ?e ?_); (case h => rfl); (case e => exact atI_last _ _))
  | ((with_reducible refine' we_ixO ?h ?_); (case h => rfl))
  | (with_reducible refine we_neg ?_)
  | (with_reducible refine we_op ?_)
  | (with_reducible refine ro_I0 ?_)
  | (with_reducible refine ro_B0 ?_)
  | ((with_reducible refine ro_I ?h ?_); (case h => first | assumption | omega))
  | ((with_reducible refine' ro_ixT ?h ?_); (case h => rfl))
  | (with_reducible refine ro_inT2 ?_)
  | (with_reducible refine ro_ninT2 ?_)
  | (with_reducible refine ro_eqS ?_)
  | (with_reducible refine ro_neS ?_)
  | (with_reducible refine ro_eqI ?_)
  | (with_reducible refine ro_neI ?_)
  | (with_reducible refine ro_eqB ?_)
  | (with_reducible refine ro_notNon ?_)
  | (with_reducible refine ro_neB ?_)
  | ((with_reducible refine' we_dgetO ?h ?_); (case h => rfl))
  | ((with_reducible refine' we_dinO ?h ?_); (case h => rfl))
  | ((with_reducible refine' we_dnotinO ?h ?_); (case h => rfl))
  | (with_reducible refine we_dget ?_)
  | (with_reducible refine we_din ?_)
  | (with_reducible refine we_dnotin ?_)
  | ((with_reducible refine we_tup ?_))
  | ((with_reducible refine we_lst ?_))
  | (with_reducible refine wa_cons ?_)
  | (with_reducible refine wa_nil ?_)
  | (with_reducible refine we_cb ?_)
  | (with_reducible refine we_chain ?_)
  | (with_reducible refine we_if ?_)
  | (with_reducible refine we_andV ?_)
  | (with_reducible refine we_orV ?_)
  | (with_reducible refine we_notV ?_)
  | (with_reducible refine wt_test ?_)
  | (with_reducible refine wt_B ?_)
  | (with_reducible refine wt_not ?_)
  | (with_reducible refine wt_and ?_)
  | (with_reducible refine wt_or ?_)
  | (with_reducible refine wt_ifT ?_)
  | (with_reducible refine we_call ?_)
  | ((with_reducible refine' we_callS ?h ?_); (case h => rfl))
  | ((with_reducible refine' we_meth ?h ?_); (case h => decide +kernel))
  | (with_reducible refine rc_abs ?_)
  | (with_reducible refine rc_int ?_)
  | (with_reducible refine rc_lenL ?_)
  | (with_reducible refine rc_lenT ?_)
  | (with_reducible refine rc_lenD ?_)
  | (with_reducible refine rc_lenLS ?_)
  | (with_reducible refine rc_sum ?_)
  | (with_reducible refine rc_tupT ?_)
  | ((with_reducible refine' rc_isi ?ht ?hb ?_); (case ht => rfl); (case hb => first | exact kb_int_int | exact kb_int_bool | exact kb_int_list | exact kb_int_tuple | exact kb_str_str | exact kb_dict_dict | exact kb_list_list | exact kb_list_tuple | exact kb_tuple_list | exact kb_tuple_tuple | exact kb_bool_int | exact kb_bool_bool))
  | ((with_reducible refine' rc_isiT ?ht ?h1 ?h2 ?_); (case ht => rfl); (case h1 => first | exact kb_int_int | exact kb_int_bool | exact kb_int_list | exact kb_int_tuple | exact kb_str_str | exact kb_dict_dict | exact kb_list_list | exact kb_list_tuple | exact kb_tuple_list | exact kb_tuple_tuple | exact kb_bool_int | exact kb_bool_bool); (case h2 => first | exact kb_int_int | exact kb_int_bool | exact kb_int_list | exact kb_int_tuple | exact kb_str_str | exact kb_dict_dict | exact kb_list_list | exact kb_list_tuple | exact kb_tuple_list | exact kb_tuple_tuple | exact kb_bool_int | exact kb_bool_bool))
  | (with_reducible refine rc_allT ?_)
  | (with_reducible refine rc_anyF ?_)
  | (with_reducible refine rc_all ?_)
  | (with_reducible refine rc_any ?_)
  | (with_reducible refine rc_listD ?_)
  | (with_reducible refine rc_dictD fun _ _ => ?_)
  | (with_reducible refine we_rev ?_)
  | (with_reducible refine we_slL ?_)
  | (with_reducible refine wo_no ?_)
  | (with_reducible refine wo_part ?_)
  | (with_reducible refine we_listVals ?_)
  | ((with_reducible refine' we_fld ?hc ?hn ?_); (case hc => assumption); (case hn => assumption))
  | (with_reducible refine wi_list ?_)
  | (with_reducible refine wi_range1 ?_)
  | (with_reducible refine wi_str ?_)
  | (with_reducible refine wi_enum ?_)
  | (with_reducible refine wg_name ?_)
  | (with_reducible refine wg_two ?_)
  | (refine ⟨Nat.le_of_ble_eq_true rfl, ?_⟩)
  | (refine ⟨_, rfl, ?_⟩)
  | (refine ⟨_, _, rfl, ?_⟩)
  | (refine ⟨_, _, _, rfl, rfl, ?_⟩)
  | (refine ⟨_, _, _, rfl, ?_⟩)
  | (refine ⟨fun _ => ?_, fun z => Bool.noConfusion z⟩)
  | (refine ⟨fun z => Bool.noConfusion z, fun _ => ?_⟩)
  | (refine ⟨fun _ => ?_, fun z => absurd z (by decide +kernel)⟩)
  | (refine ⟨fun z => absurd z (by decide +kernel), fun _ => ?_⟩))
section
variable {P : Program} {w : World} {K : PySem.W.Frag} {mg : Str → Option Value} {base : Heap} {C : Addr}
abbrev s__law_t_lowest : Stmt := top 43
abbrev N__law_t_lowest : List Str := ["_law_top", "_law_bottom", "_law_one", "_law_other"]
theorem sc__law_t_lowest : FnScope N__law_t_lowest ["_law_top", "_law_bottom"] (C8.fnScope s__law_t_lowest) := C8.fnScope_by (by decide +kernel)
theorem ok__law_t_lowest (T : Txt K mg C) (DB : DefB K mg "_law_t_lowest" s__law_t_lowest ["_law_top", "_law_bottom"]) : C8.Cal P w K mg base 1 "_law_t_lowest" (spG C false preLow postLow) [] := by
  refine cal_ok DB sc__law_t_lowest (fun L ds n hp => ?_) fun f cdv A outer sh H E hr => ?_
  · obtain ⟨t, b, rfl, _⟩ := hp; rfl
  have nd := sc__law_t_lowest.nd
  refine ⟨_, (pss_cons (ps_par (i := 2) (j := 3) rfl nd rfl rfl (by decide) rfl rfl (pa_cons (pe_callB (r := cAbs) call_abs1 (by rfl) T.n_abs (by decide +kernel) (pa_cons (pv 0) pa_nil)) (pa_cons (pv 1) pa_nil)) rfl)
    (pss_cons (ps_while PassesOwn.never (pt_cmpR op_gt (pv 3) pe_int (nomark _))
      (pss_one (ps_par (i := 2) (j := 3) rfl nd rfl rfl (by decide) rfl rfl (pa_cons (pv 3) (pa_cons (pe_op op_mod (pe_callTy (T := "int") (r := cInt) call_int2 (by rfl) T.n_int (by decide +kernel) (pa_cons (pv 2) pa_nil)) (pv 3)) pa_nil)) rfl)))
    (pss_one (ps_ret (pe_tup (pa_cons (pe_op op_fdivW (pv 0) (pv 2)) (pa_cons (pe_op op_fdivW (pv 1) (pv 2)) pa_nil))))))), fun sa ca L F0 H0 ds n hp => ?_⟩
  obtain ⟨t, b, rfl, hb, hb2⟩ := hp
  repeat walk_at "gw"
  refine ws_while (fun m l _ => ∃ x y : Int, l = [.sh (.int t), .sh (.int b), .sh (.int x), .sh (.int y)] ∧ 0 ≤ y ∧ 0 ≤ x ∧ m = y.toNat ∧ Int.gcd x y = Int.gcd t b) (m0 := b.toNat) ⟨_, b, rfl, by omega, by split <;> omega, rfl, ?_⟩ ?_
  · split
    · exact Int.neg_gcd ..
    · rfl
  rintro m l1 n1 ⟨x, y, rfl, hy, hx, rfl, hg⟩
  repeat walk_at "gw"
  refine ⟨fun hc => ?_, fun hc => ?_⟩
  · have hy0 : 0 < y := of_decide_eq_true hc
    repeat walk_at "gw"
    have hm := Int.emod_lt_of_pos x hy0
    have hn := Int.emod_nonneg x (show y ≠ 0 by omega)
    refine ⟨(x % y).toNat, by omega, y, x % y, rfl, hn, by omega, rfl, ?_⟩
    rw [← hg, gcd_step hx hy0]
  · have hy0 : y = 0 := by
      have := of_decide_eq_false hc
      omega
    subst hy0
    have hx' : x = (Int.gcd t b : Int) := by
      rw [← hg, Int.gcd_zero_right]
      omega
    subst hx'
    obtain ⟨g1, g2⟩ := gcd_wide (t := t) hb hb2
    repeat walk_at "gw"
    rfl
abbrev s__law_t_less : Stmt := top 44
abbrev N__law_t_less : List Str := ["_law_one", "_law_other"]
theorem sc__law_t_less : FnScope N__law_t_less ["_law_one", "_law_other"] (C8.fnScope s__law_t_less) := C8.fnScope_by (by decide +kernel)
theorem ok__law_t_less (T : Txt K mg C) (DB : DefB K mg "_law_t_less" s__law_t_less ["_law_one", "_law_other"]) : C8.Cal P w K mg base 1 "_law_t_less" (spG C false preTwoQ postLess) [] := by
  refine cal_ok DB sc__law_t_less (fun L ds n hp => ?_) fun f cdv A outer sh H E hr => ?_
  · obtain ⟨t, b, rfl, _⟩ := hp; rfl
  have nd := sc__law_t_less.nd
  refine ⟨_, (pss_one (ps_ret (pe_cmpR op_lt (pe_op op_mulW (pe_ix (r := rIxT K) ix_tup (pv 0) pe_int (fun _ _ => rfl)) (pe_ix (r := rIxT K) ix_tup (pv 1) pe_int (fun _ _ => rfl))) (pe_op op_mulW (pe_ix (r := rIxT K) ix_tup (pv 1) pe_int (fun _ _ => rfl)) (pe_ix (r := rIxT K) ix_tup (pv 0) pe_int (fun _ _ => rfl))) (nomark _)))), fun sa ca L F0 H0 ds n hp => ?_⟩
  obtain ⟨p, q, rfl, hb, hb2⟩ := hp
  obtain ⟨g1, g2⟩ := big_mul hb hb2
  repeat walk_at "gw"
  rfl
/-! the mean, reckoned without lowering on the way -/
def meanS (s : Int × Int) (r : Int × (Int × Int)) : Int × Int := (s.1 * r.2.2 + r.1 * r.2.1 * s.2, s.2 * r.2.2)
def meanF (rows : List (Int × (Int × Int))) : Int × Int :=
  let s := rows.foldl meanS (0, 1)
  low s.1 (s.2 * (rows.map fun r => r.1).sum)
def postMean : Hp → List D → Nat → D → Nat → Prop := fun _ ds _ d _ => ∃ rows : List (Int × (Int × Int)), ds = [.lst (rows.map rowD)] ∧ d = fr (meanF rows)
structure MOk (i : Nat) (s : Int × Int) : Prop where
  b0 : 0 < s.2
  bb : s.2.natAbs < 2 ^ (2000 * i + 1)
  bt : s.1.natAbs < 2 ^ (2010 * i + 1)
theorem mok_zero : MOk 0 (0, 1) := ⟨by decide, by decide, by decide⟩
structure MStep (s : Int × Int) (r : Int × (Int × Int)) : Prop where
  m1 : CMulW s.1 r.2.2
  m2 : CMulW r.1 r.2.1
  m3 : CMulW (r.1 * r.2.1) s.2
  m4 : CMulW s.2 r.2.2
theorem mstep {i : Nat} {s : Int × Int} {r : Int × (Int × Int)} (hi : i < 3) (h : MOk i s) (hr : RowOk r) : MStep s r := by
  obtain ⟨r1, r2, r3, r4, r5⟩ := hr
  have hw := w10 r1 r2
  have e1 := abs_lt_mul hw r4
  exact ⟨wide_mul h.bt r5 (by omega) (by omega) (by omega), wide_mul hw r4 (by omega) (by omega) (by omega), wide_mul e1 h.bb (by omega) (by omega) (by omega), wide_mul h.bb r5 (by omega) (by omega) (by omega)⟩
theorem mok_succ {i : Nat} {s : Int × Int} {r : Int × (Int × Int)} (hi : i < 3) (h : MOk i s) (hr : RowOk r) : MOk (i + 1) (meanS s r) := by
  obtain ⟨r1, r2, r3, r4, r5⟩ := hr
  have hw := w10 r1 r2
  have e1 := abs_lt_mul (abs_lt_mul hw r4) h.bb
  have e2 := abs_lt_mul h.bb r5
  have e3 := abs_lt_mul h.bt r5
  have e4 := abs_lt_add (a := 2010 * i + 2005) (abs_lt_mono e3 (by omega)) (abs_lt_mono e1 (by omega))
  exact ⟨Int.mul_pos h.b0 r3, abs_lt_mono e2 (by omega), abs_lt_mono e4 (by omega)⟩
theorem mfold : ∀ {rows : List (Int × (Int × Int))} {i : Nat} {s : Int × Int}, i + rows.length ≤ 3 → MOk i s → (∀ r ∈ rows, RowOk r) → MOk (i + rows.length) (rows.foldl meanS s)
  | [], i, s, _, h, _ => h
  | r :: rows, i, s, hl, h, hr => by
    rw [List.length_cons] at hl
    have q := mfold (rows := rows) (i := i + 1) (s := meanS s r) (by omega) (mok_succ (by omega) h (hr r List.mem_cons_self)) fun x hx => hr x (List.mem_cons_of_mem _ hx)
    rw [List.length_cons, List.foldl_cons, show i + (rows.length + 1) = i + 1 + rows.length from by omega]
    exact q
theorem wsum_pos : ∀ {rows : List (Int × (Int × Int))}, rows ≠ [] → (∀ r ∈ rows, RowOk r) → 0 < (rows.map fun r => r.1).sum ∧ (rows.map fun r => r.1).sum ≤ 10 * rows.length
  | [], h, _ => absurd rfl h
  | [r], _, hr => by
    obtain ⟨r1, r2, _⟩ := hr r List.mem_cons_self
    simp
    omega
  | r :: q :: rows, _, hr => by
    obtain ⟨r1, r2, _⟩ := hr r List.mem_cons_self
    have ih := wsum_pos (rows := q :: rows) (by simp) fun x hx => hr x (List.mem_cons_of_mem _ hx)
    rw [List.map_cons, List.sum_cons, List.length_cons]
    omega
def fstD : D → D
  | .tup (x :: _) => x
  | _ => .non
abbrev s__law_t_mean : Stmt := top 45
abbrev N__law_t_mean : List Str := ["_law_rows", "_law_top", "_law_bottom", "_law_weight", "_law_one"]
theorem sc__law_t_mean : FnScope N__law_t_mean ["_law_rows"] (C8.fnScope s__law_t_mean) := C8.fnScope_by (by decide +kernel)
theorem ok__law_t_mean (T : Txt K mg C) (DB : DefB K mg "_law_t_mean" s__law_t_mean ["_law_rows"]) (c__law_t_lowest : C8.Cal P w K mg base 1 "_law_t_lowest" (spG C false preLow postLow) []) : C8.Cal P w K mg base 2 "_law_t_mean" (spG C false preRows postMean) [] := by
  refine cal_ok DB sc__law_t_mean (fun L ds n hp => ?_) fun f cdv A outer sh H E hr => ?_
  · obtain ⟨t, rfl, _⟩ := hp; rfl
  have nd := sc__law_t_mean.nd
  refine ⟨_, (pss_cons (ps_asg (pe_tup (pa_cons pe_int (pa_cons pe_int pa_nil))) (pg_tupK (n := 2) K rfl (pgs_cons (pg_name (i := 1) nd rfl (Or.inl rfl)) (pgs_cons (pg_name (i := 2) nd rfl (Or.inl rfl)) pgs_nil))))
    (pss_cons (ps_for PassesOwn.never rfl (pi_listK K (pv 0)) (pg_tupK (n := 2) K rfl (pgs_cons (pg_name (i := 3) nd rfl (Or.inl rfl)) (pgs_cons (pg_name (i := 4) nd rfl (Or.inl rfl)) pgs_nil)))
      (pss_cons (ps_set (i := 1) nd rfl (Or.inl rfl) (pe_op op_add (pe_op op_mulW (pv 1) (pe_ix (r := rIxT K) ix_tup (pv 4) pe_int (fun _ _ => rfl))) (pe_op op_mulW (pe_op op_mulW (pv 3) (pe_ix (r := rIxT K) ix_tup (pv 4) pe_int (fun _ _ => rfl))) (pv 2))))
      (pss_one (ps_set (i := 2) nd rfl (Or.inl rfl) (pe_op op_mulW (pv 2) (pe_ix (r := rIxT K) ix_tup (pv 4) pe_int (fun _ _ => rfl)))))))
    (pss_one (ps_ret (C8.pe_c c__law_t_lowest hr (by decide) (by rfl) (pa_cons (pv 1) (pa_cons (pe_op op_mulW (pv 2) (pe_callB (r := rSum K) (cr_sum rfl) (by rfl) T.n_sum (by decide +kernel) (pa_cons (pe_lc (own := [("_law_weight", 3), ("_law_one", 4)]) rfl nd (pi_listK K (pv 0)) (blkOk_by (own := [("_law_weight", 3), ("_law_one", 4)]) (N := N__law_t_mean) (sc := C8.fnScope s__law_t_mean) (by decide +kernel)) (fun _ _ _ _ _ => pg_tupK (n := 2) K rfl (pgs_cons (pg_name (i := 3) nd rfl (Or.inl rfl)) (pgs_cons (pg_name (i := 4) nd rfl (Or.inl rfl)) pgs_nil))) (fun _ _ _ _ _ => pts_nil) (fun _ _ _ _ _ => (pv 3))) pa_nil))) pa_nil))))))), fun sa ca L F0 H0 ds n hp => ?_⟩
  obtain ⟨rows, rfl, hne, hlen, hok⟩ := hp
  repeat walk_at "gw"
  refine ws_forP ?_
  repeat walk_at "gw"
  refine ⟨fun i l _ => ∃ s x y, s = (rows.take i).foldl meanS (0, 1) ∧ l = [.sh (.lst (rows.map rowD)), .sh (.int s.1), .sh (.int s.2), x, y], ⟨_, _, _, rfl, rfl⟩, ?_, ?_⟩
  · rintro i d l1 n1 hi ⟨s, x, y, hs, rfl⟩
    obtain ⟨q, hq, rfl⟩ := row_get hi
    have hil := (List.getElem?_eq_some_iff.mp hq).1
    have hi3 : i < 3 := by omega
    have hqo := hok q (List.mem_of_getElem? hq)
    have hw : MOk i s := by
      have z := mfold (rows := rows.take i) (i := 0) (by rw [List.length_take]; omega) mok_zero fun r hr => hok r (List.mem_of_mem_take hr)
      rw [← hs, List.length_take, Nat.min_eq_left (by omega), Nat.zero_add] at z
      exact z
    obtain ⟨m1, m2, m3, m4⟩ := mstep hi3 hw hqo
    repeat walk_at "gw"
    refine ⟨meanS s q, _, _, ?_, rfl⟩
    rw [List.take_add_one, hq, hs]
    simp [List.foldl_append]
  · rintro l1 n1 ⟨s, x, y, hs, rfl⟩
    rw [List.length_map, List.take_length] at hs
    have hw : MOk rows.length s := by
      have z := mfold (rows := rows) (i := 0) (by omega) mok_zero hok
      rw [← hs, Nat.zero_add] at z
      exact z
    obtain ⟨h2, h2b⟩ := wsum_pos hne hok
    have h3 : ((rows.map (fun r : Int × (Int × Int) => r.1)).sum).natAbs < 2 ^ 6 := by
      have : (2 : Nat) ^ 6 = 64 := by decide
      omega
    have m := wide_mul hw.bb h3 (by omega) (by omega) (by omega)
    have p := Int.mul_pos hw.b0 h2
    have p2 : (s.2 * (rows.map fun r => r.1).sum).natAbs < 2 ^ 8000 := abs_lt_mono (abs_lt_mul hw.bb h3) (by omega)
    repeat walk_at "gw"
    refine we_mapP (f := fstD) (by decide) (by decide) ?_
    repeat walk_at "gw"
    refine ⟨by rw [List.length_map]; omega, fun z hz => ?_, (rows.map fun r => r.1).map D.int, ?_, ?_⟩
    · obtain ⟨r, hr, rfl⟩ := List.mem_map.mp hz
      repeat walk_at "gw"
      exact ⟨rfl, rfl⟩
    · rw [List.map_map, List.map_map]; rfl
    repeat walk_at "gw"
    refine ⟨⟨_, _, rfl, p, p2⟩, ?_⟩
    rintro d n2 H' _ ⟨t', b', he, rfl⟩
    simp only [List.cons.injEq, D.int.injEq, and_true] at he
    obtain ⟨rfl, rfl⟩ := he
    refine ⟨rows, rfl, ?_⟩
    rw [hs]
    rfl
abbrev s__law_t_best : Stmt := top 46
abbrev N__law_t_best : List Str := ["_law_some", "_law_is_ours", "_law_found", "_law_one"]
theorem sc__law_t_best : FnScope N__law_t_best ["_law_some", "_law_is_ours"] (C8.fnScope s__law_t_best) := C8.fnScope_by (by decide +kernel)
def preBest : List Addr → List D → Nat → Prop := fun _ ds _ => ∃ (qs : List (Int × Int)) (b : Bool), ds = [.lst (qs.map fr), .bl b] ∧ qs ≠ [] ∧ qs.length ≤ 1000 ∧ ∀ q ∈ qs, Big q
def postBest : Hp → List D → Nat → D → Nat → Prop := fun _ ds _ d _ => ∃ (qs : List (Int × Int)) (b : Bool), ds = [.lst (qs.map fr), .bl b] ∧ d = fr (if b then topQ qs else botQ qs)
def bestS (b : Bool) (best one : Int × Int) : Int × Int := if (if b then lessQ best one else lessQ one best) then one else best
theorem bestS_fold (b : Bool) (q0 : Int × Int) (r : List (Int × Int)) : (q0 :: r).foldl (bestS b) q0 = if b then topQ (q0 :: r) else botQ (q0 :: r) := by
  cases b <;> rfl
theorem best_big {b : Bool} : ∀ {l : List (Int × Int)} {a : Int × Int}, Big a → (∀ q ∈ l, Big q) → Big (l.foldl (bestS b) a)
  | [], a, h, _ => h
  | q :: r, a, h, hl => by
    rw [List.foldl_cons]
    refine best_big ?_ fun x hx => hl x (List.mem_cons_of_mem _ hx)
    have h2 := hl q List.mem_cons_self
    rcases (show bestS b a q = q ∨ bestS b a q = a from by unfold bestS; generalize (if b = true then lessQ a q else lessQ q a) = z; cases z; exact .inr rfl; exact .inl rfl) with e | e
    · rw [e]; exact h2
    · rw [e]; exact h
theorem ok__law_t_best (T : Txt K mg C) (DB : DefB K mg "_law_t_best" s__law_t_best ["_law_some", "_law_is_ours"]) (c__law_t_less : C8.Cal P w K mg base 1 "_law_t_less" (spG C false preTwoQ postLess) []) : C8.Cal P w K mg base 2 "_law_t_best" (spG C false preBest postBest) [] := by
  refine cal_ok DB sc__law_t_best (fun L ds n hp => ?_) fun f cdv A outer sh H E hr => ?_
  · obtain ⟨t, b, rfl, _⟩ := hp; rfl
  have nd := sc__law_t_best.nd
  refine ⟨_, (pss_cons (ps_set (i := 2) nd rfl (Or.inl rfl) (pe_ix (r := rIxL K) ix_list (pv 0) pe_int (fun _ _ => rfl)))
    (pss_cons (ps_for PassesOwn.never rfl (pi_listK K (pv 0)) (pg_name (i := 3) nd rfl (Or.inl rfl))
      (pss_one (ps_if (pt_ifExp (pt_val (pv 1)) (pt_val (C8.pe_c c__law_t_less hr (by decide) (by rfl) (pa_cons (pv 2) (pa_cons (pv 3) pa_nil)))) (pt_val (C8.pe_c c__law_t_less hr (by decide) (by rfl) (pa_cons (pv 3) (pa_cons (pv 2) pa_nil))))) (pss_one (ps_set (i := 2) nd rfl (Or.inl rfl) (pv 3))) pss_nil)))
    (pss_one (ps_ret (pv 2))))), fun sa ca L F0 H0 ds n hp => ?_⟩
  obtain ⟨qs, b, rfl, hne, hlen, hbig⟩ := hp
  cases qs with
  | nil => exact absurd rfl hne
  | cons q0 r =>
  repeat walk_at "gw"
  refine ro_ixL (d := fr q0) (atD (z := 0) (j := 0) rfl rfl) ?_
  repeat walk_at "gw"
  refine ws_forN ?_
  repeat walk_at "gw"
  refine ⟨fun i l _ => ∃ x, l = [.sh (.lst ((q0 :: r).map fr)), .sh (.bl b), .sh (fr (((q0 :: r).take i).foldl (bestS b) q0)), x], ⟨_, rfl⟩, ?_, ?_⟩
  · rintro i d l1 n1 hi ⟨x, rfl⟩
    obtain ⟨q, hq, rfl⟩ := fr_get hi
    have h1 : Big (((q0 :: r).take i).foldl (bestS b) q0) := best_big (hbig _ List.mem_cons_self) fun z hz => hbig z (List.mem_of_mem_take hz)
    have h2 := hbig _ (List.mem_of_getElem? hq)
    have ht : (q0 :: r).take (i + 1) = (q0 :: r).take i ++ [q] := by rw [List.take_add_one, hq]; rfl
    repeat walk_at "gw"
    refine ⟨fun hb => ?_, fun hb => ?_⟩
    all_goals
      subst hb
      repeat walk_at "gw"
      first
        | refine ⟨⟨_, _, rfl, h1, h2⟩, ?_⟩
        | refine ⟨⟨_, _, rfl, h2, h1⟩, ?_⟩
      rintro d n2 H' _ ⟨p', q', he, rfl⟩
      obtain ⟨rfl, rfl⟩ := fr_inj2 he
      repeat walk_at "gw"
      refine ⟨fun hb => ?_, fun hb => ?_⟩
      · repeat walk_at "gw"
        refine ⟨.sh (fr q), ?_⟩
        rw [ht, List.foldl_append, List.foldl_cons, List.foldl_nil]
        conv => rhs; simp only [bestS, hb]
        rfl
      · repeat walk_at "gw"
        refine ⟨.sh (fr q), ?_⟩
        rw [ht, List.foldl_append, List.foldl_cons, List.foldl_nil]
        conv => rhs; simp only [bestS, hb]
        rfl
  · rintro l1 n1 ⟨x, rfl⟩
    repeat walk_at "gw"
    rw [List.length_map, List.take_length, bestS_fold]
end
end Gw

/-! Games as data. -/
namespace Gw
open PySem L2

inductive Nd where
  | mv (o : Bool) (ms : List (Str × Str))
  | ch (ls : List (Str × Int))
  | en (q : Int × Int)
abbrev Gm := List (Str × Nd)
def sideS (o : Bool) : Str := if o then "ours" else "theirs"
def mvD (ms : List (Str × Str)) : List (Str × D) := ms.map fun q => (q.1, D.str q.2)
abbrev lotD (q : Str × Int) : D := .tup [.str q.1, .int q.2]
abbrev word : Nd → Str
  | .mv o _ => sideS o
  | .ch _ => "chance"
  | .en _ => "end"
abbrev restD (a : Addr) : Nd → D
  | .mv _ ms => .dct (some a) (mvD ms)
  | .ch ls => .lst (ls.map lotD)
  | .en q => fr q
abbrev nodeD (a : Addr) (x : Nd) : D := .tup [.str (word x), restD a x]
def gkv (ad : Str → Addr) (G : Gm) : List (Str × D) := G.map fun q => (q.1, nodeD (ad q.1) q.2)
abbrev gameD (g : Addr) (ad : Str → Addr) (G : Gm) : D := .dct (some g) (gkv ad G)
def names (G : Gm) : List Str := G.map (·.1)
def nodeAt : Gm → Str → Option Nd
  | [], _ => none
  | q :: r, n => if q.1 = n then some q.2 else nodeAt r n
def lkp : List (Str × Str) → Str → Option Str
  | [], _ => none
  | q :: r, n => if q.1 = n then some q.2 else lkp r n
theorem lk_mvD : ∀ (ms : List (Str × Str)) (n : Str), lk (mvD ms) n = (lkp ms n).map D.str
  | [], n => rfl
  | q :: r, n => by
    unfold lkp
    split
    · rename_i h
      exact lk_pos (q := (q.1, D.str q.2)) h
    · rename_i h
      exact (lk_neg (q := (q.1, D.str q.2)) h).trans (lk_mvD r n)
theorem lk_gkv (ad : Str → Addr) : ∀ (G : Gm) (n : Str), lk (gkv ad G) n = (nodeAt G n).map (nodeD (ad n))
  | [], n => rfl
  | q :: r, n => by
    unfold nodeAt
    split
    · rename_i h
      subst h
      exact lk_pos (q := (q.1, nodeD (ad q.1) q.2)) rfl
    · rename_i h
      exact (lk_neg (q := (q.1, nodeD (ad q.1) q.2)) h).trans (lk_gkv ad r n)
theorem nodeAt_mem : ∀ {G : Gm} {n : Str} {x : Nd}, nodeAt G n = some x → (n, x) ∈ G
  | q :: r, n, x, h => by
    unfold nodeAt at h
    split at h
    · rename_i e
      cases h
      subst e
      exact List.mem_cons_self
    · exact List.mem_cons_of_mem _ (nodeAt_mem h)
theorem nodeAt_of {G : Gm} {n : Str} (h : n ∈ names G) : ∃ x, nodeAt G n = some x := by
  induction G with
  | nil => cases h
  | cons q r ih =>
    unfold nodeAt
    split
    · exact ⟨_, rfl⟩
    · rename_i e
      rcases List.mem_cons.mp h with h | h
      · exact absurd h.symm e
      · exact ih h
theorem names_mem {G : Gm} {n : Str} {x : Nd} (h : (n, x) ∈ G) : n ∈ names G := List.mem_map.mpr ⟨_, h, rfl⟩
theorem nodeAt_eq : ∀ {G : Gm} {n : Str} {x : Nd}, (names G).Nodup → (n, x) ∈ G → nodeAt G n = some x
  | q :: r, n, x, hn, h => by
    have hn' : (q.1 :: names r).Nodup := hn
    unfold nodeAt
    rcases List.mem_cons.mp h with h | h
    · subst h
      rw [if_pos rfl]
    · rw [if_neg fun e => (List.nodup_cons.mp hn').1 (by rw [e]; exact names_mem h)]
      exact nodeAt_eq (List.nodup_cons.mp hn').2 h
theorem lkp_mem : ∀ {ms : List (Str × Str)} {n x : Str}, lkp ms n = some x → (n, x) ∈ ms
  | q :: r, n, x, h => by
    unfold lkp at h
    split at h
    · rename_i e
      cases h
      subst e
      exact List.mem_cons_self
    · exact List.mem_cons_of_mem _ (lkp_mem h)
theorem lkp_of {ms : List (Str × Str)} {n : Str} (h : n ∈ ms.map (·.1)) : ∃ x, lkp ms n = some x := by
  induction ms with
  | nil => cases h
  | cons q r ih =>
    unfold lkp
    split
    · exact ⟨_, rfl⟩
    · rename_i e
      rcases List.mem_cons.mp h with h | h
      · exact absurd h.symm e
      · exact ih h
theorem lkp_eq : ∀ {ms : List (Str × Str)} {n x : Str}, (ms.map (·.1)).Nodup → (n, x) ∈ ms → lkp ms n = some x
  | q :: r, n, x, hn, h => by
    rw [List.map_cons] at hn
    unfold lkp
    rcases List.mem_cons.mp h with h | h
    · subst h
      rw [if_pos rfl]
    · rw [if_neg fun e => (List.nodup_cons.mp hn).1 (by rw [e]; exact List.mem_map.mpr ⟨_, h, rfl⟩)]
      exact lkp_eq (List.nodup_cons.mp hn).2 h
theorem keys_mvD (ms : List (Str × Str)) : (mvD ms).map (·.1) = ms.map (·.1) := by unfold mvD; rw [List.map_map]; rfl
theorem keys_gkv (ad : Str → Addr) (G : Gm) : (gkv ad G).map (·.1) = names G := by unfold gkv names; rw [List.map_map]; rfl
def targets : Nd → List Str
  | .mv _ ms => ms.map (·.2)
  | .ch ls => ls.map (·.1)
  | .en _ => []
def uniq (xs : List Str) : List Str := ((xs.mapIdx fun i x => (i, x)).filter fun q => !decide (q.2 ∈ xs.take q.1)).map (·.2)
def kids (x : Nd) : List Str := uniq (targets x)
theorem uniq_sub {xs : List Str} {x : Str} (h : x ∈ uniq xs) : x ∈ xs := by
  obtain ⟨q, hq, rfl⟩ := List.mem_map.mp h
  obtain ⟨i, hi, e⟩ := List.mem_mapIdx.mp (List.mem_filter.mp hq).1
  rw [← e]
  exact List.getElem_mem hi
theorem mem_uniq {xs : List Str} {x : Str} (h : x ∈ xs) : x ∈ uniq xs := by
  have hi := List.idxOf_lt_length_iff.mpr h
  refine List.mem_map.mpr ⟨(xs.idxOf x, x), List.mem_filter.mpr ⟨List.mem_mapIdx.mpr ⟨xs.idxOf x, hi, by rw [List.getElem_idxOf]⟩, ?_⟩, rfl⟩
  rw [Bool.not_eq_true', decide_eq_false_iff_not]
  intro z
  obtain ⟨j, hj, e⟩ := List.mem_iff_getElem.mp z
  rw [List.length_take] at hj
  rw [List.getElem_take] at e
  have hj' : j < xs.idxOf x := by omega
  have := List.not_of_lt_findIdx (p := (· == x)) (xs := xs) (i := j) hj'
  rw [e, beq_self_eq_true] at this
  cases this
theorem uniq_len (xs : List Str) : (uniq xs).length ≤ xs.length := by
  unfold uniq
  rw [List.length_map]
  refine Nat.le_trans (List.length_filter_le ..) ?_
  simp
/-- a name by its signs -/
def signs : List Nat := ("abcdefghijklmnopqrstuvwxyz0123456789." : Str).cps.toList
def isName (s : Str) : Bool := decide (0 < s.length) && decide (s.length ≤ 60) && s.cps.toList.all fun c => decide (c ∈ signs)
theorem isName_len {s : Str} (h : isName s = true) : 0 < s.length ∧ s.length ≤ 60 ∧ s.cps.toList.all (fun c => decide (c ∈ signs)) = true := by
  unfold isName at h
  simp only [Bool.and_eq_true, decide_eq_true_eq] at h
  exact ⟨h.1.1, h.1.2, h.2⟩
/-- a sound place among names -/
def NdOk (N : List Str) : Nd → Prop
  | .mv _ ms => ms ≠ [] ∧ ms.length ≤ 3 ∧ (ms.map (·.1)).Nodup ∧ ∀ q ∈ ms, isName q.1 = true ∧ PyData.strOk q.1 = true ∧ q.2 ∈ N
  | .ch ls => ls ≠ [] ∧ ls.length ≤ 3 ∧ (ls.map (·.1)).Nodup ∧ ∀ q ∈ ls, q.1 ∈ N ∧ 1 ≤ q.2 ∧ q.2 ≤ 3
  | .en q => 0 < q.2 ∧ q.1.natAbs < 2 ^ 3 ∧ q.2.natAbs < 2 ^ 3
structure GOk (G : Gm) (rk : Str → Nat) : Prop where
  ne : G ≠ []
  len : G.length ≤ 9
  nd : (names G).Nodup
  nm : ∀ n ∈ names G, isName n = true ∧ PyData.strOk n = true
  ok : ∀ n x, (n, x) ∈ G → NdOk (names G) x
  up : ∀ n x, (n, x) ∈ G → ∀ c ∈ targets x, rk c < rk n
  rbl : ∀ n ∈ names G, rk n < G.length
  ri : ∀ n ∈ names G, ∀ m ∈ names G, rk n = rk m → n = m
theorem GOk.rb {G : Gm} {rk : Str → Nat} (h : GOk G rk) : ∀ n ∈ names G, rk n < 9 := fun n hn => Nat.lt_of_lt_of_le (h.rbl n hn) h.len
theorem NdOk.tg {N : List Str} {x : Nd} (h : NdOk N x) : ∀ c ∈ targets x, c ∈ N := by
  cases x with
  | mv o ms =>
    intro c hc
    obtain ⟨q, hq, rfl⟩ := List.mem_map.mp hc
    exact (h.2.2.2 q hq).2.2
  | ch ls =>
    intro c hc
    obtain ⟨q, hq, rfl⟩ := List.mem_map.mp hc
    exact (h.2.2.2 q hq).1
  | en q => intro c hc; cases hc
theorem NdOk.tl {N : List Str} {x : Nd} (h : NdOk N x) : (targets x).length ≤ 3 := by
  cases x with
  | mv o ms => exact Nat.le_trans (by simp [targets]) h.2.1
  | ch ls => exact Nat.le_trans (by simp [targets]) h.2.1
  | en q => exact Nat.zero_le _
theorem GOk.at {G : Gm} {rk : Str → Nat} (h : GOk G rk) {n : Str} (hn : n ∈ names G) : ∃ x, nodeAt G n = some x ∧ (n, x) ∈ G ∧ NdOk (names G) x := by
  obtain ⟨x, e⟩ := nodeAt_of hn
  exact ⟨x, e, nodeAt_mem e, h.ok n x (nodeAt_mem e)⟩
theorem GOk.lk {G : Gm} {rk : Str → Nat} (h : GOk G rk) {n : Str} (hn : n ∈ names G) (ad : Str → Addr) : ∃ x, lk (gkv ad G) n = some (nodeD (ad n) x) ∧ nodeAt G n = some x ∧ (n, x) ∈ G ∧ NdOk (names G) x := by
  obtain ⟨x, e, m, o⟩ := h.at hn
  exact ⟨x, by rw [lk_gkv, e]; rfl, e, m, o⟩
theorem lit_m : ∀ o : Bool, decide (sideS o ∈ [("ours" : Str), "theirs"]) = true ∧ decide (sideS o = ("chance" : Str)) = false ∧ decide (sideS o = ("end" : Str)) = false := by decide +kernel
theorem lit_c : decide (("chance" : Str) ∈ [("ours" : Str), "theirs"]) = false ∧ decide (("chance" : Str) = ("chance" : Str)) = true ∧ decide (("chance" : Str) = ("end" : Str)) = false := by decide +kernel
theorem lit_e : decide (("end" : Str) ∈ [("ours" : Str), "theirs"]) = false ∧ decide (("end" : Str) = ("chance" : Str)) = false ∧ decide (("end" : Str) = ("end" : Str)) = true := by decide +kernel
theorem w_mv {o : Bool} {ms : List (Str × Str)} : decide (word (.mv o ms) ∈ [("ours" : Str), "theirs"]) = true := (lit_m o).1
theorem w_mvc {o : Bool} {ms : List (Str × Str)} : decide (word (.mv o ms) = ("chance" : Str)) = false := (lit_m o).2.1
theorem w_mve {o : Bool} {ms : List (Str × Str)} : decide (word (.mv o ms) = ("end" : Str)) = false := (lit_m o).2.2
theorem w_ch {ls : List (Str × Int)} : decide (word (.ch ls) ∈ [("ours" : Str), "theirs"]) = false := lit_c.1
theorem w_chc {ls : List (Str × Int)} : decide (word (.ch ls) = ("chance" : Str)) = true := lit_c.2.1
theorem w_che {ls : List (Str × Int)} : decide (word (.ch ls) = ("end" : Str)) = false := lit_c.2.2
theorem w_en {q : Int × Int} : decide (word (.en q) ∈ [("ours" : Str), "theirs"]) = false := lit_e.1
theorem w_enc {q : Int × Int} : decide (word (.en q) = ("chance" : Str)) = false := lit_e.2.1
theorem w_ene {q : Int × Int} : decide (word (.en q) = ("end" : Str)) = true := lit_e.2.2
theorem side_ne : ∀ o : Bool, sideS o ≠ ("chance" : Str) ∧ sideS o ≠ ("end" : Str) ∧ ∀ p, sideS o = sideS p → o = p := by decide +kernel
theorem map_inj {α : Type} {f : α → D} (hf : ∀ x y, f x = f y → x = y) : ∀ {l m : List α}, l.map f = m.map f → l = m
  | [], [], _ => rfl
  | [], _ :: _, h => by cases h
  | _ :: _, [], h => by cases h
  | x :: l, y :: m, h => by
    rw [List.map_cons, List.map_cons, List.cons.injEq] at h
    rw [hf x y h.1, map_inj hf h.2]
theorem strD_inj {l m : List Str} (h : l.map D.str = m.map D.str) : l = m := map_inj (fun x y e => by cases e; rfl) h
theorem mvD_inj {l m : List (Str × Str)} (h : mvD l = mvD m) : l = m := by
  have : ∀ {l m : List (Str × Str)}, mvD l = mvD m → l = m := by
    intro l
    induction l with
    | nil => intro m h; cases m with | nil => rfl | cons q r => cases h
    | cons p l ih =>
      intro m h
      cases m with
      | nil => cases h
      | cons q m =>
        have h' : (p.1, D.str p.2) :: mvD l = (q.1, D.str q.2) :: mvD m := h
        simp only [List.cons.injEq, Prod.mk.injEq, D.str.injEq] at h'
        rw [ih h'.2, Prod.ext h'.1.1 h'.1.2]
  exact this h
theorem lotD_inj {l m : List (Str × Int)} (h : l.map lotD = m.map lotD) : l = m := map_inj (fun x y e => by
  simp only [lotD, D.tup.injEq, List.cons.injEq, D.str.injEq, D.int.injEq, and_true] at e
  exact Prod.ext e.1 e.2) h
theorem nodeD_inj {a b : Addr} {x y : Nd} (h : nodeD a x = nodeD b y) : x = y := by
  simp only [nodeD, D.tup.injEq, List.cons.injEq, D.str.injEq, and_true] at h
  obtain ⟨h1, h2⟩ := h
  cases x with
  | mv o ms =>
    cases y with
    | mv p ns =>
      simp only [restD, D.dct.injEq] at h2
      rw [(side_ne o).2.2 p h1, mvD_inj h2.2]
    | ch ls => cases h2
    | en q => cases h2
  | ch ls =>
    cases y with
    | mv p ns => cases h2
    | ch ms =>
      simp only [restD, D.lst.injEq] at h2
      rw [lotD_inj h2]
    | en q => cases h2
  | en q =>
    cases y with
    | mv p ns => cases h2
    | ch ms => cases h2
    | en r =>
      have : q = r := fr_inj h2
      rw [this]
theorem nodeD_inj1 {a b : Addr} {x y : Nd} (h : ([nodeD a x] : List D) = [nodeD b y]) : x = y := by
  simp only [List.cons.injEq, and_true] at h
  exact nodeD_inj h
/-- what is kept of a place -/
def keep : Nd → Nd
  | .en q => .en (low q.1 q.2)
  | x => x
def keepG (G : Gm) : Gm := G.map fun q => (q.1, keep q.2)
theorem names_keepG (G : Gm) : names (keepG G) = names G := by unfold names keepG; rw [List.map_map]; rfl
theorem targets_keep (x : Nd) : targets (keep x) = targets x := by cases x <;> rfl
theorem word_keep (x : Nd) : word (keep x) = word x := by cases x <;> rfl
theorem keep_ok {N : List Str} {x : Nd} (h : NdOk N x) : NdOk N (keep x) := by
  cases x with
  | mv o ms => exact h
  | ch ls => exact h
  | en q => exact ⟨low_pos h.1, low_t h.2.1, low_b h.1 h.2.2⟩
theorem mem_keepG {G : Gm} {n : Str} {x : Nd} (h : (n, x) ∈ keepG G) : ∃ y, (n, y) ∈ G ∧ x = keep y := by
  obtain ⟨q, hq, e⟩ := List.mem_map.mp h
  cases e
  exact ⟨q.2, hq, rfl⟩
theorem keepG_ok {G : Gm} {rk : Str → Nat} (h : GOk G rk) : GOk (keepG G) rk where
  ne := fun e => h.ne (by cases G with | nil => rfl | cons q r => cases e)
  len := by unfold keepG; rw [List.length_map]; exact h.len
  nd := by rw [names_keepG]; exact h.nd
  nm := by rw [names_keepG]; exact h.nm
  ok := fun n x hx => by
    obtain ⟨y, hy, rfl⟩ := mem_keepG hx
    rw [names_keepG]
    exact keep_ok (h.ok n y hy)
  up := fun n x hx c hc => by
    obtain ⟨y, hy, rfl⟩ := mem_keepG hx
    rw [targets_keep] at hc
    exact h.up n y hy c hc
  rbl := by rw [names_keepG]; unfold keepG; rw [List.length_map]; exact h.rbl
  ri := by rw [names_keepG]; exact h.ri
theorem nodeAt_keep : ∀ (G : Gm) (n : Str), nodeAt (keepG G) n = (nodeAt G n).map keep
  | [], n => rfl
  | q :: r, n => by
    show nodeAt ((q.1, keep q.2) :: keepG r) n = _
    unfold nodeAt
    split
    · rfl
    · exact nodeAt_keep r n
/-- the names of a side -/
def sideNames (G : Gm) (o : Bool) : List Str := (G.filter fun q => decide (word q.2 = sideS o)).map (·.1)
def PlanOk (G : Gm) (o : Bool) (pl : List (Str × Str)) : Prop :=
  pl.length = (sideNames G o).length ∧ ∀ n ms, (n, Nd.mv o ms) ∈ G → ∃ m, lkp pl n = some m ∧ m ∈ ms.map (·.1)
theorem side_mv {x : Nd} {o : Bool} (h : word x = sideS o) : ∃ ms, x = .mv o ms := by
  cases x with
  | mv p ms => exact ⟨ms, by rw [(side_ne p).2.2 o h]⟩
  | ch ls => exact absurd h.symm (side_ne o).1
  | en q => exact absurd h.symm (side_ne o).2.1
theorem sideNames_mem {G : Gm} {o : Bool} {n : Str} (h : n ∈ sideNames G o) : ∃ ms, (n, Nd.mv o ms) ∈ G := by
  obtain ⟨q, hq, rfl⟩ := List.mem_map.mp h
  obtain ⟨h1, h2⟩ := List.mem_filter.mp hq
  obtain ⟨ms, e⟩ := side_mv (of_decide_eq_true h2)
  exact ⟨ms, by rw [← e]; exact h1⟩
theorem mem_sideNames {G : Gm} {o : Bool} {n : Str} {ms : List (Str × Str)} (h : (n, Nd.mv o ms) ∈ G) : n ∈ sideNames G o :=
  List.mem_map.mpr ⟨_, List.mem_filter.mpr ⟨h, decide_eq_true rfl⟩, rfl⟩
theorem sideNames_keep (G : Gm) (o : Bool) : sideNames (keepG G) o = sideNames G o := by
  induction G with
  | nil => rfl
  | cons q r ih =>
    unfold sideNames keepG at ih ⊢
    rw [List.map_cons, List.filter_cons, List.filter_cons]
    simp only [word_keep]
    split
    · rw [List.map_cons, List.map_cons]
      rw [ih]
    · exact ih
theorem planOk_keep {G : Gm} {o : Bool} {pl : List (Str × Str)} (h : PlanOk G o pl) : PlanOk (keepG G) o pl := by
  refine ⟨by rw [sideNames_keep]; exact h.1, fun n ms hm => ?_⟩
  obtain ⟨y, hy, e⟩ := mem_keepG hm
  cases y with
  | mv p ns => cases e; exact h.2 n ms hy
  | ch ls => cases e
  | en q => cases e
theorem gkv_inj {ad ad' : Str → Addr} : ∀ {G G' : Gm}, gkv ad G = gkv ad' G' → G = G'
  | [], [], _ => rfl
  | [], _ :: _, h => by cases h
  | _ :: _, [], h => by cases h
  | p :: G, q :: G', h => by
    have h' : (p.1, nodeD (ad p.1) p.2) :: gkv ad G = (q.1, nodeD (ad' q.1) q.2) :: gkv ad' G' := h
    simp only [List.cons.injEq, Prod.mk.injEq] at h'
    rw [gkv_inj h'.2, Prod.ext h'.1.1 (nodeD_inj h'.1.2)]
theorem gameD_inj {g g' : Addr} {ad ad' : Str → Addr} {G G' : Gm} (h : gameD g ad G = gameD g' ad' G') : g = g' ∧ G = G' := by
  simp only [gameD, D.dct.injEq, Option.some.injEq] at h
  exact ⟨h.1, gkv_inj h.2⟩
theorem gkv_congr {ad ad' : Str → Addr} {G : Gm} (h : ∀ n ∈ names G, ad n = ad' n) : gkv ad G = gkv ad' G := by
  unfold gkv
  refine List.map_congr_left fun q hq => ?_
  rw [h q.1 (List.mem_map.mpr ⟨q, hq, rfl⟩)]
theorem putD_new {kvs : List (Str × D)} {k : Str} {d : D} (h : ∀ q ∈ kvs, q.1 ≠ k) : putD kvs k d = kvs ++ [(k, d)] := by
  unfold putD
  rw [if_neg]
  intro z
  obtain ⟨q, hq, e⟩ := List.any_eq_true.mp z
  exact h q hq (of_decide_eq_true e)
theorem put_gkv {ad : Str → Addr} {G : Gm} {n : Str} {x : Nd} {a : Addr} (h : n ∉ names G) : putD (gkv ad G) n (nodeD a x) = gkv (fun m => if m = n then a else ad m) (G ++ [(n, x)]) := by
  rw [putD_new]
  · unfold gkv
    rw [List.map_append]
    refine congr (congrArg _ (List.map_congr_left fun q hq => ?_)) ?_
    · show (q.1, nodeD (ad q.1) q.2) = (q.1, nodeD (if q.1 = n then a else ad q.1) q.2)
      rw [if_neg fun e => h (by rw [← e]; exact List.mem_map.mpr ⟨q, hq, rfl⟩)]
    · show _ = [(n, nodeD (if n = n then a else ad n) x)]
      rw [if_pos rfl]
  · intro q hq e
    obtain ⟨p, hp, rfl⟩ := List.mem_map.mp hq
    exact h (by rw [← e]; exact List.mem_map.mpr ⟨p, hp, rfl⟩)
theorem NdOk.tg' {G : Gm} {n : Str} (h : n ∈ names G) (ad : Str → Addr) : ∃ d, lk (gkv ad G) n = some d := by
  obtain ⟨x, hx⟩ := nodeAt_of h
  exact ⟨_, by rw [lk_gkv, hx]; rfl⟩
end Gw

/-! More rules. -/
namespace Gw
open PySem L2
theorem kb_int_int : kitB "int" "int" = some true := by decide +kernel
theorem kb_int_bool : kitB "int" "bool" = some false := by decide +kernel
theorem kb_int_list : kitB "int" "list" = some false := by decide +kernel
theorem kb_int_tuple : kitB "int" "tuple" = some false := by decide +kernel
theorem kb_str_str : kitB "str" "str" = some true := by decide +kernel
theorem kb_dict_dict : kitB "dict" "dict" = some true := by decide +kernel
theorem kb_list_list : kitB "list" "list" = some true := by decide +kernel
theorem kb_list_tuple : kitB "list" "tuple" = some false := by decide +kernel
theorem kb_tuple_list : kitB "tuple" "list" = some false := by decide +kernel
theorem kb_tuple_tuple : kitB "tuple" "tuple" = some true := by decide +kernel
theorem kb_bool_int : kitB "bool" "int" = some true := by decide +kernel
theorem kb_bool_bool : kitB "bool" "bool" = some true := by decide +kernel
theorem nodup_take : ∀ {l : List Str} {i : Nat} {x : Str}, l.Nodup → l[i]? = some x → x ∉ l.take i
  | [], i, x, _, h => by simp at h
  | a :: l, 0, x, _, _ => by simp
  | a :: l, i + 1, x, hn, h => by
    rw [List.take_succ_cons]
    intro z
    have hn' := List.nodup_cons.mp hn
    rw [List.getElem?_cons_succ] at h
    rcases List.mem_cons.mp z with z | z
    · exact hn'.1 (by rw [← z]; exact List.mem_of_getElem? h)
    · exact nodup_take hn'.2 h z
theorem nodup_take_map {α : Type} {f : α → Str} {l : List α} {i : Nat} {q : α} (hn : (l.map f).Nodup) (h : l[i]? = some q) : f q ∉ (l.take i).map f := by
  rw [List.map_take]
  exact nodup_take hn (by rw [List.getElem?_map, h]; rfl)
theorem yesI {b : Bool} {X Y : Prop} (h : b = true) (a : X) : (b = true → X) ∧ (b = false → Y) := ⟨fun _ => a, fun z => by rw [h] at z; cases z⟩
theorem noI {b : Bool} {X Y : Prop} (h : b = false) (a : Y) : (b = true → X) ∧ (b = false → Y) := ⟨fun z => (by rw [h] at z; cases z), fun _ => a⟩
/-! ### a list or a text -/
def rIxLS (K : PySem.W.Frag) : R2 := fun x y H Q => rIxL K x y H Q ∨ rIxS x y H Q
theorem ix_ls {X : Cx} : IxR X (rIxLS X.K) := fun value slice pins s σ H x y v u Q I rx ry h hs =>
  h.elim (fun h => ix_list value slice pins s σ H x y v u Q I rx ry h hs) fun h => ix_str value slice pins s σ H x y v u Q I rx ry h hs
def cLenLS (K : PySem.W.Frag) : List V → Hp → VK → Prop := fun xs H Q => cLenS K xs H Q ∨ cLenT xs H Q
theorem call_lenLS {X : Cx} : CallR X (.builtin "len") (cLenLS X.K) := CallR.or call_lenS call_lenT
theorem atI_last (ws : List Str) (v : Str) : atI ((ws ++ [v]).map D.str) (-1) = some (.str v) := by
  have e : ixN ((ws ++ [v]).map D.str).length (-1) = some ws.length := by
    rw [List.length_map, List.length_append, List.length_singleton]
    unfold ixN
    rw [if_neg (by decide), if_pos (by omega)]
    congr 1
    omega
  unfold atI
  rw [e]
  show ((ws ++ [v]).map D.str)[ws.length]? = _
  rw [List.getElem?_map, List.getElem?_append_right (Nat.le_refl _), Nat.sub_self]
  rfl
theorem cutD_take (ds : List D) (i : Nat) : cutD ds none (some (i : Int)) = ds.take i := by
  unfold cutD
  have e1 : HT.sIx ds.length 0 none = 0 := rfl
  have e2 : HT.sIx ds.length ds.length (some (i : Int)) = min i ds.length := by
    unfold HT.sIx
    simp
    omega
  rw [e1, e2, List.drop_zero, Nat.sub_zero]
  rcases Nat.le_total i ds.length with h | h
  · rw [Nat.min_eq_left h]
  · rw [Nat.min_eq_right h, List.take_of_length_le (Nat.le_refl _), List.take_of_length_le h]
theorem cutD_drop (ds : List D) (i : Nat) : cutD ds (some (i : Int)) none = ds.drop i := by
  unfold cutD
  have e1 : HT.sIx ds.length ds.length none = ds.length := rfl
  have e2 : HT.sIx ds.length 0 (some (i : Int)) = min i ds.length := by
    unfold HT.sIx
    simp
    omega
  rw [e1, e2]
  rcases Nat.le_total i ds.length with h | h
  · rw [Nat.min_eq_left h, List.take_of_length_le]
    rw [List.length_drop]; exact Nat.le_refl _
  · rw [Nat.min_eq_right h, Nat.sub_self, List.take_zero, List.drop_eq_nil_of_le h]
section
variable {B : Bk} {M : List (Addr × Obj)} {l : List Sl} {n : Nat} {Q : D → Nat → Prop} {P : Post} {PT' : Bool → Nat → Prop} {ta tb tc te td ty : TE} {t u : TT} {tr : TA} {d x y : D} {ts us : TS}
theorem ro_ixLS {ds : List D} {i : Int} (e : atI ds i = some d) (q : Q d n) : RO B M (rIxLS B.K) (.lst ds) (.int i) l n Q := fun F H σ r S vx vy rx ry k c => .inl (ro_ixL e q F H σ r S vx vy rx ry k c)
theorem ro_ixSS {z : Str} {i : Int} {c0 : Nat} (hz : z.length ≤ 100000) (e : atI z.cps.toList i = some c0) (q : Q (.str ⟨#[c0]⟩) n) : RO B M (rIxLS B.K) (.str z) (.int i) l n Q := fun F H σ r S vx vy rx ry k c => .inr (ro_ixS hz e q F H σ r S vx vy rx ry k c)
theorem rc_lenLS {ds : List D} (q : Q (.int (ds.length : Int)) n) : RC B M (cLenLS B.K) [.lst ds] l n Q := fun F H σ r S vs rs k c => .inl (rc_lenL q F H σ r S vs rs k c)
theorem rc_lenSS {z : Str} (hz : z.length ≤ 100000) (q : Q (.int (z.length : Int)) n) : RC B M (cLenLS B.K) [.str z] l n Q := fun F H σ r S vs rs k c => .inr (rc_lenS hz q F H σ r S vs rs k c)
theorem ro_inT2 {s a b : Str} (q : Q (.bl (decide (s ∈ [a, b]))) n) : RO B M (rIn B.K false) (.str s) (.tup [.str a, .str b]) l n Q := ro_inT (zs := [a, b]) q
theorem ro_ninT2 {s a b : Str} (q : Q (.bl (!decide (s ∈ [a, b]))) n) : RO B M (rIn B.K true) (.str s) (.tup [.str a, .str b]) l n Q := ro_ninT (zs := [a, b]) q
theorem we_neg {j : Int} (q : Q (.int (-j)) n) : WE B M (tUn (rU fun i => .int (-i)) (tC (.int j))) l n Q := we_un (we_int fun F H σ r S vx vy rx ry k c => ⟨j, rx.int_inv, c _ F H _ n q S.r0 .int⟩)
theorem we_ixM {i : Nat} {ds : List D} (h : l[i]? = some (.owl ds)) (e : atI ds (-1) = some d) (q : Q d n) : WE B M (tOp (rIxL B.K) (tVar i) (tUn (rU fun i => .int (-i)) (tC (.int 1)))) l n Q := we_ixO (j := -1) h (we_neg ⟨rfl, d, e, q⟩)
/-! ### comprehensions whose every element is the same; all, any over them -/
theorem we_mapC {wi : TI} {j : Nat} {vs : List Nat} {c : D} (hj : j ∈ vs) (h : WI B M wi l n fun ds n1 => ds.length ≤ 100000 ∧ (∀ x ∈ ds, WE B M te ((wipeL l vs).set j (.sh x)) n1 fun y n2 => y = c ∧ n2 = n1) ∧ Q (.lst (List.replicate ds.length c)) n1) : WE B M (tLc wi (gName j) tYes te vs) l n Q :=
  we_map (f := fun _ => c) hj fun F H σ r S R k => h F H σ r S R fun J F1 H1 ds n1 q s it => k J F1 H1 ds n1 ⟨q.1, q.2.1, _, List.map_const' .., q.2.2⟩ s it
theorem rc_allT {m : Nat} (q : Q (.bl true) n) : RC B M (rAll B.K) [.lst (List.replicate m (.bl true))] l n Q := by
  have e : List.replicate m (D.bl true) = (List.replicate m true).map D.bl := by rw [List.map_replicate]
  rw [e]
  refine rc_all ?_
  rw [show (List.replicate m true).all id = true from by rw [List.all_replicate]; split <;> rfl]
  exact q
theorem rc_anyF {m : Nat} (q : Q (.bl false) n) : RC B M (rAny B.K) [.lst (List.replicate m (.bl false))] l n Q := by
  have e : List.replicate m (D.bl false) = (List.replicate m false).map D.bl := by rw [List.map_replicate]
  rw [e]
  refine rc_any ?_
  rw [show (List.replicate m false).any id = false from by rw [List.any_replicate]; split <;> rfl]
  exact q
/-! ### x, d = (e, {}) by a tuple -/
theorem ws_asg_xd {i j : Nat} (h : WE B M te l n fun x n1 => P.nx ((l.set i (.sh x)).set j (.owd [])) n1) : WS B M (tAsg (tTup (tCons te (tCons tDNewK tNil))) (gTup B.K 2 (gCons (gName i) (gCons (gName j) gNil)))) l n P := fun F H σ r S E f =>
  h F H σ r S _ fun v F1 H1 x n1 q s1 r1 => fun p hp => by
    refine ⟨by show 2 ≤ sizeLine; decide, fun T hT => ?_⟩
    have S2 := (S.step s1).claim (o := .dK []) j hp
    have S3 := S2.step (Step.lay (o := .tup [v, .ref p]) S2.sm hT)
    refine ⟨T, _, rfl, .inl (.inl upd_same), rfl, v, _, rfl, .ref p, _, rfl, rfl, ?_⟩
    have rp : (fun a => if a = p then some j else r a) p = some j := if_pos rfl
    have hp' : upd (upd H1 p (.dK [])) T (.tup [v, .ref p]) p = some (.dK []) := by rw [upd_ne (ne_of_none upd_same hT)]; exact upd_same
    exact f.nx _ F1 _ _ _ n1 q s1.ex ((S3.set i r1).put (v := .ref p) (s := .owd []) j ⟨p, [], rfl, rp, hp', RepK.nil⟩)
/-! ### two dicts that can't be one -/
def InV (l : List Sl) (a : Addr) (kvs : List (Str × D)) : Prop := ∃ (i : Nat) (d : D), l[i]? = some (.sh d) ∧ Sub d (.dct (some a) kvs)
theorem InV.inL {a : Addr} {kvs : List (Str × D)} (h : InV l a kvs) : InL l a := by
  obtain ⟨i, d, e, s⟩ := h
  exact ⟨i, d, kvs, e, s⟩
theorem InV.at {σ : L2.St} {F H : Hp} {r : Addr → Option Nat} (S : Sta B M σ l n F H r) {a : Addr} {kvs : List (Str × D)} (h : InV l a kvs) : ∃ kv, F a = some (.dK kv) ∧ RepK B.C B.sa F kv kvs := by
  obtain ⟨i, d, e, s⟩ := h
  obtain ⟨v, _, rv⟩ := S.slots i _ e
  obtain ⟨w, rw⟩ := rv.sub s
  obtain ⟨b, kv, _, hb, ho, hk⟩ := rw.dct_inv
  rw [ho a rfl]
  exact ⟨kv, hb, hk⟩
def Diff (ka kb : List (Str × D)) : Prop := ∃ q ka' q' kb' s xs, ka = q :: ka' ∧ kb = q' :: kb' ∧ q.2 = D.str s ∧ q'.2 = D.tup xs
theorem Diff.ne {σ : L2.St} {F H : Hp} {r : Addr → Option Nat} (S : Sta B M σ l n F H r) {a b : Addr} {ka kb : List (Str × D)} (ha : InV l a ka) (hb : InV l b kb) (d : Diff ka kb) : a ≠ b := fun e => by
  subst e
  obtain ⟨kv, h1, k1⟩ := ha.at S
  obtain ⟨kv', h2, k2⟩ := hb.at S
  rw [h1] at h2
  cases h2
  obtain ⟨q, ka', q', kb', s, xs, rfl, rfl, e1, e2⟩ := d
  obtain ⟨v, r1, rfl, hv, _⟩ := k1.inv
  obtain ⟨v', r2, e3, hv', _⟩ := k2.inv
  simp only [List.cons.injEq, Prod.mk.injEq] at e3
  rw [e3.1.2, e1] at hv
  rw [e2] at hv'
  have w := hv.str_inv
  obtain ⟨p, vs, w', _⟩ := hv'.tup_inv
  rw [w] at w'
  cases w'
theorem ws_dif {a b : Addr} {ka kb : List (Str × D)} (ha : InV l a ka) (hb : InV l b kb) (d : Diff ka kb) (k : a ≠ b → WS B M ts l n P) : WS B M ts l n P := fun F H σ r S E f => k (d.ne S ha hb) F H σ r S E f
theorem we_dif {a b : Addr} {ka kb : List (Str × D)} (ha : InV l a ka) (hb : InV l b kb) (d : Diff ka kb) (k : a ≠ b → WE B M te l n Q) : WE B M te l n Q := fun F H σ r S E f => k (d.ne S ha hb) F H σ r S E f
theorem diff_mv {ms : List (Str × Str)} (hm : ms ≠ []) {ad : Str → Addr} {G : Gm} (hG : G ≠ []) : Diff (mvD ms) (gkv ad G) := by
  cases ms with
  | nil => exact absurd rfl hm
  | cons q ms =>
    cases G with
    | nil => exact absurd rfl hG
    | cons q' G => exact ⟨_, _, _, _, _, _, rfl, rfl, rfl, rfl⟩
theorem Sub.trans {a b c : D} (h : Sub a b) (h2 : Sub b c) : Sub a c := by
  induction h with
  | refl => exact h2
  | tup h s ih => exact .tup h (ih h2)
  | lst h s ih => exact .lst h (ih h2)
  | dct h s ih => exact .dct h (ih h2)
  | obj s ih => exact .obj (ih h2)
theorem sub_node {g : Addr} {ad : Str → Addr} {G : Gm} {n : Str} {o : Bool} {ms : List (Str × Str)} (h : (n, Nd.mv o ms) ∈ G) : Sub (gameD g ad G) (.dct (some (ad n)) (mvD ms)) := by
  obtain ⟨i, hi⟩ := List.getElem?_of_mem h
  refine .dct (i := i) (q := (n, nodeD (ad n) (.mv o ms))) ?_ (.tup (i := 1) rfl .refl)
  unfold gkv
  rw [List.getElem?_map, hi]
  rfl
theorem inv_node {g : Addr} {ad : Str → Addr} {G : Gm} {n : Str} {o : Bool} {ms : List (Str × Str)} (hg : InV l g (gkv ad G)) (h : (n, Nd.mv o ms) ∈ G) : InV l (ad n) (mvD ms) := by
  obtain ⟨i, d, e, s⟩ := hg
  exact ⟨i, d, e, s.trans (sub_node h)⟩
theorem ws_difN {g : Addr} {ad : Str → Addr} {G : Gm} {n1 : Str} {y : Nd} {N : List Str} (hg : InV l g (gkv ad G)) (hm : (n1, y) ∈ G) (ok : NdOk N y) (hG : G ≠ []) (k : (∀ o ms, y = .mv o ms → ad n1 ≠ g) → WS B M ts l n P) : WS B M ts l n P := by
  cases y with
  | mv o ms => exact ws_dif (inv_node hg hm) hg (diff_mv ok.1 hG) fun ne => k fun _ _ _ => ne
  | ch ls => exact k fun o ms e => by cases e
  | en q => exact k fun o ms e => by cases e
theorem we_difN {g : Addr} {ad : Str → Addr} {G : Gm} {n1 : Str} {y : Nd} {N : List Str} (hg : InV l g (gkv ad G)) (hm : (n1, y) ∈ G) (ok : NdOk N y) (hG : G ≠ []) (k : (∀ o ms, y = .mv o ms → ad n1 ≠ g) → WE B M te l n Q) : WE B M te l n Q := by
  cases y with
  | mv o ms => exact we_dif (inv_node hg hm) hg (diff_mv ok.1 hG) fun ne => k fun _ _ _ => ne
  | ch ls => exact k fun o ms e => by cases e
  | en q => exact k fun o ms e => by cases e
/-! ### the instance in the making -/
theorem ws_fldI {i : Nat} {p dx : Addr} (hc : Cls B.K B.C) (hn : NoAttr B.K B.C "place_table") (h : l[i]? = some (.owi p dx none)) (hv : WE B M te l n fun d n1 => (∃ o kvs, d = .dct o kvs) ∧ P.nx (l.set i (.owi p dx (some d))) n1) : WS B M (sFld B.K (tVar i) te "place_table") l n P := fun F H σ r S E f =>
  hv F H σ r S _ fun v F1 H1 d n1 q s1 r1 => by
    obtain ⟨⟨o, kvs, rfl⟩, q⟩ := q
    obtain ⟨t, kv, rfl, _⟩ := id r1.dct_inv
    have S1 := S.step s1
    obtain ⟨fs, e, rp, hp, hf⟩ := S1.slots i _ h
    cases hf
    refine ⟨_, e, p, B.C, dx, [], rfl, hp, hc, hn, by decide, ?_⟩
    exact f.nx _ F1 _ r _ n1 q s1.ex (S1.write rp e ⟨[("place_table", .ref t)], rfl, rp, upd_same, t, rfl, r1⟩)
/-! ### what a test builds is dropped behind it -/
theorem wt_tmp {j : Nat} {kvs : List (Str × D)} (h : l[j]? = some (.owd kvs)) (k : ∀ a, B.H0 a = none → WT B M t (l.set j (.sh (.dct (some a) kvs))) n PT') : WT B M t l n PT' := fun F H σ r S kk c => by
  obtain ⟨p, vs, e, rp, hp, hr⟩ := S.slots j _ h
  have fp := (S.own p j rp).1
  obtain ⟨ex, S1⟩ := S.freeze (d := .dct (some p) kvs) rp hp e (.mka upd_same (hr.mono (Ex.new fp)))
  exact k p (S.own p j rp).2.1 _ _ _ _ S1 _ fun b F2 H2 n2 q s => c b F H2 n2 q ⟨Ex.refl F, s.ht, fun _ _ h => h, fun a o h h' => (by rw [h] at h'; cases h'), fun z => ⟨(s.sm z).1, (S.sm z).2⟩⟩
theorem ws_clear {i : Nat} {kvs : List (Str × D)} (h : l[i]? = some (.owd kvs)) (q : P.nx (l.set i (.owd [])) n) : WS B M (tDrop (tBM0 B.K "dict" rDClear (tVar i))) l n P := fun F H σ r S E f => by
  obtain ⟨p, kv, e, rp, hp, hr⟩ := S.slots i _ h
  refine ⟨_, e, .inr (.inr (.inl ⟨rfl, .inl ⟨kv, hp⟩⟩)), p, kv, rfl, rfl, hp, ?_⟩
  exact f.nx _ F _ r _ n q (Ex.refl F) (S.write rp e ⟨p, [], rfl, rp, upd_same, RepK.nil⟩)
/-! ### a dict of texts, fresh from a call, is the caller's own -/
theorem repK_mvD {C sa : Addr} {F F' : Hp} {kv : List (Key × V)} {ms : List (Str × Str)} (h : RepK C sa F kv (mvD ms)) : RepK C sa F' kv (mvD ms) := by
  refine ⟨h.1, fun i p q a b => ?_⟩
  have w := h.2 i p q a b
  unfold mvD at b
  rw [List.getElem?_map] at b
  cases e : ms[i]? with
  | none => rw [e] at b; cases b
  | some z =>
    rw [e] at b
    cases b
    rw [w.str_inv]
    exact .str
theorem ws_par_call {pre : List Addr → List D → Nat → Prop} {post : Hp → List D → Nat → D → Nat → Prop} {EE : XK} {i j : Nat} (h : WE B M te l n fun x n1 => WA B M tr l n1 fun ds n2 => pre (lks M ++ B.L) ds 0 ∧ ∀ d n3 H, Liv B M l H → post H ds 0 d n3 → ∃ p ms, d = .dct (some p) (mvD ms) ∧ H p = none ∧ P.nx ((l.set i (.sh x)).set j (.owd (mvD ms))) n2) :
    WS B M (tPar i j (tCons te (tCons (tCall (spG B.C false pre post) [] EE tr) tNil))) l n P := fun F H σ r S E f =>
  h F H σ r S _ fun v F1 H1 x n1 q s1 r1 => q F1 H1 σ r (S.step s1) _ fun vs F2 H2 ds n2 q2 s2 r2 => by
    have S2 := (S.step s1).step s2
    rw [List.append_nil]
    refine sp_pure S2 r2 q2.1 fun w F3 H3 d n3 p s3 rw' => ?_
    obtain ⟨a, ms, rfl, ha, q⟩ := q2.2 d n3 H2 S2.liv p
    obtain ⟨b, kv, rfl, hb, ho, hk⟩ := rw'.dct_inv
    have e := ho a rfl
    subst e
    have fa := S2.fnone ha
    have h3 := s3.nw a _ fa hb
    have S2' := S2.claim (o := .dK kv) j ha
    have S3 := S2'.step (F2 := F2) (H2 := H3) (n2 := n2) ⟨Ex.refl F2, fun c o hc z => by
        by_cases ec : c = a
        · subst ec; rw [upd_same] at hc; cases hc; exact h3
        · rw [upd_ne ec] at hc; exact s3.ht c o hc z, fun _ _ h => h, fun c o h h' => (by rw [h] at h'; cases h'), fun z => ⟨(s3.sm z).1, (S2.sm z).2⟩⟩
    have rp : (fun c => if c = a then some j else r c) a = some j := if_pos rfl
    exact ⟨v, .ref a, rfl, f.nx _ F2 _ _ _ n2 q (s1.ex.trans s2.ex) ((S3.set i (r1.mono s2.ex)).put (v := .ref a) (s := .owd (mvD ms)) j ⟨a, kv, rfl, rp, h3, repK_mvD hk⟩)⟩
end
/-! ### making an instance -/
def spI (C : Addr) (pre : List Addr → D → Prop) (post : Hp → D → D → Prop) : Sp := fun vs H Q _ => ∃ (x dx : Addr) (v : V) (F H1 : Hp) (L : List Addr) (sa ca : Addr) (d : D), vs = [.ref x, v] ∧ H = upd (upd H1 dx (.own x)) x (.ins C dx []) ∧ H1 x = none ∧ H1 dx = none ∧ dx ≠ x ∧ Rep C sa F v d ∧ Le L F H1 ∧ (∀ a ∈ L, H1 a ≠ none) ∧ pre L d ∧
  ∀ F2 H2 d2 n2, post H1 d d2 → Step false sa ca F H1 F2 H2 n2 → Rep C sa F2 (.ref x) (.obj d2) → Q .non H2
theorem we_make {B : Bk} {M : List (Addr × Obj)} {l : List Sl} {n : Nat} {Q : D → Nat → Prop} {tr : TA} {EE : XK} {pre : List Addr → D → Prop} {post : Hp → D → D → Prop} (h : WA B M tr l n fun ds n1 => ∃ d, ds = [d] ∧ pre (lks M ++ B.L) d ∧ ∀ d2 H, Liv B M l H → post H d d2 → Q (.obj d2) n1) : WE B M (tMake B.C (spI B.C pre post) [] EE tr) l n Q := fun F H σ r S k c =>
  h F H σ r S _ fun vs F1 H1 ds n1 q s1 r1 => by
    obtain ⟨d, rfl, hp, q⟩ := q
    obtain ⟨v, rfl, rv⟩ := reps1 r1
    have S1 := S.step s1
    intro x dx hx hdx ne
    exact ⟨x, dx, v, F1, H1, lks M ++ B.L, B.sa, B.ca, d, rfl, rfl, hx, hdx, ne, rv, S1.le', fun a z => S1.lk a (List.mem_append.mp z), hp, fun F2 H2 d2 n2 p s rx => ⟨rfl, c _ F2 H2 _ n1 (q d2 H1 S1.liv p) (s1.trans (S1.stepF s)) rx⟩⟩
/-- a class by the body of its __init__ -/
def MakB (K : PySem.W.Frag) (mg : Str → Option Value) (C : Addr) (x qual : Str) (st : Stmt) (ps : List Str) : Prop := ∃ (f : Addr) (fd : FuncData), Mk K C f ∧ mg x = some (.ref C) ∧ C8.Fun K "__init__" qual st f fd ∧ Binds K fd ps []
theorem mak_ok {P : Program} {w : World} {K : PySem.W.Frag} {mg : Str → Option Value} {base : Heap} {x qual p0 p1 : Str} {s : Stmt} {N : List Str} {k : Nat} {C : Addr} {pre : List Addr → D → Prop} {post : Hp → D → D → Prop} (DB : MakB K mg C x qual s [p0, p1]) (S : FnScope N [p0, p1] (C8.fnScope s)) (hN : 0 < N.length)
    (hb : ∀ (f : Addr) (cdv : Value) (A : Around) (outer : List Env) (sh : Shared) (H : Hp) (E : XK), Room k (A.deeper (PyProof.Rows.envOfC qual (C8.fnScope s) sh.heap.objs.size f cdv)) →
      ∃ t, PSs (cxOf CX0 P w K mg base N qual (C8.fnScope s) f cdv A outer sh H E).nox (C8.fnBody s) t ∧
        ∀ sa ca L F0 H0 d x dx, pre L d → WS ⟨K, C, sa, ca, false, L, F0, H0⟩ [] t ((ent N [.non, d]).set 0 (.owi x dx none)) 0 { nx := fun l _ => ∃ d2, l[0]? = some (.owi x dx (some d2)) ∧ post H0 d d2, rt := fun _ _ => False }) :
    C8.Mak P w K mg base (k + 1) x C (spI C pre post) [] := by
  obtain ⟨f, fd, mk, hm, F, b⟩ := DB
  refine C8.mak0 mk hm F b .nil S (fun vs H Q E h => ?_) fun cdv A outer s H vs Q E hr h => ?_
  · obtain ⟨x, dx, v, _, _, _, _, _, _, rfl, _⟩ := h
    rfl
  · obtain ⟨t, ht, hw⟩ := hb f cdv A outer s H E hr
    refine ⟨t, ht, ?_⟩
    obtain ⟨x, dx, v, F, H1, L, sa, ca, d, rfl, rfl, hx, hdx, ne, rv, hle, hL, hp, kk⟩ := h
    have S0 : Sta ⟨K, C, sa, ca, false, L, F, H1⟩ [] (L2.start N [.non, v]) (ent N [.non, d]) 0 F H1 (fun _ => none) := sta_enter (Reps.cons .non (Reps.cons rv Reps.nil)) hle hL (fun z => by cases z)
    have S1 := S0.step (Step.lay (o := .own x) S0.sm hdx)
    have hx1 : upd H1 dx (.own x) x = none := by rw [upd_ne ne.symm]; exact hx
    have S2 := S1.alloc 0 (p := x) (o := .ins C dx []) (s := .owi x dx none) hx1 ⟨[], rfl, if_pos rfl, upd_same, rfl⟩
    refine hw sa ca L F H1 d x dx hp F _ _ _ S2 _ ⟨fun σ F2 H2 r l n p e S3 => ?_, fun v σ F2 H2 r l n d p e S3 rv => p.elim, fun σ F2 H2 r l n p e S3 => p.elim, fun σ F2 H2 r l n p e S3 => p.elim⟩
    obtain ⟨d2, hl, p⟩ := p
    obtain ⟨fs, e1, rp, h2, tt, rfl, rt⟩ := S3.slots 0 _ hl
    have f1 := (S3.own x 0 rp).1
    obtain ⟨ex, S4⟩ := S3.freeze (d := .obj d2) rp h2 e1 (.obj upd_same (rt.mono (Ex.new f1)))
    exact kk _ H2 d2 n p S4.leave (.obj upd_same (rt.mono (Ex.new f1)))
end Gw

/-! Kinds and places. -/
namespace Gw
open PySem L2
local macro_rules | `(tactic| walk_at "gw") => `(tactic| first
  | (with_reducible refine ws_seq ?_)
  | (with_reducible refine ws_ret ?_)
  | (with_reducible refine ws_newl ?_)
  | (with_reducible refine ws_newd ?_)
  | (with_reducible refine ws_set ?_)
  | (with_reducible refine ws_par3 ?_)
  | (with_reducible refine ws_par ?_)
  | (with_reducible refine ws_if ?_)
  | (with_reducible refine ws_next ?_)
  | (with_reducible refine ws_cont ?_)
  | (with_reducible refine ws_asgP ?_)
  | (with_reducible refine ws_asgP3 ?_)
  | ((with_reducible refine' ws_app ?h ?_); (case h => rfl))
  | ((with_reducible refine' ws_clear ?h ?_); (case h => rfl))
  | ((with_reducible refine' ws_dput ?h ?_); (case h => rfl))
  | (with_reducible refine ws_drop ?_)
  | ((with_reducible refine' we_var ?h ?_); (case h => rfl))
  | (with_reducible refine we_int ?_)
  | (with_reducible refine we_str ?_)
  | (with_reducible refine we_bl ?_)
  | (with_reducible refine we_non ?_)
  | (with_reducible refine we_ty ?_)
  | ((with_reducible refine' we_ixM ?h ?e ?_); (case h => rfl); (case e => exact atI_last _ _))
  | ((with_reducible refine' we_ixO ?h ?_); (case h => rfl))
  | (with_reducible refine we_neg ?_)
  | (with_reducible refine we_op ?_)
  | (with_reducible refine ro_I0 ?_)
  | (with_reducible refine ro_B0 ?_)
  | ((with_reducible refine ro_I ?h ?_); (case h => first | assumption | omega))
  | ((with_reducible refine' ro_ixT ?h ?_); (case h => rfl))
  | (with_reducible refine ro_inT2 ?_)
  | (with_reducible refine ro_ninT2 ?_)
  | (with_reducible refine ro_eqS ?_)
  | (with_reducible refine ro_neS ?_)
  | (with_reducible refine ro_eqI ?_)
  | (with_reducible refine ro_neI ?_)
  | (with_reducible refine ro_eqB ?_)
  | (with_reducible refine ro_notNon ?_)
  | (with_reducible refine ro_neB ?_)
  | ((with_reducible refine' we_dgetO ?h ?_); (case h => rfl))
  | ((with_reducible refine' we_dinO ?h ?_); (case h => rfl))
  | ((with_reducible refine' we_dnotinO ?h ?_); (case h => rfl))
  | (with_reducible refine we_dget ?_)
  | (with_reducible refine we_din ?_)
  | (with_reducible refine we_dnotin ?_)
  | ((with_reducible refine we_tup ?_))
  | ((with_reducible refine we_lst ?_))
  | (with_reducible refine wa_cons ?_)
  | (with_reducible refine wa_nil ?_)
  | (with_reducible refine we_cb ?_)
  | (with_reducible refine we_chain ?_)
  | (with_reducible refine we_if ?_)
  | (with_reducible refine we_andV ?_)
  | (with_reducible refine we_orV ?_)
  | (with_reducible refine we_notV ?_)
  | (with_reducible refine wt_test ?_)
  | (with_reducible refine wt_B ?_)
  | (with_reducible refine wt_not ?_)
  | (with_reducible refine wt_and ?_)
  | (with_reducible refine wt_or ?_)
  | (with_reducible refine wt_ifT ?_)
  | (with_reducible refine we_call ?_)
  | ((with_reducible refine' we_callS ?h ?_); (case h => rfl))
  | ((with_reducible refine' we_meth ?h ?_); (case h => decide +kernel))
  | (with_reducible refine rc_abs ?_)
  | (with_reducible refine rc_int ?_)
  | (with_reducible refine rc_lenL ?_)
  | (with_reducible refine rc_lenT ?_)
  | (with_reducible refine rc_lenD ?_)
  | (with_reducible refine rc_lenLS ?_)
  | (with_reducible refine rc_sum ?_)
  | (with_reducible refine rc_tupT ?_)
  | ((with_reducible refine' rc_isi ?ht ?hb ?_); (case ht => rfl); (case hb => first | exact kb_int_int | exact kb_int_bool | exact kb_int_list | exact kb_int_tuple | exact kb_str_str | exact kb_dict_dict | exact kb_list_list | exact kb_list_tuple | exact kb_tuple_list | exact kb_tuple_tuple | exact kb_bool_int | exact kb_bool_bool))
  | ((with_reducible refine' rc_isiT ?ht ?h1 ?h2 ?_); (case ht => rfl); (case h1 => first | exact kb_int_int | exact kb_int_bool | exact kb_int_list | exact kb_int_tuple | exact kb_str_str | exact kb_dict_dict | exact kb_list_list | exact kb_list_tuple | exact kb_tuple_list | exact kb_tuple_tuple | exact kb_bool_int | exact kb_bool_bool); (case h2 => first | exact kb_int_int | exact kb_int_bool | exact kb_int_list | exact kb_int_tuple | exact kb_str_str | exact kb_dict_dict | exact kb_list_list | exact kb_list_tuple | exact kb_tuple_list | exact kb_tuple_tuple | exact kb_bool_int | exact kb_bool_bool))
  | (with_reducible refine rc_allT ?_)
  | (with_reducible refine rc_anyF ?_)
  | (with_reducible refine rc_all ?_)
  | (with_reducible refine rc_any ?_)
  | (with_reducible refine rc_listD ?_)
  | (with_reducible refine rc_dictD fun _ _ => ?_)
  | (with_reducible refine we_rev ?_)
  | (with_reducible refine we_slL ?_)
  | (with_reducible refine wo_no ?_)
  | (with_reducible refine wo_part ?_)
  | (with_reducible refine we_listVals ?_)
  | ((with_reducible refine' we_fld ?hc ?hn ?_); (case hc => assumption); (case hn => assumption))
  | (with_reducible refine wi_list ?_)
  | (with_reducible refine wi_range1 ?_)
  | (with_reducible refine wi_str ?_)
  | (with_reducible refine wi_enum ?_)
  | (with_reducible refine wg_name ?_)
  | (with_reducible refine wg_two ?_)
  | (refine ⟨Nat.le_of_ble_eq_true rfl, ?_⟩)
  | (refine ⟨_, rfl, ?_⟩)
  | (refine ⟨_, _, rfl, ?_⟩)
  | (refine ⟨_, _, _, rfl, rfl, ?_⟩)
  | (refine ⟨_, _, _, rfl, ?_⟩)
  | (refine ⟨fun _ => ?_, fun z => Bool.noConfusion z⟩)
  | (refine ⟨fun z => Bool.noConfusion z, fun _ => ?_⟩)
  | (refine ⟨fun _ => ?_, fun z => absurd z (by decide +kernel)⟩)
  | (refine ⟨fun z => absurd z (by decide +kernel), fun _ => ?_⟩))
section
variable {P : Program} {w : World} {K : PySem.W.Frag} {mg : Str → Option Value} {base : Heap} {C : Addr}
def postT : Hp → List D → Nat → D → Nat → Prop := fun _ _ _ d _ => d = .bl true
abbrev s_is_integer : Stmt := top 17
abbrev N_is_integer : List Str := ["thing"]
theorem sc_is_integer : FnScope N_is_integer ["thing"] (C8.fnScope s_is_integer) := C8.fnScope_by (by decide +kernel)
def preInt : List Addr → List D → Nat → Prop := fun _ ds _ => ∃ i : Int, ds = [.int i]
theorem ok_is_integer (T : Txt K mg C) (DB : DefB K mg "is_integer" s_is_integer ["thing"]) : C8.Cal P w K mg base 1 "is_integer" (spG C false preInt postT) [] := by
  refine cal_ok DB sc_is_integer (fun L ds n hp => ?_) fun f cdv A outer sh H E hr => ?_
  · obtain ⟨t, rfl⟩ := hp; rfl
  have nd := sc_is_integer.nd
  refine ⟨_, (pss_one (ps_ret (pe_and (pe_callB (r := rIsi K) call_isi (by rfl) T.n_isinstance (by decide +kernel) (pa_cons (pv 0) (pa_cons (pe_bltn (v := .ty "int") (by rfl) T.n_int (by decide +kernel) rfl) pa_nil))) (pe_one (pe_not (pe_callB (r := rIsi K) call_isi (by rfl) T.n_isinstance (by decide +kernel) (pa_cons (pv 0) (pa_cons (pe_bltn (v := .ty "bool") (by rfl) T.n_bool (by decide +kernel) rfl) pa_nil)))))))), fun sa ca L F0 H0 ds n hp => ?_⟩
  obtain ⟨i, rfl⟩ := hp
  repeat walk_at "gw"
  rfl
abbrev s_is_list : Stmt := top 18
abbrev N_is_list : List Str := ["thing"]
theorem sc_is_list : FnScope N_is_list ["thing"] (C8.fnScope s_is_list) := C8.fnScope_by (by decide +kernel)
def preSeq : List Addr → List D → Nat → Prop := fun _ ds _ => ∃ xs, ds = [.lst xs] ∨ ds = [.tup xs]
theorem ok_is_list (T : Txt K mg C) (DB : DefB K mg "is_list" s_is_list ["thing"]) : C8.Cal P w K mg base 1 "is_list" (spG C false preSeq postT) [] := by
  refine cal_ok DB sc_is_list (fun L ds n hp => ?_) fun f cdv A outer sh H E hr => ?_
  · obtain ⟨t, rfl | rfl⟩ := hp <;> rfl
  have nd := sc_is_list.nd
  refine ⟨_, (pss_one (ps_ret (pe_callB (r := rIsiT K) call_isiT (by rfl) T.n_isinstance (by decide +kernel) (pa_cons (pv 0) (pa_cons (pe_tup (pa_cons (pe_bltn (v := .ty "list") (by rfl) T.n_list (by decide +kernel) rfl) (pa_cons (pe_bltn (v := .ty "tuple") (by rfl) T.n_tuple (by decide +kernel) rfl) pa_nil))) pa_nil))))), fun sa ca L F0 H0 ds n hp => ?_⟩
  obtain ⟨i, rfl | rfl⟩ := hp
  · repeat walk_at "gw"
    rfl
  · repeat walk_at "gw"
    rfl
abbrev s_is_name : Stmt := top 19
abbrev N_is_name : List Str := ["thing", "sign"]
theorem sc_is_name : FnScope N_is_name ["thing"] (C8.fnScope s_is_name) := C8.fnScope_by (by decide +kernel)
def preName : List Addr → List D → Nat → Prop := fun _ ds _ => ∃ s, ds = [.str s] ∧ isName s = true
theorem ok_is_name (T : Txt K mg C) (DB : DefB K mg "is_name" s_is_name ["thing"]) : C8.Cal P w K mg base 1 "is_name" (spG C false preName postT) [] := by
  refine cal_ok DB sc_is_name (fun L ds n hp => ?_) fun f cdv A outer sh H E hr => ?_
  · obtain ⟨t, rfl, _⟩ := hp; rfl
  have nd := sc_is_name.nd
  obtain ⟨tk1, hsg⟩ := T.signs
  obtain ⟨tk2, hms⟩ := T.most
  refine ⟨_, (pss_cons (ps_if (PW.pt (pw_or (pt_not (pt_val (pe_callB (r := rIsi K) call_isi (by rfl) T.n_isinstance (by decide +kernel) (pa_cons (pv 0) (pa_cons (pe_bltn (v := .ty "str") (by rfl) T.n_str (by decide +kernel) rfl) pa_nil))))) (pw_or1 (pt_not (pt_chain op_lt op_le pe_int (pe_callB (r := cLenT) call_lenT (by rfl) T.n_len (by decide +kernel) (pa_cons (pv 0) pa_nil)) (pe_glob (v := .int _) (by rfl) hms ⟨_, rfl⟩)))))) (pss_one (ps_ret pe_bl)) pss_nil)
    (pss_one (ps_ret (pe_callB (r := rAll K) (cr_all rfl) (by rfl) T.n_all (by decide +kernel) (pa_cons (pe_lc (own := [("sign", 1)]) rfl nd (pi_str (pv 0)) (blkOk_by (own := [("sign", 1)]) (N := N_is_name) (sc := C8.fnScope s_is_name) (by decide +kernel)) (fun _ _ _ _ _ => pg_name (i := 1) nd rfl (Or.inl rfl)) (fun _ _ _ _ _ => pts_nil) (fun _ _ _ _ _ => (pe_cmpR (r := rInS) op_inS (pv 1) (pe_glob (v := .str _) (by rfl) hsg ⟨_, rfl⟩) (by rfl)))) pa_nil))))), fun sa ca L F0 H0 ds n hp => ?_⟩
  obtain ⟨s, rfl, hs⟩ := hp
  obtain ⟨h0, h60, hall⟩ := isName_len hs
  repeat walk_at "gw"
  refine rc_lenS (z := s) (by omega) ?_
  repeat walk_at "gw"
  refine yesI (by simp; omega) ?_
  repeat walk_at "gw"
  refine noI (by simp; omega) ?_
  repeat walk_at "gw"
  refine we_mapC (c := .bl true) (by decide) ?_
  repeat walk_at "gw"
  refine ⟨?_, fun z hz => ?_, ?_⟩
  · rw [List.length_map, Array.length_toList]
    exact Nat.le_trans h60 (by decide)
  · obtain ⟨c, hc, rfl⟩ := List.mem_map.mp hz
    repeat walk_at "gw"
    refine ro_inS ⟨?_, rfl⟩
    have := List.all_eq_true.mp hall c hc
    exact congrArg D.bl this
  repeat walk_at "gw"
  rfl
abbrev s_is_fraction : Stmt := top 20
abbrev N_is_fraction : List Str := ["thing"]
theorem sc_is_fraction : FnScope N_is_fraction ["thing"] (C8.fnScope s_is_fraction) := C8.fnScope_by (by decide +kernel)
def preFr : List Addr → List D → Nat → Prop := fun _ ds _ => ∃ q : Int × Int, ds = [fr q] ∧ 0 < q.2
theorem ok_is_fraction (T : Txt K mg C) (DB : DefB K mg "is_fraction" s_is_fraction ["thing"]) (c_is_list : C8.Cal P w K mg base 1 "is_list" (spG C false preSeq postT) []) (c_is_integer : C8.Cal P w K mg base 1 "is_integer" (spG C false preInt postT) []) : C8.Cal P w K mg base 2 "is_fraction" (spG C false preFr postT) [] := by
  refine cal_ok DB sc_is_fraction (fun L ds n hp => ?_) fun f cdv A outer sh H E hr => ?_
  · obtain ⟨t, rfl, _⟩ := hp; rfl
  have nd := sc_is_fraction.nd
  refine ⟨_, (pss_one (ps_ret (pe_and (C8.pe_c c_is_list hr (by decide) (by rfl) (pa_cons (pv 0) pa_nil)) (pe_and (pe_cmpR op_eq (pe_callB (r := cLenS K) call_lenS (by rfl) T.n_len (by decide +kernel) (pa_cons (pv 0) pa_nil)) pe_int (nomark _)) (pe_and (C8.pe_c c_is_integer hr (by decide) (by rfl) (pa_cons (pe_ix (r := rIxT K) ix_tup (pv 0) pe_int (fun _ _ => rfl)) pa_nil)) (pe_and (C8.pe_c c_is_integer hr (by decide) (by rfl) (pa_cons (pe_ix (r := rIxT K) ix_tup (pv 0) pe_int (fun _ _ => rfl)) pa_nil)) (pe_one (pe_cmpR op_gt (pe_ix (r := rIxT K) ix_tup (pv 0) pe_int (fun _ _ => rfl)) pe_int (nomark _))))))))), fun sa ca L F0 H0 ds n hp => ?_⟩
  obtain ⟨q, rfl, hq⟩ := hp
  repeat walk_at "gw"
  refine ⟨⟨_, .inr rfl⟩, ?_⟩
  rintro d n2 H' _ rfl
  repeat walk_at "gw"
  refine ⟨⟨_, rfl⟩, ?_⟩
  rintro d n2 H' _ rfl
  repeat walk_at "gw"
  refine ⟨⟨_, rfl⟩, ?_⟩
  rintro d n2 H' _ rfl
  repeat walk_at "gw"
  show D.bl _ = D.bl _
  rw [decide_eq_true hq]
/-! moves, lots -/
def InG (gk : List (Str × D)) (n : Str) : Prop := isName n = true ∧ ∃ d, lk gk n = some d
abbrev s_are_moves : Stmt := top 23
abbrev N_are_moves : List Str := ["thing", "names", "move"]
theorem sc_are_moves : FnScope N_are_moves ["thing", "names"] (C8.fnScope s_are_moves) := C8.fnScope_by (by decide +kernel)
def preMoves : List Addr → List D → Nat → Prop := fun L ds _ => ∃ a ms o gk, ds = [.dct (some a) (mvD ms), .dct o gk] ∧ a ∉ L ∧ ms ≠ [] ∧ ms.length ≤ 100000 ∧ ∀ q ∈ ms, isName q.1 = true ∧ InG gk q.2
theorem ok_are_moves (T : Txt K mg C) (DB : DefB K mg "are_moves" s_are_moves ["thing", "names"]) (c_is_name : C8.Cal P w K mg base 1 "is_name" (spG C false preName postT) []) : C8.Cal P w K mg base 2 "are_moves" (spG C false preMoves postT) [] := by
  refine cal_ok DB sc_are_moves (fun L ds n hp => ?_) fun f cdv A outer sh H E hr => ?_
  · obtain ⟨_, _, _, _, rfl, _⟩ := hp; rfl
  have nd := sc_are_moves.nd
  refine ⟨_, (pss_cons (ps_if (PW.pt (pw_or (pt_not (pt_val (pe_callB (r := rIsi K) call_isi (by rfl) T.n_isinstance (by decide +kernel) (pa_cons (pv 0) (pa_cons (pe_bltn (v := .ty "dict") (by rfl) T.n_dict (by decide +kernel) rfl) pa_nil))))) (pw_or1 (pt_cmpR op_eq (pe_callB (r := cLenD) call_lenD1 (by rfl) T.n_len (by decide +kernel) (pa_cons (pv 0) pa_nil)) pe_int (nomark _))))) (pss_one (ps_ret pe_bl)) pss_nil)
    (pss_one (ps_ret (pe_callB (r := rAll K) (cr_all rfl) (by rfl) T.n_all (by decide +kernel) (pa_cons (pe_lock (pe_lc (own := [("move", 2)]) rfl nd (pi_keys (pv 0)) (blkOk_by (own := [("move", 2)]) (N := N_are_moves) (sc := C8.fnScope s_are_moves) (by decide +kernel)) (fun _ _ _ _ _ => pg_name (i := 2) nd rfl (Or.inl rfl)) (fun _ _ _ _ _ => pts_nil) (fun _ _ _ _ _ => (pe_and (C8.pe_c c_is_name hr (by decide) (by rfl) (pa_cons (pv 2) pa_nil)) (pe_and (C8.pe_c c_is_name hr (by decide) (by rfl) (pa_cons (pe_dget (hu_of hr) (pv 0) (pv 2) (fun _ _ => rfl)) pa_nil)) (pe_one (pe_cmp (pc_din (hu_of hr) (pe_dget (hu_of hr) (pv 0) (pv 2) (fun _ _ => rfl)) (pv 1))))))))) pa_nil))))), fun sa ca L F0 H0 ds n hp => ?_⟩
  obtain ⟨a, ms, o, gk, rfl, ha, hne, hlen, hms⟩ := hp
  repeat walk_at "gw"
  refine noI (by simp [mvD, hne]) ?_
  repeat walk_at "gw"
  refine we_lock (a := a) ?_ ?_ ?_ fun od => ?_
  · exact ⟨0, _, _, rfl, .refl⟩
  · exact List.not_mem_nil
  · exact ha
  refine we_mapC (c := .bl true) (by decide) (wi_keys ?_)
  repeat walk_at "gw"
  refine ⟨a, _, od, rfl, List.mem_cons_self, ?_, fun z hz => ?_, ?_⟩
  · rw [List.length_map, keys_mvD, List.length_map]; exact hlen
  · rw [keys_mvD] at hz
    obtain ⟨m, hm, rfl⟩ := List.mem_map.mp hz
    obtain ⟨t, ht⟩ := lkp_of hm
    obtain ⟨h1, h2, d', hd'⟩ := hms _ (lkp_mem ht)
    have hlk : lk (mvD ms) m = some (.str t) := by rw [lk_mvD, ht]; rfl
    repeat walk_at "gw"
    refine ⟨⟨_, rfl, h1⟩, ?_⟩
    rintro d n2 H' _ rfl
    repeat walk_at "gw"
    refine ⟨_, hlk, ?_⟩
    repeat walk_at "gw"
    refine ⟨⟨_, rfl, h2⟩, ?_⟩
    rintro d n2 H' _ rfl
    repeat walk_at "gw"
    refine ⟨_, hlk, ?_⟩
    repeat walk_at "gw"
    exact ⟨by rw [hd']; rfl, rfl⟩
  repeat walk_at "gw"
  rfl
abbrev s_are_lots : Stmt := top 24
abbrev N_are_lots : List Str := ["thing", "names", "met", "lot"]
theorem sc_are_lots : FnScope N_are_lots ["thing", "names"] (C8.fnScope s_are_lots) := C8.fnScope_by (by decide +kernel)
def preLots : List Addr → List D → Nat → Prop := fun _ ds _ => ∃ (ls : List (Str × Int)) (o : Option Addr) (gk : List (Str × D)), ds = [.lst (ls.map lotD), .dct o gk] ∧ ls ≠ [] ∧ ls.length ≤ 1000 ∧ (ls.map (·.1)).Nodup ∧ ∀ q ∈ ls, InG gk q.1 ∧ 1 ≤ q.2
theorem ok_are_lots (T : Txt K mg C) (DB : DefB K mg "are_lots" s_are_lots ["thing", "names"]) (c_is_name : C8.Cal P w K mg base 1 "is_name" (spG C false preName postT) []) (c_is_list : C8.Cal P w K mg base 1 "is_list" (spG C false preSeq postT) []) (c_is_integer : C8.Cal P w K mg base 1 "is_integer" (spG C false preInt postT) []) : C8.Cal P w K mg base 2 "are_lots" (spG C false preLots postT) [] := by
  refine cal_ok DB sc_are_lots (fun L ds n hp => ?_) fun f cdv A outer sh H E hr => ?_
  · obtain ⟨_, _, _, rfl, _⟩ := hp; rfl
  have nd := sc_are_lots.nd
  refine ⟨_, (pss_cons (ps_if (PW.pt (pw_or (pt_not (pt_val (C8.pe_c c_is_list hr (by decide) (by rfl) (pa_cons (pv 0) pa_nil)))) (pw_or1 (pt_cmpR op_eq (pe_callB (r := cLenS K) call_lenS (by rfl) T.n_len (by decide +kernel) (pa_cons (pv 0) pa_nil)) pe_int (nomark _))))) (pss_one (ps_ret pe_bl)) pss_nil)
    (pss_cons (ps_set (i := 2) nd rfl (Or.inl rfl) (pe_lst pa_nil))
    (pss_cons (ps_for PassesOwn.never rfl (pi_listK K (pv 0)) (pg_name (i := 3) nd rfl (Or.inl rfl))
      (pss_cons (ps_if (PW.pt (pw_or (pt_not (pt_val (C8.pe_c c_is_list hr (by decide) (by rfl) (pa_cons (pv 3) pa_nil)))) (pw_or (pt_cmpR op_ne (pe_callB (r := cLenS K) call_lenS (by rfl) T.n_len (by decide +kernel) (pa_cons (pv 3) pa_nil)) pe_int (nomark _)) (pw_or (pt_not (pt_val (C8.pe_c c_is_name hr (by decide) (by rfl) (pa_cons (pe_ix (r := rIxT K) ix_tup (pv 3) pe_int (fun _ _ => rfl)) pa_nil)))) (pw_or (pt_cmp (pc_dnotin (hu_of hr) (pe_ix (r := rIxT K) ix_tup (pv 3) pe_int (fun _ _ => rfl)) (pv 1))) (pw_or1 (pt_cmpR (r := rIn K false) op_in_seq (pe_ix (r := rIxT K) ix_tup (pv 3) pe_int (fun _ _ => rfl)) (pv 2) (by rfl)))))))) (pss_one (ps_ret pe_bl)) pss_nil)
      (pss_cons (ps_if (PW.pt (pw_or (pt_not (pt_val (C8.pe_c c_is_integer hr (by decide) (by rfl) (pa_cons (pe_ix (r := rIxT K) ix_tup (pv 3) pe_int (fun _ _ => rfl)) pa_nil)))) (pw_or1 (pt_cmpR op_lt (pe_ix (r := rIxT K) ix_tup (pv 3) pe_int (fun _ _ => rfl)) pe_int (nomark _))))) (pss_one (ps_ret pe_bl)) pss_nil)
      (pss_one (ps_expr (pe_appK K (pv 2) (pe_ix (r := rIxT K) ix_tup (pv 3) pe_int (fun _ _ => rfl))))))))
    (pss_one (ps_ret pe_bl))))), fun sa ca L F0 H0 ds n hp => ?_⟩
  obtain ⟨ls, o, gk, rfl, hne, hlen, hnd, hls⟩ := hp
  repeat walk_at "gw"
  refine ⟨⟨_, .inl rfl⟩, ?_⟩
  rintro d n2 H' _ rfl
  repeat walk_at "gw"
  refine noI (by simp [hne]) ?_
  repeat walk_at "gw"
  refine ws_forN ?_
  repeat walk_at "gw"
  refine ⟨fun i l _ => ∃ x, l = [.sh (.lst (ls.map lotD)), .sh (.dct o gk), .owl (((ls.take i).map (·.1)).map D.str), x], ⟨_, rfl⟩, ?_, ?_⟩
  · rintro i d l1 n1 hi ⟨x, rfl⟩
    rw [List.getElem?_map] at hi
    cases hq : ls[i]? with
    | none => rw [hq] at hi; cases hi
    | some q =>
    rw [hq] at hi
    cases hi
    obtain ⟨⟨h1, d', hd'⟩, h2⟩ := hls q (List.mem_of_getElem? hq)
    have hnot : q.1 ∉ (ls.take i).map (·.1) := nodup_take_map hnd hq
    repeat walk_at "gw"
    refine ⟨⟨_, .inr rfl⟩, ?_⟩
    rintro d n2 H' _ rfl
    repeat walk_at "gw"
    refine ⟨⟨_, rfl, h1⟩, ?_⟩
    rintro d n2 H' _ rfl
    repeat walk_at "gw"
    refine noI (by rw [hd']; rfl) ?_
    refine wt_test (we_inO (i := 2) (zs := (ls.take i).map (·.1)) rfl ?_)
    repeat walk_at "gw"
    refine noI (by simpa using hnot) ?_
    repeat walk_at "gw"
    refine ⟨⟨_, rfl⟩, ?_⟩
    rintro d n2 H' _ rfl
    repeat walk_at "gw"
    refine noI (by simp; omega) ?_
    repeat walk_at "gw"
    refine ⟨?_, ?_⟩
    · rw [List.length_map, List.length_map, List.length_take]; omega
    refine ⟨.sh (lotD q), ?_⟩
    have ht : ls.take (i + 1) = ls.take i ++ [q] := by rw [List.take_add_one, hq]; rfl
    rw [ht, List.map_append, List.map_append]
    rfl
  · rintro l1 n1 ⟨x, rfl⟩
    repeat walk_at "gw"
    rfl
/-! a place -/
theorem side_lit : ∀ o : Bool, decide (sideS o ∈ [("ours" : Str), "theirs"]) = true := by decide +kernel
theorem side_lit2 : ∀ o : Bool, decide (sideS o = ("chance" : Str)) = false ∧ decide (sideS o = ("end" : Str)) = false := by decide +kernel
/-- a sound place, its names looked up in a dict -/
def NdIn (gk : List (Str × D)) : Nd → Prop
  | .mv _ ms => ms ≠ [] ∧ ms.length ≤ 100000 ∧ ∀ q ∈ ms, isName q.1 = true ∧ InG gk q.2
  | .ch ls => ls ≠ [] ∧ ls.length ≤ 1000 ∧ (ls.map (·.1)).Nodup ∧ ∀ q ∈ ls, InG gk q.1 ∧ 1 ≤ q.2
  | .en q => 0 < q.2
abbrev s_is_place : Stmt := top 25
abbrev N_is_place : List Str := ["thing", "names"]
theorem sc_is_place : FnScope N_is_place ["thing", "names"] (C8.fnScope s_is_place) := C8.fnScope_by (by decide +kernel)
def prePlace : List Addr → List D → Nat → Prop := fun L ds _ => ∃ (a : Addr) (nd : Nd) (o : Option Addr) (gk : List (Str × D)), ds = [nodeD a nd, .dct o gk] ∧ (∀ s ms, nd = .mv s ms → a ∉ L) ∧ NdIn gk nd
theorem ok_is_place (T : Txt K mg C) (DB : DefB K mg "is_place" s_is_place ["thing", "names"]) (c_is_list : C8.Cal P w K mg base 1 "is_list" (spG C false preSeq postT) []) (c_are_moves : C8.Cal P w K mg base 2 "are_moves" (spG C false preMoves postT) []) (c_are_lots : C8.Cal P w K mg base 2 "are_lots" (spG C false preLots postT) []) (c_is_fraction : C8.Cal P w K mg base 2 "is_fraction" (spG C false preFr postT) []) : C8.Cal P w K mg base 3 "is_place" (spG C false prePlace postT) [] := by
  refine cal_ok DB sc_is_place (fun L ds n hp => ?_) fun f cdv A outer sh H E hr => ?_
  · obtain ⟨_, _, _, _, rfl, _⟩ := hp; rfl
  have nd := sc_is_place.nd
  refine ⟨_, (pss_cons (ps_if (PW.pt (pw_or (pt_not (pt_val (C8.pe_c c_is_list hr (by decide) (by rfl) (pa_cons (pv 0) pa_nil)))) (pw_or (pt_cmpR op_ne (pe_callB (r := cLenS K) call_lenS (by rfl) T.n_len (by decide +kernel) (pa_cons (pv 0) pa_nil)) pe_int (nomark _)) (pw_or1 (pt_not (pt_val (pe_callB (r := rIsi K) call_isi (by rfl) T.n_isinstance (by decide +kernel) (pa_cons (pe_ix (r := rIxT K) ix_tup (pv 0) pe_int (fun _ _ => rfl)) (pa_cons (pe_bltn (v := .ty "str") (by rfl) T.n_str (by decide +kernel) rfl) pa_nil))))))))) (pss_one (ps_ret pe_bl)) pss_nil)
    (pss_cons (ps_if (pt_cmpR (r := rIn K false) op_in_seq (pe_ix (r := rIxT K) ix_tup (pv 0) pe_int (fun _ _ => rfl)) (pe_tup (pa_cons pe_str (pa_cons pe_str pa_nil))) (by rfl)) (pss_one (ps_ret (C8.pe_c c_are_moves hr (by decide) (by rfl) (pa_cons (pe_ix (r := rIxT K) ix_tup (pv 0) pe_int (fun _ _ => rfl)) (pa_cons (pv 1) pa_nil))))) pss_nil)
    (pss_one (ps_ret (pe_ifExp (pt_cmpR op_eq (pe_ix (r := rIxT K) ix_tup (pv 0) pe_int (fun _ _ => rfl)) pe_str (nomark _)) (C8.pe_c c_are_lots hr (by decide) (by rfl) (pa_cons (pe_ix (r := rIxT K) ix_tup (pv 0) pe_int (fun _ _ => rfl)) (pa_cons (pv 1) pa_nil))) (pe_and (pe_cmpR op_eq (pe_ix (r := rIxT K) ix_tup (pv 0) pe_int (fun _ _ => rfl)) pe_str (nomark _)) (pe_one (C8.pe_c c_is_fraction hr (by decide) (by rfl) (pa_cons (pe_ix (r := rIxT K) ix_tup (pv 0) pe_int (fun _ _ => rfl)) pa_nil))))))))), fun sa ca L F0 H0 ds n hp => ?_⟩
  obtain ⟨a, x, o, gk, rfl, ha, hx⟩ := hp
  repeat walk_at "gw"
  refine ⟨⟨_, .inr rfl⟩, ?_⟩
  rintro d n2 H' _ rfl
  repeat walk_at "gw"
  cases x with
  | mv s ms =>
    obtain ⟨h1, h2, h3⟩ := hx
    refine yesI w_mv ?_
    repeat walk_at "gw"
    exact ⟨⟨a, ms, o, gk, rfl, ha s ms rfl, h1, h2, h3⟩, fun d n2 H' _ h => h⟩
  | ch ls =>
    obtain ⟨h1, h2, h3, h4⟩ := hx
    refine noI w_ch ?_
    repeat walk_at "gw"
    exact ⟨⟨ls, o, gk, rfl, h1, h2, h3, h4⟩, fun d n2 H' _ h => h⟩
  | en q =>
    refine noI w_en ?_
    repeat walk_at "gw"
    exact ⟨⟨q, rfl, hx⟩, fun d n2 H' _ h => h⟩
/-! what is kept of a place -/
abbrev s_kept_place : Stmt := top 26
abbrev N_kept_place : List Str := ["thing", "lot"]
theorem sc_kept_place : FnScope N_kept_place ["thing"] (C8.fnScope s_kept_place) := C8.fnScope_by (by decide +kernel)
def preKept : List Addr → List D → Nat → Prop := fun _ ds _ => ∃ (a : Addr) (N : List Str) (nd : Nd), ds = [nodeD a nd] ∧ NdOk N nd
def postKept : Hp → List D → Nat → D → Nat → Prop := fun _ ds _ d _ => ∃ (a a' : Addr) (nd : Nd), ds = [nodeD a nd] ∧ d = nodeD a' (keep nd)
theorem ok_kept_place (T : Txt K mg C) (DB : DefB K mg "kept_place" s_kept_place ["thing"]) (c_lowest : C8.Cal P w K mg base 1 "lowest" (spG C false preLow postLow) []) : C8.Cal P w K mg base 2 "kept_place" (spG C false preKept postKept) [] := by
  refine cal_ok DB sc_kept_place (fun L ds n hp => ?_) fun f cdv A outer sh H E hr => ?_
  · obtain ⟨_, _, _, rfl, _⟩ := hp; rfl
  have nd := sc_kept_place.nd
  refine ⟨_, (pss_cons (ps_if (pt_cmpR (r := rIn K false) op_in_seq (pe_ix (r := rIxT K) ix_tup (pv 0) pe_int (fun _ _ => rfl)) (pe_tup (pa_cons pe_str (pa_cons pe_str pa_nil))) (by rfl)) (pss_one (ps_ret (pe_tup (pa_cons (pe_ix (r := rIxT K) ix_tup (pv 0) pe_int (fun _ _ => rfl)) (pa_cons (pe_callTy (T := "dict") (r := cDictD) call_dictD1 (by rfl) T.n_dict (by decide +kernel) (pa_cons (pe_ix (r := rIxT K) ix_tup (pv 0) pe_int (fun _ _ => rfl)) pa_nil)) pa_nil))))) pss_nil)
    (pss_cons (ps_if (pt_cmpR op_eq (pe_ix (r := rIxT K) ix_tup (pv 0) pe_int (fun _ _ => rfl)) pe_str (nomark _)) (pss_one (ps_ret (pe_tup (pa_cons pe_str (pa_cons (pe_lc (own := [("lot", 1)]) rfl nd (pi_listK K (pe_ix (r := rIxT K) ix_tup (pv 0) pe_int (fun _ _ => rfl))) (blkOk_by (own := [("lot", 1)]) (N := N_kept_place) (sc := C8.fnScope s_kept_place) (by decide +kernel)) (fun _ _ _ _ _ => pg_name (i := 1) nd rfl (Or.inl rfl)) (fun _ _ _ _ _ => pts_nil) (fun _ _ _ _ _ => (pe_callTy (T := "tuple") (r := cTupS K) call_tupS (by rfl) T.n_tuple (by decide +kernel) (pa_cons (pv 1) pa_nil)))) pa_nil))))) pss_nil)
    (pss_one (ps_ret (pe_tup (pa_cons pe_str (pa_cons (C8.pe_c c_lowest hr (by decide) (by rfl) (pa_cons (pe_ix (r := rIxT K) ix_tup (pe_ix (r := rIxT K) ix_tup (pv 0) pe_int (fun _ _ => rfl)) pe_int (fun _ _ => rfl)) (pa_cons (pe_ix (r := rIxT K) ix_tup (pe_ix (r := rIxT K) ix_tup (pv 0) pe_int (fun _ _ => rfl)) pe_int (fun _ _ => rfl)) pa_nil))) pa_nil))))))), fun sa ca L F0 H0 ds n hp => ?_⟩
  obtain ⟨a, N, x, rfl, hx⟩ := hp
  repeat walk_at "gw"
  cases x with
  | mv s ms =>
    refine yesI w_mv ?_
    repeat walk_at "gw"
    exact ⟨a, _, .mv s ms, rfl, rfl⟩
  | ch ls =>
    refine noI w_ch ?_
    repeat walk_at "gw"
    refine we_map (f := id) (by decide) ?_
    repeat walk_at "gw"
    refine ⟨?_, fun z hz => ?_, ls.map lotD, List.map_id _, ?_⟩
    · rw [List.length_map]; exact Nat.le_trans hx.2.1 (by decide)
    · obtain ⟨q, hq, rfl⟩ := List.mem_map.mp hz
      repeat walk_at "gw"
      exact ⟨rfl, rfl⟩
    repeat walk_at "gw"
    exact ⟨a, a, .ch ls, rfl, rfl⟩
  | en q =>
    refine noI w_en ?_
    repeat walk_at "gw"
    refine ⟨⟨_, _, rfl, hx.1, Nat.lt_of_lt_of_le hx.2.2 (Nat.pow_le_pow_right (by decide) (by decide))⟩, ?_⟩
    rintro d n2 H' _ ⟨t, b, he, rfl⟩
    simp only [List.cons.injEq, D.int.injEq, and_true] at he
    obtain ⟨rfl, rfl⟩ := he
    repeat walk_at "gw"
    exact ⟨a, a, .en q, rfl, rfl⟩
/-! where a place leads -/
theorem enum_pick (xs : List Str) : ((enumD (xs.map D.str)).filter fun z => match z with | .tup [.int i, .str x] => !decide (x ∈ xs.take i.toNat) | _ => false).map (fun z => match z with | .tup [_, x] => x | _ => .non) = (uniq xs).map D.str := by
  unfold uniq enumD
  rw [List.map_map]
  have e : (xs.map D.str).mapIdx (fun i x => D.tup [.int (i : Nat), x]) = (xs.mapIdx fun i x => (i, x)).map fun q => D.tup [.int (q.1 : Nat), .str q.2] := by
    refine List.ext_getElem? fun i => ?_
    simp only [List.getElem?_mapIdx, List.getElem?_map, Option.map_map]
    rfl
  rw [e, List.filter_map, List.map_map]
  congr 1
abbrev s_led_from : Stmt := top 27
abbrev N_led_from : List Str := ["thing", "places", "at", "place", "lot"]
theorem sc_led_from : FnScope N_led_from ["thing"] (C8.fnScope s_led_from) := C8.fnScope_by (by decide +kernel)
def preLed : List Addr → List D → Nat → Prop := fun _ ds _ => ∃ (a : Addr) (N : List Str) (nd : Nd), ds = [nodeD a nd] ∧ NdOk N nd
def postLed : Hp → List D → Nat → D → Nat → Prop := fun _ ds _ d _ => ∃ (a : Addr) (nd : Nd), ds = [nodeD a nd] ∧ d = .lst ((kids nd).map D.str)
theorem ok_led_from (T : Txt K mg C) (DB : DefB K mg "led_from" s_led_from ["thing"]) : C8.Cal P w K mg base 1 "led_from" (spG C false preLed postLed) [] := by
  refine cal_ok DB sc_led_from (fun L ds n hp => ?_) fun f cdv A outer sh H E hr => ?_
  · obtain ⟨_, _, _, rfl, _⟩ := hp; rfl
  have nd := sc_led_from.nd
  refine ⟨_, (pss_cons (ps_if (pt_cmpR op_eq (pe_ix (r := rIxT K) ix_tup (pv 0) pe_int (fun _ _ => rfl)) pe_str (nomark _)) (pss_one (ps_ret (pe_lst pa_nil))) pss_nil)
    (pss_cons (ps_set (i := 1) nd rfl (Or.inr rfl) (pe_ifExp (pt_cmpR op_eq (pe_ix (r := rIxT K) ix_tup (pv 0) pe_int (fun _ _ => rfl)) pe_str (nomark _)) (pe_lc (own := [("lot", 4)]) rfl nd (pi_listK K (pe_ix (r := rIxT K) ix_tup (pv 0) pe_int (fun _ _ => rfl))) (blkOk_by (own := [("lot", 4)]) (N := N_led_from) (sc := C8.fnScope s_led_from) (by decide +kernel)) (fun _ _ _ _ _ => pg_name (i := 4) nd rfl (Or.inl rfl)) (fun _ _ _ _ _ => pts_nil) (fun _ _ _ _ _ => (pe_ix (r := rIxT K) ix_tup (pv 4) pe_int (fun _ _ => rfl)))) (pe_listVals rfl (pe_ix (r := rIxT K) ix_tup (pv 0) pe_int (fun _ _ => rfl)) (by rfl) T.n_list (by decide +kernel))))
    (pss_one (ps_ret (pe_lc (own := [("at", 2), ("place", 3)]) rfl nd (pi_enumK K (by rfl) T.n_enumerate (pa_cons (pv 1) pa_nil)) (blkOk_by (own := [("at", 2), ("place", 3)]) (N := N_led_from) (sc := C8.fnScope s_led_from) (by decide +kernel)) (fun _ _ _ _ _ => pg_tupK (n := 2) K rfl (pgs_cons (pg_name (i := 2) nd rfl (Or.inl rfl)) (pgs_cons (pg_name (i := 3) nd rfl (Or.inl rfl)) pgs_nil))) (fun _ _ _ _ _ => (pts_one (pt_cmpR (r := rIn K true) op_notIn_seq (pv 3) (pe_slice (r := rSlL K) sl_list (pv 1) po_none (po_some (pv 2))) (by rfl)))) (fun _ _ _ _ _ => (pv 3))))))), fun sa ca L F0 H0 ds n hp => ?_⟩
  obtain ⟨a, N, x, rfl, hx⟩ := hp
  have htl := hx.tl
  repeat walk_at "gw"
  rcases (show (∃ q, x = .en q) ∨ decide (word x = ("end" : Str)) = false from by cases x with
    | en q => exact .inl ⟨q, rfl⟩
    | ch ls => exact .inr w_che
    | mv s ms => exact .inr w_mve) with ⟨q, rfl⟩ | hw
  · refine yesI w_ene ?_
    repeat walk_at "gw"
    rfl
  refine noI hw (ws_next (ws_seq (ws_set (we_mono (Q := fun d n2 => d = .lst ((targets x).map D.str) ∧ n2 = n) ?_ ?_))))
  · cases x with
    | en q => rw [w_ene] at hw; cases hw
    | ch ls =>
      repeat walk_at "gw"
      refine we_map (f := fun z => match z with | .tup (x :: _) => x | _ => .non) (by decide) ?_
      repeat walk_at "gw"
      refine ⟨?_, fun z hz => ?_, (targets (.ch ls)).map D.str, ?_, rfl, rfl⟩
      · rw [List.length_map]; exact Nat.le_trans hx.2.1 (by decide)
      · obtain ⟨q, hq, rfl⟩ := List.mem_map.mp hz
        repeat walk_at "gw"
        exact ⟨rfl, rfl⟩
      · unfold targets
        rw [List.map_map, List.map_map]
        rfl
    | mv s ms =>
      repeat walk_at "gw"
      refine noI w_mvc ?_
      repeat walk_at "gw"
      refine ⟨?_, rfl⟩
      unfold targets mvD
      rw [List.map_map, List.map_map]
      rfl
  · rintro d n2 ⟨rfl, rfl⟩
    refine ws_ret (we_filterP (f := fun z => match z with | .tup [_, x] => x | _ => .non) (p := fun z => match z with | .tup [.int i, .str y] => !decide (y ∈ (targets x).take i.toNat) | _ => false) (by decide) (by decide) ?_)
    repeat walk_at "gw"
    refine ⟨?_, fun z hz => ?_, (kids x).map D.str, enum_pick _, ⟨a, x, rfl, rfl⟩⟩
    · unfold enumD; rw [List.length_mapIdx, List.length_map]; omega
    · unfold enumD at hz
      obtain ⟨i, hi, rfl⟩ := List.mem_mapIdx.mp hz
      rw [List.length_map] at hi
      rw [List.getElem_map]
      refine ⟨_, _, rfl, ?_, fun _ => ?_⟩
      · repeat walk_at "gw"
        rw [cutD_take, ← List.map_take]
        refine ro_ninL ?_
        exact ⟨_, rfl, rfl, rfl⟩
      · repeat walk_at "gw"
        exact ⟨rfl, rfl⟩
end
end Gw

/-! The game's own methods. -/
namespace Gw
open PySem L2
local macro_rules | `(tactic| walk_at "gw") => `(tactic| first
  | (with_reducible refine ws_seq ?_)
  | (with_reducible refine ws_ret ?_)
  | (with_reducible refine ws_newl ?_)
  | (with_reducible refine ws_newd ?_)
  | (with_reducible refine ws_set ?_)
  | (with_reducible refine ws_par3 ?_)
  | (with_reducible refine ws_par ?_)
  | (with_reducible refine ws_if ?_)
  | (with_reducible refine ws_next ?_)
  | (with_reducible refine ws_cont ?_)
  | (with_reducible refine ws_asgP ?_)
  | (with_reducible refine ws_asgP3 ?_)
  | ((with_reducible refine' ws_app ?h ?_); (case h => rfl))
  | ((with_reducible refine' ws_clear ?h ?_); (case h => rfl))
  | ((with_reducible refine' ws_dput ?h ?_); (case h => rfl))
  | (with_reducible refine ws_drop ?_)
  | ((with_reducible refine' we_var ?h ?_); (case h => rfl))
  | (with_reducible refine we_int ?_)
  | (with_reducible refine we_str ?_)
  | (with_reducible refine we_bl ?_)
  | (with_reducible refine we_non ?_)
  | (with_reducible refine we_ty ?_)
  | ((with_reducible refine' we_ixM ?h ?e ?_); (case h => rfl); (case e => exact atI_last _ _))
  | ((with_reducible refine' we_ixO ?h ?_); (case h => rfl))
  | (with_reducible refine we_neg ?_)
  | (with_reducible refine we_op ?_)
  | (with_reducible refine ro_I0 ?_)
  | (with_reducible refine ro_B0 ?_)
  | ((with_reducible refine ro_I ?h ?_); (case h => first | assumption | omega))
  | ((with_reducible refine' ro_ixT ?h ?_); (case h => rfl))
  | (with_reducible refine ro_inT2 ?_)
  | (with_reducible refine ro_ninT2 ?_)
  | (with_reducible refine ro_eqS ?_)
  | (with_reducible refine ro_neS ?_)
  | (with_reducible refine ro_eqI ?_)
  | (with_reducible refine ro_neI ?_)
  | (with_reducible refine ro_eqB ?_)
  | (with_reducible refine ro_notNon ?_)
  | (with_reducible refine ro_neB ?_)
  | ((with_reducible refine' we_dgetO ?h ?_); (case h => rfl))
  | ((with_reducible refine' we_dinO ?h ?_); (case h => rfl))
  | ((with_reducible refine' we_dnotinO ?h ?_); (case h => rfl))
  | (with_reducible refine we_dget ?_)
  | (with_reducible refine we_din ?_)
  | (with_reducible refine we_dnotin ?_)
  | ((with_reducible refine we_tup ?_))
  | ((with_reducible refine we_lst ?_))
  | (with_reducible refine wa_cons ?_)
  | (with_reducible refine wa_nil ?_)
  | (with_reducible refine we_cb ?_)
  | (with_reducible refine we_chain ?_)
  | (with_reducible refine we_if ?_)
  | (with_reducible refine we_andV ?_)
  | (with_reducible refine we_orV ?_)
  | (with_reducible refine we_notV ?_)
  | (with_reducible refine wt_test ?_)
  | (with_reducible refine wt_B ?_)
  | (with_reducible refine wt_not ?_)
  | (with_reducible refine wt_and ?_)
  | (with_reducible refine wt_or ?_)
  | (with_reducible refine wt_ifT ?_)
  | (with_reducible refine we_call ?_)
  | ((with_reducible refine' we_callS ?h ?_); (case h => rfl))
  | ((with_reducible refine' we_meth ?h ?_); (case h => decide +kernel))
  | (with_reducible refine rc_abs ?_)
  | (with_reducible refine rc_int ?_)
  | (with_reducible refine rc_lenL ?_)
  | (with_reducible refine rc_lenT ?_)
  | (with_reducible refine rc_lenD ?_)
  | (with_reducible refine rc_lenLS ?_)
  | (with_reducible refine rc_sum ?_)
  | (with_reducible refine rc_tupT ?_)
  | ((with_reducible refine' rc_isi ?ht ?hb ?_); (case ht => rfl); (case hb => first | exact kb_int_int | exact kb_int_bool | exact kb_int_list | exact kb_int_tuple | exact kb_str_str | exact kb_dict_dict | exact kb_list_list | exact kb_list_tuple | exact kb_tuple_list | exact kb_tuple_tuple | exact kb_bool_int | exact kb_bool_bool))
  | ((with_reducible refine' rc_isiT ?ht ?h1 ?h2 ?_); (case ht => rfl); (case h1 => first | exact kb_int_int | exact kb_int_bool | exact kb_int_list | exact kb_int_tuple | exact kb_str_str | exact kb_dict_dict | exact kb_list_list | exact kb_list_tuple | exact kb_tuple_list | exact kb_tuple_tuple | exact kb_bool_int | exact kb_bool_bool); (case h2 => first | exact kb_int_int | exact kb_int_bool | exact kb_int_list | exact kb_int_tuple | exact kb_str_str | exact kb_dict_dict | exact kb_list_list | exact kb_list_tuple | exact kb_tuple_list | exact kb_tuple_tuple | exact kb_bool_int | exact kb_bool_bool))
  | (with_reducible refine rc_allT ?_)
  | (with_reducible refine rc_anyF ?_)
  | (with_reducible refine rc_all ?_)
  | (with_reducible refine rc_any ?_)
  | (with_reducible refine rc_listD ?_)
  | (with_reducible refine rc_dictD fun _ _ => ?_)
  | (with_reducible refine we_rev ?_)
  | (with_reducible refine we_slL ?_)
  | (with_reducible refine wo_no ?_)
  | (with_reducible refine wo_part ?_)
  | (with_reducible refine we_listVals ?_)
  | ((with_reducible refine' we_fld ?hc ?hn ?_); (case hc => assumption); (case hn => assumption))
  | (with_reducible refine wi_list ?_)
  | (with_reducible refine wi_range1 ?_)
  | (with_reducible refine wi_str ?_)
  | (with_reducible refine wi_enum ?_)
  | (with_reducible refine wg_name ?_)
  | (with_reducible refine wg_two ?_)
  | (refine ⟨Nat.le_of_ble_eq_true rfl, ?_⟩)
  | (refine ⟨_, rfl, ?_⟩)
  | (refine ⟨_, _, rfl, ?_⟩)
  | (refine ⟨_, _, _, rfl, rfl, ?_⟩)
  | (refine ⟨_, _, _, rfl, ?_⟩)
  | (refine ⟨fun _ => ?_, fun z => Bool.noConfusion z⟩)
  | (refine ⟨fun z => Bool.noConfusion z, fun _ => ?_⟩)
  | (refine ⟨fun _ => ?_, fun z => absurd z (by decide +kernel)⟩)
  | (refine ⟨fun z => absurd z (by decide +kernel), fun _ => ?_⟩))
section
variable {P : Program} {w : World} {K : PySem.W.Frag} {mg : Str → Option Value} {base : Heap} {C : Addr}
def postTrue : Hp → List D → Nat → D → Nat → Prop := fun _ _ _ _ _ => True
abbrev s_check_side : Stmt := top 31
abbrev N_check_side : List Str := ["side"]
theorem sc_check_side : FnScope N_check_side ["side"] (C8.fnScope s_check_side) := C8.fnScope_by (by decide +kernel)
def preSide : List Addr → List D → Nat → Prop := fun _ ds _ => ∃ o : Bool, ds = [.str (sideS o)]
theorem ok_check_side (T : Txt K mg C) (DB : DefB K mg "check_side" s_check_side ["side"]) : C8.Cal P w K mg base 1 "check_side" (spG C false preSide postTrue) [] := by
  refine cal_ok DB sc_check_side (fun L ds n hp => ?_) fun f cdv A outer sh H E hr => ?_
  · obtain ⟨_, rfl⟩ := hp; rfl
  have nd := sc_check_side.nd
  have tcl := T.cl
  have tnp := T.nP
  refine ⟨_, (pss_one (ps_if (PW.pt (pw_or (pt_not (pt_val (pe_callB (r := rIsi K) call_isi (by rfl) T.n_isinstance (by decide +kernel) (pa_cons (pv 0) (pa_cons (pe_bltn (v := .ty "str") (by rfl) T.n_str (by decide +kernel) rfl) pa_nil))))) (pw_or1 (pt_cmpR (r := rIn K true) op_notIn_seq (pv 0) (pe_tup (pa_cons pe_str (pa_cons pe_str pa_nil))) (by rfl))))) (pss_one ps_never) pss_nil)), fun sa ca L F0 H0 ds n hp => ?_⟩
  obtain ⟨o, rfl⟩ := hp
  repeat walk_at "gw"
  refine noI (by rw [(lit_m o).1]; rfl) ?_
  repeat walk_at "gw"
  trivial
abbrev s_Game_places : Stmt := inCls (top 28) 1
abbrev N_Game_places : List Str := ["self"]
theorem sc_Game_places : FnScope N_Game_places ["self"] (C8.fnScope s_Game_places) := C8.fnScope_by (by decide +kernel)
def prePlaces : List Addr → List D → Nat → Prop := fun _ ds _ => ∃ o kvs, ds = [.obj (.dct o kvs)]
def postPlaces : Hp → List D → Nat → D → Nat → Prop := fun _ ds _ d _ => ∃ o kvs, ds = [.obj (.dct o kvs)] ∧ d = .lst ((kvs.map (·.1)).map D.str)
theorem ok_places (T : Txt K mg C) (DB : MetB K C "places" "Game.places" s_Game_places ["self"]) : C8.Met P w K mg base 1 C "places" (spG C false prePlaces postPlaces) [] := by
  refine met_ok T.cl DB sc_Game_places (fun L ds n hp => ?_) fun f cdv A outer sh H E hr => ?_
  · obtain ⟨_, _, rfl⟩ := hp; rfl
  have nd := sc_Game_places.nd
  have tcl := T.cl
  have tnp := T.nP
  refine ⟨_, (pss_one (ps_ret (pe_callTy (T := "list") (r := cListD) (call_listD1 rfl) (by rfl) T.n_list (by decide +kernel) (pa_cons (pe_fldK K (pv 0) rfl) pa_nil)))), fun sa ca L F0 H0 ds n hp => ?_⟩
  obtain ⟨o, kvs, rfl⟩ := hp
  repeat walk_at "gw"
  rfl
abbrev s_Game_check_place : Stmt := inCls (top 28) 2
abbrev N_Game_check_place : List Str := ["self", "name"]
theorem sc_Game_check_place : FnScope N_Game_check_place ["self", "name"] (C8.fnScope s_Game_check_place) := C8.fnScope_by (by decide +kernel)
def preCk : List Addr → List D → Nat → Prop := fun _ ds _ => ∃ o kvs s d, ds = [.obj (.dct o kvs), .str s] ∧ lk kvs s = some d
theorem ok_check_place (T : Txt K mg C) (DB : MetB K C "check_place" "Game.check_place" s_Game_check_place ["self", "name"]) : C8.Met P w K mg base 1 C "check_place" (spG C false preCk postTrue) [] := by
  refine met_ok T.cl DB sc_Game_check_place (fun L ds n hp => ?_) fun f cdv A outer sh H E hr => ?_
  · obtain ⟨_, _, _, _, rfl, _⟩ := hp; rfl
  have nd := sc_Game_check_place.nd
  have tcl := T.cl
  have tnp := T.nP
  refine ⟨_, (pss_one (ps_if (PW.pt (pw_or (pt_not (pt_val (pe_callB (r := rIsi K) call_isi (by rfl) T.n_isinstance (by decide +kernel) (pa_cons (pv 1) (pa_cons (pe_bltn (v := .ty "str") (by rfl) T.n_str (by decide +kernel) rfl) pa_nil))))) (pw_or1 (pt_cmp (pc_dnotin (hu_of hr) (pv 1) (pe_fldK K (pv 0) rfl)))))) (pss_one ps_never) pss_nil)), fun sa ca L F0 H0 ds n hp => ?_⟩
  obtain ⟨o, kvs, s, d, rfl, hd⟩ := hp
  repeat walk_at "gw"
  refine noI (b := !(lk kvs s).isSome) (by rw [hd]; rfl) ?_
  repeat walk_at "gw"
  trivial
abbrev s_is_plan : Stmt := top 32
abbrev N_is_plan : List Str := ["game", "side", "thing", "names", "name"]
theorem sc_is_plan : FnScope N_is_plan ["game", "side", "thing"] (C8.fnScope s_is_plan) := C8.fnScope_by (by decide +kernel)
def prePlan : List Addr → List D → Nat → Prop := fun _ ds _ => ∃ (g : Addr) (ad : Str → Addr) (G : Gm) (rk : Str → Nat) (s : Bool) (o : Option Addr) (pl : List (Str × Str)), ds = [.obj (gameD g ad G), .str (sideS s), .dct o (mvD pl)] ∧ GOk G rk ∧ PlanOk G s pl
theorem sideNames_sub {G : Gm} {o : Bool} {n : Str} (h : n ∈ sideNames G o) : n ∈ names G := by
  obtain ⟨ms, hm⟩ := sideNames_mem h
  exact names_mem hm
def sideP (G : Gm) (o : Bool) (n : Str) : Bool := match nodeAt G n with
  | some x => decide (word x = sideS o)
  | none => false
theorem sideP_of {G : Gm} {o : Bool} {n : Str} {x : Nd} (h : nodeAt G n = some x) : decide (word x = sideS o) = sideP G o n := by unfold sideP; rw [h]
def sidePD (G : Gm) (o : Bool) : D → Bool
  | .str n => sideP G o n
  | _ => false
theorem sideNames_eq {G : Gm} (hn : (names G).Nodup) (o : Bool) : (names G).filter (sideP G o) = sideNames G o := by
  have key : ∀ (H : Gm), (∀ q ∈ H, q ∈ G) → (names H).filter (sideP G o) = sideNames H o := by
    intro H
    induction H with
    | nil => intro _; rfl
    | cons q r ih =>
      intro h
      have e := nodeAt_eq hn (n := q.1) (x := q.2) (h q List.mem_cons_self)
      have ih' := ih fun z hz => h z (List.mem_cons_of_mem _ hz)
      unfold sideNames names at ih' ⊢
      rw [List.map_cons, List.filter_cons, List.filter_cons, ← sideP_of e]
      split
      · rw [List.map_cons, ih']
      · exact ih'
  exact key G fun _ h => h
theorem ok_is_plan (T : Txt K mg C) (DB : DefB K mg "is_plan" s_is_plan ["game", "side", "thing"]) (c_check_side : C8.Cal P w K mg base 1 "check_side" (spG C false preSide postTrue) []) (c_places : C8.Met P w K mg base 1 C "places" (spG C false prePlaces postPlaces) []) : C8.Cal P w K mg base 2 "is_plan" (spG C false prePlan postT) [] := by
  refine cal_ok DB sc_is_plan (fun L ds n hp => ?_) fun f cdv A outer sh H E hr => ?_
  · obtain ⟨_, _, _, _, _, _, _, rfl, _⟩ := hp; rfl
  have nd := sc_is_plan.nd
  have tcl := T.cl
  have tnp := T.nP
  refine ⟨_, (pss_cons (ps_expr (C8.pe_c c_check_side hr (by decide) (by rfl) (pa_cons (pv 1) pa_nil)))
    (pss_cons (ps_if (pt_not (pt_val (pe_callB (r := rIsi K) call_isi (by rfl) T.n_isinstance (by decide +kernel) (pa_cons (pv 2) (pa_cons (pe_bltn (v := .ty "dict") (by rfl) T.n_dict (by decide +kernel) rfl) pa_nil))))) (pss_one (ps_ret pe_bl)) pss_nil)
    (pss_cons (ps_setLc (i := 3) (own := [("name", 4)]) rfl nd rfl rfl (sw_true rfl rfl rfl (by decide +kernel)) (pi_listK K (C8.pe_mt0 c_places hr (by decide) (pv 0))) (blkOk_by (own := [("name", 4)]) (N := N_is_plan) (sc := C8.fnScope s_is_plan) (by decide +kernel)) (fun _ _ _ _ _ => pg_name (i := 4) nd rfl (Or.inl rfl)) (fun _ _ _ _ _ => (pts_one (pt_cmpR op_eq (pe_ix (r := rIxT K) ix_tup (pe_dget (hu_of hr) (pe_fldK K (pv 0) rfl) (pv 4) (fun _ _ => rfl)) pe_int (fun _ _ => rfl)) (pv 1) (nomark _)))) (fun _ _ _ _ _ => (pv 4)))
    (pss_cons (ps_if (PW.pt (pw_or (pt_cmpR op_ne (pe_callB (r := cLenD) call_lenD1 (by rfl) T.n_len (by decide +kernel) (pa_cons (pv 2) pa_nil)) (pe_callB (r := cLenS K) call_lenS (by rfl) T.n_len (by decide +kernel) (pa_cons (pv 3) pa_nil)) (nomark _)) (pw_or1 (pt_not (pt_val (pe_callB (r := rAll K) (cr_all rfl) (by rfl) T.n_all (by decide +kernel) (pa_cons (pe_lc (own := [("name", 4)]) rfl nd (pi_listK K (pv 3)) (blkOk_by (own := [("name", 4)]) (N := N_is_plan) (sc := C8.fnScope s_is_plan) (by decide +kernel)) (fun _ _ _ _ _ => pg_name (i := 4) nd rfl (Or.inl rfl)) (fun _ _ _ _ _ => pts_nil) (fun _ _ _ _ _ => (pe_cmp (pc_din (hu_of hr) (pv 4) (pv 2))))) pa_nil))))))) (pss_one (ps_ret pe_bl)) pss_nil)
    (pss_one (ps_ret (pe_callB (r := rAll K) (cr_all rfl) (by rfl) T.n_all (by decide +kernel) (pa_cons (pe_lc (own := [("name", 4)]) rfl nd (pi_listK K (pv 3)) (blkOk_by (own := [("name", 4)]) (N := N_is_plan) (sc := C8.fnScope s_is_plan) (by decide +kernel)) (fun _ _ _ _ _ => pg_name (i := 4) nd rfl (Or.inl rfl)) (fun _ _ _ _ _ => pts_nil) (fun _ _ _ _ _ => (pe_and (pe_callB (r := rIsi K) call_isi (by rfl) T.n_isinstance (by decide +kernel) (pa_cons (pe_dget (hu_of hr) (pv 2) (pv 4) (fun _ _ => rfl)) (pa_cons (pe_bltn (v := .ty "str") (by rfl) T.n_str (by decide +kernel) rfl) pa_nil))) (pe_one (pe_cmp (pc_din (hu_of hr) (pe_dget (hu_of hr) (pv 2) (pv 4) (fun _ _ => rfl)) (pe_ix (r := rIxT K) ix_tup (pe_dget (hu_of hr) (pe_fldK K (pv 0) rfl) (pv 4) (fun _ _ => rfl)) pe_int (fun _ _ => rfl)))))))) pa_nil)))))))), fun sa ca L F0 H0 ds n hp => ?_⟩
  obtain ⟨g, ad, G, rk, s, o, pl, rfl, hG, hpl, hmv⟩ := hp
  have hlen := hG.len
  repeat walk_at "gw"
  refine ⟨⟨s, rfl⟩, ?_⟩
  rintro d n2 H' _ -
  repeat walk_at "gw"
  refine we_filter (f := id) (p := sidePD G s) (by decide) ?_
  repeat walk_at "gw"
  refine ⟨⟨_, _, rfl⟩, ?_⟩
  rintro d n2 H' _ ⟨o', kvs', he, rfl⟩
  simp only [List.cons.injEq, D.obj.injEq, D.dct.injEq, and_true] at he
  obtain ⟨rfl, rfl⟩ := he
  rw [keys_gkv]
  refine ⟨_, rfl, ?_, fun z hz => ?_, fun z hz _ => ?_, (sideNames G s).map D.str, ?_, ?_⟩
  · rw [List.length_map]; unfold names; rw [List.length_map]; exact Nat.le_trans hlen (by decide)
  · obtain ⟨m, hm, rfl⟩ := List.mem_map.mp hz
    obtain ⟨x, hx, hx2, hx3⟩ := hG.lk hm ad
    repeat walk_at "gw"
    refine ⟨_, hx, ?_⟩
    repeat walk_at "gw"
    exact ⟨sideP_of hx2, rfl⟩
  · obtain ⟨m, hm, rfl⟩ := List.mem_map.mp hz
    repeat walk_at "gw"
    exact ⟨rfl, rfl⟩
  · rw [List.filter_map, List.map_id, ← sideNames_eq hG.nd s]
    rfl
  repeat walk_at "gw"
  have hsl : ∀ m ∈ sideNames G s, ∃ ms t, lk (gkv ad G) m = some (nodeD (ad m) (.mv s ms)) ∧ lkp pl m = some t ∧ t ∈ ms.map (·.1) := fun m hm => by
    obtain ⟨ms, hms⟩ := sideNames_mem hm
    obtain ⟨t, h1, h2⟩ := hmv m ms hms
    exact ⟨ms, t, by rw [lk_gkv, nodeAt_eq hG.nd hms]; rfl, h1, h2⟩
  have hl : (sideNames G s).length ≤ 100000 := by
    unfold sideNames
    rw [List.length_map]
    exact Nat.le_trans (List.length_filter_le ..) (Nat.le_trans hlen (by decide))
  refine noI (by simp [mvD, hpl]) ?_
  repeat walk_at "gw"
  refine we_mapC (c := .bl true) (by decide) ?_
  repeat walk_at "gw"
  refine ⟨by rw [List.length_map]; exact hl, fun z hz => ?_, ?_⟩
  · obtain ⟨m, hm, rfl⟩ := List.mem_map.mp hz
    obtain ⟨ms, t, h1, h2, h3⟩ := hsl m hm
    repeat walk_at "gw"
    exact ⟨by rw [lk_mvD, h2]; rfl, rfl⟩
  repeat walk_at "gw"
  refine we_mapC (c := .bl true) (by decide) ?_
  repeat walk_at "gw"
  refine ⟨by rw [List.length_map]; exact hl, fun z hz => ?_, ?_⟩
  · obtain ⟨m, hm, rfl⟩ := List.mem_map.mp hz
    obtain ⟨ms, t, h1, h2, h3⟩ := hsl m hm
    repeat walk_at "gw"
    refine ⟨.str t, by rw [lk_mvD, h2]; rfl, ?_⟩
    repeat walk_at "gw"
    refine ⟨.str t, by rw [lk_mvD, h2]; rfl, ?_⟩
    repeat walk_at "gw"
    refine ⟨_, h1, ?_⟩
    repeat walk_at "gw"
    obtain ⟨t', ht'⟩ := lkp_of h3
    exact ⟨by rw [lk_mvD, ht']; rfl, rfl⟩
  repeat walk_at "gw"
  rfl
abbrev s_Game_round_place : Stmt := inCls (top 28) 14
abbrev N_Game_round_place : List Str := ["self", "name", "found", "waiting", "place"]
theorem sc_Game_round_place : FnScope N_Game_round_place ["self"] (C8.fnScope s_Game_round_place) := C8.fnScope_by (by decide +kernel)
def preG : List Addr → List D → Nat → Prop := fun L ds _ => ∃ (g : Addr) (ad : Str → Addr) (G : Gm) (rk : Str → Nat), ds = [.obj (gameD g ad G)] ∧ GOk G rk ∧ g ∉ L
def postNon : Hp → List D → Nat → D → Nat → Prop := fun _ _ _ d _ => d = .non
theorem kids_sub {x : Nd} {c : Str} (h : c ∈ kids x) : c ∈ targets x := uniq_sub h
def foundD (fs : List Str) : List (Str × D) := fs.map fun n => (n, .bl true)
theorem lk_found : ∀ (fs : List Str) (n : Str), (lk (foundD fs) n).isSome = decide (n ∈ fs)
  | [], n => rfl
  | f :: fs, n => by
    have ih := lk_found fs n
    by_cases h : f = n
    · subst h
      rw [show lk (foundD (f :: fs)) f = some (.bl true) from lk_pos (q := (f, D.bl true)) rfl]
      simp
    · rw [show lk (foundD (f :: fs)) n = lk (foundD fs) n from lk_neg (q := (f, D.bl true)) h, ih]
      simp [Ne.symm h]
theorem put_found {fs : List Str} {n : Str} (h : n ∉ fs) : putD (foundD fs) n (.bl true) = foundD (fs ++ [n]) := by
  unfold putD
  rw [if_neg]
  · unfold foundD; rw [List.map_append]; rfl
  · unfold foundD
    rw [List.any_map]
    intro z
    obtain ⟨m, hm, e⟩ := List.any_eq_true.mp z
    exact h (by rw [← of_decide_eq_true e]; exact hm)
theorem put_found_old {fs : List Str} {n : Str} (h : n ∈ fs) : putD (foundD fs) n (.bl true) = foundD fs := by
  unfold putD
  rw [if_pos]
  · unfold foundD
    rw [List.map_map]
    refine List.map_congr_left fun m hm => ?_
    show (if m = n then (m, D.bl true) else (m, D.bl true)) = _
    split <;> rfl
  · unfold foundD
    rw [List.any_map]
    exact List.any_eq_true.mpr ⟨n, h, by simp⟩
structure RInv (G : Gm) (rk : Str → Nat) (top : Str) (fs ws : List Str) : Prop where
  fn : fs.Nodup
  fg : ∀ f ∈ fs, f ∈ names G ∧ rk f < rk top
  wg : ∀ v ∈ ws, v ∈ names G ∧ rk v ≤ rk top
  wl : ws.length ≤ 1 + fs.length
theorem nodup_len : ∀ {fs N : List Str}, fs.Nodup → (∀ f ∈ fs, f ∈ N) → fs.length ≤ N.length
  | [], N, _, _ => Nat.zero_le _
  | a :: fs, N, h, s => by
    have h' := List.nodup_cons.mp h
    have ha := s a List.mem_cons_self
    have q := nodup_len (fs := fs) (N := N.erase a) h'.2 fun f hf => (List.mem_erase_of_ne (fun e => h'.1 (by rw [← e]; exact hf))).mpr (s f (List.mem_cons_of_mem _ hf))
    rw [List.length_erase_of_mem ha] at q
    have := List.length_pos_of_mem ha
    rw [List.length_cons]
    omega
theorem snoc_of {α : Type} : ∀ {l : List α}, l ≠ [] → ∃ m x, l = m ++ [x]
  | [], h => absurd rfl h
  | [x], _ => ⟨[], x, rfl⟩
  | x :: y :: l, _ => by
    obtain ⟨m, z, e⟩ := snoc_of (l := y :: l) (by simp)
    exact ⟨x :: m, z, by rw [e]; rfl⟩
theorem names_oks {G : Gm} {rk : Str → Nat} (hG : GOk G rk) {ws : List Str} (h : ∀ v ∈ ws, v ∈ names G) : oks ws = true := List.all_eq_true.mpr fun v hv => (hG.nm v (h v hv)).2
theorem pop_last (ws : List Str) (v : Str) : ((ws ++ [v]).map D.str)[((ws ++ [v]).map D.str).length - 1]? = some (.str v) := by
  rw [List.map_append, List.length_append]
  show ((ws.map D.str) ++ [D.str v])[(ws.map D.str).length + 1 - 1]? = _
  rw [Nat.add_sub_cancel, List.getElem?_append_right (Nat.le_refl _), Nat.sub_self]
  rfl
theorem pop_rest (ws : List Str) (v : Str) : ((ws ++ [v]).map D.str).dropLast = ws.map D.str := by
  rw [List.map_append]
  exact List.dropLast_concat
theorem ok_round_place (T : Txt K mg C) (DB : MetB K C "round_place" "Game.round_place" s_Game_round_place ["self"]) (c_led_from : C8.Cal P w K mg base 1 "led_from" (spG C false preLed postLed) []) : C8.Met P w K mg base 2 C "round_place" (spG C false preG postNon) [] := by
  refine met_ok T.cl DB sc_Game_round_place (fun L ds n hp => ?_) fun f cdv A outer sh H E hr => ?_
  · obtain ⟨_, _, _, _, rfl, _⟩ := hp; rfl
  have nd := sc_Game_round_place.nd
  have tcl := T.cl
  have tnp := T.nP
  refine ⟨_, (pss_cons (ps_lock (ps_for PassesOwn.never rfl (pi_keys (pe_fldK K (pv 0) rfl)) (pg_name (i := 1) nd rfl (Or.inl rfl))
      (pss_cons (ps_par (i := 2) (j := 3) rfl nd rfl rfl (by decide) rfl rfl (pa_cons pe_dnewK (pa_cons (pe_lst (pa_cons (pv 1) pa_nil)) pa_nil)) rfl)
      (pss_one (ps_while PassesOwn.never (pt_cmpR (r := rNeD K) (op_neD hr.units) (pv 3) (pe_lst pa_nil) (nomark _))
        (pss_one (ps_for PassesOwn.never rfl (pi_listK K (C8.pe_c c_led_from hr (by decide) (by rfl) (pa_cons (pe_dget (hu_of hr) (pe_fldK K (pv 0) rfl) (pe_popK K (pv 3)) (fun _ _ => rfl)) pa_nil))) (pg_name (i := 4) nd rfl (Or.inl rfl))
          (pss_cons (ps_if (pt_cmpR op_eq (pv 4) (pv 1) (nomark _)) (pss_one (ps_ret (pv 1))) pss_nil)
          (pss_one (ps_if (pt_cmp (pc_dnotin (hu_of hr) (pv 4) (pv 2))) (pss_cons (ps_dput (hu_of hr) (pv 2) (pv 4) pe_bl rfl)
            (pss_one (ps_expr (pe_appK K (pv 3) (pv 4))))) pss_nil))))))))))
    (pss_one (ps_ret pe_non))), fun sa ca L F0 H0 ds n hp => ?_⟩
  obtain ⟨g, ad, G, rk, rfl, hG, hgL⟩ := hp
  have hlen := hG.len
  refine ws_seq (ws_lock (a := g) ?_ ?_ ?_ fun od => ws_forN (wi_keys ?_))
  · exact ⟨0, _, _, rfl, .obj .refl⟩
  · exact List.not_mem_nil
  · exact hgL
  repeat walk_at "gw"
  refine ⟨g, _, od, rfl, List.mem_cons_self, fun i l _ => ∃ x1 x2 x3 x4, l = [.sh (.obj (gameD g ad G)), x1, x2, x3, x4], ⟨_, _, _, _, rfl⟩, ?_, ?_⟩
  · rintro i d l1 n1 hi ⟨x1, x2, x3, x4, rfl⟩
    rw [keys_gkv, List.getElem?_map] at hi
    cases hn : (names G)[i]? with
    | none => rw [hn] at hi; cases hi
    | some top =>
    rw [hn] at hi
    cases hi
    have htop := List.mem_of_getElem? hn
    refine ws_seq (ws_par_dl (by decide) ?_)
    repeat walk_at "gw"
    refine ws_while (fun m l _ => ∃ fs ws x, l = [.sh (.obj (gameD g ad G)), .sh (.str top), .owd (foundD fs), .owl (ws.map D.str), x] ∧ RInv G rk top fs ws ∧ m = (names G).length - fs.length + ws.length) (m0 := (names G).length + 1) ⟨[], [top], _, rfl, ⟨List.nodup_nil, (fun _ h => by cases h), (fun v h => by cases List.mem_singleton.mp h; exact ⟨htop, Nat.le_refl _⟩), by simp⟩, by simp⟩ ?_
    rintro m l1 n1 ⟨fs, ws, x, rfl, hI, rfl⟩
    have hN : (names G).length ≤ 9 := by unfold names; rw [List.length_map]; exact hlen
    have hok : oks ws = true := names_oks hG fun v hv => (hI.wg v hv).1
    have hfl := nodup_len hI.fn fun f hf => (hI.fg f hf).1
    refine wt_test (we_neO (i := 3) rfl hok ⟨_, rfl, fun hb => ?_, fun hb => ?_⟩)
    · have hne : ws ≠ [] := by simpa using hb
      obtain ⟨ws', v, rfl⟩ := snoc_of hne
      obtain ⟨hv1, hv2⟩ := hI.wg v (by simp)
      obtain ⟨x', h1, h2, h3, h4⟩ := hG.lk hv1 ad
      refine ws_forX (js := [4]) (wx_call (wx_dget ?_))
      repeat walk_at "gw"
      refine wx_pop (i := 3) rfl (pop_last ws' v) ?_
      rw [pop_rest]
      refine ⟨_, _, v, rfl, rfl, _, h1, ⟨_, _, x', rfl, h4⟩, ?_⟩
      rintro d n2 H' _ ⟨a', y, he, rfl⟩
      cases nodeD_inj1 he
      have hy : ∀ c ∈ kids x', c ∈ names G ∧ rk c < rk top := fun c hc => ⟨h4.tg c (kids_sub hc), Nat.lt_of_lt_of_le (hG.up v x' h3 c (kids_sub hc)) hv2⟩
      refine ⟨_, rfl, fun j l _ => ∃ fs2 ws2 x, l = [.sh (.obj (gameD g ad G)), .sh (.str top), .owd (foundD fs2), .owl (ws2.map D.str), x] ∧ RInv G rk top fs2 ws2 ∧ (names G).length - fs2.length + ws2.length = (names G).length - fs.length + ws'.length, ⟨fs, ws', _, rfl, ⟨hI.fn, hI.fg, fun v hv => hI.wg v (List.mem_append_left _ hv), by have := hI.wl; rw [List.length_append] at this; simp at this; omega⟩, rfl⟩, ?_, ?_⟩
      · rintro j d l1 n1 hj ⟨fs2, ws2, x2, rfl, hI2, hm⟩
        rw [List.getElem?_map] at hj
        cases hc : (kids x')[j]? with
        | none => rw [hc] at hj; cases hj
        | some c =>
        rw [hc] at hj
        cases hj
        obtain ⟨hc1, hc2⟩ := hy c (List.mem_of_getElem? hc)
        have hct : c ≠ top := fun e => by rw [e] at hc2; omega
        repeat walk_at "gw"
        refine noI (decide_eq_false hct) ?_
        repeat walk_at "gw"
        rw [lk_found]
        refine ⟨fun hb => ?_, fun hb => ?_⟩
        · have hcf : c ∉ fs2 := by simpa using hb
          have hnd : (fs2 ++ [c]).Nodup := by rw [List.nodup_append]; exact ⟨hI2.fn, by simp, fun a ha b hb => by cases List.mem_singleton.mp hb; exact fun e => hcf (by rw [← e]; exact ha)⟩
          have hfl2 := nodup_len (fs := fs2 ++ [c]) (N := names G) hnd (fun f hf => by
            rcases List.mem_append.mp hf with hf | hf
            · exact (hI2.fg f hf).1
            · cases List.mem_singleton.mp hf; exact hc1)
          rw [List.length_append, List.length_singleton] at hfl2
          have hws := hI2.wl
          repeat walk_at "gw"
          refine ⟨by unfold foundD; rw [List.length_map]; omega, ?_⟩
          repeat walk_at "gw"
          refine ⟨by rw [List.length_map]; omega, fs2 ++ [c], ws2 ++ [c], .sh (.str c), by rw [put_found hcf, List.map_append]; rfl, ⟨hnd, fun f hf => ?_, fun z hz => ?_, by rw [List.length_append, List.length_append]; omega⟩, by rw [List.length_append, List.length_append, List.length_singleton]; omega⟩
          · rcases List.mem_append.mp hf with hf | hf
            · exact hI2.fg f hf
            · cases List.mem_singleton.mp hf; exact ⟨hc1, hc2⟩
          · rcases List.mem_append.mp hz with hz | hz
            · exact hI2.wg z hz
            · cases List.mem_singleton.mp hz; exact ⟨hc1, Nat.le_of_lt hc2⟩
        · repeat walk_at "gw"
          exact ⟨hI2, hm⟩
      · rintro l1 n1 ⟨fs2, ws2, x2, rfl, hI2, hm⟩
        exact ⟨_, by rw [List.length_append]; simp; omega, fs2, ws2, x2, rfl, hI2, rfl⟩
    · exact ⟨_, _, _, _, rfl⟩
  · rintro l1 n1 ⟨x1, x2, x3, x4, rfl⟩
    repeat walk_at "gw"
    rfl
end
end Gw

/-! A game is made; its order. -/
namespace Gw
open PySem L2
local macro_rules | `(tactic| walk_at "gw") => `(tactic| first
  | (with_reducible refine ws_seq ?_)
  | (with_reducible refine ws_ret ?_)
  | (with_reducible refine ws_newl ?_)
  | (with_reducible refine ws_newd ?_)
  | (with_reducible refine ws_set ?_)
  | (with_reducible refine ws_par3 ?_)
  | (with_reducible refine ws_par ?_)
  | (with_reducible refine ws_if ?_)
  | (with_reducible refine ws_next ?_)
  | (with_reducible refine ws_cont ?_)
  | (with_reducible refine ws_asgP ?_)
  | (with_reducible refine ws_asgP3 ?_)
  | ((with_reducible refine' ws_app ?h ?_); (case h => rfl))
  | ((with_reducible refine' ws_clear ?h ?_); (case h => rfl))
  | ((with_reducible refine' ws_dput ?h ?_); (case h => rfl))
  | (with_reducible refine ws_drop ?_)
  | ((with_reducible refine' we_var ?h ?_); (case h => rfl))
  | (with_reducible refine we_int ?_)
  | (with_reducible refine we_str ?_)
  | (with_reducible refine we_bl ?_)
  | (with_reducible refine we_non ?_)
  | (with_reducible refine we_ty ?_)
  | ((with_reducible refine' we_ixM ?h ?e ?_); (case h => rfl); (case e => exact atI_last _ _))
  | ((with_reducible refine' we_ixO ?h ?_); (case h => rfl))
  | (with_reducible refine we_neg ?_)
  | (with_reducible refine we_op ?_)
  | (with_reducible refine ro_I0 ?_)
  | (with_reducible refine ro_B0 ?_)
  | ((with_reducible refine ro_I ?h ?_); (case h => first | assumption | omega))
  | ((with_reducible refine' ro_ixT ?h ?_); (case h => rfl))
  | (with_reducible refine ro_inT2 ?_)
  | (with_reducible refine ro_ninT2 ?_)
  | (with_reducible refine ro_eqS ?_)
  | (with_reducible refine ro_neS ?_)
  | (with_reducible refine ro_eqI ?_)
  | (with_reducible refine ro_neI ?_)
  | (with_reducible refine ro_eqB ?_)
  | (with_reducible refine ro_notNon ?_)
  | (with_reducible refine ro_neB ?_)
  | ((with_reducible refine' we_dgetO ?h ?_); (case h => rfl))
  | ((with_reducible refine' we_dinO ?h ?_); (case h => rfl))
  | ((with_reducible refine' we_dnotinO ?h ?_); (case h => rfl))
  | (with_reducible refine we_dget ?_)
  | (with_reducible refine we_din ?_)
  | (with_reducible refine we_dnotin ?_)
  | ((with_reducible refine we_tup ?_))
  | ((with_reducible refine we_lst ?_))
  | (with_reducible refine wa_cons ?_)
  | (with_reducible refine wa_nil ?_)
  | (with_reducible refine we_cb ?_)
  | (with_reducible refine we_chain ?_)
  | (with_reducible refine we_if ?_)
  | (with_reducible refine we_andV ?_)
  | (with_reducible refine we_orV ?_)
  | (with_reducible refine we_notV ?_)
  | (with_reducible refine wt_test ?_)
  | (with_reducible refine wt_B ?_)
  | (with_reducible refine wt_not ?_)
  | (with_reducible refine wt_and ?_)
  | (with_reducible refine wt_or ?_)
  | (with_reducible refine wt_ifT ?_)
  | (with_reducible refine we_call ?_)
  | ((with_reducible refine' we_callS ?h ?_); (case h => rfl))
  | ((with_reducible refine' we_meth ?h ?_); (case h => decide +kernel))
  | (with_reducible refine rc_abs ?_)
  | (with_reducible refine rc_int ?_)
  | (with_reducible refine rc_lenL ?_)
  | (with_reducible refine rc_lenT ?_)
  | (with_reducible refine rc_lenD ?_)
  | (with_reducible refine rc_lenLS ?_)
  | (with_reducible refine rc_sum ?_)
  | (with_reducible refine rc_tupT ?_)
  | ((with_reducible refine' rc_isi ?ht ?hb ?_); (case ht => rfl); (case hb => first | exact kb_int_int | exact kb_int_bool | exact kb_int_list | exact kb_int_tuple | exact kb_str_str | exact kb_dict_dict | exact kb_list_list | exact kb_list_tuple | exact kb_tuple_list | exact kb_tuple_tuple | exact kb_bool_int | exact kb_bool_bool))
  | ((with_reducible refine' rc_isiT ?ht ?h1 ?h2 ?_); (case ht => rfl); (case h1 => first | exact kb_int_int | exact kb_int_bool | exact kb_int_list | exact kb_int_tuple | exact kb_str_str | exact kb_dict_dict | exact kb_list_list | exact kb_list_tuple | exact kb_tuple_list | exact kb_tuple_tuple | exact kb_bool_int | exact kb_bool_bool); (case h2 => first | exact kb_int_int | exact kb_int_bool | exact kb_int_list | exact kb_int_tuple | exact kb_str_str | exact kb_dict_dict | exact kb_list_list | exact kb_list_tuple | exact kb_tuple_list | exact kb_tuple_tuple | exact kb_bool_int | exact kb_bool_bool))
  | (with_reducible refine rc_allT ?_)
  | (with_reducible refine rc_anyF ?_)
  | (with_reducible refine rc_all ?_)
  | (with_reducible refine rc_any ?_)
  | (with_reducible refine rc_listD ?_)
  | (with_reducible refine rc_dictD fun _ _ => ?_)
  | (with_reducible refine we_rev ?_)
  | (with_reducible refine we_slL ?_)
  | (with_reducible refine wo_no ?_)
  | (with_reducible refine wo_part ?_)
  | (with_reducible refine we_listVals ?_)
  | ((with_reducible refine' we_fld ?hc ?hn ?_); (case hc => assumption); (case hn => assumption))
  | (with_reducible refine wi_list ?_)
  | (with_reducible refine wi_range1 ?_)
  | (with_reducible refine wi_str ?_)
  | (with_reducible refine wi_enum ?_)
  | (with_reducible refine wg_name ?_)
  | (with_reducible refine wg_two ?_)
  | (refine ⟨Nat.le_of_ble_eq_true rfl, ?_⟩)
  | (refine ⟨_, rfl, ?_⟩)
  | (refine ⟨_, _, rfl, ?_⟩)
  | (refine ⟨_, _, _, rfl, rfl, ?_⟩)
  | (refine ⟨_, _, _, rfl, ?_⟩)
  | (refine ⟨fun _ => ?_, fun z => Bool.noConfusion z⟩)
  | (refine ⟨fun z => Bool.noConfusion z, fun _ => ?_⟩)
  | (refine ⟨fun _ => ?_, fun z => absurd z (by decide +kernel)⟩)
  | (refine ⟨fun z => absurd z (by decide +kernel), fun _ => ?_⟩))
section
variable {P : Program} {w : World} {K : PySem.W.Frag} {mg : Str → Option Value} {base : Heap} {C : Addr}
theorem inG_of {G : Gm} {rk : Str → Nat} (hG : GOk G rk) (ad : Str → Addr) {n : Str} (h : n ∈ names G) : InG (gkv ad G) n := ⟨(hG.nm n h).1, NdOk.tg' h ad⟩
theorem ndIn_of {G : Gm} {rk : Str → Nat} (hG : GOk G rk) (ad : Str → Addr) {x : Nd} (h : NdOk (names G) x) : NdIn (gkv ad G) x := by
  cases x with
  | mv o ms => exact ⟨h.1, Nat.le_trans h.2.1 (by decide), fun q hq => ⟨(h.2.2.2 q hq).1, inG_of hG ad (h.2.2.2 q hq).2.2⟩⟩
  | ch ls => exact ⟨h.1, Nat.le_trans h.2.1 (by decide), h.2.2.1, fun q hq => ⟨inG_of hG ad (h.2.2.2 q hq).1, (h.2.2.2 q hq).2.1⟩⟩
  | en q => exact h.1
abbrev s_Game___init__ : Stmt := inCls (top 28) 0
abbrev N_Game___init__ : List Str := ["self", "places", "name"]
theorem sc_Game___init__ : FnScope N_Game___init__ ["self", "places"] (C8.fnScope s_Game___init__) := C8.fnScope_by (by decide +kernel)
def preInit : List Addr → D → Prop := fun L d => ∃ (g : Addr) (ad : Str → Addr) (G : Gm) (rk : Str → Nat), d = gameD g ad G ∧ GOk G rk ∧ g ∉ L ∧ ∀ n o ms, (n, Nd.mv o ms) ∈ G → ad n ∉ L
def postInit : Hp → D → D → Prop := fun H d d2 => ∃ (g g' : Addr) (ad ad' : Str → Addr) (G : Gm), d = gameD g ad G ∧ d2 = gameD g' ad' (keepG G) ∧ H g' = none
theorem ok_init (T : Txt K mg C) (DB : MakB K mg C "Game" "Game.__init__" s_Game___init__ ["self", "places"]) (c_is_place : C8.Cal P w K mg base 3 "is_place" (spG C false prePlace postT) []) (c_is_name : C8.Cal P w K mg base 1 "is_name" (spG C false preName postT) []) (c_kept_place : C8.Cal P w K mg base 2 "kept_place" (spG C false preKept postKept) []) : C8.Mak P w K mg base 4 "Game" C (spI C preInit postInit) [] := by
  refine mak_ok DB sc_Game___init__ (by decide) fun f cdv A outer sh H E hr => ?_
  have nd := sc_Game___init__.nd
  have tcl := T.cl
  have tnp := T.nP
  refine ⟨_, (pss_cons (ps_if (PW.pt (pw_or (pt_not (pt_val (pe_callB (r := rIsi K) call_isi (by rfl) T.n_isinstance (by decide +kernel) (pa_cons (pv 1) (pa_cons (pe_bltn (v := .ty "dict") (by rfl) T.n_dict (by decide +kernel) rfl) pa_nil))))) (pw_or1 (pt_cmpR op_eq (pe_callB (r := cLenD) call_lenD1 (by rfl) T.n_len (by decide +kernel) (pa_cons (pv 1) pa_nil)) pe_int (nomark _))))) (pss_one ps_never) pss_nil)
    (pss_cons (ps_lock (ps_for PassesOwn.never rfl (pi_keys (pv 1)) (pg_name (i := 2) nd rfl (Or.inl rfl))
      (pss_one (ps_if (PW.pt (pw_or (pt_not (pt_val (C8.pe_c c_is_name hr (by decide) (by rfl) (pa_cons (pv 2) pa_nil)))) (pw_or1 (pt_not (pt_val (C8.pe_c c_is_place hr (by decide) (by rfl) (pa_cons (pe_dget (hu_of hr) (pv 1) (pv 2) (fun _ _ => rfl)) (pa_cons (pv 1) pa_nil)))))))) (pss_one ps_never) pss_nil))))
    (pss_one (ps_fld (pv 0) (pe_lock (pe_dc (own := [("name", 2)]) rfl nd (pi_keys (pv 1)) (blkOk_by (own := [("name", 2)]) (N := N_Game___init__) (sc := C8.fnScope s_Game___init__) (by decide +kernel)) (fun _ _ _ _ _ => pg_name (i := 2) nd rfl (Or.inl rfl)) (fun _ _ _ _ _ => pts_nil) (fun _ _ _ _ _ => (pv 2)) (fun _ _ _ _ _ => (C8.pe_c c_kept_place hr (by decide) (by rfl) (pa_cons (pe_dget (hu_of hr) (pv 1) (pv 2) (fun _ _ => rfl)) pa_nil))))) rfl)))), fun sa ca L F0 H0 d x dx hp => ?_⟩
  obtain ⟨g, ad, G, rk, rfl, hG, hgL, haL⟩ := hp
  have hlen := hG.len
  have hN : (names G).length ≤ 9 := by unfold names; rw [List.length_map]; exact hlen
  repeat walk_at "gw"
  refine noI (by have := hG.ne; simp [gkv, this]) ?_
  repeat walk_at "gw"
  refine ws_lock (a := g) ?_ ?_ ?_ fun od => ws_forN (wi_keys ?_)
  · exact ⟨1, _, _, rfl, .refl⟩
  · exact List.not_mem_nil
  · exact hgL
  repeat walk_at "gw"
  refine ⟨g, _, od, rfl, List.mem_cons_self, fun i l _ => ∃ x2, l = [.owi x dx none, .sh (gameD g ad G), x2], ⟨_, rfl⟩, ?_, ?_⟩
  · rintro i d l1 n1 hi ⟨x2, rfl⟩
    rw [keys_gkv, List.getElem?_map] at hi
    cases hn : (names G)[i]? with
    | none => rw [hn] at hi; cases hi
    | some m =>
    rw [hn] at hi
    cases hi
    have hm := List.mem_of_getElem? hn
    obtain ⟨y, h1, h2, h3, h4⟩ := hG.lk hm ad
    refine ws_difN (g := g) (ad := ad) (G := G) ⟨1, _, rfl, .refl⟩ h3 h4 hG.ne fun hne => ?_
    repeat walk_at "gw"
    refine ⟨⟨_, rfl, (hG.nm m hm).1⟩, ?_⟩
    rintro d n2 H' _ rfl
    repeat walk_at "gw"
    refine ⟨_, h1, ?_⟩
    repeat walk_at "gw"
    refine ⟨⟨_, y, _, _, rfl, fun s ms e z => ?_, ndIn_of hG ad h4⟩, ?_⟩
    · rcases List.mem_append.mp z with z | z
      · rw [List.mem_singleton.mp z] at hne
        exact hne s ms e rfl
      · rw [e] at h3
        exact haL m s ms h3 z
    rintro d n2 H' _ rfl
    repeat walk_at "gw"
    exact ⟨_, rfl⟩
  · rintro l1 n1 ⟨x2, rfl⟩
    refine ws_fldI (i := 0) (p := x) (dx := dx) tcl tnp rfl (we_lock (a := g) ?_ ?_ ?_ fun od => we_dc (js := [2]) (by decide) (wi_keys ?_))
    · exact ⟨1, _, _, rfl, .refl⟩
    · exact List.not_mem_nil
    · exact hgL
    repeat walk_at "gw"
    refine ⟨g, _, od, rfl, List.mem_cons_self, ?_, fun i acc _ => ∃ ad', acc = gkv ad' (keepG (G.take i)), ⟨ad, rfl⟩, ?_, ?_⟩
    · rw [keys_gkv, List.length_map]; omega
    · rintro i z acc n2 hi ⟨ad', rfl⟩
      rw [keys_gkv] at hi
      unfold names at hi
      rw [List.map_map, List.getElem?_map] at hi
      cases hq : G[i]? with
      | none => rw [hq] at hi; cases hi
      | some q =>
      rw [hq] at hi
      cases hi
      have hqm := List.mem_of_getElem? hq
      have hm := names_mem (n := q.1) (x := q.2) hqm
      obtain ⟨y, h1, h2, h3, h4⟩ := hG.lk hm ad
      have hyq : y = q.2 := by
        have := nodeAt_eq hG.nd (n := q.1) (x := q.2) hqm
        rw [h2] at this
        exact Option.some.inj this
      refine wg_name ?_
      repeat walk_at "gw"
      refine ⟨_, h1, ?_⟩
      repeat walk_at "gw"
      refine ⟨⟨_, _, _, rfl, h4⟩, ?_⟩
      rintro d n3 H' _ ⟨a1, a2, x', he, rfl⟩
      cases nodeD_inj1 he
      refine ⟨fun m => if m = q.1 then a2 else ad' m, ?_⟩
      rw [put_gkv (by rw [names_keepG]; exact nodup_take_map hG.nd hq), List.take_add_one, hq]
      unfold keepG
      rw [List.map_append, hyq]
      rfl
    · rintro acc n2 a ⟨ad', rfl⟩ ha
      refine ⟨⟨_, _, rfl⟩, gameD a ad' (keepG G), ?_, g, a, ad, ad', G, rfl, rfl, ha⟩
      have : G.take ((gkv ad G).map (·.1) |>.map D.str).length = G := by
        rw [List.length_map, keys_gkv]
        unfold names
        rw [List.length_map, List.take_length]
      rw [this]
      rfl
abbrev s_order_of : Stmt := top 34
abbrev N_order_of : List Str := ["game", "name", "found", "place", "stack", "ahead", "one"]
theorem sc_order_of : FnScope N_order_of ["game"] (C8.fnScope s_order_of) := C8.fnScope_by (by decide +kernel)
/-- a part of the order: every place behind those that it leads to -/
structure Topo (G : Gm) (fs : List Str) : Prop where
  nd : fs.Nodup
  sub : ∀ f ∈ fs, f ∈ names G
  cl : ∀ i n x, fs[i]? = some n → nodeAt G n = some x → ∀ c ∈ kids x, c ∈ fs.take i
theorem Topo.snoc {G : Gm} {fs : List Str} {v : Str} {x : Nd} (h : Topo G fs) (hv : v ∈ names G) (hn : v ∉ fs) (hx : nodeAt G v = some x) (hk : ∀ c ∈ kids x, c ∈ fs) : Topo G (fs ++ [v]) where
  nd := by
    rw [List.nodup_append]
    exact ⟨h.nd, by simp, fun a ha b hb => by cases List.mem_singleton.mp hb; exact fun e => hn (by rw [← e]; exact ha)⟩
  sub := fun f hf => by
    rcases List.mem_append.mp hf with hf | hf
    · exact h.sub f hf
    · cases List.mem_singleton.mp hf; exact hv
  cl := fun i n y hi hy c hc => by
    by_cases hl : i < fs.length
    · rw [List.getElem?_append_left hl] at hi
      rw [List.take_append_of_le_length (Nat.le_of_lt hl)]
      exact h.cl i n y hi hy c hc
    · have e : i = fs.length := by
        have := (List.getElem?_eq_some_iff.mp hi).1
        rw [List.length_append, List.length_singleton] at this
        omega
      subst e
      rw [List.getElem?_append_right (Nat.le_refl _), Nat.sub_self] at hi
      cases hi
      rw [hx] at hy
      cases hy
      rw [List.take_append_of_le_length (Nat.le_refl _), List.take_length]
      exact hk c hc
def postOrd : Hp → List D → Nat → D → Nat → Prop := fun _ ds _ d _ => ∃ (g : Addr) (ad : Str → Addr) (G : Gm) (xs : List Str), ds = [.obj (gameD g ad G)] ∧ d = .lst (xs.map D.str) ∧ Topo G xs ∧ ∀ n ∈ names G, n ∈ xs
structure SInv (G : Gm) (rk : Str → Nat) (p : Str) (f0 fs ws : List Str) : Prop where
  tp : Topo G fs
  old : ∀ f ∈ f0, f ∈ fs
  wg : ∀ v ∈ ws, v ∈ names G
  pw : ws.Pairwise fun a b => rk b < rk a
  two : (∀ v ∈ ws, v ∉ fs) ∨ (ws = [p] ∧ p ∈ fs)
  ps : p ∈ fs ∨ p ∈ ws
def sMeas (G : Gm) (fs ws : List Str) : Nat := if ws = [] then 0 else 1 + 20 * ((names G).length - fs.length) + (10 - ws.length)
def filtD (fs : List Str) : D → Bool
  | .str c => !decide (c ∈ fs)
  | _ => false
theorem foundD_len (fs : List Str) : (foundD fs).length = fs.length := by unfold foundD; rw [List.length_map]
theorem ok_order_of (T : Txt K mg C) (DB : DefB K mg "order_of" s_order_of ["game"]) (c_round_place : C8.Met P w K mg base 2 C "round_place" (spG C false preG postNon) []) (c_places : C8.Met P w K mg base 1 C "places" (spG C false prePlaces postPlaces) []) (c_led_from : C8.Cal P w K mg base 1 "led_from" (spG C false preLed postLed) []) : C8.Cal P w K mg base 3 "order_of" (spG C false preG postOrd) [] := by
  refine cal_ok DB sc_order_of (fun L ds n hp => ?_) fun f cdv A outer sh H E hr => ?_
  · obtain ⟨_, _, _, _, rfl, _⟩ := hp; rfl
  have nd := sc_order_of.nd
  have tcl := T.cl
  have tnp := T.nP
  refine ⟨_, (pss_cons (ps_set (i := 1) nd rfl (Or.inl rfl) (C8.pe_mt0 c_round_place hr (by decide) (pv 0)))
    (pss_cons (ps_if (pt_cmpR op_notN1 (pv 1) pe_non (nomark _)) (pss_one ps_never) pss_nil)
    (pss_cons (ps_set (i := 2) nd rfl (Or.inr rfl) pe_dnewK)
    (pss_cons (ps_for PassesOwn.never rfl (pi_listK K (C8.pe_mt0 c_places hr (by decide) (pv 0))) (pg_name (i := 3) nd rfl (Or.inl rfl))
      (pss_cons (ps_set (i := 4) nd rfl (Or.inl rfl) (pe_lst (pa_cons (pv 3) pa_nil)))
      (pss_one (ps_while PassesOwn.never (pt_cmpR (r := rNeD K) (op_neD hr.units) (pv 4) (pe_lst pa_nil) (nomark _))
        (pss_cons (ps_setLc (i := 5) (own := [("one", 6)]) rfl nd rfl rfl (sw_true rfl rfl rfl (by decide +kernel)) (pi_listK K (C8.pe_c c_led_from hr (by decide) (by rfl) (pa_cons (pe_dget (hu_of hr) (pe_fldK K (pv 0) rfl) (pe_ix (r := rIxL K) ix_list (pv 4) (pe_un un_neg pe_int) (fun _ _ => rfl)) (fun _ _ => rfl)) pa_nil))) (blkOk_by (own := [("one", 6)]) (N := N_order_of) (sc := C8.fnScope s_order_of) (by decide +kernel)) (fun _ _ _ _ _ => pg_name (i := 6) nd rfl (Or.inl rfl)) (fun _ _ _ _ _ => (pts_one (pt_cmp (pc_dnotin (hu_of hr) (pv 6) (pv 2))))) (fun _ _ _ _ _ => (pv 6)))
        (pss_one (ps_if (pt_cmpR (r := rEqD K) (op_eqD hr.units) (pv 5) (pe_lst pa_nil) (nomark _)) (pss_one (ps_dput (hu_of hr) (pv 2) (pe_popK K (pv 4)) pe_bl rfl)) (pss_one (ps_expr (pe_appK K (pv 4) (pe_ix (r := rIxL K) ix_list (pv 5) pe_int (fun _ _ => rfl))))))))))))
    (pss_one (ps_ret (pe_callTy (T := "list") (r := cListD) (call_listD1 rfl) (by rfl) T.n_list (by decide +kernel) (pa_cons (pv 2) pa_nil)))))))), fun sa ca L F0 H0 ds n hp => ?_⟩
  obtain ⟨g, ad, G, rk, rfl, hG, hgL⟩ := hp
  have hlen := hG.len
  have hN : (names G).length ≤ 9 := by unfold names; rw [List.length_map]; exact hlen
  repeat walk_at "gw"
  refine ⟨⟨g, ad, G, rk, rfl, hG, hgL⟩, ?_⟩
  rintro d n2 H' _ rfl
  repeat walk_at "gw"
  refine ws_forN ?_
  repeat walk_at "gw"
  refine ⟨⟨_, _, rfl⟩, ?_⟩
  rintro d n2 H' _ ⟨o', kvs', he, rfl⟩
  simp only [List.cons.injEq, D.obj.injEq, D.dct.injEq, and_true] at he
  obtain ⟨rfl, rfl⟩ := he
  rw [keys_gkv]
  refine ⟨_, rfl, fun i l _ => ∃ fs x1 x2 x3 x4, l = [.sh (.obj (gameD g ad G)), .sh .non, .owd (foundD fs), x1, x2, x3, x4] ∧ Topo G fs ∧ ∀ n ∈ (names G).take i, n ∈ fs, ⟨[], _, _, _, _, rfl, ⟨List.nodup_nil, (fun _ h => by cases h), fun i n x h => by simp at h⟩, fun n h => by simp at h⟩, ?_, ?_⟩
  · rintro i d l1 n1 hi ⟨f0, x1, x2, x3, x4, rfl, hT, hin⟩
    rw [List.getElem?_map] at hi
    cases hn : (names G)[i]? with
    | none => rw [hn] at hi; cases hi
    | some p =>
    rw [hn] at hi
    cases hi
    have hp := List.mem_of_getElem? hn
    refine ws_seq (ws_newlx ?_)
    repeat walk_at "gw"
    refine ws_while (fun m l _ => ∃ fs ws x3 x4, l = [.sh (.obj (gameD g ad G)), .sh .non, .owd (foundD fs), .sh (.str p), .owl (ws.map D.str), x3, x4] ∧ SInv G rk p f0 fs ws ∧ m = sMeas G fs ws) (m0 := sMeas G f0 [p]) ⟨f0, [p], _, _, rfl, ⟨hT, (fun _ h => h), (fun v h => by cases List.mem_singleton.mp h; exact hp), List.pairwise_singleton _ _, ?_, .inr (by simp)⟩, rfl⟩ ?_
    · by_cases h : p ∈ f0
      · exact .inr ⟨rfl, h⟩
      · exact .inl fun v hv => by cases List.mem_singleton.mp hv; exact h
    rintro m l1 n1 ⟨fs, ws, x3, x4, rfl, hI, rfl⟩
    have hok : oks ws = true := names_oks hG hI.wg
    have hfl := nodup_len hI.tp.nd hI.tp.sub
    have hwd : ws.Nodup := hI.pw.imp fun h e => by rw [e] at h; omega
    have hwl := nodup_len hwd hI.wg
    refine wt_test (we_neO (i := 4) rfl hok ⟨_, rfl, fun hb => ?_, fun hb => ?_⟩)
    · have hne : ws ≠ [] := by simpa using hb
      obtain ⟨ws', v, rfl⟩ := snoc_of hne
      have hv := hI.wg v (by simp)
      obtain ⟨y, h1, h2, h3, h4⟩ := hG.lk hv ad
      refine ws_seq (ws_set (we_filter (f := id) (p := filtD fs) (by decide) ?_))
      repeat walk_at "gw"
      refine ⟨_, h1, ?_⟩
      repeat walk_at "gw"
      refine ⟨⟨_, _, _, rfl, h4⟩, ?_⟩
      rintro d n2 H' _ ⟨a', x', he, rfl⟩
      cases nodeD_inj1 he
      refine ⟨_, rfl, ?_, fun z hz => ?_, fun z hz _ => ?_, ((kids y).filter fun c => !decide (c ∈ fs)).map D.str, ?_, ?_⟩
      · rw [List.length_map]
        exact Nat.le_trans (uniq_len _) (Nat.le_trans h4.tl (by decide))
      · obtain ⟨c, hc, rfl⟩ := List.mem_map.mp hz
        repeat walk_at "gw"
        rw [lk_found]
        exact ⟨rfl, rfl⟩
      · obtain ⟨c, hc, rfl⟩ := List.mem_map.mp hz
        repeat walk_at "gw"
        exact ⟨rfl, rfl⟩
      · rw [List.filter_map, List.map_id]
        rfl
      have hkn : ∀ c ∈ kids y, c ∈ names G ∧ rk c < rk v := fun c hc => ⟨h4.tg c (kids_sub hc), hG.up v y h3 c (kids_sub hc)⟩
      have hpw := List.pairwise_append.mp hI.pw
      cases ha : (kids y).filter fun c => !decide (c ∈ fs) with
      | nil =>
        have hall : ∀ c ∈ kids y, c ∈ fs := fun c hc => by
          have := List.filter_eq_nil_iff.mp ha c hc
          simpa using this
        repeat walk_at "gw"
        refine ro_eqLs (xs := []) (ys := []) rfl rfl ?_
        refine ⟨_, rfl, fun _ => ?_, fun z => absurd z (by decide)⟩
        refine ws_dputX (i := 2) rfl ?_
        refine we_bl ?_
        refine wx_pop (i := 4) rfl (pop_last ws' v) ?_
        rw [pop_rest]
        refine ⟨rfl, v, rfl, by rw [foundD_len]; omega, ?_⟩
        by_cases hvf : v ∈ fs
        · obtain ⟨h5, h6⟩ := hI.two.resolve_left fun z => z v (by simp) hvf
          have hw0 : ws' = [] := by
            have := congrArg List.length h5
            rw [List.length_append] at this
            exact List.eq_nil_of_length_eq_zero (by simpa using this)
          subst hw0
          refine ⟨0, ?_, fs, [], _, _, by rw [put_found_old hvf]; rfl, ⟨hI.tp, hI.old, (fun _ h => by cases h), List.Pairwise.nil, .inl (fun _ h => by cases h), .inl h6⟩, rfl⟩
          unfold sMeas
          rw [if_neg (by simp)]
          omega
        · have hT2 := hI.tp.snoc hv hvf h2 hall
          have hl2 := nodup_len hT2.nd hT2.sub
          rw [List.length_append, List.length_singleton] at hl2
          refine ⟨sMeas G (fs ++ [v]) ws', ?_, fs ++ [v], ws', _, _, by rw [put_found hvf]; rfl, ⟨hT2, fun f hf => List.mem_append_left _ (hI.old f hf), fun z hz => hI.wg z (List.mem_append_left _ hz), hpw.1, .inl fun z hz hzf => ?_, ?_⟩, rfl⟩
          · unfold sMeas
            rw [if_neg (show ¬ ws' ++ [v] = [] by simp)]
            rw [List.length_append, List.length_singleton] at hwl ⊢
            rw [List.length_append, List.length_singleton]
            split <;> omega
          · have hlt := hpw.2.2 z hz v (by simp)
            rcases List.mem_append.mp hzf with h | h
            · rcases hI.two with h5 | ⟨h5, h6⟩
              · exact h5 z (List.mem_append_left _ hz) h
              · have := congrArg List.length h5
                rw [List.length_append] at this
                have : ws' = [] := List.eq_nil_of_length_eq_zero (by simpa using this)
                rw [this] at hz
                cases hz
            · cases List.mem_singleton.mp h; omega
          · rcases hI.ps with h | h
            · exact .inl (List.mem_append_left _ h)
            · rcases List.mem_append.mp h with h | h
              · exact .inr h
              · cases List.mem_singleton.mp h; exact .inl (by simp)
      | cons c r =>
        have hcm : c ∈ (kids y).filter fun c => !decide (c ∈ fs) := by rw [ha]; exact List.mem_cons_self
        obtain ⟨hck, hcf⟩ := List.mem_filter.mp hcm
        have hcf : c ∉ fs := by simpa using hcf
        obtain ⟨hc1, hc2⟩ := hkn c hck
        have hok2 : oks (c :: r) = true := names_oks hG fun z hz => by
          rw [← ha] at hz
          exact (hkn z (List.mem_filter.mp hz).1).1
        repeat walk_at "gw"
        refine ro_eqLs (xs := c :: r) (ys := []) hok2 rfl ?_
        repeat walk_at "gw"
        refine ro_ixL (d := .str c) (atD (z := 0) (j := 0) rfl rfl) ?_
        have hvf : v ∉ fs := fun hvf => by
          obtain ⟨i, hi⟩ := List.getElem?_of_mem hvf
          exact hcf (List.mem_of_mem_take (hI.tp.cl i v y hi h2 c hck))
        have hpw2 : (ws' ++ [v] ++ [c]).Pairwise fun a b => rk b < rk a := by
          refine List.pairwise_append.mpr ⟨hI.pw, List.pairwise_singleton _ _, fun a ha b hb => ?_⟩
          cases List.mem_singleton.mp hb
          rcases List.mem_append.mp ha with h | h
          · have := hpw.2.2 a h v (by simp)
            omega
          · cases List.mem_singleton.mp h; exact hc2
        have hwg2 : ∀ z ∈ ws' ++ [v] ++ [c], z ∈ names G := fun z hz => by
          rcases List.mem_append.mp hz with h | h
          · exact hI.wg z h
          · cases List.mem_singleton.mp h; exact hc1
        have hwd2 : (ws' ++ [v] ++ [c]).Nodup := hpw2.imp fun h e => by rw [e] at h; omega
        have hwl2 := nodup_len hwd2 hwg2
        rw [List.length_append, List.length_singleton] at hwl2
        refine ⟨by rw [List.length_map]; omega, sMeas G fs (ws' ++ [v] ++ [c]), ?_, fs, ws' ++ [v] ++ [c], _, _, by rw [List.map_append (l₁ := ws' ++ [v])]; rfl, ⟨hI.tp, hI.old, hwg2, hpw2, .inl fun z hz hzf => ?_, ?_⟩, rfl⟩
        · unfold sMeas
          rw [if_neg (show ¬ ws' ++ [v] = [] by simp), if_neg (show ¬ ws' ++ [v] ++ [c] = [] by simp), List.length_append (as := ws' ++ [v]), List.length_singleton]
          omega
        · rcases List.mem_append.mp hz with h | h
          · rcases hI.two with h5 | ⟨h5, h6⟩
            · exact h5 z h hzf
            · rw [h5] at h
              cases List.mem_singleton.mp h
              have := congrArg List.getLast? h5
              rw [List.getLast?_append] at this
              simp at this
              exact hvf (by rw [this]; exact h6)
          · cases List.mem_singleton.mp h; exact hcf hzf
        · rcases hI.ps with h | h
          · exact .inl h
          · exact .inr (List.mem_append_left _ h)
    · have hne : ws = [] := by simpa using hb
      subst hne
      refine ⟨fs, _, _, _, _, rfl, hI.tp, fun n hn' => ?_⟩
      rw [List.take_add_one, hn] at hn'
      rcases List.mem_append.mp hn' with h | h
      · exact hI.old n (hin n h)
      · have : n = p := by simpa using h
        subst this
        exact hI.ps.resolve_right (by simp)
  · rintro l1 n1 ⟨fs, x1, x2, x3, x4, rfl, hT, hin⟩
    refine ws_frd (i := 2) rfl fun a ha => ?_
    repeat walk_at "gw"
    rw [List.length_map, List.take_length] at hin
    refine ⟨g, ad, G, fs, rfl, ?_, hT, hin⟩
    unfold foundD
    rw [List.map_map, List.map_map]
    rfl
end
end Gw

/-! Plain maths of fractions and worths. -/
namespace Gw
open PySem
/-! ### lowest terms -/
/-- p is at most q (positive denominators) -/
def leQ (p q : Int × Int) : Prop := p.1 * q.2 ≤ q.1 * p.2
theorem low_spec {t b : Int} (hb : 0 < b) : ∃ g : Int, 0 < g ∧ t = (low t b).1 * g ∧ b = (low t b).2 * g ∧ g = (Int.gcd t b : Int) :=
  ⟨_, gcd_pos hb, (Int.ediv_mul_cancel (Int.gcd_dvd_left ..)).symm, (Int.ediv_mul_cancel (Int.gcd_dvd_right ..)).symm, rfl⟩
theorem mul_cancel {a b c : Int} (hc : 0 < c) (h : a * c = b * c) : a = b := Int.eq_of_mul_eq_mul_right (by omega) h
theorem low_eq {t b t' b' : Int} (hb : 0 < b) (hb' : 0 < b') (h : t * b' = t' * b) : low t b = low t' b' := by
  have e1 : (Int.gcd t b : Int) * b' = (Int.gcd t' b' : Int) * b := by
    have h1 : Int.gcd (t * b') (b * b') = Int.gcd t b * b'.natAbs := Int.gcd_mul_right ..
    have h2 : Int.gcd (t' * b) (b' * b) = Int.gcd t' b' * b.natAbs := Int.gcd_mul_right ..
    rw [h, Int.mul_comm b b', h2] at h1
    have h3 : (Int.gcd t' b' : Int) * (b.natAbs : Int) = (Int.gcd t b : Int) * (b'.natAbs : Int) := by exact_mod_cast h1
    rw [Int.natAbs_of_nonneg (by omega), Int.natAbs_of_nonneg (by omega)] at h3
    exact h3.symm
  obtain ⟨g, g0, ht, hbb, eg⟩ := low_spec (t := t) hb
  obtain ⟨g', g0', ht', hbb', eg'⟩ := low_spec (t := t') hb'
  rw [← eg, ← eg'] at e1
  have e2 : (low t b).2 = (low t' b').2 := by
    refine mul_cancel (c := g * g') (Int.mul_pos g0 g0') ?_
    have q : g * ((low t' b').2 * g') = g' * ((low t b).2 * g) := by rw [← hbb', ← hbb]; exact e1
    grind
  have e3 : (low t b).1 = (low t' b').1 := by
    refine mul_cancel (c := (low t b).2 * g * g') (Int.mul_pos (Int.mul_pos (low_pos hb) g0) g0') ?_
    have q : (low t b).1 * g * ((low t' b').2 * g') = (low t' b').1 * g' * ((low t b).2 * g) := by rw [← ht, ← hbb', ← ht', ← hbb]; exact h
    rw [← e2] at q
    grind
  exact Prod.ext e3 e2
theorem low_cross {t b : Int} (hb : 0 < b) : (low t b).1 * b = t * (low t b).2 := by
  obtain ⟨g, g0, ht, hbb, eg⟩ := low_spec (t := t) hb
  have : (low t b).1 * ((low t b).2 * g) = ((low t b).1 * g) * (low t b).2 := by grind
  rw [← hbb, ← ht] at this
  exact this
theorem low_low {t b : Int} (hb : 0 < b) : low (low t b).1 (low t b).2 = low t b := low_eq (low_pos hb) hb (low_cross hb)
/-! ### the order of fractions -/
theorem leQ_refl (p : Int × Int) : leQ p p := Int.le_refl _
theorem leQ_trans {p q r : Int × Int} (hp : 0 < p.2) (hq : 0 < q.2) (hr : 0 < r.2) (h1 : leQ p q) (h2 : leQ q r) : leQ p r := by
  unfold leQ at *
  have a := Int.mul_le_mul_of_nonneg_right h1 (Int.le_of_lt hr)
  have b := Int.mul_le_mul_of_nonneg_right h2 (Int.le_of_lt hp)
  have c : (p.1 * r.2) * q.2 ≤ (r.1 * p.2) * q.2 := by
    calc (p.1 * r.2) * q.2 = p.1 * q.2 * r.2 := by grind
      _ ≤ q.1 * p.2 * r.2 := a
      _ = q.1 * r.2 * p.2 := by grind
      _ ≤ r.1 * q.2 * p.2 := b
      _ = (r.1 * p.2) * q.2 := by grind
  exact Int.le_of_mul_le_mul_right c hq
theorem lessQ_false {p q : Int × Int} : lessQ p q = false ↔ leQ q p := by
  unfold lessQ leQ
  rw [decide_eq_false_iff_not, Int.not_lt]
theorem lessQ_le {p q : Int × Int} (h : lessQ p q = true) : leQ p q := by
  unfold lessQ at h
  exact Int.le_of_lt (of_decide_eq_true h)
theorem fold_pick {f : Int × Int → Int × Int → Bool} : ∀ {l : List (Int × Int)} {a : Int × Int}, l.foldl (fun best one => if f best one then one else best) a = a ∨ l.foldl (fun best one => if f best one then one else best) a ∈ l
  | [], a => .inl rfl
  | q :: r, a => by
    rw [List.foldl_cons]
    rcases fold_pick (f := f) (l := r) (a := if f a q then q else a) with h | h
    · rw [h]
      split
      · exact .inr List.mem_cons_self
      · exact .inl rfl
    · exact .inr (List.mem_cons_of_mem _ h)
theorem topQ_mem {l : List (Int × Int)} (h : l ≠ []) : topQ l ∈ l := by
  cases l with
  | nil => exact absurd rfl h
  | cons q r =>
    show (q :: r).foldl (fun best one => if lessQ best one then one else best) q ∈ q :: r
    rcases fold_pick (f := lessQ) (l := q :: r) (a := q) with h | h
    · rw [h]; exact List.mem_cons_self
    · exact h
theorem botQ_mem {l : List (Int × Int)} (h : l ≠ []) : botQ l ∈ l := by
  cases l with
  | nil => exact absurd rfl h
  | cons q r =>
    show (q :: r).foldl (fun best one => if lessQ one best then one else best) q ∈ q :: r
    rcases fold_pick (f := fun a b => lessQ b a) (l := q :: r) (a := q) with h | h
    · rw [h]; exact List.mem_cons_self
    · exact h
theorem bot_fold : ∀ {l : List (Int × Int)} {a : Int × Int}, 0 < a.2 → (∀ q ∈ l, 0 < q.2) → leQ (l.foldl (fun best one => if lessQ one best then one else best) a) a ∧ ∀ q ∈ l, leQ (l.foldl (fun best one => if lessQ one best then one else best) a) q
  | [], a, _, _ => ⟨leQ_refl a, fun q h => by cases h⟩
  | q :: r, a, ha, hl => by
    rw [List.foldl_cons]
    have hq := hl q List.mem_cons_self
    have hr : ∀ z ∈ r, 0 < z.2 := fun z hz => hl z (List.mem_cons_of_mem _ hz)
    have hm : 0 < (if lessQ q a then q else a).2 := by split <;> assumption
    obtain ⟨h1, h2⟩ := bot_fold (l := r) (a := if lessQ q a then q else a) hm hr
    have hf : 0 < (r.foldl (fun best one => if lessQ one best then one else best) (if lessQ q a then q else a)).2 := by
      rcases fold_pick (f := fun a b => lessQ b a) (l := r) (a := if lessQ q a then q else a) with h | h
      · rw [h]; exact hm
      · exact hr _ h
    have k : leQ (if lessQ q a then q else a) a ∧ leQ (if lessQ q a then q else a) q := by
      cases e : lessQ q a with
      | true => exact ⟨lessQ_le e, leQ_refl q⟩
      | false => exact ⟨leQ_refl a, lessQ_false.mp e⟩
    refine ⟨leQ_trans hf hm ha h1 k.1, fun z hz => ?_⟩
    rcases List.mem_cons.mp hz with e | e
    · rw [e]; exact leQ_trans hf hm hq h1 k.2
    · exact h2 z e
theorem botQ_le {l : List (Int × Int)} (hl : ∀ q ∈ l, 0 < q.2) : ∀ q ∈ l, leQ (botQ l) q := by
  cases l with
  | nil => intro q h; cases h
  | cons q r => exact (bot_fold (l := q :: r) (a := q) (hl q List.mem_cons_self) hl).2
/-! ### means -/
theorem mean_pos : ∀ {rows : List (Int × (Int × Int))} {s : Int × Int}, 0 < s.2 → (∀ r ∈ rows, 0 < r.2.2) → 0 < (rows.foldl meanS s).2
  | [], s, h, _ => h
  | r :: rows, s, h, hr => by
    rw [List.foldl_cons]
    exact mean_pos (Int.mul_pos h (hr r List.mem_cons_self)) fun x hx => hr x (List.mem_cons_of_mem _ hx)
theorem weigh_mean : ∀ {rows : List (Int × (Int × Int))} {s : (Int × Int) × Int} {m : Int × Int}, 0 < s.1.2 → 0 < m.2 → (∀ r ∈ rows, 0 < r.2.2) → s.1.1 * m.2 = m.1 * s.1.2 →
    0 < (rows.foldl weighS s).1.2 ∧ (rows.foldl weighS s).1.1 * (rows.foldl meanS m).2 = (rows.foldl meanS m).1 * (rows.foldl weighS s).1.2 ∧ (rows.foldl weighS s).2 = s.2 + (rows.map fun r => r.1).sum
  | [], s, m, h, _, _, e => ⟨h, e, by simp⟩
  | r :: rows, s, m, h, hm, hr, e => by
    rw [List.foldl_cons, List.foldl_cons, List.map_cons, List.sum_cons]
    have hr0 := hr r List.mem_cons_self
    have hp : 0 < s.1.2 * r.2.2 := Int.mul_pos h hr0
    obtain ⟨q1, q2, q3⟩ := weigh_mean (rows := rows) (s := weighS s r) (m := meanS m r) (low_pos hp) (Int.mul_pos hm hr0) (fun x hx => hr x (List.mem_cons_of_mem _ hx)) (by
      have c := low_cross (t := s.1.1 * r.2.2 + r.1 * r.2.1 * s.1.2) hp
      show (low (s.1.1 * r.2.2 + r.1 * r.2.1 * s.1.2) (s.1.2 * r.2.2)).1 * (m.2 * r.2.2) = (m.1 * r.2.2 + r.1 * r.2.1 * m.2) * (low (s.1.1 * r.2.2 + r.1 * r.2.1 * s.1.2) (s.1.2 * r.2.2)).2
      generalize (low (s.1.1 * r.2.2 + r.1 * r.2.1 * s.1.2) (s.1.2 * r.2.2)).1 = x at c ⊢
      generalize (low (s.1.1 * r.2.2 + r.1 * r.2.1 * s.1.2) (s.1.2 * r.2.2)).2 = y at c ⊢
      refine mul_cancel h ?_
      calc x * (m.2 * r.2.2) * s.1.2 = (x * (s.1.2 * r.2.2)) * m.2 := by grind
        _ = (s.1.1 * r.2.2 + r.1 * r.2.1 * s.1.2) * y * m.2 := by rw [c]
        _ = (s.1.1 * m.2) * (r.2.2 * y) + r.1 * r.2.1 * s.1.2 * y * m.2 := by grind
        _ = (m.1 * s.1.2) * (r.2.2 * y) + r.1 * r.2.1 * s.1.2 * y * m.2 := by rw [e]
        _ = (m.1 * r.2.2 + r.1 * r.2.1 * m.2) * y * s.1.2 := by grind)
    refine ⟨q1, q2, ?_⟩
    rw [q3]
    show s.2 + r.1 + _ = _
    omega
theorem weigh_eq_mean {rows : List (Int × (Int × Int))} (hne : rows ≠ []) (hr : ∀ r ∈ rows, 0 < r.1 ∧ 0 < r.2.2) : weighF rows = meanF rows := by
  obtain ⟨q1, q2, q3⟩ := weigh_mean (rows := rows) (s := ((0, 1), 0)) (m := (0, 1)) (by decide) (by decide) (fun r h => (hr r h).2) rfl
  have hm := mean_pos (rows := rows) (s := (0, 1)) (by decide) fun r h => (hr r h).2
  have hw : 0 < (rows.map fun r => r.1).sum := by
    cases rows with
    | nil => exact absurd rfl hne
    | cons r rows =>
      rw [List.map_cons, List.sum_cons]
      have h0 := (hr r List.mem_cons_self).1
      have h1 : 0 ≤ (rows.map fun r => r.1).sum := by
        have key : ∀ l : List (Int × (Int × Int)), (∀ r ∈ l, 0 < r.1) → 0 ≤ (l.map fun r => r.1).sum := by
          intro l
          induction l with
          | nil => intro _; simp
          | cons a l ih =>
            intro h
            rw [List.map_cons, List.sum_cons]
            have := ih fun z hz => h z (List.mem_cons_of_mem _ hz)
            have := h a List.mem_cons_self
            omega
        exact key rows fun z hz => (hr z (List.mem_cons_of_mem _ hz)).1
      omega
  unfold weighF meanF
  simp only []
  rw [q3]
  simp only [Int.zero_add]
  refine low_eq (Int.mul_pos q1 hw) (Int.mul_pos hm hw) ?_
  calc (rows.foldl weighS ((0, 1), 0)).1.1 * ((rows.foldl meanS (0, 1)).2 * (rows.map fun r => r.1).sum) = (rows.foldl weighS ((0, 1), 0)).1.1 * (rows.foldl meanS (0, 1)).2 * (rows.map fun r => r.1).sum := by grind
    _ = (rows.foldl meanS (0, 1)).1 * (rows.foldl weighS ((0, 1), 0)).1.2 * (rows.map fun r => r.1).sum := by rw [q2]
    _ = (rows.foldl meanS (0, 1)).1 * ((rows.foldl weighS ((0, 1), 0)).1.2 * (rows.map fun r => r.1).sum) := by grind
end Gw

/-! Means are monotone; bounds; worths. -/
namespace Gw
open PySem
theorem low_le {t b t' b' : Int} (hb : 0 < b) (hb' : 0 < b') (h : t * b' ≤ t' * b) : leQ (low t b) (low t' b') := by
  have l1 := low_pos (t := t) hb
  have l2 := low_pos (t := t') hb'
  have e1 : leQ (low t b) (t, b) := Int.le_of_eq (low_cross hb)
  have e2 : leQ (t', b') (low t' b') := Int.le_of_eq (low_cross hb').symm
  exact leQ_trans (q := (t, b)) l1 hb l2 e1 (leQ_trans (p := (t, b)) (q := (t', b')) hb hb' l2 h e2)
/-- the same weights, each value at most the other -/
def RowsLe : List (Int × (Int × Int)) → List (Int × (Int × Int)) → Prop
  | [], [] => True
  | r :: rs, q :: qs => r.1 = q.1 ∧ leQ r.2 q.2 ∧ RowsLe rs qs
  | _, _ => False
theorem rowsLe_sum : ∀ {rs qs : List (Int × (Int × Int))}, RowsLe rs qs → (rs.map fun r => r.1).sum = (qs.map fun r => r.1).sum
  | [], [], _ => rfl
  | r :: rs, q :: qs, h => by
    obtain ⟨h1, _, h3⟩ := h
    rw [List.map_cons, List.map_cons, List.sum_cons, List.sum_cons, rowsLe_sum h3, h1]
  | [], _ :: _, h => h.elim
  | _ :: _, [], h => h.elim
theorem mean_mono : ∀ {rs qs : List (Int × (Int × Int))} {s m : Int × Int}, 0 < s.2 → 0 < m.2 → (∀ r ∈ rs, 0 < r.1 ∧ 0 < r.2.2) → (∀ r ∈ qs, 0 < r.1 ∧ 0 < r.2.2) → RowsLe rs qs → leQ s m → leQ (rs.foldl meanS s) (qs.foldl meanS m)
  | [], [], s, m, _, _, _, _, _, h => h
  | r :: rs, q :: qs, s, m, hs, hm, hr, hq, hl, h => by
    rw [List.foldl_cons, List.foldl_cons]
    obtain ⟨w1, b1⟩ := hr r List.mem_cons_self
    obtain ⟨w2, b2⟩ := hq q List.mem_cons_self
    obtain ⟨e, h1, h2⟩ := hl
    refine mean_mono (Int.mul_pos hs b1) (Int.mul_pos hm b2) (fun z hz => hr z (List.mem_cons_of_mem _ hz)) (fun z hz => hq z (List.mem_cons_of_mem _ hz)) h2 ?_
    unfold leQ at *
    show (s.1 * r.2.2 + r.1 * r.2.1 * s.2) * (m.2 * q.2.2) ≤ (m.1 * q.2.2 + q.1 * q.2.1 * m.2) * (s.2 * r.2.2)
    have a := Int.mul_le_mul_of_nonneg_right h (Int.le_of_lt (Int.mul_pos b1 b2))
    have b := Int.mul_le_mul_of_nonneg_left (Int.mul_le_mul_of_nonneg_right h1 (Int.le_of_lt (Int.mul_pos hs hm))) (Int.le_of_lt w1)
    calc (s.1 * r.2.2 + r.1 * r.2.1 * s.2) * (m.2 * q.2.2) = s.1 * m.2 * (r.2.2 * q.2.2) + r.1 * (r.2.1 * q.2.2 * (s.2 * m.2)) := by grind
      _ ≤ m.1 * s.2 * (r.2.2 * q.2.2) + r.1 * (q.2.1 * r.2.2 * (s.2 * m.2)) := Int.add_le_add a b
      _ = (m.1 * q.2.2 + r.1 * q.2.1 * m.2) * (s.2 * r.2.2) := by grind
      _ = (m.1 * q.2.2 + q.1 * q.2.1 * m.2) * (s.2 * r.2.2) := by rw [e]
  | [], _ :: _, _, _, _, _, _, _, h, _ => h.elim
  | _ :: _, [], _, _, _, _, _, _, h, _ => h.elim
theorem wsum0 {rows : List (Int × (Int × Int))} (hne : rows ≠ []) (hr : ∀ r ∈ rows, 0 < r.1) : 0 < (rows.map fun r => r.1).sum := by
  cases rows with
  | nil => exact absurd rfl hne
  | cons r rows =>
    have key : ∀ l : List (Int × (Int × Int)), (∀ r ∈ l, 0 < r.1) → 0 ≤ (l.map fun r => r.1).sum := by
      intro l
      induction l with
      | nil => intro _; simp
      | cons a l ih =>
        intro h
        rw [List.map_cons, List.sum_cons]
        have := ih fun z hz => h z (List.mem_cons_of_mem _ hz)
        have := h a List.mem_cons_self
        omega
    rw [List.map_cons, List.sum_cons]
    have h0 := hr r List.mem_cons_self
    have h1 := key rows fun z hz => hr z (List.mem_cons_of_mem _ hz)
    omega
theorem meanF_pos {rs : List (Int × (Int × Int))} (hne : rs ≠ []) (hr : ∀ r ∈ rs, 0 < r.1 ∧ 0 < r.2.2) : 0 < (meanF rs).2 :=
  low_pos (Int.mul_pos (mean_pos (by decide) fun r h => (hr r h).2) (wsum0 hne fun r h => (hr r h).1))
theorem meanF_mono {rs qs : List (Int × (Int × Int))} (hne : rs ≠ []) (hnq : qs ≠ []) (hr : ∀ r ∈ rs, 0 < r.1 ∧ 0 < r.2.2) (hq : ∀ r ∈ qs, 0 < r.1 ∧ 0 < r.2.2) (hl : RowsLe rs qs) : leQ (meanF rs) (meanF qs) := by
  have h := mean_mono (s := (0, 1)) (m := (0, 1)) (by decide) (by decide) hr hq hl (leQ_refl _)
  have m1 := mean_pos (rows := rs) (s := (0, 1)) (by decide) fun r h => (hr r h).2
  have m2 := mean_pos (rows := qs) (s := (0, 1)) (by decide) fun r h => (hq r h).2
  have w := wsum0 hne fun r h => (hr r h).1
  have e := rowsLe_sum hl
  unfold meanF
  simp only []
  rw [← e]
  refine low_le (Int.mul_pos m1 w) (Int.mul_pos m2 w) ?_
  unfold leQ at h
  have a := Int.mul_le_mul_of_nonneg_right h (Int.le_of_lt w)
  calc (rs.foldl meanS (0, 1)).1 * ((qs.foldl meanS (0, 1)).2 * (rs.map fun r => r.1).sum) = (rs.foldl meanS (0, 1)).1 * (qs.foldl meanS (0, 1)).2 * (rs.map fun r => r.1).sum := by grind
    _ ≤ (qs.foldl meanS (0, 1)).1 * (rs.foldl meanS (0, 1)).2 * (rs.map fun r => r.1).sum := a
    _ = (qs.foldl meanS (0, 1)).1 * ((rs.foldl meanS (0, 1)).2 * (rs.map fun r => r.1).sum) := by grind
/-! ### bounds -/
/-- both numbers of q below 2^k -/
def Bits (k : Nat) (q : Int × Int) : Prop := q.1.natAbs < 2 ^ k ∧ q.2.natAbs < 2 ^ k
theorem Bits.mono {k m : Nat} {q : Int × Int} (h : Bits k q) (e : k ≤ m) : Bits m q := ⟨abs_lt_mono h.1 e, abs_lt_mono h.2 e⟩
theorem low_bits {t b : Int} (hb : 0 < b) {k : Nat} (h1 : t.natAbs < 2 ^ k) (h2 : b.natAbs < 2 ^ k) : Bits k (low t b) := ⟨low_t h1, low_b hb h2⟩
/-- |t| at most W times 2^S, b at most 2^S -/
theorem mean_bits : ∀ {rows : List ((Int × (Int × Int)) × Nat)} {s : Int × Int} {W S : Nat}, (∀ r ∈ rows, 0 ≤ r.1.1 ∧ Bits r.2 r.1.2) → s.1.natAbs ≤ W * 2 ^ S → s.2.natAbs ≤ 2 ^ S →
    ((rows.map (·.1)).foldl meanS s).1.natAbs ≤ (W + (rows.map fun r => r.1.1.natAbs).sum) * 2 ^ (S + (rows.map (·.2)).sum) ∧ ((rows.map (·.1)).foldl meanS s).2.natAbs ≤ 2 ^ (S + (rows.map (·.2)).sum)
  | [], s, W, S, _, h1, h2 => by simpa using ⟨h1, h2⟩
  | r :: rows, s, W, S, hr, h1, h2 => by
    obtain ⟨r0, rt, rb⟩ := hr r List.mem_cons_self
    have q := mean_bits (rows := rows) (s := meanS s r.1) (W := W + r.1.1.natAbs) (S := S + r.2) (fun z hz => hr z (List.mem_cons_of_mem _ hz)) (by
      show (s.1 * r.1.2.2 + r.1.1 * r.1.2.1 * s.2).natAbs ≤ _
      refine Nat.le_trans (Int.natAbs_add_le ..) ?_
      rw [Int.natAbs_mul, Int.natAbs_mul, Int.natAbs_mul, Nat.pow_add, Nat.add_mul]
      refine Nat.add_le_add ?_ ?_
      · rw [← Nat.mul_assoc]
        exact Nat.mul_le_mul h1 (Nat.le_of_lt rb)
      · have : r.1.1.natAbs * r.1.2.1.natAbs * s.2.natAbs = r.1.1.natAbs * (s.2.natAbs * r.1.2.1.natAbs) := by rw [Nat.mul_assoc, Nat.mul_comm r.1.2.1.natAbs]
        rw [this]
        exact Nat.mul_le_mul_left _ (Nat.mul_le_mul h2 (Nat.le_of_lt rt))) (by
      show (s.2 * r.1.2.2).natAbs ≤ _
      rw [Int.natAbs_mul, Nat.pow_add]
      exact Nat.mul_le_mul h2 (Nat.le_of_lt rb))
    simp only [List.map_cons, List.foldl_cons, List.sum_cons]
    rw [← Nat.add_assoc, ← Nat.add_assoc]
    exact q
theorem meanF_bits {rows : List ((Int × (Int × Int)) × Nat)} (hne : rows ≠ []) (hr : ∀ r ∈ rows, 0 < r.1.1 ∧ r.1.1 ≤ 3 ∧ 0 < r.1.2.2 ∧ Bits r.2 r.1.2) (hl : rows.length ≤ 3) : Bits ((rows.map (·.2)).sum + 4) (meanF (rows.map (·.1))) := by
  obtain ⟨h1, h2⟩ := mean_bits (rows := rows) (s := (0, 1)) (W := 0) (S := 0) (fun r hz => ⟨Int.le_of_lt (hr r hz).1, (hr r hz).2.2.2⟩) (by decide) (by decide)
  rw [Nat.zero_add, Nat.zero_add] at h1
  rw [Nat.zero_add] at h2
  have key : ∀ l : List ((Int × (Int × Int)) × Nat), (∀ r ∈ l, 0 < r.1.1 ∧ r.1.1 ≤ 3) → (l.map fun r => r.1.1.natAbs).sum ≤ 3 * l.length ∧ ((l.map (fun r : (Int × (Int × Int)) × Nat => r.1)).map (fun r : Int × (Int × Int) => r.1)).sum.natAbs ≤ 3 * l.length ∧ 0 ≤ ((l.map (fun r : (Int × (Int × Int)) × Nat => r.1)).map (fun r : Int × (Int × Int) => r.1)).sum := by
    intro l
    induction l with
    | nil => intro _; simp
    | cons a l ih =>
      intro h
      have q := ih fun z hz => h z (List.mem_cons_of_mem _ hz)
      have := h a List.mem_cons_self
      simp only [List.map_cons, List.sum_cons, List.length_cons]
      omega
  obtain ⟨k1, k2, k3⟩ := key rows fun r h => ⟨(hr r h).1, (hr r h).2.1⟩
  have hm := mean_pos (rows := rows.map (·.1)) (s := (0, 1)) (by decide) fun r h => by
    obtain ⟨z, hz, rfl⟩ := List.mem_map.mp h
    exact (hr z hz).2.2.1
  have hw := wsum0 (rows := rows.map (·.1)) (by simpa using hne) fun r h => by
    obtain ⟨z, hz, rfl⟩ := List.mem_map.mp h
    exact (hr z hz).1
  have hp : 0 < 2 ^ (rows.map (·.2)).sum := Nat.pow_pos (by decide)
  have e16 : 2 ^ ((rows.map (·.2)).sum + 4) = 2 ^ (rows.map (·.2)).sum * 16 := by rw [Nat.pow_add]
  refine low_bits (Int.mul_pos hm hw) ?_ ?_
  · rw [e16]
    refine Nat.lt_of_le_of_lt h1 ?_
    rw [Nat.mul_comm]
    exact Nat.mul_lt_mul_of_pos_left (by omega) hp
  · rw [e16, Int.natAbs_mul]
    refine Nat.lt_of_le_of_lt (Nat.mul_le_mul h2 k2) ?_
    exact Nat.mul_lt_mul_of_pos_left (by omega) hp
/-- powers of two of different numbers below r -/
theorem pow_sum : ∀ (r : Nat) (l : List Nat), l.Nodup → (∀ x ∈ l, x < r) → (l.map fun x => 2 ^ x).sum + 1 ≤ 2 ^ r
  | 0, l, _, h => by
    cases l with
    | nil => simp
    | cons a l => exact absurd (h a List.mem_cons_self) (by omega)
  | r + 1, l, hn, h => by
    by_cases hr : r ∈ l
    · have p := List.perm_cons_erase hr
      have e : (l.map fun x => 2 ^ x).sum = 2 ^ r + ((l.erase r).map fun x => 2 ^ x).sum := by
        have := (p.map fun x => 2 ^ x).sum_nat
        rw [this, List.map_cons, List.sum_cons]
      have hn2 : (l.erase r).Nodup := hn.erase r
      have q := pow_sum r (l.erase r) hn2 fun x hx => by
        have h1 := h x (List.mem_of_mem_erase hx)
        have h2 : x ≠ r := fun e => by
          rw [e] at hx
          exact (List.Nodup.mem_erase_iff hn).mp hx |>.1 rfl
        omega
      rw [e, Nat.pow_succ]
      omega
    · have q := pow_sum r l hn fun x hx => by
        have h1 := h x hx
        have h2 : x ≠ r := fun e => hr (by rw [← e]; exact hx)
        omega
      rw [Nat.pow_succ]
      omega
/-! ### worths -/
def bestF (o : Bool) (qs : List (Int × Int)) : Int × Int := if o then topQ qs else botQ qs
abbrev Plans := Bool → Option (List (Str × Str))
/-- where a plan leads at n -/
def planTo (p : List (Str × Str)) (n : Str) (ms : List (Str × Str)) : Option Str := (lkp p n).bind (lkp ms)
def stepW (pl : Plans) (f : Str → Int × Int) (n : Str) : Nd → Int × Int
  | .en q => low q.1 q.2
  | .ch ls => meanF (ls.map fun q => (q.2, f q.1))
  | .mv o ms => match pl o with
    | some p => match planTo p n ms with
      | some c => f c
      | none => (0, 1)
    | none => bestF o (ms.map fun q => f q.2)
def wOf (G : Gm) (pl : Plans) : Nat → Str → Int × Int
  | 0, _ => (0, 1)
  | k + 1, n => match nodeAt G n with
    | some x => stepW pl (wOf G pl k) n x
    | none => (0, 1)
@[irreducible] def worth (G : Gm) (pl : Plans) (n : Str) : Int × Int := wOf G pl 10 n
theorem worth_def (G : Gm) (pl : Plans) (n : Str) : worth G pl n = wOf G pl 10 n := by unfold worth; rfl
theorem planTo_mem {p ms : List (Str × Str)} {n c : Str} (h : planTo p n ms = some c) : c ∈ ms.map (·.2) := by
  unfold planTo at h
  cases e : lkp p n with
  | none => rw [e] at h; cases h
  | some m =>
    rw [e] at h
    exact List.mem_map.mpr ⟨_, lkp_mem h, rfl⟩
theorem stepW_none {pl : Plans} {f : Str → Int × Int} {n : Str} {o : Bool} {ms : List (Str × Str)} (h : pl o = none) : stepW pl f n (.mv o ms) = bestF o (ms.map fun q => f q.2) := by
  simp only [stepW, h]
theorem stepW_some {pl : Plans} {f : Str → Int × Int} {n c : Str} {o : Bool} {p ms : List (Str × Str)} (h : pl o = some p) (e : planTo p n ms = some c) : stepW pl f n (.mv o ms) = f c := by
  simp only [stepW, h, e]
theorem stepW_no {pl : Plans} {f : Str → Int × Int} {n : Str} {o : Bool} {p ms : List (Str × Str)} (h : pl o = some p) (e : planTo p n ms = none) : stepW pl f n (.mv o ms) = (0, 1) := by
  simp only [stepW, h, e]
theorem stepW_congr {pl : Plans} {f g : Str → Int × Int} {n : Str} {x : Nd} (h : ∀ c ∈ targets x, f c = g c) : stepW pl f n x = stepW pl g n x := by
  cases x with
  | en q => rfl
  | ch ls =>
    show meanF (ls.map fun q => (q.2, f q.1)) = meanF (ls.map fun q => (q.2, g q.1))
    rw [List.map_congr_left (g := fun q => (q.2, g q.1)) fun q hq => by rw [h q.1 (List.mem_map.mpr ⟨q, hq, rfl⟩)]]
  | mv o ms =>
    cases hp : pl o with
    | none =>
      rw [stepW_none hp, stepW_none hp, List.map_congr_left (g := fun q => g q.2) fun q hq => h q.2 (List.mem_map.mpr ⟨q, hq, rfl⟩)]
    | some p =>
      cases e : planTo p n ms with
      | none => rw [stepW_no hp e, stepW_no hp e]
      | some c => rw [stepW_some hp e, stepW_some hp e]; exact h c (planTo_mem e)
theorem wOf_stable {G : Gm} {rk : Str → Nat} (hG : GOk G rk) (pl : Plans) : ∀ (k : Nat) (n : Str), n ∈ names G → rk n < k → wOf G pl k n = wOf G pl (k + 1) n
  | 0, n, _, h => absurd h (Nat.not_lt_zero _)
  | k + 1, n, hn, h => by
    obtain ⟨x, e, hx, ok⟩ := hG.at hn
    show (match nodeAt G n with | some x => stepW pl (wOf G pl k) n x | none => (0, 1)) = (match nodeAt G n with | some x => stepW pl (wOf G pl (k + 1)) n x | none => (0, 1))
    rw [e]
    exact stepW_congr fun c hc => wOf_stable hG pl k c (ok.tg c hc) (by have := hG.up n x hx c hc; omega)
theorem worth_eq {G : Gm} {rk : Str → Nat} (hG : GOk G rk) (pl : Plans) {n : Str} {x : Nd} (hx : (n, x) ∈ G) : worth G pl n = stepW pl (worth G pl) n x := by
  have e := nodeAt_eq hG.nd hx
  have h1 : worth G pl n = stepW pl (wOf G pl 9) n x := by
    rw [worth_def]
    show (match nodeAt G n with | some x => stepW pl (wOf G pl 9) n x | none => (0, 1)) = _
    rw [e]
  rw [h1]
  have hn := names_mem hx
  exact stepW_congr fun c hc => (wOf_stable hG pl 9 c ((hG.ok n x hx).tg c hc) (by have := hG.up n x hx c hc; have := hG.rb n hn; omega)).trans (worth_def G pl c).symm
/-- induction on the places -/
theorem rank_ind {G : Gm} {rk : Str → Nat} (hG : GOk G rk) {Q : Str → Prop} (h : ∀ n x, (n, x) ∈ G → (∀ c ∈ targets x, Q c) → Q n) : ∀ n ∈ names G, Q n := by
  have key : ∀ k n, n ∈ names G → rk n < k → Q n := by
    intro k
    induction k with
    | zero => intro n _ h; exact absurd h (Nat.not_lt_zero _)
    | succ k ih =>
      intro n hn hk
      obtain ⟨x, e, hx, ok⟩ := hG.at hn
      exact h n x hx fun c hc => ih c (ok.tg c hc) (by have := hG.up n x hx c hc; omega)
  exact fun n hn => key (rk n + 1) n hn (by omega)
/-- the plans given fit the game -/
def PlansOk (G : Gm) (pl : Plans) : Prop := ∀ o p, pl o = some p → PlanOk G o p
theorem planTo_of {G : Gm} {o : Bool} {p : List (Str × Str)} (h : PlanOk G o p) {n : Str} {ms : List (Str × Str)} (hm : (n, Nd.mv o ms) ∈ G) : ∃ m c, lkp p n = some m ∧ lkp ms m = some c ∧ planTo p n ms = some c := by
  obtain ⟨m, h1, h2⟩ := h.2 n ms hm
  obtain ⟨c, h3⟩ := lkp_of h2
  exact ⟨m, c, h1, h3, by unfold planTo; rw [h1]; exact h3⟩
theorem bestF_mem {o : Bool} {l : List (Int × Int)} (h : l ≠ []) : bestF o l ∈ l := by
  cases o
  · exact botQ_mem h
  · exact topQ_mem h
theorem worth_ok {G : Gm} {rk : Str → Nat} (hG : GOk G rk) {pl : Plans} (hp : PlansOk G pl) : ∀ n ∈ names G, 0 < (worth G pl n).2 ∧ Bits (6 * 2 ^ rk n) (worth G pl n) := by
  refine rank_ind hG fun n x hx ih => ?_
  rw [worth_eq hG pl hx]
  have ok := hG.ok n x hx
  have hup := hG.up n x hx
  have mono : ∀ c ∈ targets x, 0 < (worth G pl c).2 ∧ Bits (6 * 2 ^ rk n) (worth G pl c) := fun c hc => ⟨(ih c hc).1, (ih c hc).2.mono (Nat.mul_le_mul_left _ (Nat.pow_le_pow_right (by decide) (Nat.le_of_lt (hup c hc))))⟩
  cases x with
  | en q =>
    refine ⟨low_pos ok.1, (low_bits ok.1 ok.2.1 ok.2.2).mono ?_⟩
    have : 0 < 2 ^ rk n := Nat.pow_pos (by decide)
    omega
  | ch ls =>
    obtain ⟨hne, hlen, hnd, hls⟩ := ok
    show 0 < (meanF (ls.map fun q => (q.2, worth G pl q.1))).2 ∧ Bits _ (meanF (ls.map fun q => (q.2, worth G pl q.1)))
    have hrows : ∀ r ∈ ls.map (fun q => (q.2, worth G pl q.1)), 0 < r.1 ∧ 0 < r.2.2 := fun r hr => by
      obtain ⟨q, hq, rfl⟩ := List.mem_map.mp hr
      exact ⟨by have := (hls q hq).2.1; show 0 < q.2; omega, (ih q.1 (List.mem_map.mpr ⟨q, hq, rfl⟩)).1⟩
    refine ⟨meanF_pos (by simpa using hne) hrows, ?_⟩
    have hb := meanF_bits (rows := ls.map fun q => ((q.2, worth G pl q.1), 6 * 2 ^ rk q.1)) (by simpa using hne) (fun r hr => by
      obtain ⟨q, hq, rfl⟩ := List.mem_map.mp hr
      have hc := ih q.1 (List.mem_map.mpr ⟨q, hq, rfl⟩)
      have h2 := (hls q hq).2
      exact ⟨by show 0 < q.2; omega, h2.2, hc.1, hc.2⟩) (by rw [List.length_map]; exact hlen)
    rw [List.map_map, List.map_map] at hb
    refine hb.mono ?_
    have hs := pow_sum (rk n) ((ls.map (·.1)).map rk) (by
      have key : ∀ l : List Str, l.Nodup → (∀ c ∈ l, c ∈ names G) → (l.map rk).Nodup := by
        intro l
        induction l with
        | nil => intro _ _; exact List.nodup_nil
        | cons a l ihl =>
          intro hn hc
          have hn' := List.nodup_cons.mp hn
          rw [List.map_cons]
          refine List.nodup_cons.mpr ⟨fun z => ?_, ihl hn'.2 fun c h => hc c (List.mem_cons_of_mem _ h)⟩
          obtain ⟨b, hb, e⟩ := List.mem_map.mp z
          have := hG.ri b (hc b (List.mem_cons_of_mem _ hb)) a (hc a List.mem_cons_self) e
          exact hn'.1 (by rw [← this]; exact hb)
      exact key _ hnd fun c hc => (hG.ok n _ hx).tg c hc) (fun z hz => by
      obtain ⟨c, hc, rfl⟩ := List.mem_map.mp hz
      exact hup c hc)
    have e : (ls.map ((fun r : (Int × (Int × Int)) × Nat => r.2) ∘ fun q : Str × Int => ((q.2, worth G pl q.1), 6 * 2 ^ rk q.1))).sum = 6 * (((ls.map (·.1)).map rk).map fun x => 2 ^ x).sum := by
      rw [List.map_map, List.map_map]
      clear hb hs hrows hlen hnd hne hls mono hup hx ih
      induction ls with
      | nil => rfl
      | cons a l ihl =>
        simp only [List.map_cons, List.sum_cons]
        rw [Nat.mul_add, ihl]
        rfl
    rw [e]
    omega
  | mv o ms =>
    cases ep : pl o with
    | none =>
      have hm := bestF_mem (o := o) (l := ms.map fun q => worth G pl q.2) (by simpa using ok.1)
      obtain ⟨q, hq, e⟩ := List.mem_map.mp hm
      rw [stepW_none ep, ← e]
      exact mono q.2 (List.mem_map.mpr ⟨q, hq, rfl⟩)
    | some p =>
      obtain ⟨m, c, h1, h2, h3⟩ := planTo_of (hp o p ep) hx
      rw [stepW_some ep h3]
      exact mono c (planTo_mem h3)
theorem worth_big {G : Gm} {rk : Str → Nat} (hG : GOk G rk) {pl : Plans} (hp : PlansOk G pl) {n : Str} (hn : n ∈ names G) : 0 < (worth G pl n).2 ∧ Big (worth G pl n) := by
  obtain ⟨h1, h2⟩ := worth_ok hG hp n hn
  refine ⟨h1, h2.mono ?_⟩
  have hr := hG.rb n hn
  have : 2 ^ rk n ≤ 2 ^ 8 := Nat.pow_le_pow_right (by decide) (by omega)
  have : (2 : Nat) ^ 8 = 256 := by decide
  omega
end Gw

/-! What the law asks of worths. -/
namespace Gw
open PySem
/-- the plans of the two sides -/
def two (a b : Option (List (Str × Str))) : Plans := fun o => if o then a else b
theorem worth_keep {G : Gm} {rk : Str → Nat} (hG : GOk G rk) (pl : Plans) (n : Str) : worth (keepG G) pl n = worth G pl n := by
  have key : ∀ (k : Nat) (n : Str), wOf (keepG G) pl k n = wOf G pl k n := by
    intro k
    induction k with
    | zero => intro n; rfl
    | succ k ih =>
      intro n
      show (match nodeAt (keepG G) n with | some x => stepW pl (wOf (keepG G) pl k) n x | none => (0, 1)) = (match nodeAt G n with | some x => stepW pl (wOf G pl k) n x | none => (0, 1))
      rw [nodeAt_keep]
      cases e : nodeAt G n with
      | none => rfl
      | some x =>
        show stepW pl (wOf (keepG G) pl k) n (keep x) = stepW pl (wOf G pl k) n x
        rw [stepW_congr (g := wOf G pl k) fun c _ => ih c]
        cases x with
        | en q => exact low_low (hG.ok n _ (nodeAt_mem e)).1
        | ch ls => rfl
        | mv o ms => rfl
  rw [worth_def, worth_def]
  exact key 10 n
/-- plans that look the same lead the same way -/
theorem worth_plans {G : Gm} {pl pl' : Plans} (h : ∀ o, (pl o = none ∧ pl' o = none) ∨ ∃ p p', pl o = some p ∧ pl' o = some p' ∧ ∀ n, lkp p n = lkp p' n) (n : Str) : worth G pl n = worth G pl' n := by
  have key : ∀ (k : Nat) (n : Str), wOf G pl k n = wOf G pl' k n := by
    intro k
    induction k with
    | zero => intro n; rfl
    | succ k ih =>
      intro n
      show (match nodeAt G n with | some x => stepW pl (wOf G pl k) n x | none => (0, 1)) = (match nodeAt G n with | some x => stepW pl' (wOf G pl' k) n x | none => (0, 1))
      cases e : nodeAt G n with
      | none => rfl
      | some x =>
        show stepW pl (wOf G pl k) n x = stepW pl' (wOf G pl' k) n x
        rw [stepW_congr (g := wOf G pl' k) fun c _ => ih c]
        cases x with
        | en q => rfl
        | ch ls => rfl
        | mv o ms =>
          rcases h o with ⟨h1, h2⟩ | ⟨p, p', h1, h2, h3⟩
          · rw [stepW_none h1, stepW_none h2]
          · have ep : planTo p n ms = planTo p' n ms := by unfold planTo; rw [h3]
            cases e2 : planTo p' n ms with
            | none => rw [stepW_no h1 (ep.trans e2), stepW_no h2 e2]
            | some c => rw [stepW_some h1 (ep.trans e2), stepW_some h2 e2]
  rw [worth_def, worth_def]
  exact key 10 n
/-- told takes, at each of the others' places, a move that attains the least -/
def Told (G : Gm) (ours told : List (Str × Str)) : Prop := ∀ n ms, (n, Nd.mv false ms) ∈ G → ∃ m c, lkp told n = some m ∧ lkp ms m = some c ∧ worth G (two (some ours) none) c = worth G (two (some ours) none) n
theorem worth_told {G : Gm} {rk : Str → Nat} (hG : GOk G rk) {ours told : List (Str × Str)} (ho : PlanOk G true ours) (h : Told G ours told) : ∀ n ∈ names G, worth G (two (some ours) (some told)) n = worth G (two (some ours) none) n := by
  refine rank_ind hG fun n x hx ih => ?_
  rw [worth_eq hG _ hx]
  rw [stepW_congr ih]
  cases x with
  | en q => rw [worth_eq hG (two (some ours) none) hx]; rfl
  | ch ls => rw [worth_eq hG (two (some ours) none) hx]; rfl
  | mv o ms =>
    cases o with
    | true =>
      obtain ⟨m, c, h1, h2, h3⟩ := planTo_of ho hx
      rw [worth_eq hG (two (some ours) none) hx, stepW_some (pl := two (some ours) (some told)) (o := true) rfl h3, stepW_some (pl := two (some ours) none) (o := true) rfl h3]
    | false =>
      obtain ⟨m, c, h1, h2, h3⟩ := h n ms hx
      have h4 : planTo told n ms = some c := by unfold planTo; rw [h1]; exact h2
      rw [stepW_some (pl := two (some ours) (some told)) (o := false) rfl h4]
      exact h3
/-- the least is at most what any plan of the others gives -/
theorem worth_least {G : Gm} {rk : Str → Nat} (hG : GOk G rk) {ours theirs : List (Str × Str)} (ho : PlanOk G true ours) (ht : PlanOk G false theirs) : ∀ n ∈ names G, leQ (worth G (two (some ours) none) n) (worth G (two (some ours) (some theirs)) n) := by
  have p1 : PlansOk G (two (some ours) none) := fun o p e => by
    cases o with
    | true => cases e; exact ho
    | false => cases e
  have p2 : PlansOk G (two (some ours) (some theirs)) := fun o p e => by
    cases o with
    | true => cases e; exact ho
    | false => cases e; exact ht
  refine rank_ind hG fun n x hx ih => ?_
  have w1 := worth_eq hG (two (some ours) none) hx
  have w2 := worth_eq hG (two (some ours) (some theirs)) hx
  have ok := hG.ok n x hx
  have k1 : ∀ c ∈ targets x, 0 < (worth G (two (some ours) none) c).2 := fun c hc => (worth_ok hG p1 c (ok.tg c hc)).1
  have k2 : ∀ c ∈ targets x, 0 < (worth G (two (some ours) (some theirs)) c).2 := fun c hc => (worth_ok hG p2 c (ok.tg c hc)).1
  rw [w1, w2]
  cases x with
  | en q =>
    show leQ (low q.1 q.2) (low q.1 q.2)
    exact leQ_refl _
  | ch ls =>
    obtain ⟨hne, hlen, hnd, hls⟩ := ok
    show leQ (meanF (ls.map fun q => (q.2, worth G (two (some ours) none) q.1))) (meanF (ls.map fun q => (q.2, worth G (two (some ours) (some theirs)) q.1)))
    refine meanF_mono (by simpa using hne) (by simpa using hne) (fun r hr => ?_) (fun r hr => ?_) ?_
    · obtain ⟨q, hq, rfl⟩ := List.mem_map.mp hr
      exact ⟨by have := (hls q hq).2.1; show 0 < q.2; omega, k1 q.1 (List.mem_map.mpr ⟨q, hq, rfl⟩)⟩
    · obtain ⟨q, hq, rfl⟩ := List.mem_map.mp hr
      exact ⟨by have := (hls q hq).2.1; show 0 < q.2; omega, k2 q.1 (List.mem_map.mpr ⟨q, hq, rfl⟩)⟩
    · have key : ∀ l : List (Str × Int), (∀ q ∈ l, q ∈ ls) → RowsLe (l.map fun q => (q.2, worth G (two (some ours) none) q.1)) (l.map fun q => (q.2, worth G (two (some ours) (some theirs)) q.1)) := by
        intro l
        induction l with
        | nil => intro _; trivial
        | cons a l ihl =>
          intro h
          rw [List.map_cons, List.map_cons]
          exact ⟨rfl, ih a.1 (List.mem_map.mpr ⟨a, h a List.mem_cons_self, rfl⟩), ihl fun q hq => h q (List.mem_cons_of_mem _ hq)⟩
      exact key ls fun _ h => h
  | mv o ms =>
    cases o with
    | true =>
      obtain ⟨m, c, h1, h2, h3⟩ := planTo_of ho hx
      rw [stepW_some (pl := two (some ours) none) (o := true) rfl h3, stepW_some (pl := two (some ours) (some theirs)) (o := true) rfl h3]
      exact ih c (planTo_mem h3)
    | false =>
      obtain ⟨m, c, h1, h2, h3⟩ := planTo_of ht hx
      rw [stepW_none (pl := two (some ours) none) (o := false) rfl, stepW_some (pl := two (some ours) (some theirs)) (o := false) rfl h3]
      have hc := planTo_mem h3
      have hpos : ∀ q ∈ ms.map (fun q => worth G (two (some ours) none) q.2), 0 < q.2 := fun q hq => by
        obtain ⟨z, hz, rfl⟩ := List.mem_map.mp hq
        exact k1 z.2 (List.mem_map.mpr ⟨z, hz, rfl⟩)
      obtain ⟨z, hz, ez⟩ := List.mem_map.mp hc
      have hb := botQ_le hpos (worth G (two (some ours) none) c) (List.mem_map.mpr ⟨z, hz, by rw [ez]⟩)
      have hbm := botQ_mem (l := ms.map fun q => worth G (two (some ours) none) q.2) (by simpa using ok.1)
      exact leQ_trans (hpos _ hbm) (k1 c hc) (k2 c hc) hb (ih c hc)
/-- some move of theirs attains the least -/
theorem least_move {G : Gm} {rk : Str → Nat} (hG : GOk G rk) {pl : Plans} (hn : pl false = none) {n : Str} {ms : List (Str × Str)} (hx : (n, Nd.mv false ms) ∈ G) : ∃ q ∈ ms, worth G pl q.2 = worth G pl n := by
  have ok := hG.ok n _ hx
  have hm := botQ_mem (l := ms.map fun q => worth G pl q.2) (by simpa using ok.1)
  obtain ⟨q, hq, e⟩ := List.mem_map.mp hm
  refine ⟨q, hq, ?_⟩
  rw [worth_eq hG pl hx, stepW_none hn]
  exact e
theorem least_le {G : Gm} {rk : Str → Nat} (hG : GOk G rk) {pl : Plans} (hp : PlansOk G pl) (hn : pl false = none) {n : Str} {ms : List (Str × Str)} (hx : (n, Nd.mv false ms) ∈ G) : ∀ q ∈ ms, leQ (worth G pl n) (worth G pl q.2) := fun q hq => by
  rw [worth_eq hG pl hx, stepW_none hn]
  refine botQ_le (l := ms.map fun q => worth G pl q.2) (fun z hz => ?_) _ (List.mem_map.mpr ⟨q, hq, rfl⟩)
  obtain ⟨y, hy, rfl⟩ := List.mem_map.mp hz
  exact (worth_ok hG hp y.2 ((hG.ok n _ hx).tg _ (List.mem_map.mpr ⟨y, hy, rfl⟩))).1
end Gw

/-! Worths by plans. -/
namespace Gw
open PySem L2
local macro_rules | `(tactic| walk_at "gw") => `(tactic| first
  | (with_reducible refine ws_seq ?_)
  | (with_reducible refine ws_ret ?_)
  | (with_reducible refine ws_newl ?_)
  | (with_reducible refine ws_newd ?_)
  | (with_reducible refine ws_set ?_)
  | (with_reducible refine ws_par3 ?_)
  | (with_reducible refine ws_par ?_)
  | (with_reducible refine ws_if ?_)
  | (with_reducible refine ws_next ?_)
  | (with_reducible refine ws_cont ?_)
  | (with_reducible refine ws_asgP ?_)
  | (with_reducible refine ws_asgP3 ?_)
  | ((with_reducible refine' ws_app ?h ?_); (case h => rfl))
  | ((with_reducible refine' ws_clear ?h ?_); (case h => rfl))
  | ((with_reducible refine' ws_dput ?h ?_); (case h => rfl))
  | (with_reducible refine ws_drop ?_)
  | ((with_reducible refine' we_var ?h ?_); (case h => rfl))
  | (with_reducible refine we_int ?_)
  | (with_reducible refine we_str ?_)
  | (with_reducible refine we_bl ?_)
  | (with_reducible refine we_non ?_)
  | (with_reducible refine we_ty ?_)
  | ((with_reducible refine' we_ixM ?h ?e ?_); (case h => rfl); (case e => exact atI_last _ _))
  | ((with_reducible refine' we_ixO ?h ?_); (case h => rfl))
  | (with_reducible refine we_neg ?_)
  | (with_reducible refine we_op ?_)
  | (with_reducible refine ro_I0 ?_)
  | (with_reducible refine ro_B0 ?_)
  | ((with_reducible refine ro_I ?h ?_); (case h => first | assumption | omega))
  | ((with_reducible refine' ro_ixT ?h ?_); (case h => rfl))
  | (with_reducible refine ro_inT2 ?_)
  | (with_reducible refine ro_ninT2 ?_)
  | (with_reducible refine ro_eqS ?_)
  | (with_reducible refine ro_neS ?_)
  | (with_reducible refine ro_eqI ?_)
  | (with_reducible refine ro_neI ?_)
  | (with_reducible refine ro_eqB ?_)
  | (with_reducible refine ro_notNon ?_)
  | (with_reducible refine ro_neB ?_)
  | ((with_reducible refine' we_dgetO ?h ?_); (case h => rfl))
  | ((with_reducible refine' we_dinO ?h ?_); (case h => rfl))
  | ((with_reducible refine' we_dnotinO ?h ?_); (case h => rfl))
  | (with_reducible refine we_dget ?_)
  | (with_reducible refine we_din ?_)
  | (with_reducible refine we_dnotin ?_)
  | ((with_reducible refine we_tup ?_))
  | ((with_reducible refine we_lst ?_))
  | (with_reducible refine wa_cons ?_)
  | (with_reducible refine wa_nil ?_)
  | (with_reducible refine we_cb ?_)
  | (with_reducible refine we_chain ?_)
  | (with_reducible refine we_if ?_)
  | (with_reducible refine we_andV ?_)
  | (with_reducible refine we_orV ?_)
  | (with_reducible refine we_notV ?_)
  | (with_reducible refine wt_test ?_)
  | (with_reducible refine wt_B ?_)
  | (with_reducible refine wt_not ?_)
  | (with_reducible refine wt_and ?_)
  | (with_reducible refine wt_or ?_)
  | (with_reducible refine wt_ifT ?_)
  | (with_reducible refine we_call ?_)
  | ((with_reducible refine' we_callS ?h ?_); (case h => rfl))
  | ((with_reducible refine' we_meth ?h ?_); (case h => decide +kernel))
  | (with_reducible refine rc_abs ?_)
  | (with_reducible refine rc_int ?_)
  | (with_reducible refine rc_lenL ?_)
  | (with_reducible refine rc_lenT ?_)
  | (with_reducible refine rc_lenD ?_)
  | (with_reducible refine rc_lenLS ?_)
  | (with_reducible refine rc_sum ?_)
  | (with_reducible refine rc_tupT ?_)
  | ((with_reducible refine' rc_isi ?ht ?hb ?_); (case ht => rfl); (case hb => first | exact kb_int_int | exact kb_int_bool | exact kb_int_list | exact kb_int_tuple | exact kb_str_str | exact kb_dict_dict | exact kb_list_list | exact kb_list_tuple | exact kb_tuple_list | exact kb_tuple_tuple | exact kb_bool_int | exact kb_bool_bool))
  | ((with_reducible refine' rc_isiT ?ht ?h1 ?h2 ?_); (case ht => rfl); (case h1 => first | exact kb_int_int | exact kb_int_bool | exact kb_int_list | exact kb_int_tuple | exact kb_str_str | exact kb_dict_dict | exact kb_list_list | exact kb_list_tuple | exact kb_tuple_list | exact kb_tuple_tuple | exact kb_bool_int | exact kb_bool_bool); (case h2 => first | exact kb_int_int | exact kb_int_bool | exact kb_int_list | exact kb_int_tuple | exact kb_str_str | exact kb_dict_dict | exact kb_list_list | exact kb_list_tuple | exact kb_tuple_list | exact kb_tuple_tuple | exact kb_bool_int | exact kb_bool_bool))
  | (with_reducible refine rc_allT ?_)
  | (with_reducible refine rc_anyF ?_)
  | (with_reducible refine rc_all ?_)
  | (with_reducible refine rc_any ?_)
  | (with_reducible refine rc_listD ?_)
  | (with_reducible refine rc_dictD fun _ _ => ?_)
  | (with_reducible refine we_rev ?_)
  | (with_reducible refine we_slL ?_)
  | (with_reducible refine wo_no ?_)
  | (with_reducible refine wo_part ?_)
  | (with_reducible refine we_listVals ?_)
  | ((with_reducible refine' we_fld ?hc ?hn ?_); (case hc => assumption); (case hn => assumption))
  | (with_reducible refine wi_list ?_)
  | (with_reducible refine wi_range1 ?_)
  | (with_reducible refine wi_str ?_)
  | (with_reducible refine wi_enum ?_)
  | (with_reducible refine wg_name ?_)
  | (with_reducible refine wg_two ?_)
  | (refine ⟨Nat.le_of_ble_eq_true rfl, ?_⟩)
  | (refine ⟨_, rfl, ?_⟩)
  | (refine ⟨_, _, rfl, ?_⟩)
  | (refine ⟨_, _, _, rfl, rfl, ?_⟩)
  | (refine ⟨_, _, _, rfl, ?_⟩)
  | (refine ⟨fun _ => ?_, fun z => Bool.noConfusion z⟩)
  | (refine ⟨fun z => Bool.noConfusion z, fun _ => ?_⟩)
  | (refine ⟨fun _ => ?_, fun z => absurd z (by decide +kernel)⟩)
  | (refine ⟨fun z => absurd z (by decide +kernel), fun _ => ?_⟩))
section
variable {P : Program} {w : World} {K : PySem.W.Frag} {mg : Str → Option Value} {base : Heap} {C : Addr}
theorem rowD_inj {l m : List (Int × (Int × Int))} (h : l.map rowD = m.map rowD) : l = m := map_inj (fun x y e => by
  simp only [rowD, fr, D.tup.injEq, List.cons.injEq, D.int.injEq, and_true] at e
  exact Prod.ext e.1 (Prod.ext e.2.1 e.2.2)) h
theorem frL_inj {l m : List (Int × Int)} (h : l.map fr = m.map fr) : l = m := map_inj (fun x y e => fr_inj e) h
theorem lit_o : decide (sideS true = ("ours" : Str)) = true ∧ decide (sideS false = ("ours" : Str)) = false := by decide +kernel
/-- a table of fractions -/
def tabD (f : Str → Int × Int) (xs : List Str) : List (Str × D) := xs.map fun n => (n, fr (f n))
theorem lk_tab {f : Str → Int × Int} : ∀ {xs : List Str} {n : Str}, n ∈ xs → lk (tabD f xs) n = some (fr (f n))
  | x :: xs, n, h => by
    by_cases e : x = n
    · subst e
      exact lk_pos (q := (x, fr (f x))) rfl
    · exact (lk_neg (q := (x, fr (f x))) e).trans (lk_tab ((List.mem_cons.mp h).resolve_left fun z => e z.symm))
theorem put_tab {f : Str → Int × Int} {xs : List Str} {n : Str} (h : n ∉ xs) : putD (tabD f xs) n (fr (f n)) = tabD f (xs ++ [n]) := by
  rw [putD_new]
  · unfold tabD; rw [List.map_append]; rfl
  · intro q hq e
    obtain ⟨m, hm, rfl⟩ := List.mem_map.mp hq
    exact h (by rw [← e]; exact hm)
/-- the plans as a dict -/
def PlD (kvs : List (Str × D)) (pl : Plans) : Prop := ∀ o, (pl o = none ∧ lk kvs (sideS o) = none) ∨ ∃ p a, pl o = some p ∧ lk kvs (sideS o) = some (.dct a (mvD p))
theorem PlD.uniq {kvs : List (Str × D)} {pl pl' : Plans} (h : PlD kvs pl) (h' : PlD kvs pl') : pl = pl' := by
  funext o
  rcases h o with ⟨h1, h2⟩ | ⟨p, a, h1, h2⟩
  · rcases h' o with ⟨h3, h4⟩ | ⟨p, a, h3, h4⟩
    · rw [h1, h3]
    · rw [h2] at h4; cases h4
  · rcases h' o with ⟨h3, h4⟩ | ⟨p', a', h3, h4⟩
    · rw [h2] at h4; cases h4
    · rw [h2] at h4
      simp only [Option.some.injEq, D.dct.injEq] at h4
      rw [h1, h3, mvD_inj h4.2]
def Lowest (G : Gm) : Prop := ∀ n q, (n, Nd.en q) ∈ G → low q.1 q.2 = q
theorem keepG_lowest {G : Gm} {rk : Str → Nat} (hG : GOk G rk) : Lowest (keepG G) := fun n q h => by
  obtain ⟨y, hy, e⟩ := mem_keepG h
  cases y with
  | en r =>
    cases e
    exact low_low (hG.ok n _ hy).1
  | ch ls => cases e
  | mv o ms => cases e
/-- no lock stands on the game's dicts -/
def Free (L : List Addr) (g : Addr) (ad : Str → Addr) (G : Gm) : Prop := g ∉ L ∧ ∀ n o ms, (n, Nd.mv o ms) ∈ G → ad n ∉ L
abbrev s_plan_worths : Stmt := top 35
abbrev N_plan_worths : List Str := ["game", "plans", "found", "name", "word", "rest", "some", "place", "weight"]
theorem sc_plan_worths : FnScope N_plan_worths ["game", "plans"] (C8.fnScope s_plan_worths) := C8.fnScope_by (by decide +kernel)
def preW : List Addr → List D → Nat → Prop := fun L ds _ => ∃ (g : Addr) (ad : Str → Addr) (G : Gm) (rk : Str → Nat) (o : Option Addr) (kvs : List (Str × D)) (pl : Plans), ds = [.obj (gameD g ad G), .dct o kvs] ∧ GOk G rk ∧ Lowest G ∧ PlansOk G pl ∧ PlD kvs pl ∧ Free L g ad G
def postW : Hp → List D → Nat → D → Nat → Prop := fun _ ds _ d _ => ∃ (g : Addr) (ad : Str → Addr) (G : Gm) (o o' : Option Addr) (kvs : List (Str × D)) (pl : Plans) (xs : List Str), ds = [.obj (gameD g ad G), .dct o kvs] ∧ PlD kvs pl ∧ d = .dct o' (tabD (worth G pl) xs) ∧ ∀ n ∈ names G, n ∈ xs
theorem ok_plan_worths (T : Txt K mg C) (DB : DefB K mg "plan_worths" s_plan_worths ["game", "plans"]) (c_order_of : C8.Cal P w K mg base 3 "order_of" (spG C false preG postOrd) []) (c_weighed : C8.Cal P w K mg base 2 "weighed" (spG C false preRows postRows) []) (c_top_of : C8.Cal P w K mg base 2 "top_of" (spG C false preQs postTop) []) (c_bottom_of : C8.Cal P w K mg base 2 "bottom_of" (spG C false preQs postBot) []) : C8.Cal P w K mg base 4 "plan_worths" (spG C false preW postW) [] := by
  refine cal_ok DB sc_plan_worths (fun L ds n hp => ?_) fun f cdv A outer sh H E hr => ?_
  · obtain ⟨_, _, _, _, _, _, _, rfl, _⟩ := hp; rfl
  have nd := sc_plan_worths.nd
  have tcl := T.cl
  have tnp := T.nP
  refine ⟨_, (pss_cons (ps_set (i := 2) nd rfl (Or.inr rfl) pe_dnewK)
    (pss_cons (ps_for PassesOwn.never rfl (pi_listK K (C8.pe_c c_order_of hr (by decide) (by rfl) (pa_cons (pv 0) pa_nil))) (pg_name (i := 3) nd rfl (Or.inl rfl))
      (pss_cons (ps_asg (pe_dget (hu_of hr) (pe_fldK K (pv 0) rfl) (pv 3) (fun _ _ => rfl)) (pg_tupK (n := 2) K rfl (pgs_cons (pg_name (i := 4) nd rfl (Or.inl rfl)) (pgs_cons (pg_name (i := 5) nd rfl (Or.inl rfl)) pgs_nil))))
      (pss_one (ps_if (pt_cmpR op_eq (pv 4) pe_str (nomark _)) (pss_one (ps_dput (hu_of hr) (pv 2) (pv 3) (pv 5) rfl)) (pss_one (ps_if (pt_cmpR op_eq (pv 4) pe_str (nomark _)) (pss_one (ps_dput (hu_of hr) (pv 2) (pv 3) (C8.pe_c c_weighed hr (by decide) (by rfl) (pa_cons (pe_lc (own := [("place", 7), ("weight", 8)]) rfl nd (pi_listK K (pv 5)) (blkOk_by (own := [("place", 7), ("weight", 8)]) (N := N_plan_worths) (sc := C8.fnScope s_plan_worths) (by decide +kernel)) (fun _ _ _ _ _ => pg_tupK (n := 2) K rfl (pgs_cons (pg_name (i := 7) nd rfl (Or.inl rfl)) (pgs_cons (pg_name (i := 8) nd rfl (Or.inl rfl)) pgs_nil))) (fun _ _ _ _ _ => pts_nil) (fun _ _ _ _ _ => (pe_tup (pa_cons (pv 8) (pa_cons (pe_dget (hu_of hr) (pv 2) (pv 7) (fun _ _ => rfl)) pa_nil))))) pa_nil)) rfl)) (pss_one (ps_if (pt_cmp (pc_din (hu_of hr) (pv 4) (pv 1))) (pss_one (ps_dput (hu_of hr) (pv 2) (pv 3) (pe_dget (hu_of hr) (pv 2) (pe_dget (hu_of hr) (pv 5) (pe_dget (hu_of hr) (pe_dget (hu_of hr) (pv 1) (pv 4) (fun _ _ => rfl)) (pv 3) (fun _ _ => rfl)) (fun _ _ => rfl)) (fun _ _ => rfl)) rfl)) (pss_cons (ps_lock (ps_setLc (i := 6) (own := [("place", 7)]) rfl nd rfl rfl (sw_true rfl rfl rfl (by decide +kernel)) (pi_values (pv 5)) (blkOk_by (own := [("place", 7)]) (N := N_plan_worths) (sc := C8.fnScope s_plan_worths) (by decide +kernel)) (fun _ _ _ _ _ => pg_name (i := 7) nd rfl (Or.inl rfl)) (fun _ _ _ _ _ => pts_nil) (fun _ _ _ _ _ => (pe_dget (hu_of hr) (pv 2) (pv 7) (fun _ _ => rfl)))))
            (pss_one (ps_dput (hu_of hr) (pv 2) (pv 3) (pe_ifExp (pt_cmpR op_eq (pv 4) pe_str (nomark _)) (C8.pe_c c_top_of hr (by decide) (by rfl) (pa_cons (pv 6) pa_nil)) (C8.pe_c c_bottom_of hr (by decide) (by rfl) (pa_cons (pv 6) pa_nil))) rfl)))))))))))
    (pss_one (ps_ret (pv 2))))), fun sa ca L F0 H0 ds n hp => ?_⟩
  obtain ⟨g, ad, G, rk, o, kvs, pl, rfl, hG, hlow, hpl, hpd, hgL, haL⟩ := hp
  have hlen := hG.len
  have hN : (names G).length ≤ 9 := by unfold names; rw [List.length_map]; exact hlen
  have hW : ∀ n ∈ names G, 0 < (worth G pl n).2 ∧ Big (worth G pl n) := fun n hn => worth_big hG hpl hn
  repeat walk_at "gw"
  refine ws_forN ?_
  repeat walk_at "gw"
  refine ⟨⟨g, ad, G, rk, rfl, hG, hgL⟩, ?_⟩
  rintro d n2 H' _ ⟨g', ad', G', xs, he, rfl, hT, hin⟩
  simp only [List.cons.injEq, D.obj.injEq, and_true] at he
  obtain ⟨rfl, rfl⟩ := gameD_inj he
  have hxl := nodup_len hT.nd hT.sub
  refine ⟨_, rfl, fun i l _ => ∃ x3 x4 x5 x6 x7 x8, l = [.sh (.obj (gameD g ad G)), .sh (.dct o kvs), .owd (tabD (worth G pl) (xs.take i)), x3, x4, x5, x6, x7, x8], ⟨_, _, _, _, _, _, rfl⟩, ?_, ?_⟩
  · rintro i d l1 n1 hi ⟨x3, x4, x5, x6, x7, x8, rfl⟩
    rw [List.getElem?_map] at hi
    cases hn : xs[i]? with
    | none => rw [hn] at hi; cases hi
    | some m =>
    rw [hn] at hi
    cases hi
    have hm := hT.sub m (List.mem_of_getElem? hn)
    obtain ⟨y, h1, h2, h3, h4⟩ := hG.lk hm ad
    have hnot : m ∉ xs.take i := nodup_take hT.nd hn
    have htk : xs.take (i + 1) = xs.take i ++ [m] := by rw [List.take_add_one, hn]; rfl
    have hkid : ∀ c ∈ targets y, c ∈ xs.take i := fun c hc => hT.cl i m y hn h2 c (mem_uniq hc)
    have hput := put_tab (f := worth G pl) hnot
    have htl : (tabD (worth G pl) (xs.take i)).length < 100000 := by unfold tabD; rw [List.length_map, List.length_take]; omega
    have hfin : ∀ d, d = fr (worth G pl m) → putD (tabD (worth G pl) (xs.take i)) m d = tabD (worth G pl) (xs.take (i + 1)) := fun d e => by rw [e, hput, htk]
    have hw := worth_eq hG pl h3
    repeat walk_at "gw"
    refine ⟨_, h1, ?_⟩
    repeat walk_at "gw"
    cases y with
    | en q =>
      refine yesI w_ene ?_
      repeat walk_at "gw"
      refine ⟨htl, ?_⟩
      rw [hfin _ (by rw [hw]; exact congrArg fr (hlow m q h3).symm)]
      exact ⟨_, _, _, _, _, _, rfl⟩
    | ch ls =>
      obtain ⟨hne, hll, hnd, hls⟩ := h4
      refine noI w_che ?_
      repeat walk_at "gw"
      refine we_mapP (f := fun z => match z with | .tup [.str p, .int w] => rowD (w, worth G pl p) | _ => .non) (by decide) (by decide) ?_
      repeat walk_at "gw"
      have hrows : ∀ r ∈ ls.map (fun q => (q.2, worth G pl q.1)), RowOk r := fun r hr => by
        obtain ⟨q, hq, rfl⟩ := List.mem_map.mp hr
        have hq2 := (hls q hq).2
        have hc := hW q.1 (hls q hq).1
        exact ⟨by show 0 < q.2; omega, by show q.2 ≤ 10; omega, hc.1, hc.2⟩
      refine ⟨by rw [List.length_map]; omega, fun z hz => ?_, (ls.map fun q => (q.2, worth G pl q.1)).map rowD, ?_, ?_⟩
      · obtain ⟨q, hq, rfl⟩ := List.mem_map.mp hz
        refine ⟨_, _, rfl, ?_⟩
        repeat walk_at "gw"
        refine ⟨_, lk_tab (hkid q.1 (List.mem_map.mpr ⟨q, hq, rfl⟩)), ?_⟩
        repeat walk_at "gw"
        exact ⟨rfl, rfl⟩
      · rw [List.map_map, List.map_map]
        rfl
      repeat walk_at "gw"
      refine ⟨⟨_, rfl, by simpa using hne, by rw [List.length_map]; exact hll, hrows⟩, ?_⟩
      rintro d n2 H' _ ⟨rows', he, rfl⟩
      simp only [List.cons.injEq, D.lst.injEq, and_true] at he
      have he := rowD_inj he
      subst he
      repeat walk_at "gw"
      refine ⟨htl, ?_⟩
      rw [hfin _ (by rw [hw, weigh_eq_mean (by simpa using hne) fun r hr => ⟨(hrows r hr).1, (hrows r hr).2.2.1⟩]; rfl)]
      exact ⟨_, _, _, _, _, _, rfl⟩
    | mv s ms =>
      obtain ⟨hne, hll, hnd, hms⟩ := h4
      refine noI w_mve ?_
      repeat walk_at "gw"
      refine noI w_mvc ?_
      repeat walk_at "gw"
      rcases hpd s with ⟨e1, e2⟩ | ⟨p, a1, e1, e2⟩
      · refine noI (by show (lk kvs (sideS s)).isSome = false; rw [e2]; rfl) ?_
        have hqs : ∀ q ∈ ms.map (fun q => worth G pl q.2), Big q := fun q hq => by
          obtain ⟨z, hz, rfl⟩ := List.mem_map.mp hq
          exact (hW z.2 (hms z hz).2.2).2
        have hlen2 : (ms.map fun q => worth G pl q.2).length ≤ 1000 := by rw [List.length_map]; omega
        have hne2 : (ms.map fun q => worth G pl q.2) ≠ [] := by simpa using hne
        refine ws_seq (ws_lock (a := ad m) ?_ ?_ ?_ fun od => ?_)
        · exact ⟨5, _, _, rfl, .refl⟩
        · exact List.not_mem_nil
        · exact haL m s ms h3
        refine ws_set (we_map (f := fun z => match z with | .str c => fr (worth G pl c) | _ => .non) (by decide) (wi_vals ?_))
        repeat walk_at "gw"
        refine ⟨ad m, mvD ms, od, rfl, List.mem_cons_self, ?_, fun z hz => ?_, (ms.map fun q => worth G pl q.2).map fr, ?_, ?_⟩
        · unfold mvD; rw [List.length_map, List.length_map]; omega
        · unfold mvD at hz
          rw [List.map_map] at hz
          obtain ⟨q, hq, rfl⟩ := List.mem_map.mp hz
          repeat walk_at "gw"
          refine ⟨_, lk_tab (hkid q.2 (List.mem_map.mpr ⟨q, hq, rfl⟩)), ?_⟩
          exact ⟨rfl, rfl⟩
        · unfold mvD
          rw [List.map_map, List.map_map, List.map_map]
          rfl
        repeat walk_at "gw"
        cases s with
        | true =>
          refine yesI lit_o.1 ?_
          repeat walk_at "gw"
          refine ⟨⟨_, rfl, hne2, hlen2, hqs⟩, ?_⟩
          rintro d n2 H' _ ⟨qs, he, rfl⟩
          simp only [List.cons.injEq, D.lst.injEq, and_true] at he
          have he := frL_inj he
          subst he
          repeat walk_at "gw"
          refine ⟨htl, ?_⟩
          rw [hfin _ (by rw [hw, stepW_none e1]; rfl)]
          exact ⟨_, _, _, _, _, _, rfl⟩
        | false =>
          refine noI lit_o.2 ?_
          repeat walk_at "gw"
          refine ⟨⟨_, rfl, hne2, hlen2, hqs⟩, ?_⟩
          rintro d n2 H' _ ⟨qs, he, rfl⟩
          simp only [List.cons.injEq, D.lst.injEq, and_true] at he
          have he := frL_inj he
          subst he
          repeat walk_at "gw"
          refine ⟨htl, ?_⟩
          rw [hfin _ (by rw [hw, stepW_none e1]; rfl)]
          exact ⟨_, _, _, _, _, _, rfl⟩
      · obtain ⟨mm, c, p1, p2, p3⟩ := planTo_of (hpl s p e1) h3
        refine yesI (by show (lk kvs (sideS s)).isSome = true; rw [e2]; rfl) ?_
        repeat walk_at "gw"
        refine ⟨_, e2, ?_⟩
        repeat walk_at "gw"
        refine ⟨.str mm, by rw [lk_mvD, p1]; rfl, ?_⟩
        repeat walk_at "gw"
        refine ⟨.str c, by rw [lk_mvD, p2]; rfl, ?_⟩
        repeat walk_at "gw"
        refine ⟨_, lk_tab (hkid c (planTo_mem p3)), ?_⟩
        repeat walk_at "gw"
        refine ⟨htl, ?_⟩
        rw [hfin _ (by rw [hw, stepW_some e1 p3])]
        exact ⟨_, _, _, _, _, _, rfl⟩
  · rintro l1 n1 ⟨x3, x4, x5, x6, x7, x8, rfl⟩
    rw [List.length_map, List.take_length]
    refine ws_frd (i := 2) rfl fun a ha => ?_
    repeat walk_at "gw"
    exact ⟨g, ad, G, o, _, kvs, pl, xs, rfl, hpd, rfl, hin⟩
end
end Gw

/-! mean, answer, due_at. -/
namespace Gw
open PySem L2
local macro_rules | `(tactic| walk_at "gw") => `(tactic| first
  | (with_reducible refine ws_seq ?_)
  | (with_reducible refine ws_ret ?_)
  | (with_reducible refine ws_newl ?_)
  | (with_reducible refine ws_newd ?_)
  | (with_reducible refine ws_set ?_)
  | (with_reducible refine ws_par3 ?_)
  | (with_reducible refine ws_par ?_)
  | (with_reducible refine ws_if ?_)
  | (with_reducible refine ws_next ?_)
  | (with_reducible refine ws_cont ?_)
  | (with_reducible refine ws_asgP ?_)
  | (with_reducible refine ws_asgP3 ?_)
  | ((with_reducible refine' ws_app ?h ?_); (case h => rfl))
  | ((with_reducible refine' ws_clear ?h ?_); (case h => rfl))
  | ((with_reducible refine' ws_dput ?h ?_); (case h => rfl))
  | (with_reducible refine ws_drop ?_)
  | ((with_reducible refine' we_var ?h ?_); (case h => rfl))
  | (with_reducible refine we_int ?_)
  | (with_reducible refine we_str ?_)
  | (with_reducible refine we_bl ?_)
  | (with_reducible refine we_non ?_)
  | (with_reducible refine we_ty ?_)
  | ((with_reducible refine' we_ixM ?h ?e ?_); (case h => rfl); (case e => exact atI_last _ _))
  | ((with_reducible refine' we_ixO ?h ?_); (case h => rfl))
  | (with_reducible refine we_neg ?_)
  | (with_reducible refine we_op ?_)
  | (with_reducible refine ro_I0 ?_)
  | (with_reducible refine ro_B0 ?_)
  | ((with_reducible refine ro_I ?h ?_); (case h => first | assumption | omega))
  | ((with_reducible refine' ro_ixT ?h ?_); (case h => rfl))
  | (with_reducible refine ro_inT2 ?_)
  | (with_reducible refine ro_ninT2 ?_)
  | (with_reducible refine ro_eqS ?_)
  | (with_reducible refine ro_neS ?_)
  | (with_reducible refine ro_eqI ?_)
  | (with_reducible refine ro_neI ?_)
  | (with_reducible refine ro_eqB ?_)
  | (with_reducible refine ro_notNon ?_)
  | (with_reducible refine ro_neB ?_)
  | ((with_reducible refine' we_dgetO ?h ?_); (case h => rfl))
  | ((with_reducible refine' we_dinO ?h ?_); (case h => rfl))
  | ((with_reducible refine' we_dnotinO ?h ?_); (case h => rfl))
  | (with_reducible refine we_dget ?_)
  | (with_reducible refine we_din ?_)
  | (with_reducible refine we_dnotin ?_)
  | ((with_reducible refine we_tup ?_))
  | ((with_reducible refine we_lst ?_))
  | (with_reducible refine wa_cons ?_)
  | (with_reducible refine wa_nil ?_)
  | (with_reducible refine we_cb ?_)
  | (with_reducible refine we_chain ?_)
  | (with_reducible refine we_if ?_)
  | (with_reducible refine we_andV ?_)
  | (with_reducible refine we_orV ?_)
  | (with_reducible refine we_notV ?_)
  | (with_reducible refine wt_test ?_)
  | (with_reducible refine wt_B ?_)
  | (with_reducible refine wt_not ?_)
  | (with_reducible refine wt_and ?_)
  | (with_reducible refine wt_or ?_)
  | (with_reducible refine wt_ifT ?_)
  | (with_reducible refine we_call ?_)
  | ((with_reducible refine' we_callS ?h ?_); (case h => rfl))
  | ((with_reducible refine' we_meth ?h ?_); (case h => decide +kernel))
  | (with_reducible refine rc_abs ?_)
  | (with_reducible refine rc_int ?_)
  | (with_reducible refine rc_lenL ?_)
  | (with_reducible refine rc_lenT ?_)
  | (with_reducible refine rc_lenD ?_)
  | (with_reducible refine rc_lenLS ?_)
  | (with_reducible refine rc_sum ?_)
  | (with_reducible refine rc_tupT ?_)
  | ((with_reducible refine' rc_isi ?ht ?hb ?_); (case ht => rfl); (case hb => first | exact kb_int_int | exact kb_int_bool | exact kb_int_list | exact kb_int_tuple | exact kb_str_str | exact kb_dict_dict | exact kb_list_list | exact kb_list_tuple | exact kb_tuple_list | exact kb_tuple_tuple | exact kb_bool_int | exact kb_bool_bool))
  | ((with_reducible refine' rc_isiT ?ht ?h1 ?h2 ?_); (case ht => rfl); (case h1 => first | exact kb_int_int | exact kb_int_bool | exact kb_int_list | exact kb_int_tuple | exact kb_str_str | exact kb_dict_dict | exact kb_list_list | exact kb_list_tuple | exact kb_tuple_list | exact kb_tuple_tuple | exact kb_bool_int | exact kb_bool_bool); (case h2 => first | exact kb_int_int | exact kb_int_bool | exact kb_int_list | exact kb_int_tuple | exact kb_str_str | exact kb_dict_dict | exact kb_list_list | exact kb_list_tuple | exact kb_tuple_list | exact kb_tuple_tuple | exact kb_bool_int | exact kb_bool_bool))
  | (with_reducible refine rc_allT ?_)
  | (with_reducible refine rc_anyF ?_)
  | (with_reducible refine rc_all ?_)
  | (with_reducible refine rc_any ?_)
  | (with_reducible refine rc_listD ?_)
  | (with_reducible refine rc_dictD fun _ _ => ?_)
  | (with_reducible refine we_rev ?_)
  | (with_reducible refine we_slL ?_)
  | (with_reducible refine wo_no ?_)
  | (with_reducible refine wo_part ?_)
  | (with_reducible refine we_listVals ?_)
  | ((with_reducible refine' we_fld ?hc ?hn ?_); (case hc => assumption); (case hn => assumption))
  | (with_reducible refine wi_list ?_)
  | (with_reducible refine wi_range1 ?_)
  | (with_reducible refine wi_str ?_)
  | (with_reducible refine wi_enum ?_)
  | (with_reducible refine wg_name ?_)
  | (with_reducible refine wg_two ?_)
  | (refine ⟨Nat.le_of_ble_eq_true rfl, ?_⟩)
  | (refine ⟨_, rfl, ?_⟩)
  | (refine ⟨_, _, rfl, ?_⟩)
  | (refine ⟨_, _, _, rfl, rfl, ?_⟩)
  | (refine ⟨_, _, _, rfl, ?_⟩)
  | (refine ⟨fun _ => ?_, fun z => Bool.noConfusion z⟩)
  | (refine ⟨fun z => Bool.noConfusion z, fun _ => ?_⟩)
  | (refine ⟨fun _ => ?_, fun z => absurd z (by decide +kernel)⟩)
  | (refine ⟨fun z => absurd z (by decide +kernel), fun _ => ?_⟩))
section
variable {P : Program} {w : World} {K : PySem.W.Frag} {mg : Str → Option Value} {base : Heap} {C : Addr}
theorem ours_ne : (("ours" : Str) = "theirs") = False ∧ (("theirs" : Str) = "ours") = False := by
  refine ⟨eq_false (by decide +kernel), eq_false (by decide +kernel)⟩
theorem ours_ne' : ("ours" : Str) ≠ "theirs" := by decide +kernel
theorem lit_s : decide (sideS false = sideS true) = false := by decide +kernel
theorem plD_two {kvs : List (Str × D)} {p q : List (Str × Str)} {a b : Option Addr} (h1 : lk kvs "ours" = some (.dct a (mvD p))) (h2 : lk kvs "theirs" = some (.dct b (mvD q))) : PlD kvs (two (some p) (some q)) := fun o => by
  cases o with
  | true => exact .inr ⟨p, a, rfl, h1⟩
  | false => exact .inr ⟨q, b, rfl, h2⟩
theorem plD_one {kvs : List (Str × D)} {p : List (Str × Str)} {a : Option Addr} (h1 : lk kvs "ours" = some (.dct a (mvD p))) (h2 : lk kvs "theirs" = none) : PlD kvs (two (some p) none) := fun o => by
  cases o with
  | true => exact .inr ⟨p, a, rfl, h1⟩
  | false => exact .inl ⟨rfl, h2⟩
theorem lk_disp2 {x y : D} : lk (mergeD [] [(("ours" : Str), x), ("theirs", y)]) "ours" = some x ∧ lk (mergeD [] [(("ours" : Str), x), ("theirs", y)]) "theirs" = some y := by
  have e : mergeD [] [(("ours" : Str), x), ("theirs", y)] = [(("ours" : Str), x), (("theirs" : Str), y)] := by
    show putD (putD [] "ours" x) "theirs" y = _
    rw [putD_new (kvs := []) (fun q h => by cases h), putD_new (fun q h => by cases List.mem_singleton.mp h; exact ours_ne')]
    rfl
  rw [e]
  exact ⟨lk_pos rfl, (lk_neg ours_ne').trans (lk_pos rfl)⟩
theorem lk_disp1 {x : D} : lk (mergeD [] [(("ours" : Str), x)]) "ours" = some x ∧ lk (mergeD [] [(("ours" : Str), x)]) "theirs" = none := by
  have e : mergeD [] [(("ours" : Str), x)] = [(("ours" : Str), x)] := by
    show putD [] "ours" x = _
    rw [putD_new (kvs := []) (fun q h => by cases h)]
    rfl
  rw [e]
  exact ⟨lk_pos rfl, (lk_neg ours_ne').trans rfl⟩
theorem plansOk_two {G : Gm} {p q : List (Str × Str)} (h1 : PlanOk G true p) (h2 : PlanOk G false q) : PlansOk G (two (some p) (some q)) := fun o r e => by
  cases o with
  | true => cases e; exact h1
  | false => cases e; exact h2
theorem plansOk_one {G : Gm} {p : List (Str × Str)} (h1 : PlanOk G true p) : PlansOk G (two (some p) none) := fun o r e => by
  cases o with
  | true => cases e; exact h1
  | false => cases e
abbrev s_mean : Stmt := top 36
abbrev N_mean : List Str := ["game", "ours", "theirs", "name"]
theorem sc_mean : FnScope N_mean ["game", "ours", "theirs", "name"] (C8.fnScope s_mean) := C8.fnScope_by (by decide +kernel)
def preMean : List Addr → List D → Nat → Prop := fun L ds _ => ∃ (g : Addr) (ad : Str → Addr) (G : Gm) (rk : Str → Nat) (a b : Option Addr) (p q : List (Str × Str)) (n : Str), ds = [.obj (gameD g ad G), .dct a (mvD p), .dct b (mvD q), .str n] ∧ GOk G rk ∧ Lowest G ∧ PlanOk G true p ∧ PlanOk G false q ∧ n ∈ names G ∧ Free L g ad G
def postMeanW : Hp → List D → Nat → D → Nat → Prop := fun _ ds _ d _ => ∃ (g : Addr) (ad : Str → Addr) (G : Gm) (a b : Option Addr) (p q : List (Str × Str)) (n : Str), ds = [.obj (gameD g ad G), .dct a (mvD p), .dct b (mvD q), .str n] ∧ d = fr (worth G (two (some p) (some q)) n)
theorem ok_mean (T : Txt K mg C) (DB : DefB K mg "mean" s_mean ["game", "ours", "theirs", "name"]) (c_is_plan : C8.Cal P w K mg base 2 "is_plan" (spG C false prePlan postT) []) (c_check_place : C8.Met P w K mg base 1 C "check_place" (spG C false preCk postTrue) []) (c_plan_worths : C8.Cal P w K mg base 4 "plan_worths" (spG C false preW postW) []) : C8.Cal P w K mg base 5 "mean" (spG C false preMean postMeanW) [] := by
  refine cal_ok DB sc_mean (fun L ds n hp => ?_) fun f cdv A outer sh H E hr => ?_
  · obtain ⟨_, _, _, _, _, _, _, _, _, rfl, _⟩ := hp; rfl
  have nd := sc_mean.nd
  have tcl := T.cl
  have tnp := T.nP
  refine ⟨_, (pss_cons (ps_if (pt_not (pt_val (C8.pe_c c_is_plan hr (by decide) (by rfl) (pa_cons (pv 0) (pa_cons pe_str (pa_cons (pv 1) pa_nil)))))) (pss_one ps_never) pss_nil)
    (pss_cons (ps_if (pt_not (pt_val (C8.pe_c c_is_plan hr (by decide) (by rfl) (pa_cons (pv 0) (pa_cons pe_str (pa_cons (pv 2) pa_nil)))))) (pss_one ps_never) pss_nil)
    (pss_cons (ps_expr (C8.pe_mt c_check_place hr (by decide) (pv 0) (pa_cons (pv 3) pa_nil)))
    (pss_one (ps_ret (pe_dget (hu_of hr) (C8.pe_c c_plan_worths hr (by decide) (by rfl) (pa_cons (pv 0) (pa_cons (pe_disp (pps_cons pe_str (pv 1) (pps_cons pe_str (pv 2) pps_nil)) (by rfl) (by rfl) (fun z => by cases z) (by decide)) pa_nil))) (pv 3) (fun _ _ => rfl))))))), fun sa ca L F0 H0 ds n hp => ?_⟩
  obtain ⟨g, ad, G, rk, a, b, p, q, m, rfl, hG, hlow, hp1, hp2, hm, hfr⟩ := hp
  repeat walk_at "gw"
  refine ⟨⟨g, ad, G, rk, true, a, p, rfl, hG, hp1⟩, ?_⟩
  rintro d n2 H' _ rfl
  repeat walk_at "gw"
  refine ⟨⟨g, ad, G, rk, false, b, q, rfl, hG, hp2⟩, ?_⟩
  rintro d n2 H' _ rfl
  repeat walk_at "gw"
  obtain ⟨y, h1, h2, h3, h4⟩ := hG.lk hm ad
  refine ⟨⟨_, _, _, _, rfl, h1⟩, ?_⟩
  rintro d n2 H' _ -
  repeat walk_at "gw"
  refine we_disp ?_
  unfold WPs
  repeat walk_at "gw"
  unfold WPs
  repeat walk_at "gw"
  refine ⟨⟨g, ad, G, rk, none, _, two (some p) (some q), rfl, hG, hlow, plansOk_two hp1 hp2, plD_two lk_disp2.1 lk_disp2.2, hfr⟩, ?_⟩
  rintro d n2 H' _ ⟨g', ad', G', o, o', kvs', pl', xs, he, hpd, rfl, hin⟩
  simp only [List.cons.injEq, D.obj.injEq, D.dct.injEq, and_true] at he
  obtain ⟨⟨-, e1⟩, -, e2⟩ := he
  cases gkv_inj e1
  subst e2
  cases hpd.uniq (plD_two lk_disp2.1 lk_disp2.2)
  repeat walk_at "gw"
  exact ⟨_, lk_tab (hin m hm), g, ad, G, a, b, p, q, m, rfl, rfl⟩
abbrev s_due_at : Stmt := top 40
abbrev N_due_at : List Str := ["game", "side", "plan", "table", "name", "word", "rest", "place", "weight"]
theorem sc_due_at : FnScope N_due_at ["game", "side", "plan", "table", "name"] (C8.fnScope s_due_at) := C8.fnScope_by (by decide +kernel)
def preDue : List Addr → List D → Nat → Prop := fun L ds _ => ∃ (g : Addr) (ad : Str → Addr) (G : Gm) (rk : Str → Nat) (a b : Option Addr) (p : List (Str × Str)) (xs : List Str) (n : Str), ds = [.obj (gameD g ad G), .str (sideS true), .dct a (mvD p), .dct b (tabD (worth G (two (some p) none)) xs), .str n] ∧ GOk G rk ∧ Lowest G ∧ PlanOk G true p ∧ n ∈ names G ∧ (∀ m ∈ names G, m ∈ xs) ∧ Free L g ad G
/-- the fractions due at n -/
def dueF (G : Gm) (p : List (Str × Str)) (n : Str) : List (Int × Int) := match nodeAt G n with
  | some (.mv false ms) => ms.map fun q => worth G (two (some p) none) q.2
  | _ => [worth G (two (some p) none) n]
def postDue : Hp → List D → Nat → D → Nat → Prop := fun _ ds _ d _ => ∃ (g : Addr) (ad : Str → Addr) (G : Gm) (a b : Option Addr) (p : List (Str × Str)) (t : List (Str × D)) (n : Str), ds = [.obj (gameD g ad G), .str (sideS true), .dct a (mvD p), .dct b t, .str n] ∧ d = .lst ((dueF G p n).map fr)
theorem ok_due_at (T : Txt K mg C) (DB : DefB K mg "due_at" s_due_at ["game", "side", "plan", "table", "name"]) (c_weighed : C8.Cal P w K mg base 2 "weighed" (spG C false preRows postRows) []) : C8.Cal P w K mg base 3 "due_at" (spG C false preDue postDue) [] := by
  refine cal_ok DB sc_due_at (fun L ds n hp => ?_) fun f cdv A outer sh H E hr => ?_
  · obtain ⟨_, _, _, _, _, _, _, _, _, rfl, _⟩ := hp; rfl
  have nd := sc_due_at.nd
  have tcl := T.cl
  have tnp := T.nP
  refine ⟨_, (pss_cons (ps_asg (pe_dget (hu_of hr) (pe_fldK K (pv 0) rfl) (pv 4) (fun _ _ => rfl)) (pg_tupK (n := 2) K rfl (pgs_cons (pg_name (i := 5) nd rfl (Or.inl rfl)) (pgs_cons (pg_name (i := 6) nd rfl (Or.inl rfl)) pgs_nil))))
    (pss_cons (ps_if (pt_cmpR op_eq (pv 5) pe_str (nomark _)) (pss_one (ps_ret (pe_lst (pa_cons (pv 6) pa_nil)))) pss_nil)
    (pss_cons (ps_if (pt_cmpR op_eq (pv 5) pe_str (nomark _)) (pss_one (ps_ret (pe_lst (pa_cons (C8.pe_c c_weighed hr (by decide) (by rfl) (pa_cons (pe_lc (own := [("place", 7), ("weight", 8)]) rfl nd (pi_listK K (pv 6)) (blkOk_by (own := [("place", 7), ("weight", 8)]) (N := N_due_at) (sc := C8.fnScope s_due_at) (by decide +kernel)) (fun _ _ _ _ _ => pg_tupK (n := 2) K rfl (pgs_cons (pg_name (i := 7) nd rfl (Or.inl rfl)) (pgs_cons (pg_name (i := 8) nd rfl (Or.inl rfl)) pgs_nil))) (fun _ _ _ _ _ => pts_nil) (fun _ _ _ _ _ => (pe_tup (pa_cons (pv 8) (pa_cons (pe_dget (hu_of hr) (pv 3) (pv 7) (fun _ _ => rfl)) pa_nil))))) pa_nil)) pa_nil)))) pss_nil)
    (pss_one (ps_ret (pe_ifExp (pt_cmpR op_eq (pv 5) (pv 1) (nomark _)) (pe_lst (pa_cons (pe_dget (hu_of hr) (pv 3) (pe_dget (hu_of hr) (pv 6) (pe_dget (hu_of hr) (pv 2) (pv 4) (fun _ _ => rfl)) (fun _ _ => rfl)) (fun _ _ => rfl)) pa_nil)) (pe_lock (pe_lc (own := [("place", 7)]) rfl nd (pi_values (pv 6)) (blkOk_by (own := [("place", 7)]) (N := N_due_at) (sc := C8.fnScope s_due_at) (by decide +kernel)) (fun _ _ _ _ _ => pg_name (i := 7) nd rfl (Or.inl rfl)) (fun _ _ _ _ _ => pts_nil) (fun _ _ _ _ _ => (pe_dget (hu_of hr) (pv 3) (pv 7) (fun _ _ => rfl))))))))))), fun sa ca L F0 H0 ds n hp => ?_⟩
  obtain ⟨g, ad, G, rk, a, b, p, xs, m, rfl, hG, hlow, hp1, hm, hin, hgL, haL⟩ := hp
  obtain ⟨y, h1, h2, h3, h4⟩ := hG.lk hm ad
  have hW : ∀ n ∈ names G, 0 < (worth G (two (some p) none) n).2 ∧ Big (worth G (two (some p) none) n) := fun n hn => worth_big hG (plansOk_one hp1) hn
  have hw := worth_eq hG (two (some p) none) h3
  have hkid : ∀ c ∈ targets y, c ∈ xs := fun c hc => hin c (h4.tg c hc)
  repeat walk_at "gw"
  refine ⟨_, h1, ?_⟩
  repeat walk_at "gw"
  cases y with
  | en q =>
    refine yesI w_ene ?_
    repeat walk_at "gw"
    refine ⟨g, ad, G, a, b, p, _, m, rfl, ?_⟩
    unfold dueF
    rw [h2, hw]
    show D.lst [fr q] = D.lst [fr (low q.1 q.2)]
    rw [hlow m q h3]
  | ch ls =>
    obtain ⟨hne, hll, hnd, hls⟩ := h4
    refine noI w_che ?_
    repeat walk_at "gw"
    refine we_mapP (f := fun z => match z with | .tup [.str c, .int w] => rowD (w, worth G (two (some p) none) c) | _ => .non) (by decide) (by decide) ?_
    repeat walk_at "gw"
    have hrows : ∀ r ∈ ls.map (fun q => (q.2, worth G (two (some p) none) q.1)), RowOk r := fun r hr => by
      obtain ⟨q, hq, rfl⟩ := List.mem_map.mp hr
      have hq2 := (hls q hq).2
      have hc := hW q.1 (hls q hq).1
      exact ⟨by show 0 < q.2; omega, by show q.2 ≤ 10; omega, hc.1, hc.2⟩
    refine ⟨by rw [List.length_map]; omega, fun z hz => ?_, (ls.map fun q => (q.2, worth G (two (some p) none) q.1)).map rowD, ?_, ?_⟩
    · obtain ⟨q, hq, rfl⟩ := List.mem_map.mp hz
      refine ⟨_, _, rfl, ?_⟩
      repeat walk_at "gw"
      refine ⟨_, lk_tab (hkid q.1 (List.mem_map.mpr ⟨q, hq, rfl⟩)), ?_⟩
      repeat walk_at "gw"
      exact ⟨rfl, rfl⟩
    · rw [List.map_map, List.map_map]
      rfl
    repeat walk_at "gw"
    refine ⟨⟨_, rfl, by simpa using hne, by rw [List.length_map]; exact hll, hrows⟩, ?_⟩
    rintro d n2 H' _ ⟨rows', he, rfl⟩
    simp only [List.cons.injEq, D.lst.injEq, and_true] at he
    have he := rowD_inj he
    subst he
    repeat walk_at "gw"
    refine ⟨g, ad, G, a, b, p, _, m, rfl, ?_⟩
    unfold dueF
    rw [h2, hw, weigh_eq_mean (by simpa using hne) fun r hr => ⟨(hrows r hr).1, (hrows r hr).2.2.1⟩]
    rfl
  | mv s ms =>
    obtain ⟨hne, hll, hnd, hms⟩ := h4
    refine noI w_mve ?_
    repeat walk_at "gw"
    refine noI w_mvc ?_
    repeat walk_at "gw"
    cases s with
    | true =>
      obtain ⟨mm, c, p1, p2, p3⟩ := planTo_of hp1 h3
      refine yesI (decide_eq_true rfl) ?_
      repeat walk_at "gw"
      refine ⟨.str mm, by rw [lk_mvD, p1]; rfl, ?_⟩
      repeat walk_at "gw"
      refine ⟨.str c, by rw [lk_mvD, p2]; rfl, ?_⟩
      repeat walk_at "gw"
      refine ⟨_, lk_tab (hkid c (planTo_mem p3)), ?_⟩
      repeat walk_at "gw"
      refine ⟨g, ad, G, a, b, p, _, m, rfl, ?_⟩
      unfold dueF
      rw [h2, hw, stepW_some (pl := two (some p) none) (o := true) rfl p3]
      rfl
    | false =>
      refine noI lit_s ?_
      refine we_lock (a := ad m) ?_ ?_ ?_ fun od => we_map (f := fun z => match z with | .str c => fr (worth G (two (some p) none) c) | _ => .non) (by decide) (wi_vals ?_)
      · exact ⟨6, _, _, rfl, .refl⟩
      · exact List.not_mem_nil
      · exact haL m false ms h3
      repeat walk_at "gw"
      refine ⟨ad m, mvD ms, od, rfl, List.mem_cons_self, ?_, fun z hz => ?_, (dueF G p m).map fr, ?_, ?_⟩
      · unfold mvD; rw [List.length_map, List.length_map]; omega
      · unfold mvD at hz
        rw [List.map_map] at hz
        obtain ⟨q, hq, rfl⟩ := List.mem_map.mp hz
        repeat walk_at "gw"
        refine ⟨_, lk_tab (hkid q.2 (List.mem_map.mpr ⟨q, hq, rfl⟩)), ?_⟩
        exact ⟨rfl, rfl⟩
      · unfold mvD dueF
        rw [h2, List.map_map, List.map_map, List.map_map]
        rfl
      exact ⟨g, ad, G, a, b, p, _, m, rfl, rfl⟩
end
end Gw

/-! answer, is_floor. -/
namespace Gw
open PySem L2
local macro_rules | `(tactic| walk_at "gw") => `(tactic| first
  | (with_reducible refine ws_seq ?_)
  | (with_reducible refine ws_ret ?_)
  | (with_reducible refine ws_newl ?_)
  | (with_reducible refine ws_newd ?_)
  | (with_reducible refine ws_set ?_)
  | (with_reducible refine ws_par3 ?_)
  | (with_reducible refine ws_par ?_)
  | (with_reducible refine ws_if ?_)
  | (with_reducible refine ws_next ?_)
  | (with_reducible refine ws_cont ?_)
  | (with_reducible refine ws_asgP ?_)
  | (with_reducible refine ws_asgP3 ?_)
  | ((with_reducible refine' ws_app ?h ?_); (case h => rfl))
  | ((with_reducible refine' ws_clear ?h ?_); (case h => rfl))
  | ((with_reducible refine' ws_dput ?h ?_); (case h => rfl))
  | (with_reducible refine ws_drop ?_)
  | ((with_reducible refine' we_var ?h ?_); (case h => rfl))
  | (with_reducible refine we_int ?_)
  | (with_reducible refine we_str ?_)
  | (with_reducible refine we_bl ?_)
  | (with_reducible refine we_non ?_)
  | (with_reducible refine we_ty ?_)
  | ((with_reducible refine' we_ixM ?h ?e ?_); (case h => rfl); (case e => exact atI_last _ _))
  | ((with_reducible refine' we_ixO ?h ?_); (case h => rfl))
  | (with_reducible refine we_neg ?_)
  | (with_reducible refine we_op ?_)
  | (with_reducible refine ro_I0 ?_)
  | (with_reducible refine ro_B0 ?_)
  | ((with_reducible refine ro_I ?h ?_); (case h => first | assumption | omega))
  | ((with_reducible refine' ro_ixT ?h ?_); (case h => rfl))
  | (with_reducible refine ro_inT2 ?_)
  | (with_reducible refine ro_ninT2 ?_)
  | (with_reducible refine ro_eqS ?_)
  | (with_reducible refine ro_neS ?_)
  | (with_reducible refine ro_eqI ?_)
  | (with_reducible refine ro_neI ?_)
  | (with_reducible refine ro_eqB ?_)
  | (with_reducible refine ro_notNon ?_)
  | (with_reducible refine ro_neB ?_)
  | ((with_reducible refine' we_dgetO ?h ?_); (case h => rfl))
  | ((with_reducible refine' we_dinO ?h ?_); (case h => rfl))
  | ((with_reducible refine' we_dnotinO ?h ?_); (case h => rfl))
  | (with_reducible refine we_dget ?_)
  | (with_reducible refine we_din ?_)
  | (with_reducible refine we_dnotin ?_)
  | ((with_reducible refine we_tup ?_))
  | ((with_reducible refine we_lst ?_))
  | (with_reducible refine wa_cons ?_)
  | (with_reducible refine wa_nil ?_)
  | (with_reducible refine we_cb ?_)
  | (with_reducible refine we_chain ?_)
  | (with_reducible refine we_if ?_)
  | (with_reducible refine we_andV ?_)
  | (with_reducible refine we_orV ?_)
  | (with_reducible refine we_notV ?_)
  | (with_reducible refine wt_test ?_)
  | (with_reducible refine wt_B ?_)
  | (with_reducible refine wt_not ?_)
  | (with_reducible refine wt_and ?_)
  | (with_reducible refine wt_or ?_)
  | (with_reducible refine wt_ifT ?_)
  | (with_reducible refine we_call ?_)
  | ((with_reducible refine' we_callS ?h ?_); (case h => rfl))
  | ((with_reducible refine' we_meth ?h ?_); (case h => decide +kernel))
  | (with_reducible refine rc_abs ?_)
  | (with_reducible refine rc_int ?_)
  | (with_reducible refine rc_lenL ?_)
  | (with_reducible refine rc_lenT ?_)
  | (with_reducible refine rc_lenD ?_)
  | (with_reducible refine rc_lenLS ?_)
  | (with_reducible refine rc_sum ?_)
  | (with_reducible refine rc_tupT ?_)
  | ((with_reducible refine' rc_isi ?ht ?hb ?_); (case ht => rfl); (case hb => first | exact kb_int_int | exact kb_int_bool | exact kb_int_list | exact kb_int_tuple | exact kb_str_str | exact kb_dict_dict | exact kb_list_list | exact kb_list_tuple | exact kb_tuple_list | exact kb_tuple_tuple | exact kb_bool_int | exact kb_bool_bool))
  | ((with_reducible refine' rc_isiT ?ht ?h1 ?h2 ?_); (case ht => rfl); (case h1 => first | exact kb_int_int | exact kb_int_bool | exact kb_int_list | exact kb_int_tuple | exact kb_str_str | exact kb_dict_dict | exact kb_list_list | exact kb_list_tuple | exact kb_tuple_list | exact kb_tuple_tuple | exact kb_bool_int | exact kb_bool_bool); (case h2 => first | exact kb_int_int | exact kb_int_bool | exact kb_int_list | exact kb_int_tuple | exact kb_str_str | exact kb_dict_dict | exact kb_list_list | exact kb_list_tuple | exact kb_tuple_list | exact kb_tuple_tuple | exact kb_bool_int | exact kb_bool_bool))
  | (with_reducible refine rc_allT ?_)
  | (with_reducible refine rc_anyF ?_)
  | (with_reducible refine rc_all ?_)
  | (with_reducible refine rc_any ?_)
  | (with_reducible refine rc_listD ?_)
  | (with_reducible refine rc_dictD fun _ _ => ?_)
  | (with_reducible refine we_rev ?_)
  | (with_reducible refine we_slL ?_)
  | (with_reducible refine wo_no ?_)
  | (with_reducible refine wo_part ?_)
  | (with_reducible refine we_listVals ?_)
  | ((with_reducible refine' we_fld ?hc ?hn ?_); (case hc => assumption); (case hn => assumption))
  | (with_reducible refine wi_list ?_)
  | (with_reducible refine wi_range1 ?_)
  | (with_reducible refine wi_str ?_)
  | (with_reducible refine wi_enum ?_)
  | (with_reducible refine wg_name ?_)
  | (with_reducible refine wg_two ?_)
  | (refine ⟨Nat.le_of_ble_eq_true rfl, ?_⟩)
  | (refine ⟨_, rfl, ?_⟩)
  | (refine ⟨_, _, rfl, ?_⟩)
  | (refine ⟨_, _, _, rfl, rfl, ?_⟩)
  | (refine ⟨_, _, _, rfl, ?_⟩)
  | (refine ⟨fun _ => ?_, fun z => Bool.noConfusion z⟩)
  | (refine ⟨fun z => Bool.noConfusion z, fun _ => ?_⟩)
  | (refine ⟨fun _ => ?_, fun z => absurd z (by decide +kernel)⟩)
  | (refine ⟨fun z => absurd z (by decide +kernel), fun _ => ?_⟩))
section
variable {P : Program} {w : World} {K : PySem.W.Frag} {mg : Str → Option Value} {base : Heap} {C : Addr}
abbrev lea (G : Gm) (p : List (Str × Str)) (n : Str) : Int × Int := worth G (two (some p) none) n
def hit (G : Gm) (p : List (Str × Str)) (n : Str) (ms : List (Str × Str)) (m : Str) : Bool := match lkp ms m with
  | some c => decide ((lea G p c).1 = (lea G p n).1) && decide ((lea G p c).2 = (lea G p n).2)
  | none => false
theorem hit_of {G : Gm} {p ms : List (Str × Str)} {n m c : Str} (h : lkp ms m = some c) : hit G p n ms m = (decide ((lea G p c).1 = (lea G p n).1) && decide ((lea G p c).2 = (lea G p n).2)) := by unfold hit; rw [h]
def hitD (G : Gm) (p : List (Str × Str)) (n : Str) (ms : List (Str × Str)) : D → Bool
  | .str m => hit G p n ms m
  | _ => false
def hits (G : Gm) (p : List (Str × Str)) (n : Str) (ms : List (Str × Str)) : List Str := (ms.map (·.1)).filter (hit G p n ms)
def pickF (G : Gm) (p : List (Str × Str)) (n : Str) : Str := match nodeAt G n with
  | some (.mv _ ms) => (hits G p n ms).headD ""
  | _ => ""
def toldL (G : Gm) (p : List (Str × Str)) (ns : List Str) : List (Str × Str) := (ns.filter (sideP G false)).map fun n => (n, pickF G p n)
theorem hits_ne {G : Gm} {rk : Str → Nat} (hG : GOk G rk) {p : List (Str × Str)} {n : Str} {ms : List (Str × Str)} (hx : (n, Nd.mv false ms) ∈ G) : ∃ m r, hits G p n ms = m :: r := by
  obtain ⟨q, hq, e⟩ := least_move hG (pl := two (some p) none) rfl hx
  have hnd := (hG.ok n _ hx).2.2.1
  have hm : q.1 ∈ hits G p n ms := List.mem_filter.mpr ⟨List.mem_map.mpr ⟨q, hq, rfl⟩, by
    rw [hit_of (lkp_eq hnd (x := q.2) hq)]
    show (decide ((worth G (two (some p) none) q.2).1 = (worth G (two (some p) none) n).1) && decide ((worth G (two (some p) none) q.2).2 = (worth G (two (some p) none) n).2)) = true
    rw [e]
    simp⟩
  cases h : hits G p n ms with
  | nil => rw [h] at hm; cases hm
  | cons m r => exact ⟨m, r, rfl⟩
theorem toldL_ok {G : Gm} {rk : Str → Nat} (hG : GOk G rk) {p : List (Str × Str)} : Told G p (toldL G p (names G)) := fun n ms hx => by
  obtain ⟨m, r, h⟩ := hits_ne hG (p := p) hx
  have hm : m ∈ hits G p n ms := by rw [h]; exact List.mem_cons_self
  obtain ⟨h1, h2⟩ := List.mem_filter.mp hm
  obtain ⟨c, hc⟩ := lkp_of h1
  rw [hit_of hc, Bool.and_eq_true, decide_eq_true_eq, decide_eq_true_eq] at h2
  refine ⟨m, c, ?_, hc, Prod.ext h2.1 h2.2⟩
  have hk : (toldL G p (names G)).map (·.1) = (names G).filter (sideP G false) := by
    unfold toldL
    rw [List.map_map]
    exact List.map_id _
  refine lkp_eq (by rw [hk]; exact hG.nd.filter _) (List.mem_map.mpr ⟨n, List.mem_filter.mpr ⟨names_mem hx, ?_⟩, ?_⟩)
  · rw [← sideP_of (nodeAt_eq hG.nd hx)]
    exact decide_eq_true rfl
  · unfold pickF
    rw [nodeAt_eq hG.nd hx]
    simp only [h]
    rfl
theorem toldL_keys {G : Gm} {rk : Str → Nat} (hG : GOk G rk) {p : List (Str × Str)} : (toldL G p (names G)).map (·.1) = sideNames G false := by
  unfold toldL
  rw [List.map_map, ← sideNames_eq hG.nd]
  exact List.map_id _
theorem lit_t : decide (sideS true = ("theirs" : Str)) = false ∧ decide (sideS false = ("theirs" : Str)) = true ∧ decide (("chance" : Str) = "theirs") = false ∧ decide (("end" : Str) = "theirs") = false := by decide +kernel
theorem side_t {G : Gm} {n : Str} {x : Nd} (h : nodeAt G n = some x) : decide (word x = ("theirs" : Str)) = sideP G false n := sideP_of (o := false) h
abbrev s_answer : Stmt := top 37
abbrev N_answer : List Str := ["game", "ours", "table", "found", "name", "word", "rest", "move"]
theorem sc_answer : FnScope N_answer ["game", "ours"] (C8.fnScope s_answer) := C8.fnScope_by (by decide +kernel)
def preAns : List Addr → List D → Nat → Prop := fun L ds _ => ∃ (g : Addr) (ad : Str → Addr) (G : Gm) (rk : Str → Nat) (a : Option Addr) (p : List (Str × Str)), ds = [.obj (gameD g ad G), .dct a (mvD p)] ∧ GOk G rk ∧ Lowest G ∧ PlanOk G true p ∧ Free L g ad G
def postAns : Hp → List D → Nat → D → Nat → Prop := fun H ds _ d _ => ∃ (g : Addr) (ad : Str → Addr) (G : Gm) (a : Option Addr) (p : List (Str × Str)) (r : Addr), ds = [.obj (gameD g ad G), .dct a (mvD p)] ∧ d = .dct (some r) (mvD (toldL G p (names G))) ∧ H r = none
theorem ok_answer (T : Txt K mg C) (DB : DefB K mg "answer" s_answer ["game", "ours"]) (c_is_plan : C8.Cal P w K mg base 2 "is_plan" (spG C false prePlan postT) []) (c_plan_worths : C8.Cal P w K mg base 4 "plan_worths" (spG C false preW postW) []) (c_places : C8.Met P w K mg base 1 C "places" (spG C false prePlaces postPlaces) []) : C8.Cal P w K mg base 5 "answer" (spG C false preAns postAns) [] := by
  refine cal_ok DB sc_answer (fun L ds n hp => ?_) fun f cdv A outer sh H E hr => ?_
  · obtain ⟨_, _, _, _, _, _, rfl, _⟩ := hp; rfl
  have nd := sc_answer.nd
  have tcl := T.cl
  have tnp := T.nP
  refine ⟨_, (pss_cons (ps_if (pt_not (pt_val (C8.pe_c c_is_plan hr (by decide) (by rfl) (pa_cons (pv 0) (pa_cons pe_str (pa_cons (pv 1) pa_nil)))))) (pss_one ps_never) pss_nil)
    (pss_cons (ps_asg (pe_tup (pa_cons (C8.pe_c c_plan_worths hr (by decide) (by rfl) (pa_cons (pv 0) (pa_cons (pe_disp (pps_cons pe_str (pv 1) pps_nil) (by rfl) (by rfl) (fun z => by cases z) (by decide)) pa_nil))) (pa_cons pe_dnewK pa_nil))) (pg_tupK (n := 2) K rfl (pgs_cons (pg_name (i := 2) nd rfl (Or.inr rfl)) (pgs_cons (pg_name (i := 3) nd rfl (Or.inl rfl)) pgs_nil))))
    (pss_cons (ps_for PassesOwn.never rfl (pi_listK K (C8.pe_mt0 c_places hr (by decide) (pv 0))) (pg_name (i := 4) nd rfl (Or.inr rfl))
      (pss_cons (ps_asg (pe_dget (hu_of hr) (pe_fldK K (pv 0) rfl) (pv 4) (fun _ _ => rfl)) (pg_tupK (n := 2) K rfl (pgs_cons (pg_name (i := 5) nd rfl (Or.inl rfl)) (pgs_cons (pg_name (i := 6) nd rfl (Or.inr rfl)) pgs_nil))))
      (pss_one (ps_if (pt_cmpR op_eq (pv 5) pe_str (nomark _)) (pss_one (ps_dput (hu_of hr) (pv 3) (pv 4) (pe_ix (r := rIxL K) ix_list (pe_lock (pe_lc (own := [("move", 7)]) rfl nd (pi_keys (pv 6)) (blkOk_by (own := [("move", 7)]) (N := N_answer) (sc := C8.fnScope s_answer) (by decide +kernel)) (fun _ _ _ _ _ => pg_name (i := 7) nd rfl (Or.inl rfl)) (fun _ _ _ _ _ => (pts_one (pt_cmpR (r := rEqD K) (op_eqD hr.units) (pe_dget (hu_of hr) (pv 2) (pe_dget (hu_of hr) (pv 6) (pv 7) (fun _ _ => rfl)) (fun _ _ => rfl)) (pe_dget (hu_of hr) (pv 2) (pv 4) (fun _ _ => rfl)) (nomark _)))) (fun _ _ _ _ _ => (pv 7)))) pe_int (fun _ _ => rfl)) rfl)) pss_nil))))
    (pss_one (ps_ret (pv 3)))))), fun sa ca L F0 H0 ds n hp => ?_⟩
  obtain ⟨g, ad, G, rk, a, p, rfl, hG, hlow, hp1, hgL, haL⟩ := hp
  have hlen := hG.len
  have hN : (names G).length ≤ 9 := by unfold names; rw [List.length_map]; exact hlen
  repeat walk_at "gw"
  refine ⟨⟨g, ad, G, rk, true, a, p, rfl, hG, hp1⟩, ?_⟩
  rintro d n2 H' _ rfl
  refine ⟨_, rfl, fun z => absurd z (by decide), fun _ => ws_next (ws_seq (ws_asg_xd ?_))⟩
  repeat walk_at "gw"
  refine we_disp ?_
  unfold WPs
  repeat walk_at "gw"
  refine ⟨⟨g, ad, G, rk, none, _, two (some p) none, rfl, hG, hlow, plansOk_one hp1, plD_one lk_disp1.1 lk_disp1.2, hgL, haL⟩, ?_⟩
  rintro d n2 H' _ ⟨g', ad', G', o, o', kvs', pl', xs, he, hpd, rfl, hin⟩
  simp only [List.cons.injEq, D.obj.injEq, D.dct.injEq, and_true] at he
  obtain ⟨⟨-, e1⟩, -, e2⟩ := he
  cases gkv_inj e1
  subst e2
  cases hpd.uniq (plD_one lk_disp1.1 lk_disp1.2)
  repeat walk_at "gw"
  refine ws_forN ?_
  repeat walk_at "gw"
  refine ⟨⟨_, _, rfl⟩, ?_⟩
  rintro d n2 H' _ ⟨o2, kvs2, he, rfl⟩
  simp only [List.cons.injEq, D.obj.injEq, D.dct.injEq, and_true] at he
  obtain ⟨rfl, rfl⟩ := he
  rw [keys_gkv]
  refine ⟨_, rfl, fun i l _ => ∃ x4 x5 x6 x7, l = [.sh (.obj (gameD g ad G)), .sh (.dct a (mvD p)), .sh (.dct o' (tabD (worth G (two (some p) none)) xs)), .owd (mvD (toldL G p ((names G).take i))), x4, x5, x6, x7], ⟨_, _, _, _, rfl⟩, ?_, ?_⟩
  · rintro i d l1 n1 hi ⟨x4, x5, x6, x7, rfl⟩
    rw [List.getElem?_map] at hi
    cases hn : (names G)[i]? with
    | none => rw [hn] at hi; cases hi
    | some m =>
    rw [hn] at hi
    cases hi
    have hm := List.mem_of_getElem? hn
    obtain ⟨y, h1, h2, h3, h4⟩ := hG.lk hm ad
    have htk : (names G).take (i + 1) = (names G).take i ++ [m] := by rw [List.take_add_one, hn]; rfl
    repeat walk_at "gw"
    refine ⟨_, h1, ?_⟩
    repeat walk_at "gw"
    rw [side_t h2]
    refine ⟨fun hb => ?_, fun hb => ?_⟩
    · have hw : word y = sideS false := of_decide_eq_true ((sideP_of (o := false) h2).trans hb)
      obtain ⟨ms, rfl⟩ := side_mv hw
      obtain ⟨m0, r, hh⟩ := hits_ne hG (p := p) h3
      obtain ⟨hne, hll, hnd, hms⟩ := h4
      refine ws_dput (i := 3) rfl ?_
      refine we_op ?_
      refine we_lock (a := ad m) ?_ ?_ ?_ fun od => we_filter (f := id) (p := hitD G p m ms) (by decide) (wi_keys ?_)
      · exact ⟨6, _, _, rfl, .refl⟩
      · exact List.not_mem_nil
      · exact haL m false ms h3
      repeat walk_at "gw"
      refine ⟨ad m, mvD ms, od, rfl, List.mem_cons_self, ?_, fun z hz => ?_, fun z hz _ => ?_, (hits G p m ms).map D.str, ?_, ?_⟩
      · rw [keys_mvD, List.length_map, List.length_map]; omega
      · rw [keys_mvD] at hz
        obtain ⟨mo, hmo, rfl⟩ := List.mem_map.mp hz
        obtain ⟨c, hc⟩ := lkp_of hmo
        repeat walk_at "gw"
        refine ⟨.str c, by rw [lk_mvD, hc]; rfl, ?_⟩
        repeat walk_at "gw"
        refine ⟨_, lk_tab (hin c (hms _ (lkp_mem hc)).2.2), ?_⟩
        repeat walk_at "gw"
        refine ⟨_, lk_tab (hin m hm), ?_⟩
        refine ro_eqT ⟨_, rfl, ?_, rfl⟩
        exact (hit_of hc).symm
      · rw [keys_mvD] at hz
        obtain ⟨mo, hmo, rfl⟩ := List.mem_map.mp hz
        repeat walk_at "gw"
        exact ⟨rfl, rfl⟩
      · rw [keys_mvD, List.filter_map, List.map_id]
        rfl
      rw [hh]
      repeat walk_at "gw"
      refine ro_ixL (d := .str m0) (atD (z := 0) (j := 0) rfl rfl) ?_
      repeat walk_at "gw"
      have hnk : m ∉ (toldL G p ((names G).take i)).map (·.1) := fun z => by
        unfold toldL at z
        rw [List.map_map] at z
        obtain ⟨k, hk, e⟩ := List.mem_map.mp z
        have e : k = m := e
        rw [e] at hk
        exact nodup_take hG.nd hn (List.mem_filter.mp hk).1
      have e : putD (mvD (toldL G p ((names G).take i))) m (.str m0) = mvD (toldL G p ((names G).take (i + 1))) := by
        rw [putD_new (fun q hq e => hnk (by
          rw [← keys_mvD]
          exact List.mem_map.mpr ⟨q, hq, e⟩)), htk]
        unfold toldL mvD
        rw [List.filter_append, List.map_append, List.map_append, show [m].filter (sideP G false) = [m] from by rw [List.filter_cons, hb]; rfl]
        have hpk : pickF G p m = m0 := by unfold pickF; rw [h2]; simp only [hh]; rfl
        rw [List.map_cons, List.map_cons, hpk]
        rfl
      rw [e]
      refine ⟨?_, _, _, _, _, rfl⟩
      unfold mvD toldL
      rw [List.length_map, List.length_map]
      refine Nat.lt_of_le_of_lt (List.length_filter_le ..) ?_
      rw [List.length_take]
      omega
    · have e : toldL G p ((names G).take (i + 1)) = toldL G p ((names G).take i) := by
        rw [htk]
        unfold toldL
        rw [List.filter_append, show [m].filter (sideP G false) = [] from by rw [List.filter_cons, hb]; rfl, List.append_nil]
      refine ws_next ⟨.sh (.str m), .sh (.str (word y)), .sh (restD (ad m) y), x7, ?_⟩
      rw [e]
      rfl
  · rintro l1 n1 ⟨x4, x5, x6, x7, rfl⟩
    rw [List.length_map, List.take_length]
    refine ws_frd (i := 3) rfl fun r hr => ?_
    repeat walk_at "gw"
    exact ⟨g, ad, G, a, p, r, rfl, rfl, hr⟩
/-! a table; a floor -/
def preTab : List Addr → List D → Nat → Prop := fun _ ds _ => ∃ (g : Addr) (ad : Str → Addr) (G : Gm) (rk : Str → Nat) (b : Option Addr) (f : Str → Int × Int) (xs : List Str), ds = [.obj (gameD g ad G), .dct b (tabD f xs)] ∧ GOk G rk ∧ (∀ m ∈ names G, m ∈ xs ∧ 0 < (f m).2) ∧ xs.length = G.length
abbrev s_is_floor : Stmt := top 41
abbrev N_is_floor : List Str := ["game", "plan", "thing", "name", "one"]
theorem sc_is_floor : FnScope N_is_floor ["game", "plan", "thing"] (C8.fnScope s_is_floor) := C8.fnScope_by (by decide +kernel)
def preFloor : List Addr → List D → Nat → Prop := fun L ds _ => ∃ (g : Addr) (ad : Str → Addr) (G : Gm) (rk : Str → Nat) (a b : Option Addr) (p : List (Str × Str)) (xs : List Str), ds = [.obj (gameD g ad G), .dct a (mvD p), .dct b (tabD (worth G (two (some p) none)) xs)] ∧ GOk G rk ∧ Lowest G ∧ PlanOk G true p ∧ (∀ m ∈ names G, m ∈ xs) ∧ xs.length = G.length ∧ Free L g ad G
theorem due_floor {G : Gm} {rk : Str → Nat} (hG : GOk G rk) {p : List (Str × Str)} (hp : PlanOk G true p) {n : Str} (hn : n ∈ names G) : ∀ q ∈ dueF G p n, Big q ∧ lessQ q (lea G p n) = false := fun q hq => by
  have hW : ∀ n ∈ names G, 0 < (worth G (two (some p) none) n).2 ∧ Big (worth G (two (some p) none) n) := fun n hn => worth_big hG (plansOk_one hp) hn
  obtain ⟨x, e, hx, ok⟩ := hG.at hn
  have self : q = worth G (two (some p) none) n → Big q ∧ lessQ q (lea G p n) = false := fun e => by
    rw [e]
    exact ⟨(hW n hn).2, lessQ_false.mpr (leQ_refl _)⟩
  unfold dueF at hq
  rw [e] at hq
  cases x with
  | en q => exact self (List.mem_singleton.mp hq)
  | ch ls => exact self (List.mem_singleton.mp hq)
  | mv o ms =>
    cases o with
    | true => exact self (List.mem_singleton.mp hq)
    | false =>
      obtain ⟨z, hz, rfl⟩ := List.mem_map.mp hq
      exact ⟨(hW z.2 (ok.2.2.2 z hz).2.2).2, lessQ_false.mpr (least_le hG (plansOk_one hp) rfl hx z hz)⟩
theorem due_len {G : Gm} {rk : Str → Nat} (hG : GOk G rk) {p : List (Str × Str)} {n : Str} (hn : n ∈ names G) : (dueF G p n).length ≤ 3 := by
  obtain ⟨x, e, hx, ok⟩ := hG.at hn
  unfold dueF
  rw [e]
  cases x with
  | en q => show 1 ≤ 3; decide
  | ch ls => show 1 ≤ 3; decide
  | mv o ms =>
    cases o with
    | true => show 1 ≤ 3; decide
    | false => show (ms.map fun q => worth G (two (some p) none) q.2).length ≤ 3; rw [List.length_map]; exact ok.2.1
theorem ok_is_floor (T : Txt K mg C) (DB : DefB K mg "is_floor" s_is_floor ["game", "plan", "thing"]) (c_is_table : C8.Cal P w K mg base 3 "is_table" (spG C false preTab postT) []) (c_is_plan : C8.Cal P w K mg base 2 "is_plan" (spG C false prePlan postT) []) (c_places : C8.Met P w K mg base 1 C "places" (spG C false prePlaces postPlaces) []) (c_is_less : C8.Cal P w K mg base 1 "is_less" (spG C false preTwoQ postLess) []) (c_due_at : C8.Cal P w K mg base 3 "due_at" (spG C false preDue postDue) []) : C8.Cal P w K mg base 4 "is_floor" (spG C false preFloor postT) [] := by
  refine cal_ok DB sc_is_floor (fun L ds n hp => ?_) fun f cdv A outer sh H E hr => ?_
  · obtain ⟨_, _, _, _, _, _, _, _, rfl, _⟩ := hp; rfl
  have nd := sc_is_floor.nd
  have tcl := T.cl
  have tnp := T.nP
  refine ⟨_, (pss_cons (ps_if (PW.pt (pw_or (pt_not (pt_val (C8.pe_c c_is_plan hr (by decide) (by rfl) (pa_cons (pv 0) (pa_cons pe_str (pa_cons (pv 1) pa_nil)))))) (pw_or1 (pt_not (pt_val (C8.pe_c c_is_table hr (by decide) (by rfl) (pa_cons (pv 0) (pa_cons (pv 2) pa_nil)))))))) (pss_one (ps_ret pe_bl)) pss_nil)
    (pss_cons (ps_for PassesOwn.never rfl (pi_listK K (C8.pe_mt0 c_places hr (by decide) (pv 0))) (pg_name (i := 3) nd rfl (Or.inr rfl))
      (pss_one (ps_if (pt_val (pe_callB (r := rAny K) (cr_any rfl) (by rfl) T.n_any (by decide +kernel) (pa_cons (pe_lc (own := [("one", 4)]) rfl nd (pi_listK K (C8.pe_c c_due_at hr (by decide) (by rfl) (pa_cons (pv 0) (pa_cons pe_str (pa_cons (pv 1) (pa_cons (pv 2) (pa_cons (pv 3) pa_nil))))))) (blkOk_by (own := [("one", 4)]) (N := N_is_floor) (sc := C8.fnScope s_is_floor) (by decide +kernel)) (fun _ _ _ _ _ => pg_name (i := 4) nd rfl (Or.inl rfl)) (fun _ _ _ _ _ => pts_nil) (fun _ _ _ _ _ => (C8.pe_c c_is_less hr (by decide) (by rfl) (pa_cons (pv 4) (pa_cons (pe_dget (hu_of hr) (pv 2) (pv 3) (fun _ _ => rfl)) pa_nil))))) pa_nil))) (pss_one (ps_ret pe_bl)) pss_nil)))
    (pss_one (ps_ret pe_bl)))), fun sa ca L F0 H0 ds n hp => ?_⟩
  obtain ⟨g, ad, G, rk, a, b, p, xs, rfl, hG, hlow, hp1, hin, hxl, hgL, haL⟩ := hp
  have hW : ∀ n ∈ names G, 0 < (worth G (two (some p) none) n).2 ∧ Big (worth G (two (some p) none) n) := fun n hn => worth_big hG (plansOk_one hp1) hn
  repeat walk_at "gw"
  refine ⟨⟨g, ad, G, rk, true, a, p, rfl, hG, hp1⟩, ?_⟩
  rintro d n2 H' _ rfl
  repeat walk_at "gw"
  refine ⟨⟨g, ad, G, rk, b, _, xs, rfl, hG, fun m hm => ⟨hin m hm, (hW m hm).1⟩, hxl⟩, ?_⟩
  rintro d n2 H' _ rfl
  repeat walk_at "gw"
  refine ws_forN ?_
  repeat walk_at "gw"
  refine ⟨⟨_, _, rfl⟩, ?_⟩
  rintro d n2 H' _ ⟨o2, kvs2, he, rfl⟩
  simp only [List.cons.injEq, D.obj.injEq, D.dct.injEq, and_true] at he
  obtain ⟨rfl, rfl⟩ := he
  rw [keys_gkv]
  refine ⟨_, rfl, fun i l _ => ∃ x3 x4, l = [.sh (.obj (gameD g ad G)), .sh (.dct a (mvD p)), .sh (.dct b (tabD (worth G (two (some p) none)) xs)), x3, x4], ⟨_, _, rfl⟩, ?_, ?_⟩
  · rintro i d l1 n1 hi ⟨x3, x4, rfl⟩
    rw [List.getElem?_map] at hi
    cases hn : (names G)[i]? with
    | none => rw [hn] at hi; cases hi
    | some m =>
    rw [hn] at hi
    cases hi
    have hm := List.mem_of_getElem? hn
    repeat walk_at "gw"
    refine we_mapC (c := .bl false) (by decide) ?_
    repeat walk_at "gw"
    refine ⟨⟨g, ad, G, rk, a, b, p, xs, m, rfl, hG, hlow, hp1, hm, hin, hgL, haL⟩, ?_⟩
    rintro d n2 H' _ ⟨g', ad', G', a', b', p', t', m', he, rfl⟩
    simp only [List.cons.injEq, D.obj.injEq, D.dct.injEq, D.str.injEq, and_true] at he
    obtain ⟨⟨-, e1⟩, -, ⟨-, e2⟩, -, e3⟩ := he
    cases gkv_inj e1
    cases mvD_inj e2
    subst e3
    refine ⟨_, rfl, by rw [List.length_map]; exact Nat.le_trans (due_len hG hm) (by decide), fun z hz => ?_, ?_⟩
    · obtain ⟨q, hq, rfl⟩ := List.mem_map.mp hz
      obtain ⟨hq1, hq2⟩ := due_floor hG hp1 hm q hq
      repeat walk_at "gw"
      refine ⟨_, lk_tab (hin m hm), ?_⟩
      repeat walk_at "gw"
      refine ⟨⟨_, _, rfl, hq1, (hW m hm).2⟩, ?_⟩
      rintro d n2 H' _ ⟨q1, q2, he, rfl⟩
      obtain ⟨rfl, rfl⟩ := fr_inj2 he
      exact ⟨congrArg D.bl hq2, rfl⟩
    repeat walk_at "gw"
    exact ⟨_, _, rfl⟩
  · rintro l1 n1 ⟨x3, x4, rfl⟩
    repeat walk_at "gw"
    rfl
end
end Gw

/-! len of an instance that has its own def for it. -/
namespace Gw
open PySem PySem.Spec PyProof.Rows L2 PySem.Calls
section
variable {prog : Program} {w : World} {A : Around} {E : Value → Shared → Prop} {s : Shared} {K : PySem.W.Frag} {x C f : Addr} {ox : Obj} {odd : Option Obj}
theorem len_own {Q : Value → Shared → Prop} (X : K.In s.heap) (I : PySem.W.InstAt s.heap x ox C odd) (hs : PySem.W.findIn K (.ref C) "__len__" = some (some (.ref f))) (hf : PySem.W.isFn K (.ref f) = true)
    (h : wpAny (model prog w) A.in1 (call (.ref f) [.ref x]) (fun r s₁ => ∃ n u, r = Value.int n u ∧ 0 ≤ n ∧ n < 2 ^ 63 ∧ Q (.int n s₁.toks) { s₁ with toks := s₁.toks + 1 }) E s) : wpAny (model prog w) A (call (.builtin "len") [.ref x]) Q E s := by
  refine call_function_entry kind_len plain_len entry_len (args_len1 _) ?_
  unfold Builtin.«len»
  refine wpAny_bind (m := oneArg "len" _) (wpAny_pure ?_)
  refine wpAny_bind (m := callSpecial? (.ref x) (Str.ofString "__len__")) (PySem.W.special_fn X I hs (beq_iff_eq.mp hf) (wpAny_mono h (fun r s' hr => ?_) fun _ _ y => y))
  obtain ⟨n, u, rfl, h0, h1, q⟩ := hr
  refine wpAny_bind (wpAny_holding (wpAny_pure ?_))
  refine wpAny_bind (wpAny_letGo ?_)
  show wpAny _ _ (if n < 0 then _ else _) _ _ _
  rw [if_neg (by omega)]
  show wpAny _ _ (if n ≥ 2 ^ 63 then _ else _) _ _ _
  rw [if_neg (by omega)]
  exact wpAny_bind (wpAny_mkInt (wpAny_pure ⟨_, rfl, q⟩))
end
/-- what len asks of a method of the class at C -/
def rLenOwn (C : Addr) (sp : Sp) : List V → Hp → VK → Prop := fun xs H Q => ∃ a dx fs, xs = [V.ref a] ∧ H a = some (.ins C dx fs) ∧ sp [.ref a] H (fun z H' => ∃ n : Int, z = .int n ∧ 0 ≤ n ∧ n < 100000 ∧ Q z H') C8.E0
theorem call_lenOwn {X : Cx} {C : Addr} {sp : Sp} {k j : Nat} (c : C8.Met X.prog X.w X.K X.mg X.base k C "__len__" sp []) (hr : Room j X.A) (hk : k + 1 ≤ j) : CallR X (.builtin "len") (rLenOwn C sp) := by
  intro pins s σ H xs us Q I r h
  obtain ⟨a, dx, fs, rfl, ha, q⟩ := h
  obtain ⟨u, rfl, ru⟩ := vals1 r
  cases (show u = Value.ref a from ru)
  obtain ⟨f, fd, ps, ds, hc, hm, F, b, d⟩ := c.ex
  cases d
  obtain ⟨mA, O, _, _, _, _⟩ := ins_get I.hok ha
  obtain ⟨od, J, _⟩ := O.look
  refine len_own I.kIn J hm.at_ hm.fn ?_
  have hr1 : Room k X.A.in1 := Room.in1 (hr.mono hk)
  have hl : ([Value.ref a] : List Value).length = ps.length := (show ([V.ref a] : List V).length = ps.length from F.len _ _ _ _ q)
  have run := F.run X.A.in1 X.stack s H ⟨[.ref a], []⟩ [.ref a] [.ref a] _ C8.E0 hr1 I.env0.in1 (b s [.ref a] I.kIn hl) (.cons rfl .nil) q
  refine wpAny_call (codeAny_mono run fun r s' hq => ?_)
  cases r with
  | error e => exact (C8.pass0 (E := C8.E0)) pins σ H s e s' I hq
  | ok fl =>
    cases fl with
    | ret u =>
      obtain ⟨z, H', I', rz, n, ez, h0, h1, qz⟩ := I.after hq
      subst ez
      obtain ⟨t, e⟩ := (show ∃ t, u = Value.int n t from rz)
      cases e
      exact ⟨n, t, rfl, h0, Int.lt_trans h1 (by decide), .int n, H', I'.tok _, ⟨_, rfl⟩, qz⟩
    | next => exact False.elim hq
    | brk => exact False.elim hq
    | cont => exact False.elim hq
/-- .. over data -/
theorem rc_lenOwn {B : Bk} {M : List (Addr × Obj)} {l : List Sl} {n : Nat} {Q : D → Nat → Prop} {pre : List Addr → List D → Nat → Prop} {post : Hp → List D → Nat → D → Nat → Prop} {d : D} (hp : pre (lks M ++ B.L) [.obj d] 0) (q : ∀ y n2 H, post H [.obj d] 0 y n2 → ∃ i : Int, y = .int i ∧ 0 ≤ i ∧ i < 100000 ∧ Q y n) : RC B M (rLenOwn B.C (spG B.C false pre post)) [.obj d] l n Q := fun F H σ r S vs rs k c => by
  obtain ⟨v, rfl, h1⟩ := reps1 rs
  obtain ⟨a, dx, t, rfl, ha, _⟩ := id h1.obj_inv
  refine ⟨a, dx, _, rfl, S.here ha (fun kv z => nomatch z), sp_pure S rs hp fun v2 F2 H2 y n2 p s rv => ?_⟩
  obtain ⟨i, rfl, h0, h1, q⟩ := q y n2 H p
  exact ⟨i, rv.int_inv, h0, h1, c _ F2 H2 _ n q s rv⟩
end Gw

/-! is_table. -/
namespace Gw
open PySem L2
local macro_rules | `(tactic| walk_at "gw") => `(tactic| first
  | (with_reducible refine ws_seq ?_)
  | (with_reducible refine ws_ret ?_)
  | (with_reducible refine ws_newl ?_)
  | (with_reducible refine ws_newd ?_)
  | (with_reducible refine ws_set ?_)
  | (with_reducible refine ws_par3 ?_)
  | (with_reducible refine ws_par ?_)
  | (with_reducible refine ws_if ?_)
  | (with_reducible refine ws_next ?_)
  | (with_reducible refine ws_cont ?_)
  | (with_reducible refine ws_asgP ?_)
  | (with_reducible refine ws_asgP3 ?_)
  | ((with_reducible refine' ws_app ?h ?_); (case h => rfl))
  | ((with_reducible refine' ws_clear ?h ?_); (case h => rfl))
  | ((with_reducible refine' ws_dput ?h ?_); (case h => rfl))
  | (with_reducible refine ws_drop ?_)
  | ((with_reducible refine' we_var ?h ?_); (case h => rfl))
  | (with_reducible refine we_int ?_)
  | (with_reducible refine we_str ?_)
  | (with_reducible refine we_bl ?_)
  | (with_reducible refine we_non ?_)
  | (with_reducible refine we_ty ?_)
  | ((with_reducible refine' we_ixM ?h ?e ?_); (case h => rfl); (case e => exact atI_last _ _))
  | ((with_reducible refine' we_ixO ?h ?_); (case h => rfl))
  | (with_reducible refine we_neg ?_)
  | (with_reducible refine we_op ?_)
  | (with_reducible refine ro_I0 ?_)
  | (with_reducible refine ro_B0 ?_)
  | ((with_reducible refine ro_I ?h ?_); (case h => first | assumption | omega))
  | ((with_reducible refine' ro_ixT ?h ?_); (case h => rfl))
  | (with_reducible refine ro_inT2 ?_)
  | (with_reducible refine ro_ninT2 ?_)
  | (with_reducible refine ro_eqS ?_)
  | (with_reducible refine ro_neS ?_)
  | (with_reducible refine ro_eqI ?_)
  | (with_reducible refine ro_neI ?_)
  | (with_reducible refine ro_eqB ?_)
  | (with_reducible refine ro_notNon ?_)
  | (with_reducible refine ro_neB ?_)
  | ((with_reducible refine' we_dgetO ?h ?_); (case h => rfl))
  | ((with_reducible refine' we_dinO ?h ?_); (case h => rfl))
  | ((with_reducible refine' we_dnotinO ?h ?_); (case h => rfl))
  | (with_reducible refine we_dget ?_)
  | (with_reducible refine we_din ?_)
  | (with_reducible refine we_dnotin ?_)
  | ((with_reducible refine we_tup ?_))
  | ((with_reducible refine we_lst ?_))
  | (with_reducible refine wa_cons ?_)
  | (with_reducible refine wa_nil ?_)
  | (with_reducible refine we_cb ?_)
  | (with_reducible refine we_chain ?_)
  | (with_reducible refine we_if ?_)
  | (with_reducible refine we_andV ?_)
  | (with_reducible refine we_orV ?_)
  | (with_reducible refine we_notV ?_)
  | (with_reducible refine wt_test ?_)
  | (with_reducible refine wt_B ?_)
  | (with_reducible refine wt_not ?_)
  | (with_reducible refine wt_and ?_)
  | (with_reducible refine wt_or ?_)
  | (with_reducible refine wt_ifT ?_)
  | (with_reducible refine we_call ?_)
  | ((with_reducible refine' we_callS ?h ?_); (case h => rfl))
  | ((with_reducible refine' we_meth ?h ?_); (case h => decide +kernel))
  | (with_reducible refine rc_abs ?_)
  | (with_reducible refine rc_int ?_)
  | (with_reducible refine rc_lenL ?_)
  | (with_reducible refine rc_lenT ?_)
  | (with_reducible refine rc_lenD ?_)
  | (with_reducible refine rc_lenLS ?_)
  | (with_reducible refine rc_sum ?_)
  | (with_reducible refine rc_tupT ?_)
  | ((with_reducible refine' rc_isi ?ht ?hb ?_); (case ht => rfl); (case hb => first | exact kb_int_int | exact kb_int_bool | exact kb_int_list | exact kb_int_tuple | exact kb_str_str | exact kb_dict_dict | exact kb_list_list | exact kb_list_tuple | exact kb_tuple_list | exact kb_tuple_tuple | exact kb_bool_int | exact kb_bool_bool))
  | ((with_reducible refine' rc_isiT ?ht ?h1 ?h2 ?_); (case ht => rfl); (case h1 => first | exact kb_int_int | exact kb_int_bool | exact kb_int_list | exact kb_int_tuple | exact kb_str_str | exact kb_dict_dict | exact kb_list_list | exact kb_list_tuple | exact kb_tuple_list | exact kb_tuple_tuple | exact kb_bool_int | exact kb_bool_bool); (case h2 => first | exact kb_int_int | exact kb_int_bool | exact kb_int_list | exact kb_int_tuple | exact kb_str_str | exact kb_dict_dict | exact kb_list_list | exact kb_list_tuple | exact kb_tuple_list | exact kb_tuple_tuple | exact kb_bool_int | exact kb_bool_bool))
  | (with_reducible refine rc_allT ?_)
  | (with_reducible refine rc_anyF ?_)
  | (with_reducible refine rc_all ?_)
  | (with_reducible refine rc_any ?_)
  | (with_reducible refine rc_listD ?_)
  | (with_reducible refine rc_dictD fun _ _ => ?_)
  | (with_reducible refine we_rev ?_)
  | (with_reducible refine we_slL ?_)
  | (with_reducible refine wo_no ?_)
  | (with_reducible refine wo_part ?_)
  | (with_reducible refine we_listVals ?_)
  | ((with_reducible refine' we_fld ?hc ?hn ?_); (case hc => assumption); (case hn => assumption))
  | (with_reducible refine wi_list ?_)
  | (with_reducible refine wi_range1 ?_)
  | (with_reducible refine wi_str ?_)
  | (with_reducible refine wi_enum ?_)
  | (with_reducible refine wg_name ?_)
  | (with_reducible refine wg_two ?_)
  | (refine ⟨Nat.le_of_ble_eq_true rfl, ?_⟩)
  | (refine ⟨_, rfl, ?_⟩)
  | (refine ⟨_, _, rfl, ?_⟩)
  | (refine ⟨_, _, _, rfl, rfl, ?_⟩)
  | (refine ⟨_, _, _, rfl, ?_⟩)
  | (refine ⟨fun _ => ?_, fun z => Bool.noConfusion z⟩)
  | (refine ⟨fun z => Bool.noConfusion z, fun _ => ?_⟩)
  | (refine ⟨fun _ => ?_, fun z => absurd z (by decide +kernel)⟩)
  | (refine ⟨fun z => absurd z (by decide +kernel), fun _ => ?_⟩))
section
variable {P : Program} {w : World} {K : PySem.W.Frag} {mg : Str → Option Value} {base : Heap} {C : Addr}
abbrev s_Game___len__ : Stmt := inCls (top 28) 5
abbrev N_Game___len__ : List Str := ["self"]
theorem sc_Game___len__ : FnScope N_Game___len__ ["self"] (C8.fnScope s_Game___len__) := C8.fnScope_by (by decide +kernel)
def postLen : Hp → List D → Nat → D → Nat → Prop := fun _ ds _ d _ => ∃ o kvs, ds = [.obj (.dct o kvs)] ∧ d = .int (kvs.length : Int)
theorem ok_len (T : Txt K mg C) (DB : MetB K C "__len__" "Game.__len__" s_Game___len__ ["self"]) : C8.Met P w K mg base 1 C "__len__" (spG C false prePlaces postLen) [] := by
  refine met_ok T.cl DB sc_Game___len__ (fun L ds n hp => ?_) fun f cdv A outer sh H E hr => ?_
  · obtain ⟨_, _, rfl⟩ := hp; rfl
  have nd := sc_Game___len__.nd
  have tcl := T.cl
  have tnp := T.nP
  refine ⟨_, (pss_one (ps_ret (pe_callB (r := cLenD) call_lenD1 (by rfl) T.n_len (by decide +kernel) (pa_cons (pe_fldK K (pv 0) rfl) pa_nil)))), fun sa ca L F0 H0 ds n hp => ?_⟩
  obtain ⟨o, kvs, rfl⟩ := hp
  repeat walk_at "gw"
  rfl
abbrev s_is_table : Stmt := top 39
abbrev N_is_table : List Str := ["game", "thing", "name"]
theorem sc_is_table : FnScope N_is_table ["game", "thing"] (C8.fnScope s_is_table) := C8.fnScope_by (by decide +kernel)
theorem ok_is_table (T : Txt K mg C) (DB : DefB K mg "is_table" s_is_table ["game", "thing"]) (c___len__ : C8.Met P w K mg base 1 C "__len__" (spG C false prePlaces postLen) []) (c_is_fraction : C8.Cal P w K mg base 2 "is_fraction" (spG C false preFr postT) []) (c_places : C8.Met P w K mg base 1 C "places" (spG C false prePlaces postPlaces) []) : C8.Cal P w K mg base 3 "is_table" (spG C false preTab postT) [] := by
  refine cal_ok DB sc_is_table (fun L ds n hp => ?_) fun f cdv A outer sh H E hr => ?_
  · obtain ⟨_, _, _, _, _, _, _, rfl, _⟩ := hp; rfl
  have nd := sc_is_table.nd
  have tcl := T.cl
  have tnp := T.nP
  refine ⟨_, (pss_cons (ps_if (PW.pt (pw_or (pt_not (pt_val (pe_callB (r := rIsi K) call_isi (by rfl) T.n_isinstance (by decide +kernel) (pa_cons (pv 1) (pa_cons (pe_bltn (v := .ty "dict") (by rfl) T.n_dict (by decide +kernel) rfl) pa_nil))))) (pw_or1 (pt_cmpR op_ne (pe_callB (r := cLenD) call_lenD1 (by rfl) T.n_len (by decide +kernel) (pa_cons (pv 1) pa_nil)) (pe_callB (call_lenOwn c___len__ hr (by decide)) (by rfl) T.n_len (by decide +kernel) (pa_cons (pv 0) pa_nil)) (nomark _))))) (pss_one (ps_ret pe_bl)) pss_nil)
    (pss_one (ps_ret (pe_callB (r := rAll K) (cr_all rfl) (by rfl) T.n_all (by decide +kernel) (pa_cons (pe_lc (own := [("name", 2)]) rfl nd (pi_listK K (C8.pe_mt0 c_places hr (by decide) (pv 0))) (blkOk_by (own := [("name", 2)]) (N := N_is_table) (sc := C8.fnScope s_is_table) (by decide +kernel)) (fun _ _ _ _ _ => pg_name (i := 2) nd rfl (Or.inl rfl)) (fun _ _ _ _ _ => pts_nil) (fun _ _ _ _ _ => (pe_and (pe_cmp (pc_din (hu_of hr) (pv 2) (pv 1))) (pe_one (C8.pe_c c_is_fraction hr (by decide) (by rfl) (pa_cons (pe_dget (hu_of hr) (pv 1) (pv 2) (fun _ _ => rfl)) pa_nil)))))) pa_nil))))), fun sa ca L F0 H0 ds n hp => ?_⟩
  obtain ⟨g, ad, G, rk, b, f', xs, rfl, hG, hin, hxl⟩ := hp
  have hlen := hG.len
  repeat walk_at "gw"
  refine rc_lenOwn ⟨_, _, rfl⟩ ?_
  rintro y n2 H' ⟨o2, kvs2, he, rfl⟩
  simp only [List.cons.injEq, D.obj.injEq, D.dct.injEq, and_true] at he
  obtain ⟨rfl, rfl⟩ := he
  have hl : (gkv ad G).length = G.length := by unfold gkv; rw [List.length_map]
  have ht : (tabD f' xs).length = xs.length := by unfold tabD; rw [List.length_map]
  refine ⟨_, rfl, by omega, by omega, ?_⟩
  repeat walk_at "gw"
  refine noI (by rw [hl, ht, hxl]; simp) ?_
  repeat walk_at "gw"
  refine we_mapC (c := .bl true) (by decide) ?_
  repeat walk_at "gw"
  refine ⟨⟨_, _, rfl⟩, ?_⟩
  rintro d n2 H' _ ⟨o2, kvs2, he, rfl⟩
  simp only [List.cons.injEq, D.obj.injEq, D.dct.injEq, and_true] at he
  obtain ⟨rfl, rfl⟩ := he
  rw [keys_gkv]
  refine ⟨_, rfl, ?_, fun z hz => ?_, ?_⟩
  · rw [List.length_map]; unfold names; rw [List.length_map]; omega
  · obtain ⟨m, hm, rfl⟩ := List.mem_map.mp hz
    have hlk := lk_tab (f := f') (hin m hm).1
    repeat walk_at "gw"
    refine ⟨fun _ => ?_, fun z => by rw [hlk] at z; cases z⟩
    repeat walk_at "gw"
    refine ⟨_, hlk, ?_⟩
    repeat walk_at "gw"
    refine ⟨⟨_, rfl, (hin m hm).2⟩, ?_⟩
    rintro d n2 H' _ rfl
    exact ⟨rfl, rfl⟩
  repeat walk_at "gw"
  rfl
end
end Gw

/-! The law's draws. -/
namespace Gw
open PySem L2
local macro_rules | `(tactic| walk_at "gw") => `(tactic| first
  | (with_reducible refine ws_seq ?_)
  | (with_reducible refine ws_ret ?_)
  | (with_reducible refine ws_newl ?_)
  | (with_reducible refine ws_newd ?_)
  | (with_reducible refine ws_set ?_)
  | (with_reducible refine ws_par3 ?_)
  | (with_reducible refine ws_par ?_)
  | (with_reducible refine ws_if ?_)
  | (with_reducible refine ws_next ?_)
  | (with_reducible refine ws_cont ?_)
  | (with_reducible refine ws_asgP ?_)
  | (with_reducible refine ws_asgP3 ?_)
  | ((with_reducible refine' ws_app ?h ?_); (case h => rfl))
  | ((with_reducible refine' ws_clear ?h ?_); (case h => rfl))
  | ((with_reducible refine' ws_dput ?h ?_); (case h => rfl))
  | (with_reducible refine ws_drop ?_)
  | ((with_reducible refine' we_var ?h ?_); (case h => rfl))
  | (with_reducible refine we_int ?_)
  | (with_reducible refine we_str ?_)
  | (with_reducible refine we_bl ?_)
  | (with_reducible refine we_non ?_)
  | (with_reducible refine we_ty ?_)
  | ((with_reducible refine' we_ixM ?h ?e ?_); (case h => rfl); (case e => exact atI_last _ _))
  | ((with_reducible refine' we_ixO ?h ?_); (case h => rfl))
  | (with_reducible refine we_neg ?_)
  | (with_reducible refine we_op ?_)
  | (with_reducible refine ro_I0 ?_)
  | (with_reducible refine ro_B0 ?_)
  | ((with_reducible refine ro_I ?h ?_); (case h => first | assumption | omega))
  | ((with_reducible refine' ro_ixT ?h ?_); (case h => rfl))
  | (with_reducible refine ro_inT2 ?_)
  | (with_reducible refine ro_ninT2 ?_)
  | (with_reducible refine ro_eqS ?_)
  | (with_reducible refine ro_neS ?_)
  | (with_reducible refine ro_eqI ?_)
  | (with_reducible refine ro_neI ?_)
  | (with_reducible refine ro_eqB ?_)
  | (with_reducible refine ro_notNon ?_)
  | (with_reducible refine ro_neB ?_)
  | ((with_reducible refine' we_dgetO ?h ?_); (case h => rfl))
  | ((with_reducible refine' we_dinO ?h ?_); (case h => rfl))
  | ((with_reducible refine' we_dnotinO ?h ?_); (case h => rfl))
  | (with_reducible refine we_dget ?_)
  | (with_reducible refine we_din ?_)
  | (with_reducible refine we_dnotin ?_)
  | ((with_reducible refine we_tup ?_))
  | ((with_reducible refine we_lst ?_))
  | (with_reducible refine wa_cons ?_)
  | (with_reducible refine wa_nil ?_)
  | (with_reducible refine we_cb ?_)
  | (with_reducible refine we_chain ?_)
  | (with_reducible refine we_if ?_)
  | (with_reducible refine we_andV ?_)
  | (with_reducible refine we_orV ?_)
  | (with_reducible refine we_notV ?_)
  | (with_reducible refine wt_test ?_)
  | (with_reducible refine wt_B ?_)
  | (with_reducible refine wt_not ?_)
  | (with_reducible refine wt_and ?_)
  | (with_reducible refine wt_or ?_)
  | (with_reducible refine wt_ifT ?_)
  | (with_reducible refine we_call ?_)
  | ((with_reducible refine' we_callS ?h ?_); (case h => rfl))
  | ((with_reducible refine' we_meth ?h ?_); (case h => decide +kernel))
  | (with_reducible refine rc_abs ?_)
  | (with_reducible refine rc_int ?_)
  | (with_reducible refine rc_lenL ?_)
  | (with_reducible refine rc_lenT ?_)
  | (with_reducible refine rc_lenD ?_)
  | (with_reducible refine rc_lenLS ?_)
  | (with_reducible refine rc_sum ?_)
  | (with_reducible refine rc_tupT ?_)
  | ((with_reducible refine' rc_isi ?ht ?hb ?_); (case ht => rfl); (case hb => first | exact kb_int_int | exact kb_int_bool | exact kb_int_list | exact kb_int_tuple | exact kb_str_str | exact kb_dict_dict | exact kb_list_list | exact kb_list_tuple | exact kb_tuple_list | exact kb_tuple_tuple | exact kb_bool_int | exact kb_bool_bool))
  | ((with_reducible refine' rc_isiT ?ht ?h1 ?h2 ?_); (case ht => rfl); (case h1 => first | exact kb_int_int | exact kb_int_bool | exact kb_int_list | exact kb_int_tuple | exact kb_str_str | exact kb_dict_dict | exact kb_list_list | exact kb_list_tuple | exact kb_tuple_list | exact kb_tuple_tuple | exact kb_bool_int | exact kb_bool_bool); (case h2 => first | exact kb_int_int | exact kb_int_bool | exact kb_int_list | exact kb_int_tuple | exact kb_str_str | exact kb_dict_dict | exact kb_list_list | exact kb_list_tuple | exact kb_tuple_list | exact kb_tuple_tuple | exact kb_bool_int | exact kb_bool_bool))
  | (with_reducible refine rc_allT ?_)
  | (with_reducible refine rc_anyF ?_)
  | (with_reducible refine rc_all ?_)
  | (with_reducible refine rc_any ?_)
  | (with_reducible refine rc_listD ?_)
  | (with_reducible refine rc_dictD fun _ _ => ?_)
  | (with_reducible refine we_rev ?_)
  | (with_reducible refine we_slL ?_)
  | (with_reducible refine wo_no ?_)
  | (with_reducible refine wo_part ?_)
  | (with_reducible refine we_listVals ?_)
  | ((with_reducible refine' we_fld ?hc ?hn ?_); (case hc => assumption); (case hn => assumption))
  | (with_reducible refine wi_list ?_)
  | (with_reducible refine wi_range1 ?_)
  | (with_reducible refine wi_str ?_)
  | (with_reducible refine wi_enum ?_)
  | (with_reducible refine wg_name ?_)
  | (with_reducible refine wg_two ?_)
  | (refine ⟨Nat.le_of_ble_eq_true rfl, ?_⟩)
  | (refine ⟨_, rfl, ?_⟩)
  | (refine ⟨_, _, rfl, ?_⟩)
  | (refine ⟨_, _, _, rfl, rfl, ?_⟩)
  | (refine ⟨_, _, _, rfl, ?_⟩)
  | (refine ⟨fun _ => ?_, fun z => Bool.noConfusion z⟩)
  | (refine ⟨fun z => Bool.noConfusion z, fun _ => ?_⟩)
  | (refine ⟨fun _ => ?_, fun z => absurd z (by decide +kernel)⟩)
  | (refine ⟨fun z => absurd z (by decide +kernel), fun _ => ?_⟩))
section
variable {P : Program} {w : World} {K : PySem.W.Frag} {mg : Str → Option Value} {base : Heap} {C : Addr}
theorem atI_nat {α : Type} {xs : List α} {j : Nat} (h : j < xs.length) : atI xs (j : Int) = some xs[j] := by
  have e : ixN xs.length (j : Int) = some j := by
    unfold ixN
    rw [if_pos (by omega), if_pos (by omega)]
    rfl
  unfold atI
  rw [e]
  exact List.getElem?_eq_getElem h
def preDraw : List Addr → List D → Nat → Prop := fun _ ds n => ∃ m : Int, ds = [.strm, .int m] ∧ 0 < m ∧ m ≤ 100000 ∧ n < 2 ^ 40
def postDraw : Hp → List D → Nat → D → Nat → Prop := fun _ ds n d n2 => ∃ m i : Int, ds = [.strm, .int m] ∧ d = .int i ∧ 0 ≤ i ∧ i < m ∧ n2 = n + 1
abbrev s__law_pick : Stmt := top 57
abbrev N__law_pick : List Str := ["_law_stream", "_law_some"]
theorem sc__law_pick : FnScope N__law_pick ["_law_stream", "_law_some"] (C8.fnScope s__law_pick) := C8.fnScope_by (by decide +kernel)
def prePick : List Addr → List D → Nat → Prop := fun _ ds n => n < 2 ^ 40 ∧ ((∃ xs, ds = [.strm, .lst xs] ∧ xs ≠ [] ∧ xs.length ≤ 100000) ∨ ∃ z : Str, ds = [.strm, .str z] ∧ 0 < z.length ∧ z.length ≤ 100000)
def postPick : Hp → List D → Nat → D → Nat → Prop := fun _ ds n d n2 => n2 = n + 1 ∧ ((∃ xs, ds = [.strm, .lst xs] ∧ d ∈ xs) ∨ ∃ (z : Str) (c : Nat), ds = [.strm, .str z] ∧ d = .str ⟨#[c]⟩ ∧ c ∈ z.cps.toList)
theorem ok__law_pick (T : Txt K mg C) (DB : DefB K mg "_law_pick" s__law_pick ["_law_stream", "_law_some"]) (c__law_draw : C8.Cal P w K mg base 1 "_law_draw" (spG C true preDraw postDraw) []) : C8.Cal P w K mg base 2 "_law_pick" (spG C true prePick postPick) [] := by
  refine cal_ok DB sc__law_pick (fun L ds n hp => ?_) fun f cdv A outer sh H E hr => ?_
  · obtain ⟨_, ⟨_, rfl, _⟩ | ⟨_, rfl, _⟩⟩ := hp <;> rfl
  have nd := sc__law_pick.nd
  refine ⟨_, (pss_one (ps_ret (pe_ix (r := rIxLS K) ix_ls (pv 1) (C8.pe_c c__law_draw hr (by decide) (by rfl) (pa_cons (pv 0) (pa_cons (pe_callB (r := cLenLS K) call_lenLS (by rfl) T.n_len (by decide +kernel) (pa_cons (pv 1) pa_nil)) pa_nil))) (fun _ _ => rfl)))), fun sa ca L F0 H0 ds n hp => ?_⟩
  obtain ⟨hn, ⟨xs, rfl, hne, hlen⟩ | ⟨z, rfl, h0, hlen⟩⟩ := hp
  · have hp0 : 0 < xs.length := List.length_pos_iff.mpr hne
    repeat walk_at "gw"
    refine ⟨⟨_, rfl, by omega, by omega, hn⟩, ?_⟩
    rintro d n2 H' _ ⟨m, i, he, rfl, h1, h2, rfl⟩
    simp only [List.cons.injEq, D.int.injEq, and_true, true_and] at he
    subst he
    obtain ⟨j, rfl⟩ := Int.eq_ofNat_of_zero_le h1
    have hj : j < xs.length := by omega
    refine ro_ixLS (atD (j := j) rfl (List.getElem?_eq_getElem hj)) ?_
    exact ⟨rfl, .inl ⟨xs, rfl, List.getElem_mem hj⟩⟩
  · refine ws_ret (we_op (we_var rfl ?_))
    refine we_callS rfl (wa_cons (we_var rfl (wa_cons (we_cb (wa_cons (we_var rfl (wa_nil (rc_lenSS hlen (wa_nil ?_))))))))) 
    refine ⟨⟨_, rfl, by omega, by omega, hn⟩, ?_⟩
    rintro d n2 H' _ ⟨m, i, he, rfl, h1, h2, rfl⟩
    simp only [List.cons.injEq, D.int.injEq, and_true, true_and] at he
    subst he
    obtain ⟨j, rfl⟩ := Int.eq_ofNat_of_zero_le h1
    have hl : z.cps.toList.length = z.length := by simp [Str.length]
    have hj : j < z.cps.toList.length := by omega
    refine ro_ixSS (c0 := z.cps.toList[j]) hlen ?_ ?_
    · have := atI_nat (xs := z.cps.toList) hj
      exact this
    exact ⟨rfl, .inr ⟨z, _, rfl, rfl, List.getElem_mem hj⟩⟩
abbrev s__law_t_fraction : Stmt := top 47
abbrev N__law_t_fraction : List Str := ["_law_stream"]
theorem sc__law_t_fraction : FnScope N__law_t_fraction ["_law_stream"] (C8.fnScope s__law_t_fraction) := C8.fnScope_by (by decide +kernel)
def preStrm : List Addr → List D → Nat → Prop := fun _ ds n => ds = [.strm] ∧ n < 2 ^ 39
def postFrac : Hp → List D → Nat → D → Nat → Prop := fun _ ds n d n2 => n2 = n + 2 ∧ ∃ q : Int × Int, d = fr q ∧ 0 < q.2 ∧ q.1.natAbs < 2 ^ 3 ∧ q.2.natAbs < 2 ^ 3
theorem ok__law_t_fraction (T : Txt K mg C) (DB : DefB K mg "_law_t_fraction" s__law_t_fraction ["_law_stream"]) (c__law_draw : C8.Cal P w K mg base 1 "_law_draw" (spG C true preDraw postDraw) []) : C8.Cal P w K mg base 2 "_law_t_fraction" (spG C true preStrm postFrac) [] := by
  refine cal_ok DB sc__law_t_fraction (fun L ds n hp => ?_) fun f cdv A outer sh H E hr => ?_
  · obtain ⟨rfl, _⟩ := hp; rfl
  have nd := sc__law_t_fraction.nd
  refine ⟨_, (pss_one (ps_ret (pe_tup (pa_cons (pe_op op_sub (C8.pe_c c__law_draw hr (by decide) (by rfl) (pa_cons (pv 0) (pa_cons pe_int pa_nil))) pe_int) (pa_cons (pe_op op_add pe_int (C8.pe_c c__law_draw hr (by decide) (by rfl) (pa_cons (pv 0) (pa_cons pe_int pa_nil)))) pa_nil))))), fun sa ca L F0 H0 ds n hp => ?_⟩
  obtain ⟨rfl, hn⟩ := hp
  repeat walk_at "gw"
  refine ⟨⟨_, rfl, by decide, by decide, by omega⟩, ?_⟩
  rintro d n2 H' _ ⟨m, i, he, rfl, h1, h2, rfl⟩
  simp only [List.cons.injEq, D.int.injEq, and_true, true_and] at he
  subst he
  repeat walk_at "gw"
  refine ⟨⟨_, rfl, by decide, by decide, by omega⟩, ?_⟩
  rintro d n2 H' _ ⟨m, k, he, rfl, h3, h4, rfl⟩
  simp only [List.cons.injEq, D.int.injEq, and_true, true_and] at he
  subst he
  repeat walk_at "gw"
  exact ⟨rfl, (i - 6, 1 + k), rfl, by show 0 < 1 + k; omega, by show (i - 6).natAbs < 8; omega, by show (1 + k).natAbs < 8; omega⟩
/-! where a place leads, by the law -/
abbrev s__law_t_after : Stmt := top 51
abbrev N__law_t_after : List Str := ["_law_game", "_law_name", "_law_word", "_law_rest", "_law_places", "_law_at", "_law_place", "_law_lot", "_law_move"]
theorem sc__law_t_after : FnScope N__law_t_after ["_law_game", "_law_name"] (C8.fnScope s__law_t_after) := C8.fnScope_by (by decide +kernel)
def preAft : List Addr → List D → Nat → Prop := fun L ds _ => ∃ (g : Addr) (ad : Str → Addr) (G : Gm) (rk : Str → Nat) (n : Str) (x : Nd), ds = [gameD g ad G, .str n] ∧ GOk G rk ∧ (n, x) ∈ G ∧ ∀ o ms, x = .mv o ms → ad n ∉ L
def postAft : Hp → List D → Nat → D → Nat → Prop := fun _ ds _ d _ => ∃ (g : Addr) (ad : Str → Addr) (G : Gm) (n : Str) (x : Nd), ds = [gameD g ad G, .str n] ∧ nodeAt G n = some x ∧ d = .lst ((kids x).map D.str)
theorem ok__law_t_after (T : Txt K mg C) (DB : DefB K mg "_law_t_after" s__law_t_after ["_law_game", "_law_name"]) : C8.Cal P w K mg base 1 "_law_t_after" (spG C false preAft postAft) [] := by
  refine cal_ok DB sc__law_t_after (fun L ds n hp => ?_) fun f cdv A outer sh H E hr => ?_
  · obtain ⟨_, _, _, _, _, _, rfl, _⟩ := hp; rfl
  have nd := sc__law_t_after.nd
  refine ⟨_, (pss_cons (ps_asg (pe_dget (hu_of hr) (pv 0) (pv 1) (fun _ _ => rfl)) (pg_tupK (n := 2) K rfl (pgs_cons (pg_name (i := 2) nd rfl (Or.inl rfl)) (pgs_cons (pg_name (i := 3) nd rfl (Or.inr rfl)) pgs_nil))))
    (pss_cons (ps_if (pt_cmpR op_eq (pv 2) pe_str (nomark _)) (pss_one (ps_ret (pe_lst pa_nil))) pss_nil)
    (pss_cons (ps_set (i := 4) nd rfl (Or.inr rfl) (pe_ifExp (pt_cmpR op_eq (pv 2) pe_str (nomark _)) (pe_lc (own := [("_law_lot", 7)]) rfl nd (pi_listK K (pv 3)) (blkOk_by (own := [("_law_lot", 7)]) (N := N__law_t_after) (sc := C8.fnScope s__law_t_after) (by decide +kernel)) (fun _ _ _ _ _ => pg_name (i := 7) nd rfl (Or.inl rfl)) (fun _ _ _ _ _ => pts_nil) (fun _ _ _ _ _ => (pe_ix (r := rIxT K) ix_tup (pv 7) pe_int (fun _ _ => rfl)))) (pe_lock (pe_lc (own := [("_law_move", 8)]) rfl nd (pi_keys (pv 3)) (blkOk_by (own := [("_law_move", 8)]) (N := N__law_t_after) (sc := C8.fnScope s__law_t_after) (by decide +kernel)) (fun _ _ _ _ _ => pg_name (i := 8) nd rfl (Or.inl rfl)) (fun _ _ _ _ _ => pts_nil) (fun _ _ _ _ _ => (pe_dget (hu_of hr) (pv 3) (pv 8) (fun _ _ => rfl)))))))
    (pss_one (ps_ret (pe_lc (own := [("_law_at", 5), ("_law_place", 6)]) rfl nd (pi_enumK K (by rfl) T.n_enumerate (pa_cons (pv 4) pa_nil)) (blkOk_by (own := [("_law_at", 5), ("_law_place", 6)]) (N := N__law_t_after) (sc := C8.fnScope s__law_t_after) (by decide +kernel)) (fun _ _ _ _ _ => pg_tupK (n := 2) K rfl (pgs_cons (pg_name (i := 5) nd rfl (Or.inl rfl)) (pgs_cons (pg_name (i := 6) nd rfl (Or.inl rfl)) pgs_nil))) (fun _ _ _ _ _ => (pts_one (pt_cmpR (r := rIn K true) op_notIn_seq (pv 6) (pe_slice (r := rSlL K) sl_list (pv 4) po_none (po_some (pv 5))) (by rfl)))) (fun _ _ _ _ _ => (pv 6)))))))), fun sa ca L F0 H0 ds n hp => ?_⟩
  obtain ⟨g, ad, G, rk, m, x, rfl, hG, hx0, haL⟩ := hp
  have hx := hG.ok m x hx0
  have e0 := nodeAt_eq hG.nd hx0
  have htl := hx.tl
  have h1 : lk (gkv ad G) m = some (nodeD (ad m) x) := by rw [lk_gkv, e0]; rfl
  repeat walk_at "gw"
  refine ⟨_, h1, ?_⟩
  repeat walk_at "gw"
  rcases (show (∃ q, x = .en q) ∨ decide (word x = ("end" : Str)) = false from by cases x with
    | en q => exact .inl ⟨q, rfl⟩
    | ch ls => exact .inr w_che
    | mv s ms => exact .inr w_mve) with ⟨q, rfl⟩ | hw
  · refine yesI w_ene ?_
    repeat walk_at "gw"
    exact ⟨g, ad, G, m, .en q, rfl, e0, rfl⟩
  refine noI hw (ws_next (ws_seq (ws_set (we_mono (Q := fun d n2 => d = .lst ((targets x).map D.str) ∧ n2 = n) ?_ ?_))))
  · cases x with
    | en q => rw [w_ene] at hw; cases hw
    | ch ls =>
      repeat walk_at "gw"
      refine we_map (f := fun z => match z with | .tup (x :: _) => x | _ => .non) (by decide) ?_
      repeat walk_at "gw"
      refine ⟨?_, fun z hz => ?_, (targets (.ch ls)).map D.str, ?_, rfl, rfl⟩
      · rw [List.length_map]; exact Nat.le_trans hx.2.1 (by decide)
      · obtain ⟨q, hq, rfl⟩ := List.mem_map.mp hz
        repeat walk_at "gw"
        exact ⟨rfl, rfl⟩
      · unfold targets
        rw [List.map_map, List.map_map]
        rfl
    | mv s ms =>
      repeat walk_at "gw"
      refine noI w_mvc ?_
      refine we_lock (a := ad m) ?_ ?_ ?_ fun od => we_map (f := fun z => match z with | .str k => (match lkp ms k with | some c => D.str c | none => .non) | _ => .non) (by decide) (wi_keys ?_)
      · exact ⟨3, _, _, rfl, .refl⟩
      · exact List.not_mem_nil
      · exact haL s ms rfl
      repeat walk_at "gw"
      refine ⟨ad m, mvD ms, od, rfl, List.mem_cons_self, ?_, fun z hz => ?_, (targets (.mv s ms)).map D.str, ?_, rfl, rfl⟩
      · rw [keys_mvD, List.length_map, List.length_map]; exact Nat.le_trans hx.2.1 (by decide)
      · rw [keys_mvD] at hz
        obtain ⟨k, hk, rfl⟩ := List.mem_map.mp hz
        obtain ⟨c, hc⟩ := lkp_of hk
        repeat walk_at "gw"
        refine ⟨.str c, by rw [lk_mvD, hc]; rfl, ?_⟩
        exact ⟨by simp only [hc], rfl⟩
      · rw [keys_mvD, List.map_map, List.map_map]
        unfold targets
        rw [List.map_map]
        refine List.map_congr_left fun q hq => ?_
        have := lkp_eq hx.2.2.1 (x := q.2) hq
        show (match lkp ms q.1 with | some c => D.str c | none => .non) = D.str q.2
        rw [this]
  · rintro d n2 ⟨rfl, rfl⟩
    refine ws_ret (we_filterP (f := fun z => match z with | .tup [_, x] => x | _ => .non) (p := fun z => match z with | .tup [.int i, .str y] => !decide (y ∈ (targets x).take i.toNat) | _ => false) (by decide) (by decide) ?_)
    repeat walk_at "gw"
    refine ⟨?_, fun z hz => ?_, (kids x).map D.str, enum_pick _, ⟨g, ad, G, m, x, rfl, e0, rfl⟩⟩
    · unfold enumD; rw [List.length_mapIdx, List.length_map]; omega
    · unfold enumD at hz
      obtain ⟨i, hi, rfl⟩ := List.mem_mapIdx.mp hz
      rw [List.length_map] at hi
      rw [List.getElem_map]
      refine ⟨_, _, rfl, ?_, fun _ => ?_⟩
      · repeat walk_at "gw"
        rw [cutD_take, ← List.map_take]
        refine ro_ninL ?_
        exact ⟨_, rfl, rfl, rfl⟩
      · repeat walk_at "gw"
        exact ⟨rfl, rfl⟩
end
end Gw

/-! The law's own worths. -/
namespace Gw
open PySem L2
local macro_rules | `(tactic| walk_at "gw") => `(tactic| first
  | (with_reducible refine ws_seq ?_)
  | (with_reducible refine ws_ret ?_)
  | (with_reducible refine ws_newl ?_)
  | (with_reducible refine ws_newd ?_)
  | (with_reducible refine ws_set ?_)
  | (with_reducible refine ws_par3 ?_)
  | (with_reducible refine ws_par ?_)
  | (with_reducible refine ws_if ?_)
  | (with_reducible refine ws_next ?_)
  | (with_reducible refine ws_cont ?_)
  | (with_reducible refine ws_asgP ?_)
  | (with_reducible refine ws_asgP3 ?_)
  | ((with_reducible refine' ws_app ?h ?_); (case h => rfl))
  | ((with_reducible refine' ws_clear ?h ?_); (case h => rfl))
  | ((with_reducible refine' ws_dput ?h ?_); (case h => rfl))
  | (with_reducible refine ws_drop ?_)
  | ((with_reducible refine' we_var ?h ?_); (case h => rfl))
  | (with_reducible refine we_int ?_)
  | (with_reducible refine we_str ?_)
  | (with_reducible refine we_bl ?_)
  | (with_reducible refine we_non ?_)
  | (with_reducible refine we_ty ?_)
  | ((with_reducible refine' we_ixM ?h ?e ?_); (case h => rfl); (case e => exact atI_last _ _))
  | ((with_reducible refine' we_ixO ?h ?_); (case h => rfl))
  | (with_reducible refine we_neg ?_)
  | (with_reducible refine we_op ?_)
  | (with_reducible refine ro_I0 ?_)
  | (with_reducible refine ro_B0 ?_)
  | ((with_reducible refine ro_I ?h ?_); (case h => first | assumption | omega))
  | ((with_reducible refine' ro_ixT ?h ?_); (case h => rfl))
  | (with_reducible refine ro_inT2 ?_)
  | (with_reducible refine ro_ninT2 ?_)
  | (with_reducible refine ro_eqS ?_)
  | (with_reducible refine ro_neS ?_)
  | (with_reducible refine ro_eqI ?_)
  | (with_reducible refine ro_neI ?_)
  | (with_reducible refine ro_eqB ?_)
  | (with_reducible refine ro_notNon ?_)
  | (with_reducible refine ro_neB ?_)
  | ((with_reducible refine' we_dgetO ?h ?_); (case h => rfl))
  | ((with_reducible refine' we_dinO ?h ?_); (case h => rfl))
  | ((with_reducible refine' we_dnotinO ?h ?_); (case h => rfl))
  | (with_reducible refine we_dget ?_)
  | (with_reducible refine we_din ?_)
  | (with_reducible refine we_dnotin ?_)
  | ((with_reducible refine we_tup ?_))
  | ((with_reducible refine we_lst ?_))
  | (with_reducible refine wa_cons ?_)
  | (with_reducible refine wa_nil ?_)
  | (with_reducible refine we_cb ?_)
  | (with_reducible refine we_chain ?_)
  | (with_reducible refine we_if ?_)
  | (with_reducible refine we_andV ?_)
  | (with_reducible refine we_orV ?_)
  | (with_reducible refine we_notV ?_)
  | (with_reducible refine wt_test ?_)
  | (with_reducible refine wt_B ?_)
  | (with_reducible refine wt_not ?_)
  | (with_reducible refine wt_and ?_)
  | (with_reducible refine wt_or ?_)
  | (with_reducible refine wt_ifT ?_)
  | (with_reducible refine we_call ?_)
  | ((with_reducible refine' we_callS ?h ?_); (case h => rfl))
  | ((with_reducible refine' we_meth ?h ?_); (case h => decide +kernel))
  | (with_reducible refine rc_abs ?_)
  | (with_reducible refine rc_int ?_)
  | (with_reducible refine rc_lenL ?_)
  | (with_reducible refine rc_lenT ?_)
  | (with_reducible refine rc_lenD ?_)
  | (with_reducible refine rc_lenLS ?_)
  | (with_reducible refine rc_sum ?_)
  | (with_reducible refine rc_tupT ?_)
  | ((with_reducible refine' rc_isi ?ht ?hb ?_); (case ht => rfl); (case hb => first | exact kb_int_int | exact kb_int_bool | exact kb_int_list | exact kb_int_tuple | exact kb_str_str | exact kb_dict_dict | exact kb_list_list | exact kb_list_tuple | exact kb_tuple_list | exact kb_tuple_tuple | exact kb_bool_int | exact kb_bool_bool))
  | ((with_reducible refine' rc_isiT ?ht ?h1 ?h2 ?_); (case ht => rfl); (case h1 => first | exact kb_int_int | exact kb_int_bool | exact kb_int_list | exact kb_int_tuple | exact kb_str_str | exact kb_dict_dict | exact kb_list_list | exact kb_list_tuple | exact kb_tuple_list | exact kb_tuple_tuple | exact kb_bool_int | exact kb_bool_bool); (case h2 => first | exact kb_int_int | exact kb_int_bool | exact kb_int_list | exact kb_int_tuple | exact kb_str_str | exact kb_dict_dict | exact kb_list_list | exact kb_list_tuple | exact kb_tuple_list | exact kb_tuple_tuple | exact kb_bool_int | exact kb_bool_bool))
  | (with_reducible refine rc_allT ?_)
  | (with_reducible refine rc_anyF ?_)
  | (with_reducible refine rc_all ?_)
  | (with_reducible refine rc_any ?_)
  | (with_reducible refine rc_listD ?_)
  | (with_reducible refine rc_dictD fun _ _ => ?_)
  | (with_reducible refine we_rev ?_)
  | (with_reducible refine we_slL ?_)
  | (with_reducible refine wo_no ?_)
  | (with_reducible refine wo_part ?_)
  | (with_reducible refine we_listVals ?_)
  | ((with_reducible refine' we_fld ?hc ?hn ?_); (case hc => assumption); (case hn => assumption))
  | (with_reducible refine wi_list ?_)
  | (with_reducible refine wi_range1 ?_)
  | (with_reducible refine wi_str ?_)
  | (with_reducible refine wi_enum ?_)
  | (with_reducible refine wg_name ?_)
  | (with_reducible refine wg_two ?_)
  | (refine ⟨Nat.le_of_ble_eq_true rfl, ?_⟩)
  | (refine ⟨_, rfl, ?_⟩)
  | (refine ⟨_, _, rfl, ?_⟩)
  | (refine ⟨_, _, _, rfl, rfl, ?_⟩)
  | (refine ⟨_, _, _, rfl, ?_⟩)
  | (refine ⟨fun _ => ?_, fun z => Bool.noConfusion z⟩)
  | (refine ⟨fun z => Bool.noConfusion z, fun _ => ?_⟩)
  | (refine ⟨fun _ => ?_, fun z => absurd z (by decide +kernel)⟩)
  | (refine ⟨fun z => absurd z (by decide +kernel), fun _ => ?_⟩))
section
variable {P : Program} {w : World} {K : PySem.W.Frag} {mg : Str → Option Value} {base : Heap} {C : Addr}
abbrev s__law_t_worths : Stmt := top 52
abbrev N__law_t_worths : List Str := ["_law_game", "_law_plans", "_law_found", "_law_turn", "_law_name", "_law_word", "_law_rest", "_law_place", "_law_weight", "_law_move"]
theorem sc__law_t_worths : FnScope N__law_t_worths ["_law_game", "_law_plans"] (C8.fnScope s__law_t_worths) := C8.fnScope_by (by decide +kernel)
def preLW : List Addr → List D → Nat → Prop := fun L ds _ => ∃ (g : Addr) (ad : Str → Addr) (G : Gm) (rk : Str → Nat) (o : Option Addr) (kvs : List (Str × D)) (pl : Plans), ds = [gameD g ad G, .dct o kvs] ∧ GOk G rk ∧ PlansOk G pl ∧ PlD kvs pl ∧ Free L g ad G
def postLW : Hp → List D → Nat → D → Nat → Prop := fun _ ds _ d _ => ∃ (g : Addr) (ad : Str → Addr) (G : Gm) (o o' : Option Addr) (kvs : List (Str × D)) (pl : Plans) (xs : List Str), ds = [gameD g ad G, .dct o kvs] ∧ PlD kvs pl ∧ d = .dct o' (tabD (worth G pl) xs) ∧ (∀ n ∈ names G, n ∈ xs) ∧ xs.Nodup ∧ ∀ n ∈ xs, n ∈ names G
theorem lk_tab_none {f : Str → Int × Int} : ∀ {xs : List Str} {n : Str}, n ∉ xs → lk (tabD f xs) n = none
  | [], n, _ => rfl
  | x :: xs, n, h => (lk_neg (q := (x, fr (f x))) (fun e => h (by rw [show x = n from e]; exact List.mem_cons_self))).trans (lk_tab_none fun z => h (List.mem_cons_of_mem _ z))
theorem lk_tab_some (f : Str → Int × Int) (xs : List Str) (n : Str) : (lk (tabD f xs) n).isSome = decide (n ∈ xs) := by
  by_cases h : n ∈ xs
  · rw [lk_tab h, decide_eq_true h]; rfl
  · rw [lk_tab_none h, decide_eq_false h]; rfl
/-- after t turns and i places of the next -/
structure TInv (G : Gm) (rk : Str → Nat) (t i : Nat) (fs : List Str) : Prop where
  nd : fs.Nodup
  sub : ∀ f ∈ fs, f ∈ names G
  old : ∀ n ∈ names G, rk n < t → n ∈ fs
  cur : ∀ n ∈ (names G).take i, rk n ≤ t → n ∈ fs
theorem ok__law_t_worths (T : Txt K mg C) (DB : DefB K mg "_law_t_worths" s__law_t_worths ["_law_game", "_law_plans"]) (c__law_t_after : C8.Cal P w K mg base 1 "_law_t_after" (spG C false preAft postAft) []) (c__law_t_lowest : C8.Cal P w K mg base 1 "_law_t_lowest" (spG C false preLow postLow) []) (c__law_t_mean : C8.Cal P w K mg base 2 "_law_t_mean" (spG C false preRows postMean) []) (c__law_t_best : C8.Cal P w K mg base 2 "_law_t_best" (spG C false preBest postBest) []) : C8.Cal P w K mg base 3 "_law_t_worths" (spG C false preLW postLW) [] := by
  refine cal_ok DB sc__law_t_worths (fun L ds n hp => ?_) fun f cdv A outer sh H E hr => ?_
  · obtain ⟨_, _, _, _, _, _, _, rfl, _⟩ := hp; rfl
  have nd := sc__law_t_worths.nd
  refine ⟨_, (pss_cons (ps_set (i := 2) nd rfl (Or.inr rfl) pe_dnewK)
    (pss_cons (ps_for PassesOwn.never rfl (pi_range1 (by rfl) T.n_range (pa_cons (pe_callB (r := cLenD) call_lenD1 (by rfl) T.n_len (by decide +kernel) (pa_cons (pv 0) pa_nil)) pa_nil)) (pg_name (i := 3) nd rfl (Or.inl rfl))
      (pss_one (ps_lock (ps_for PassesOwn.never rfl (pi_keys (pv 0)) (pg_name (i := 4) nd rfl (Or.inl rfl))
        (pss_cons (ps_asg (pe_dget (hu_of hr) (pv 0) (pv 4) (fun _ _ => rfl)) (pg_tupK (n := 2) K rfl (pgs_cons (pg_name (i := 5) nd rfl (Or.inl rfl)) (pgs_cons (pg_name (i := 6) nd rfl (Or.inr rfl)) pgs_nil))))
        (pss_one (ps_if (PW.pt (pw_and (pt_cmp (pc_dnotin (hu_of hr) (pv 4) (pv 2))) (pw_and1 (pt_val (pe_callB (r := rAll K) (cr_all rfl) (by rfl) T.n_all (by decide +kernel) (pa_cons (pe_lc (own := [("_law_place", 7)]) rfl nd (pi_listK K (C8.pe_c c__law_t_after hr (by decide) (by rfl) (pa_cons (pv 0) (pa_cons (pv 4) pa_nil)))) (blkOk_by (own := [("_law_place", 7)]) (N := N__law_t_worths) (sc := C8.fnScope s__law_t_worths) (by decide +kernel)) (fun _ _ _ _ _ => pg_name (i := 7) nd rfl (Or.inl rfl)) (fun _ _ _ _ _ => pts_nil) (fun _ _ _ _ _ => (pe_cmp (pc_din (hu_of hr) (pv 7) (pv 2))))) pa_nil)))))) (pss_one (ps_if (pt_cmpR op_eq (pv 5) pe_str (nomark _)) (pss_one (ps_dput (hu_of hr) (pv 2) (pv 4) (C8.pe_c c__law_t_lowest hr (by decide) (by rfl) (pa_cons (pe_ix (r := rIxT K) ix_tup (pv 6) pe_int (fun _ _ => rfl)) (pa_cons (pe_ix (r := rIxT K) ix_tup (pv 6) pe_int (fun _ _ => rfl)) pa_nil))) rfl)) (pss_one (ps_if (pt_cmpR op_eq (pv 5) pe_str (nomark _)) (pss_one (ps_dput (hu_of hr) (pv 2) (pv 4) (C8.pe_c c__law_t_mean hr (by decide) (by rfl) (pa_cons (pe_lc (own := [("_law_place", 7), ("_law_weight", 8)]) rfl nd (pi_listK K (pv 6)) (blkOk_by (own := [("_law_place", 7), ("_law_weight", 8)]) (N := N__law_t_worths) (sc := C8.fnScope s__law_t_worths) (by decide +kernel)) (fun _ _ _ _ _ => pg_tupK (n := 2) K rfl (pgs_cons (pg_name (i := 7) nd rfl (Or.inl rfl)) (pgs_cons (pg_name (i := 8) nd rfl (Or.inl rfl)) pgs_nil))) (fun _ _ _ _ _ => pts_nil) (fun _ _ _ _ _ => (pe_tup (pa_cons (pv 8) (pa_cons (pe_dget (hu_of hr) (pv 2) (pv 7) (fun _ _ => rfl)) pa_nil))))) pa_nil)) rfl)) (pss_one (ps_if (pt_cmp (pc_din (hu_of hr) (pv 5) (pv 1))) (pss_one (ps_dput (hu_of hr) (pv 2) (pv 4) (pe_dget (hu_of hr) (pv 2) (pe_dget (hu_of hr) (pv 6) (pe_dget (hu_of hr) (pe_dget (hu_of hr) (pv 1) (pv 5) (fun _ _ => rfl)) (pv 4) (fun _ _ => rfl)) (fun _ _ => rfl)) (fun _ _ => rfl)) rfl)) (pss_one (ps_dput (hu_of hr) (pv 2) (pv 4) (C8.pe_c c__law_t_best hr (by decide) (by rfl) (pa_cons (pe_lock (pe_lc (own := [("_law_move", 9)]) rfl nd (pi_keys (pv 6)) (blkOk_by (own := [("_law_move", 9)]) (N := N__law_t_worths) (sc := C8.fnScope s__law_t_worths) (by decide +kernel)) (fun _ _ _ _ _ => pg_name (i := 9) nd rfl (Or.inl rfl)) (fun _ _ _ _ _ => pts_nil) (fun _ _ _ _ _ => (pe_dget (hu_of hr) (pv 2) (pe_dget (hu_of hr) (pv 6) (pv 9) (fun _ _ => rfl)) (fun _ _ => rfl))))) (pa_cons (pe_cmpR op_eq (pv 5) pe_str (nomark _)) pa_nil))) rfl)))))))) pss_nil)))))))
    (pss_one (ps_ret (pv 2))))), fun sa ca L F0 H0 ds n hp => ?_⟩
  obtain ⟨g, ad, G, rk, o, kvs, pl, rfl, hG, hpl, hpd, hgL, haL⟩ := hp
  have hlen := hG.len
  have hNl : (names G).length = G.length := by unfold names; rw [List.length_map]
  have hgl : (gkv ad G).length = G.length := by unfold gkv; rw [List.length_map]
  have hW : ∀ n ∈ names G, 0 < (worth G pl n).2 ∧ Big (worth G pl n) := fun n hn => worth_big hG hpl hn
  repeat walk_at "gw"
  refine ws_forN ?_
  repeat walk_at "gw"
  refine ⟨by omega, by omega, fun t l _ => ∃ fs x3 x4 x5 x6 x7 x8 x9, l = [.sh (gameD g ad G), .sh (.dct o kvs), .owd (tabD (worth G pl) fs), x3, x4, x5, x6, x7, x8, x9] ∧ TInv G rk t 0 fs, ⟨[], _, _, _, _, _, _, _, rfl, List.nodup_nil, (fun _ h => by cases h), (fun _ _ h => absurd h (Nat.not_lt_zero _)), fun _ h => by simp at h⟩, ?_, ?_⟩
  · rintro t d l1 n1 ht ⟨fs, x3, x4, x5, x6, x7, x8, x9, rfl, hI⟩
    refine ws_lock (a := g) ?_ ?_ ?_ fun od => ws_forN (wi_keys ?_)
    · exact ⟨0, _, _, rfl, .refl⟩
    · exact List.not_mem_nil
    · exact hgL
    repeat walk_at "gw"
    refine ⟨g, _, od, rfl, List.mem_cons_self, fun i l _ => ∃ fs x3 x4 x5 x6 x7 x8 x9, l = [.sh (gameD g ad G), .sh (.dct o kvs), .owd (tabD (worth G pl) fs), x3, x4, x5, x6, x7, x8, x9] ∧ TInv G rk t i fs, ⟨fs, _, _, _, _, _, _, _, rfl, hI⟩, ?_, ?_⟩
    · clear hI
      rintro i d l1 n1 hi ⟨fs, x3, x4, x5, x6, x7, x8, x9, rfl, hI⟩
      rw [keys_gkv, List.getElem?_map] at hi
      cases hn : (names G)[i]? with
      | none => rw [hn] at hi; cases hi
      | some m =>
      rw [hn] at hi
      cases hi
      have hm := List.mem_of_getElem? hn
      obtain ⟨y, h1, h2, h3, h4⟩ := hG.lk hm ad
      have htk : (names G).take (i + 1) = (names G).take i ++ [m] := by rw [List.take_add_one, hn]; rfl
      have hfl := nodup_len hI.nd hI.sub
      refine ws_difN (g := g) (ad := ad) (G := G) ⟨0, _, rfl, .refl⟩ h3 h4 hG.ne fun hne => ?_
      repeat walk_at "gw"
      refine ⟨_, h1, ?_⟩
      repeat walk_at "gw"
      rw [lk_tab_some]
      refine ⟨fun hb => ?_, fun hb => ?_⟩
      · have hmf : m ∉ fs := by simpa using hb
        have htl := h4.tl
        have hw := worth_eq hG pl h3
        repeat walk_at "gw"
        refine we_map (f := fun z => match z with | .str c => .bl (decide (c ∈ fs)) | _ => .non) (by decide) ?_
        repeat walk_at "gw"
        refine ⟨⟨g, ad, G, rk, m, y, rfl, hG, h3, fun s ms e z => ?_⟩, ?_⟩
        · rcases List.mem_append.mp z with z | z
          · rw [List.mem_singleton.mp z] at hne
            exact hne s ms e rfl
          · rw [e] at h3
            exact haL m s ms h3 z
        rintro d n2 H' _ ⟨g', ad', G', m', x', he, hx', rfl⟩
        simp only [List.cons.injEq, D.str.injEq, and_true] at he
        obtain ⟨eg, rfl⟩ := he
        obtain ⟨-, rfl⟩ := gameD_inj eg
        rw [h2] at hx'
        cases hx'
        refine ⟨_, rfl, ?_, fun z hz => ?_, ((kids y).map fun c => decide (c ∈ fs)).map D.bl, ?_, ?_⟩
        · rw [List.length_map]; exact Nat.le_trans (uniq_len _) (Nat.le_trans htl (by decide))
        · obtain ⟨c, hc, rfl⟩ := List.mem_map.mp hz
          repeat walk_at "gw"
          rw [lk_tab_some]
          exact ⟨rfl, rfl⟩
        · rw [List.map_map, List.map_map]
          rfl
        repeat walk_at "gw"
        refine ⟨fun hall => ?_, fun hall => ?_⟩
        · have hkid : ∀ c ∈ targets y, c ∈ fs := fun c hc => by
            have := List.all_eq_true.mp hall (decide (c ∈ fs)) (List.mem_map.mpr ⟨c, mem_uniq hc, rfl⟩)
            simpa using this
          have hput := put_tab (f := worth G pl) hmf
          have hT : TInv G rk t (i + 1) (fs ++ [m]) := by
            refine ⟨?_, fun f hf => ?_, fun n hn hr => List.mem_append_left _ (hI.old n hn hr), fun n hn2 hr2 => ?_⟩
            · rw [List.nodup_append]
              exact ⟨hI.nd, by simp, fun a ha b hb => by cases List.mem_singleton.mp hb; exact fun e => hmf (by rw [← e]; exact ha)⟩
            · rcases List.mem_append.mp hf with hf | hf
              · exact hI.sub f hf
              · cases List.mem_singleton.mp hf; exact hm
            · rw [htk] at hn2
              rcases List.mem_append.mp hn2 with h | h
              · exact List.mem_append_left _ (hI.cur n h hr2)
              · rw [List.mem_singleton.mp h]; simp
          have htl2 : (tabD (worth G pl) fs).length < 100000 := by unfold tabD; rw [List.length_map]; omega
          have hfin : ∀ d, d = fr (worth G pl m) → putD (tabD (worth G pl) fs) m d = tabD (worth G pl) (fs ++ [m]) := fun d e => by rw [e, hput]
          repeat walk_at "gw"
          cases y with
          | en q =>
            refine yesI w_ene ?_
            repeat walk_at "gw"
            refine ⟨⟨_, _, rfl, h4.1, Nat.lt_of_lt_of_le h4.2.2 (Nat.pow_le_pow_right (by decide) (by decide))⟩, ?_⟩
            rintro d n2 H' _ ⟨t', b', he, rfl⟩
            simp only [List.cons.injEq, D.int.injEq, and_true] at he
            obtain ⟨rfl, rfl⟩ := he
            repeat walk_at "gw"
            refine ⟨htl2, ?_⟩
            rw [hfin _ (by rw [hw]; rfl)]
            exact ⟨fs ++ [m], _, _, _, _, _, _, _, rfl, hT⟩
          | ch ls =>
            obtain ⟨hne', hll, hnd, hls⟩ := h4
            refine noI w_che ?_
            repeat walk_at "gw"
            refine we_mapP (f := fun z => match z with | .tup [.str p, .int w] => rowD (w, worth G pl p) | _ => .non) (by decide) (by decide) ?_
            repeat walk_at "gw"
            have hrows : ∀ r ∈ ls.map (fun q => (q.2, worth G pl q.1)), RowOk r := fun r hr => by
              obtain ⟨q, hq, rfl⟩ := List.mem_map.mp hr
              have hq2 := (hls q hq).2
              have hc := hW q.1 (hls q hq).1
              exact ⟨by show 0 < q.2; omega, by show q.2 ≤ 10; omega, hc.1, hc.2⟩
            refine ⟨by rw [List.length_map]; omega, fun z hz => ?_, (ls.map fun q => (q.2, worth G pl q.1)).map rowD, ?_, ?_⟩
            · obtain ⟨q, hq, rfl⟩ := List.mem_map.mp hz
              refine ⟨_, _, rfl, ?_⟩
              repeat walk_at "gw"
              refine ⟨_, lk_tab (hkid q.1 (List.mem_map.mpr ⟨q, hq, rfl⟩)), ?_⟩
              repeat walk_at "gw"
              exact ⟨rfl, rfl⟩
            · rw [List.map_map, List.map_map]
              rfl
            repeat walk_at "gw"
            refine ⟨⟨_, rfl, by simpa using hne', by rw [List.length_map]; exact hll, hrows⟩, ?_⟩
            rintro d n2 H' _ ⟨rows', he, rfl⟩
            simp only [List.cons.injEq, D.lst.injEq, and_true] at he
            have he := rowD_inj he
            subst he
            repeat walk_at "gw"
            refine ⟨htl2, ?_⟩
            rw [hfin _ (by rw [hw]; rfl)]
            exact ⟨fs ++ [m], _, _, _, _, _, _, _, rfl, hT⟩
          | mv s ms =>
            obtain ⟨hne', hll, hnd, hms⟩ := h4
            refine noI w_mve ?_
            repeat walk_at "gw"
            refine noI w_mvc ?_
            repeat walk_at "gw"
            rcases hpd s with ⟨e1, e2⟩ | ⟨p, a1, e1, e2⟩
            · refine noI (by show (lk kvs (sideS s)).isSome = false; rw [e2]; rfl) ?_
              have hqs : ∀ q ∈ ms.map (fun q => worth G pl q.2), Big q := fun q hq => by
                obtain ⟨z, hz, rfl⟩ := List.mem_map.mp hq
                exact (hW z.2 (hms z hz).2.2).2
              have hlen2 : (ms.map fun q => worth G pl q.2).length ≤ 1000 := by rw [List.length_map]; omega
              have hne2 : (ms.map fun q => worth G pl q.2) ≠ [] := by simpa using hne'
              refine ws_dput (i := 2) rfl ?_
              refine we_call (wa_cons ?_)
              refine we_lock (a := ad m) ?_ ?_ ?_ fun od2 => we_map (f := fun z => match z with | .str k => (match lkp ms k with | some c => fr (worth G pl c) | none => .non) | _ => .non) (by decide) (wi_keys ?_)
              · exact ⟨6, _, _, rfl, .refl⟩
              · intro z; rw [List.mem_singleton.mp z] at hne; exact hne s ms rfl rfl
              · exact haL m s ms h3
              repeat walk_at "gw"
              refine ⟨ad m, mvD ms, od2, rfl, List.mem_cons_self, ?_, fun z hz => ?_, (ms.map fun q => worth G pl q.2).map fr, ?_, ?_⟩
              · rw [keys_mvD, List.length_map, List.length_map]; omega
              · rw [keys_mvD] at hz
                obtain ⟨k, hk, rfl⟩ := List.mem_map.mp hz
                obtain ⟨c, hc⟩ := lkp_of hk
                repeat walk_at "gw"
                refine ⟨.str c, by rw [lk_mvD, hc]; rfl, ?_⟩
                repeat walk_at "gw"
                refine ⟨_, lk_tab (hkid c (List.mem_map.mpr ⟨_, lkp_mem hc, rfl⟩)), ?_⟩
                exact ⟨by simp only [hc], rfl⟩
              · rw [keys_mvD, List.map_map, List.map_map, List.map_map]
                refine List.map_congr_left fun q hq => ?_
                have := lkp_eq hnd (x := q.2) hq
                show (match lkp ms q.1 with | some c => fr (worth G pl c) | none => .non) = fr (worth G pl q.2)
                rw [this]
              repeat walk_at "gw"
              refine ⟨⟨_, _, rfl, hne2, hlen2, hqs⟩, ?_⟩
              rintro d n2 H' _ ⟨qs, b, he, rfl⟩
              simp only [List.cons.injEq, D.lst.injEq, D.bl.injEq, and_true] at he
              obtain ⟨he, rfl⟩ := he
              have he := frL_inj he
              subst he
              repeat walk_at "gw"
              refine ⟨htl2, ?_⟩
              rw [hfin _ (by rw [hw, stepW_none e1]; cases s <;> (unfold bestF; rfl))]
              exact ⟨fs ++ [m], _, _, _, _, _, _, _, rfl, hT⟩
            · obtain ⟨mm, c, p1, p2, p3⟩ := planTo_of (hpl s p e1) h3
              refine yesI (by show (lk kvs (sideS s)).isSome = true; rw [e2]; rfl) ?_
              repeat walk_at "gw"
              refine ⟨_, e2, ?_⟩
              repeat walk_at "gw"
              refine ⟨.str mm, by rw [lk_mvD, p1]; rfl, ?_⟩
              repeat walk_at "gw"
              refine ⟨.str c, by rw [lk_mvD, p2]; rfl, ?_⟩
              repeat walk_at "gw"
              refine ⟨_, lk_tab (hkid c (planTo_mem p3)), ?_⟩
              repeat walk_at "gw"
              refine ⟨htl2, ?_⟩
              rw [hfin _ (by rw [hw, stepW_some e1 p3])]
              exact ⟨fs ++ [m], _, _, _, _, _, _, _, rfl, hT⟩
        · refine ws_next ⟨fs, _, _, _, _, _, _, _, rfl, hI.nd, hI.sub, hI.old, fun n hn2 hr2 => ?_⟩
          rw [htk] at hn2
          rcases List.mem_append.mp hn2 with h | h
          · exact hI.cur n h hr2
          · cases List.mem_singleton.mp h
            exfalso
            have : ((kids y).map fun c => decide (c ∈ fs)).all id = true := List.all_eq_true.mpr fun b hb => by
              obtain ⟨c, hc, rfl⟩ := List.mem_map.mp hb
              have hct := kids_sub hc
              exact decide_eq_true (hI.old c (h4.tg c hct) (Nat.lt_of_lt_of_le (hG.up m y h3 c hct) hr2))
            rw [hall] at this
            cases this
      · have hmf : m ∈ fs := by simpa using hb
        refine ⟨fun z => Bool.noConfusion z, fun _ => ws_next ⟨fs, _, _, _, _, _, _, _, rfl, hI.nd, hI.sub, hI.old, fun n hn2 hr2 => ?_⟩⟩
        rw [htk] at hn2
        rcases List.mem_append.mp hn2 with h | h
        · exact hI.cur n h hr2
        · rw [List.mem_singleton.mp h]; exact hmf
    · rintro l1 n1 ⟨fs, x3, x4, x5, x6, x7, x8, x9, rfl, hI⟩
      refine ⟨fs, _, _, _, _, _, _, _, rfl, hI.nd, hI.sub, fun n hn hr => hI.cur n ?_ (by omega), fun _ h => by simp at h⟩
      rw [List.length_map, keys_gkv, List.take_length]
      exact hn
  · rintro l1 n1 ⟨fs, x3, x4, x5, x6, x7, x8, x9, rfl, hI⟩
    refine ws_frd (i := 2) rfl fun a ha => ?_
    repeat walk_at "gw"
    refine ⟨g, ad, G, o, _, kvs, pl, fs, rfl, hpd, rfl, fun n hn => hI.old n hn ?_, hI.nd, hI.sub⟩
    have := hG.rbl n hn
    rw [List.length_map, List.length_range]
    omega
end
end Gw

/-! A list whose own list is emptied by draws; len of an own list. -/
namespace Gw
open PySem L2
section
variable {X : Cx}
theorem pe_popAtK {o a : Expr} {to ta : TE} {apos cpos : Pos} (K : PySem.W.Frag) (ho : PE X o to) (ha : PE X a ta) (hK : X.K = K := by rfl) (hbase : attributeBase o "pop" X.env (eval o X.env) = eval o X.env := by rfl)
    (hfew : ((backTo cpos (starEach [a] X.env)).all (fun x => !x.1) && (backToKw cpos (keywordEach [] X.env)).all (fun x => x.1.isSome)
      && decide ([a].length + ([] : List Keyword).length + (if ([] : List Keyword).isEmpty then 0 else 1) < 30)) = true := by rfl)
    (hline : (apos.endLine == cpos.line) = true := by rfl) (hs : starEach [a] X.env = (false, eval a X.env) :: starEach [] X.env := by rfl) (hplain : (backTo cpos (starEach [] X.env)).any (·.1) = false := by rfl) :
    PE X (.Call (.Attribute o "pop" apos) [a] [] cpos) (tBM K "list" rPopAt to (tCons ta tNil)) := by
  subst hK
  exact pe_bm PySem.F.plainAttrs_list PySem.F.slot_list_pop PySem.F.type_list_pop mt_popAt ho (pa_cons ha pa_nil hs) hbase hfew hline hs hplain
end
section
variable {B : Bk} {M : List (Addr × Obj)} {σ : L2.St} {l : List Sl} {n n2 : Nat} {F H F2 H2 : Hp} {r : Addr → Option Nat} {p : Addr} {o : HO} {P : Post} {Q : D → Nat → Prop} {tr : TA} {te : TE}
/-- the object at p is nobody's -/
structure Nob (B : Bk) (M : List (Addr × Obj)) (F : Hp) (r : Addr → Option Nat) (p : Addr) : Prop where
  h0 : B.H0 p = none
  fp : F p = none
  rp : r p = none
  nm : p ∉ lks M
  nl : p ∉ B.L
  ns : B.st = true → p ≠ B.sa ∧ p ≠ B.ca
theorem Sta.nob (S : Sta B M σ l n F H r) (hp : H p = none) : Nob B M F r p :=
  ⟨S.h0none hp, S.fnone hp, (by
    cases e : r p with
    | none => rfl
    | some i => exact absurd hp (S.own p i e).2.2.1), fun z => S.lk p (.inl z) hp, fun z => S.lk p (.inr z) hp, S.newS hp⟩
theorem Sta.poke (S : Sta B M σ l n F H r) (N : Nob B M F r p) (o : HO) : Sta B M σ l n F (upd H p o) r := by
  have nn : ∀ {a : Addr}, H a ≠ none → upd H p o a ≠ none := fun {a} h => by
    by_cases e : a = p
    · rw [e, upd_same]; simp
    · rw [upd_ne e]; exact h
  refine ⟨S.len, S.grow, S.new, fun b u e z => ?_, fun b u e => ?_, fun b z => nn (S.lk b z), S.lkd, fun b j e => ?_, S.s0, S.l0, fun z => ?_, fun j t e => ?_⟩
  · have ne : b ≠ p := fun q => by rw [q, N.h0] at e; cases e
    rw [upd_ne ne]; exact S.kept b u e z
  · have ne : b ≠ p := fun q => by rw [q, N.fp] at e; cases e
    rw [upd_ne ne]; exact S.le b u e
  · obtain ⟨a1, a2, a3, a4⟩ := S.own b j e
    exact ⟨a1, a2, nn a3, a4⟩
  · obtain ⟨a1, a2, a3⟩ := S.sm z
    have q := N.ns z
    exact ⟨a1.at (fun o' e => by rw [upd_ne q.1.symm]; exact e) fun o' e => by rw [upd_ne q.2.symm]; exact e, a2, a3⟩
  · have q := S.slots j t e
    cases t with
    | any => trivial
    | raw v => exact q
    | sh d => exact q
    | owl ds =>
      obtain ⟨b, vs, e1, e2, e3, e4⟩ := q
      have ne : b ≠ p := fun z => by rw [z, N.rp] at e2; cases e2
      exact ⟨b, vs, e1, e2, by rw [upd_ne ne]; exact e3, e4⟩
    | owd ds =>
      obtain ⟨b, vs, e1, e2, e3, e4⟩ := q
      have ne : b ≠ p := fun z => by rw [z, N.rp] at e2; cases e2
      exact ⟨b, vs, e1, e2, by rw [upd_ne ne]; exact e3, e4⟩
    | owi p0 dx0 d0 =>
      obtain ⟨vs, e1, e2, e3, e4⟩ := q
      have ne : p0 ≠ p := fun z => by rw [z, N.rp] at e2; cases e2
      exact ⟨vs, e1, e2, by rw [upd_ne ne]; exact e3, e4⟩
theorem Sta.pub (S : Sta B M σ l n F H r) (N : Nob B M F r p) (hp : H p = some o) : Sta B M σ l n (upd F p o) H r := by
  have ex : Ex F (upd F p o) := Ex.new N.fp
  refine ⟨S.len, S.grow.trans ex, fun b e z => ?_, S.kept, fun b u e => ?_, S.lk, fun b u z e => ?_, fun b j e => ?_, S.s0, S.l0, fun z => ?_, fun j t e => ?_⟩
  · have ne : b ≠ p := fun q => e (by rw [q]; exact N.h0)
    rw [upd_ne ne]; exact S.new b e z
  · by_cases ne : b = p
    · subst ne
      rw [upd_same] at e
      cases e
      exact ⟨fun _ _ => hp, fun od y => absurd (List.mem_map.mpr ⟨_, y, rfl⟩) N.nm, fun y => absurd y N.nl⟩
    · rw [upd_ne ne] at e
      exact S.le b u e
  · have ne : b ≠ p := fun q => by subst q; exact z.elim N.nm N.nl
    rw [upd_ne ne] at e
    exact S.lkd b u z e
  · obtain ⟨a1, a2, a3, a4⟩ := S.own b j e
    have ne : b ≠ p := fun q => by rw [q, N.rp] at e; cases e
    exact ⟨by rw [upd_ne ne]; exact a1, a2, a3, a4⟩
  · obtain ⟨a1, a2, a3⟩ := S.sm z
    have q := N.ns z
    exact ⟨a1, by rw [upd_ne q.1.symm]; exact a2, by rw [upd_ne q.2.symm]; exact a3⟩
  · have q := S.slots j t e
    cases t with
    | any => trivial
    | raw v => exact q
    | sh d =>
      obtain ⟨v, e1, e2⟩ := q
      exact ⟨v, e1, e2.mono ex⟩
    | owl ds =>
      obtain ⟨b, vs, e1, e2, e3, e4⟩ := q
      exact ⟨b, vs, e1, e2, e3, e4.mono ex⟩
    | owd ds =>
      obtain ⟨b, vs, e1, e2, e3, e4⟩ := q
      exact ⟨b, vs, e1, e2, e3, e4.mono ex⟩
    | owi p0 dx0 d0 =>
      obtain ⟨vs, e1, e2, e3, e4⟩ := q
      exact ⟨vs, e1, e2, e3, e4.mono ex⟩
theorem er_perm {α : Type} : ∀ {l : List α} {i : Nat} {d : α}, l[i]? = some d → (d :: l.eraseIdx i).Perm l
  | x :: l, 0, d, h => by simp at h; subst h; exact List.Perm.refl _
  | x :: l, i + 1, d, h => by
    have ih := er_perm (l := l) (i := i) (d := d) (by simpa using h)
    rw [List.eraseIdx_cons_succ]
    exact (List.Perm.swap x d _).trans (List.Perm.cons x ih)
theorem we_lenO {i : Nat} {ds : List D} (h : l[i]? = some (.owl ds)) (q : Q (.int (ds.length : Int)) n) : WE B M (tCB (cLenS B.K) (tCons (tVar i) tNil)) l n Q := fun F H σ r S k c => by
  obtain ⟨b, vs, e, rp, hp, hr⟩ := S.slots i _ h
  exact ⟨_, e, b, vs, rfl, .inl (SqL.of hp), c _ F H _ n (by rw [← hr.1] at q; exact q) S.r0 .int⟩
theorem Reps.eraseIdx {C sa : Addr} {F : Hp} {vs : List V} {ds : List D} (h : Reps C sa F vs ds) (k : Nat) : Reps C sa F (vs.eraseIdx k) (ds.eraseIdx k) := by
  rw [List.eraseIdx_eq_take_drop_succ, List.eraseIdx_eq_take_drop_succ]
  exact (h.take k).append (h.drop (k + 1))
/-- return [own.pop(..) for j in ..] -/
theorem ws_ret_lcpop {wi : TI} {i j : Nat} {ds0 : List D} (hi : l[i]? = some (.owl ds0)) (hij : i ≠ j)
    (h : WI B M wi l n fun ks n1 => ks.length ≤ 100000 ∧ ∃ I : Nat → List D → List D → Nat → Prop, I 0 ds0 [] n1 ∧
      (∀ k x ds acc n2, ks[k]? = some x → I k ds acc n2 → WA B M tr ((l.set i (.owl ds)).set j (.sh x)) n2 fun as n3 => ∃ (z : Nat) (d : D), as = [.int (z : Int)] ∧ z < 2 ^ 62 ∧ ds[z]? = some d ∧ I (k + 1) (ds.eraseIdx z) (acc ++ [d]) n3) ∧
      (∀ ds acc n2, I ks.length ds acc n2 → P.rt (.lst acc) n2)) : WS B M (tRet (tLc wi (gName j) tYes (tBM B.K "list" rPopAt (tVar i) tr) [j])) l n P := fun F H σ r S E f =>
  h F H σ r S _ fun J F1 H1 ks n1 q s1 it => by
    obtain ⟨hz, I, h0, hs, hd⟩ := q
    intro p hp
    have S1 := S.step s1
    have N1 := S1.nob hp
    have l0 : (l.set i (.owl ds0)) = l := by
      apply List.ext_getElem?
      intro a
      rw [List.getElem?_set]
      split
      · rename_i e
        subst e
        split
        · exact hi.symm
        · rename_i e; exact absurd (List.getElem?_eq_some_iff.mp hi).1 e
      · rfl
    refine ⟨fun k m H' => m = ks.length - k ∧ k ≤ ks.length ∧ ∃ σ' s F' n' ds acc av, wipe σ' [j] = wipe σ [j] ∧ Sta B M σ' ((l.set i (.owl ds)).set j s) n' F' H' r ∧ Ex F1 F' ∧ Nob B M F' r p ∧ H' p = some (.lst av) ∧ Reps B.C B.sa F' av acc ∧ acc.length ≤ k ∧ I k ds acc n',
      ⟨ks.length, by simp, Nat.zero_le _, σ, (l[j]?).getD .any, F1, n1, ds0, [], [], rfl, ?_, Ex.refl F1, N1, upd_same, Reps.nil, Nat.le_refl _, h0⟩, ?_⟩
    · have e : (l.set i (.owl ds0)).set j ((l[j]?).getD .any) = l := by
        rw [l0]
        apply List.ext_getElem?
        intro a
        rw [List.getElem?_set]
        split
        · rename_i e
          subst e
          split
          · rename_i e; rw [List.getElem?_eq_getElem e]; rfl
          · rename_i e; rw [List.getElem?_eq_none (by omega)]
        · rfl
      rw [e]
      exact S1.step (Step.lay S1.sm hp)
    rintro k m H2 ⟨rfl, hk, σ', s, F2, n2, ds, acc, av, hw, S2, ex2, N2, hp2, hr2, hl, hI⟩
    by_cases hlt : k < ks.length
    · have hx : ks[k]? = some ks[k] := List.getElem?_eq_getElem hlt
      refine .inr ⟨it.go F2 H2 σ' r _ n2 k _ S2 ex2 hx, fun H' => ∃ σ' s F' n' ds acc av, wipe σ' [j] = wipe σ [j] ∧ Sta B M σ' ((l.set i (.owl ds)).set j s) n' F' H' r ∧ Ex F1 F' ∧ Nob B M F' r p ∧ H' p = some (.lst av) ∧ Reps B.C B.sa F' av acc ∧ acc.length ≤ k + 1 ∧ I (k + 1) ds acc n', fun H' w => ⟨ks.length - (k + 1), by omega, rfl, hlt, w⟩, fun v H3 y => ?_⟩
      obtain ⟨F3, s3, rv⟩ := it.yld F2 H2 σ' r _ n2 k _ S2 ex2 hx v H3 y
      have S3 := ((S2.step s3).wipe [j]).set j rv
      rw [hw] at S3
      have el : (wipeL ((l.set i (.owl ds)).set j s) [j]).set j (.sh ks[k]) = (l.set i (.owl ds)).set j (.sh ks[k]) := by
        show ((((l.set i (.owl ds)).set j s).set j Sl.any).set j (.sh ks[k])) = _
        rw [List.set_set, List.set_set]
      rw [el] at S3
      have hw3 : wipe ((wipe σ [j]).set j (some v)) [j] = wipe σ [j] := by
        show ((σ.set j none).set j (some v)).set j none = σ.set j none
        rw [List.set_set, List.set_set]
      refine ⟨hw3, ?_⟩
      show tBM B.K "list" rPopAt (tVar i) tr _ H3 _
      have hgi : ((l.set i (.owl ds)).set j (.sh ks[k]))[i]? = some (.owl ds) := by
        rw [List.getElem?_set_ne hij.symm, List.getElem?_set_self (List.getElem?_eq_some_iff.mp hi).1]
      obtain ⟨q, vs, e1, e2, e3, e4⟩ := S3.slots i _ hgi
      refine ⟨_, e1, .inl ⟨rfl, _, SqL.of e3⟩, ?_⟩
      refine hs k _ ds acc n2 hx hI F3 H3 _ r S3 _ fun xs F4 H4 as n4 q4 s4 r4 => ?_
      obtain ⟨z, d, rfl, hz2, hd2, hI2⟩ := q4
      obtain ⟨w, rfl, rw4⟩ := reps1 r4
      have S4 := S3.step s4
      have e34 : H4 q = some (.lst vs) := s4.ht q _ e3 (S3.notS e2)
      have r34 := e4.mono s4.ex
      obtain ⟨u, hu, ru⟩ := r34.get hd2
      have hzl : z < vs.length := (List.getElem?_eq_some_iff.mp hu).1
      have h62 : (2 : Nat) ^ 62 = 4611686018427387904 := by decide
      have hz1 : -(2 ^ 63 : Int) ≤ (z : Int) := by
        have : (2 ^ 63 : Int) = 9223372036854775808 := by decide
        omega
      have hz3 : (z : Int) < 2 ^ 63 := by
        have : (2 ^ 63 : Int) = 9223372036854775808 := by decide
        omega
      refine ⟨q, vs, (z : Int), z, u, rfl, by rw [rw4.int_inv], e34, hz1, hz3, ?_, hu, ?_⟩
      · unfold seqIndex?
        simp [hzl]
        rw [if_neg (by omega)]
        exact ⟨⟨by omega, by omega⟩, by omega⟩
      have pq : p ≠ q := fun z => by rw [← z, N2.rp] at e2; cases e2
      have s34 := s3.trans s4
      have hp4 : H4 p = some (.lst av) := s34.ht p _ hp2 N2.ns
      have fp4 : F4 p = none := s34.fr p (by rw [hp2]; simp) N2.fp
      have N4 : Nob B M F4 r p := ⟨N2.h0, fp4, N2.rp, N2.nm, N2.nl, N2.ns⟩
      have S5 := S4.write (o := .lst (vs.eraseIdx z)) e2 e1 (s := .owl (ds.eraseIdx z)) ⟨q, _, rfl, e2, upd_same, r34.eraseIdx z⟩
      have el5 : (((l.set i (.owl ds)).set j (.sh ks[k])).set i (.owl (ds.eraseIdx z))) = (l.set i (.owl (ds.eraseIdx z))).set j (.sh ks[k]) := by
        rw [List.set_comm _ _ hij.symm, List.set_set]
      rw [el5] at S5
      refine ⟨av, by rw [upd_ne pq]; exact hp4, by rw [hr2.1]; have : sizeLine = 16777216 := sizeLine_eq; omega, _, _, F4, n4, ds.eraseIdx z, acc ++ [d], av ++ [u], hw3, S5.poke N4 _, ex2.trans s34.ex, N4, upd_same, (hr2.mono s34.ex).append (Reps.cons ru Reps.nil), by rw [List.length_append, List.length_singleton]; omega, hI2⟩
    · have e : k = ks.length := by omega
      subst e
      refine .inl ⟨it.stop F2 H2 σ' r _ n2 S2 ex2, ?_⟩
      have S3 := S2.pub N2 hp2
      exact f.rt _ σ' _ H2 r _ n2 _ (hd ds acc n2 hI) ((s1.ex.trans ex2).trans (Ex.new N2.fp)) S3 (.mkl upd_same (hr2.mono (Ex.new N2.fp)))
end
end Gw

/-! The stream of draws itself; things in a drawn order. -/
namespace Gw
open PySem L2
local macro_rules | `(tactic| walk_at "gw") => `(tactic| first
  | (with_reducible refine ws_seq ?_)
  | (with_reducible refine ws_ret ?_)
  | (with_reducible refine ws_newl ?_)
  | (with_reducible refine ws_newd ?_)
  | (with_reducible refine ws_set ?_)
  | (with_reducible refine ws_par3 ?_)
  | (with_reducible refine ws_par ?_)
  | (with_reducible refine ws_if ?_)
  | (with_reducible refine ws_next ?_)
  | (with_reducible refine ws_cont ?_)
  | (with_reducible refine ws_asgP ?_)
  | (with_reducible refine ws_asgP3 ?_)
  | ((with_reducible refine' ws_app ?h ?_); (case h => rfl))
  | ((with_reducible refine' ws_clear ?h ?_); (case h => rfl))
  | ((with_reducible refine' ws_dput ?h ?_); (case h => rfl))
  | (with_reducible refine ws_drop ?_)
  | ((with_reducible refine' we_var ?h ?_); (case h => rfl))
  | (with_reducible refine we_int ?_)
  | (with_reducible refine we_str ?_)
  | (with_reducible refine we_bl ?_)
  | (with_reducible refine we_non ?_)
  | (with_reducible refine we_ty ?_)
  | ((with_reducible refine' we_ixM ?h ?e ?_); (case h => rfl); (case e => exact atI_last _ _))
  | ((with_reducible refine' we_ixO ?h ?_); (case h => rfl))
  | (with_reducible refine we_neg ?_)
  | (with_reducible refine we_op ?_)
  | (with_reducible refine ro_I0 ?_)
  | (with_reducible refine ro_B0 ?_)
  | ((with_reducible refine ro_I ?h ?_); (case h => first | assumption | omega))
  | ((with_reducible refine' ro_ixT ?h ?_); (case h => rfl))
  | (with_reducible refine ro_inT2 ?_)
  | (with_reducible refine ro_ninT2 ?_)
  | (with_reducible refine ro_eqS ?_)
  | (with_reducible refine ro_neS ?_)
  | (with_reducible refine ro_eqI ?_)
  | (with_reducible refine ro_neI ?_)
  | (with_reducible refine ro_eqB ?_)
  | (with_reducible refine ro_notNon ?_)
  | (with_reducible refine ro_neB ?_)
  | ((with_reducible refine' we_dgetO ?h ?_); (case h => rfl))
  | ((with_reducible refine' we_dinO ?h ?_); (case h => rfl))
  | ((with_reducible refine' we_dnotinO ?h ?_); (case h => rfl))
  | (with_reducible refine we_dget ?_)
  | (with_reducible refine we_din ?_)
  | (with_reducible refine we_dnotin ?_)
  | ((with_reducible refine we_tup ?_))
  | ((with_reducible refine we_lst ?_))
  | (with_reducible refine wa_cons ?_)
  | (with_reducible refine wa_nil ?_)
  | (with_reducible refine we_cb ?_)
  | (with_reducible refine we_chain ?_)
  | (with_reducible refine we_if ?_)
  | (with_reducible refine we_andV ?_)
  | (with_reducible refine we_orV ?_)
  | (with_reducible refine we_notV ?_)
  | (with_reducible refine wt_test ?_)
  | (with_reducible refine wt_B ?_)
  | (with_reducible refine wt_not ?_)
  | (with_reducible refine wt_and ?_)
  | (with_reducible refine wt_or ?_)
  | (with_reducible refine wt_ifT ?_)
  | (with_reducible refine we_call ?_)
  | ((with_reducible refine' we_callS ?h ?_); (case h => rfl))
  | ((with_reducible refine' we_meth ?h ?_); (case h => decide +kernel))
  | (with_reducible refine rc_abs ?_)
  | (with_reducible refine rc_int ?_)
  | (with_reducible refine rc_lenL ?_)
  | (with_reducible refine rc_lenT ?_)
  | (with_reducible refine rc_lenD ?_)
  | (with_reducible refine rc_lenLS ?_)
  | (with_reducible refine rc_sum ?_)
  | (with_reducible refine rc_tupT ?_)
  | ((with_reducible refine' rc_isi ?ht ?hb ?_); (case ht => rfl); (case hb => first | exact kb_int_int | exact kb_int_bool | exact kb_int_list | exact kb_int_tuple | exact kb_str_str | exact kb_dict_dict | exact kb_list_list | exact kb_list_tuple | exact kb_tuple_list | exact kb_tuple_tuple | exact kb_bool_int | exact kb_bool_bool))
  | ((with_reducible refine' rc_isiT ?ht ?h1 ?h2 ?_); (case ht => rfl); (case h1 => first | exact kb_int_int | exact kb_int_bool | exact kb_int_list | exact kb_int_tuple | exact kb_str_str | exact kb_dict_dict | exact kb_list_list | exact kb_list_tuple | exact kb_tuple_list | exact kb_tuple_tuple | exact kb_bool_int | exact kb_bool_bool); (case h2 => first | exact kb_int_int | exact kb_int_bool | exact kb_int_list | exact kb_int_tuple | exact kb_str_str | exact kb_dict_dict | exact kb_list_list | exact kb_list_tuple | exact kb_tuple_list | exact kb_tuple_tuple | exact kb_bool_int | exact kb_bool_bool))
  | (with_reducible refine rc_allT ?_)
  | (with_reducible refine rc_anyF ?_)
  | (with_reducible refine rc_all ?_)
  | (with_reducible refine rc_any ?_)
  | (with_reducible refine rc_listD ?_)
  | (with_reducible refine rc_dictD fun _ _ => ?_)
  | (with_reducible refine we_rev ?_)
  | (with_reducible refine we_slL ?_)
  | (with_reducible refine wo_no ?_)
  | (with_reducible refine wo_part ?_)
  | (with_reducible refine we_listVals ?_)
  | ((with_reducible refine' we_fld ?hc ?hn ?_); (case hc => assumption); (case hn => assumption))
  | (with_reducible refine wi_list ?_)
  | (with_reducible refine wi_range1 ?_)
  | (with_reducible refine wi_str ?_)
  | (with_reducible refine wi_enum ?_)
  | (with_reducible refine wg_name ?_)
  | (with_reducible refine wg_two ?_)
  | (refine ⟨Nat.le_of_ble_eq_true rfl, ?_⟩)
  | (refine ⟨_, rfl, ?_⟩)
  | (refine ⟨_, _, rfl, ?_⟩)
  | (refine ⟨_, _, _, rfl, rfl, ?_⟩)
  | (refine ⟨_, _, _, rfl, ?_⟩)
  | (refine ⟨fun _ => ?_, fun z => Bool.noConfusion z⟩)
  | (refine ⟨fun z => Bool.noConfusion z, fun _ => ?_⟩)
  | (refine ⟨fun _ => ?_, fun z => absurd z (by decide +kernel)⟩)
  | (refine ⟨fun z => absurd z (by decide +kernel), fun _ => ?_⟩))
section
variable {P : Program} {w : World} {K : PySem.W.Frag} {mg : Str → Option Value} {base : Heap} {C : Addr}
section
variable {σ : L2.St} {H : Hp} {Q : VK} {QT : Bool → Hp → Prop} {QS : List V → Hp → Prop} {QG : L2.St → Hp → Prop} {te ta tb : TE} {t u : TT} {ts us : TS} {tr : TA} {D0 : Ends} {g : TG} {r : R2} {v : V} {i j : Int}
theorem q_op (h : ta σ H fun x H1 => tb σ H1 fun y H2 => r x y H2 Q) : tOp r ta tb σ H Q := h
theorem q_seq (h : ts { D0 with nx := us D0 } σ H) : tSeq ts us D0 σ H := h
theorem q_asg (h : te σ H fun x H1 => g x σ H1 D0.nx) : tAsg te g D0 σ H := h
theorem q_c (h : Q v H) : tC v σ H Q := h
theorem q_var {i : Nat} (e : σ[i]? = some (some v)) (h : Q v H) : tVar i σ H Q := ⟨v, e, h⟩
theorem q_ifs (h : t σ H fun b H1 => if b = true then ts D0 σ H1 else us D0 σ H1) : tIfS t ts us D0 σ H := h
theorem q_ife (h : t σ H fun b H1 => if b = true then ta σ H1 Q else tb σ H1 Q) : tIf t ta tb σ H Q := h
theorem q_and (h : t σ H fun b H1 => if b = true then u σ H1 QT else QT false H1) : tAnd t u σ H QT := h
theorem q_test (h : te σ H fun x H1 => ∃ k, x = .bl k ∧ QT k H1) : tTest te σ H QT := h
theorem q_bl {b : Bool} {Qb : Bool → Prop} (h : Qb b) : ∃ k, V.bl b = .bl k ∧ Qb k := ⟨b, rfl, h⟩
theorem q_seqK (Good : L2.St → Hp → Prop) (h : ∀ nx : L2.St → Hp → Prop, (∀ σ' H', Good σ' H' → nx σ' H') → ts { D0 with nx := nx } σ H) (h2 : ∀ σ' H', Good σ' H' → us D0 σ' H') : tSeq ts us D0 σ H := h _ h2
theorem q_cb {f : List V → Hp → VK → Prop} (h : tr σ H fun vs H1 => f vs H1 Q) : tCB f tr σ H Q := h
theorem q_cons (h : te σ H fun v H1 => tr σ H1 fun vs H2 => QS (v :: vs) H2) : tCons te tr σ H QS := h
theorem q_nil (h : QS [] H) : tNil σ H QS := h
theorem q_int (h : Q (.int i) H) : cInt [.int i] H Q := .inl ⟨i, rfl, h⟩
theorem q_i {C0 : Int → Int → Prop} {g0 : Int → Int → V} (c : C0 i j) (h : Q (g0 i j) H) : rI C0 g0 (.int i) (.int j) H Q := ⟨i, j, rfl, rfl, c, h⟩
theorem q_i0 {g0 : Int → Int → V} (h : Q (g0 i j) H) : rI0 g0 (.int i) (.int j) H Q := ⟨i, j, rfl, rfl, h⟩
theorem q_eq (h : Q (.bl (decide (i = j))) H) : rEq (.int i) (.int j) H Q := by
  have e : decide (V.int i = V.int j) = decide (i = j) := by simp
  exact ⟨rfl, by rw [e]; exact h⟩
theorem q_name {i : Nat} (h : QG (σ.set i (some v)) H) : gName i v σ H QG := h
theorem q_ret (h : te σ H D0.rt) : tRet te D0 σ H := h
theorem q_next (h : D0.nx σ H) : tNext D0 σ H := h
/-- the stream in the heap -/
structure Jst (sa ca : Addr) (H : Hp) (c : List Int) (x n m : Int) : Prop where
  s : H sa = some (.lst [.ref ca, .int x, .int n, .int m])
  c : H ca = some (.lst (c.map V.int))
variable {sa ca : Addr} {c : List Int} {x n m : Int}
theorem q_rd (K : PySem.W.Frag) (J : Jst sa ca H c x n m) (e : σ[0]? = some (some (.ref sa))) {k : Nat} {w : V} (hk : [V.ref ca, .int x, .int n, .int m][k]? = some w) (q : Q w H) : tOp (rIxL K) (tVar 0) (tC (.int (k : Int))) σ H Q := by
  refine ⟨_, e, ?_⟩
  refine ⟨sa, _, (k : Int), w, rfl, rfl, SqL.of J.s, ?_, q⟩
  have := atI_nat (List.getElem?_eq_some_iff.mp hk).1
  rw [this]
  exact congrArg some (List.getElem?_eq_some_iff.mp hk).2
theorem q_put (J : Jst sa ca H c x n m) (e : σ[0]? = some (some (.ref sa))) {k : Nat} (hk : k < 4) (q : QG σ (upd H sa (.lst ([V.ref ca, .int x, .int n, .int m].set k v)))) : gSub (tVar 0) (tC (.int (k : Int))) rSetL v σ H QG := by
  refine ⟨_, e, ?_⟩
  refine ⟨sa, _, (k : Int), k, rfl, rfl, J.s, ?_, q⟩
  unfold ixN
  rw [if_pos (by omega), if_pos (by simp; omega)]
  simp
theorem q_pop (K : PySem.W.Frag) {z : Int} (J : Jst sa ca H (z :: c) x n m) (q : Q (.int z) (upd H ca (.lst (c.map V.int)))) (e : σ[0]? = some (some (.ref sa))) : tBM K "list" rPopAt (tOp (rIxL K) (tVar 0) (tC (.int 0))) (tCons (tC (.int 0)) tNil) σ H Q := by
  refine q_rd K J e (k := 0) rfl ?_
  refine ⟨.inl ⟨rfl, _, SqL.of J.c⟩, ?_⟩
  exact ⟨ca, _, 0, 0, .int z, rfl, rfl, J.c, by decide, by decide, by unfold seqIndex?; simp, rfl, q⟩
theorem Jst.upS (J : Jst sa ca H c x n m) (h : sa ≠ ca) {x' n' m' : Int} {vs : List V} (e : vs = [.ref ca, .int x', .int n', .int m']) : Jst sa ca (upd H sa (.lst vs)) c x' n' m' := by
  subst e
  exact ⟨upd_same, by rw [upd_ne h.symm]; exact J.c⟩
theorem Jst.upC (J : Jst sa ca H c x n m) (h : sa ≠ ca) {c' : List Int} : Jst sa ca (upd H ca (.lst (c'.map V.int))) c' x n m :=
  ⟨by rw [upd_ne h]; exact J.s, upd_same⟩
def Frm (sa ca : Addr) (H H' : Hp) : Prop := ∀ a o, a ≠ sa → a ≠ ca → H a = some o → H' a = some o
theorem Frm.trans {H1 H2 : Hp} (h : Frm sa ca H H1) (k : Frm sa ca H1 H2) : Frm sa ca H H2 := fun a o h1 h2 e => k a o h1 h2 (h a o h1 h2 e)
theorem canLay_ints : ∀ (xs : List Int), PyData.canLayAll0 (xs.map PyData.int) = true
  | [] => by simp [PyData.canLayAll0]
  | x :: xs => by
    rw [List.map_cons, PyData.canLayAll0, PyData.canLay0, canLay_ints xs]
    rfl
theorem depth_ints : ∀ (xs : List Int), PyData.depthAll (xs.map PyData.int) = 0
  | [] => by simp [PyData.depthAll]
  | x :: xs => by
    rw [List.map_cons, PyData.depthAll, PyData.depth, depth_ints xs]
    rfl
theorem shaped_ints (xs : List Int) : SeqAt.shaped (.list (xs.map PyData.int)) = true := by
  unfold SeqAt.shaped
  rw [PyData.canLay0, canLay_ints xs, PyData.depth, depth_ints]
  rfl
theorem dpAll_ints {K : PySem.W.Frag} {H : Hp} : ∀ xs : List Int, DpAll K H (xs.map V.int) (xs.map PyData.int)
  | [] => .nil
  | x :: xs => .cons (.int x) (dpAll_ints xs)
theorem q_neL (K : PySem.W.Frag) (J : Jst sa ca H c x n m) (q : ∀ H', Jst sa ca H' c x n m → Frm sa ca H H' → Q (.bl (!decide (c = []))) H') (hs : H sa ≠ none) (hc : H ca ≠ none) : tLst tNil σ H fun y H2 => rNeD K (V.ref ca) y H2 Q := by
  refine ⟨Nat.zero_le _, fun p hp => ?_⟩
  have h1 : p ≠ sa := fun e => hs (by rw [← e]; exact hp)
  have h2 : p ≠ ca := fun e => hc (by rw [← e]; exact hp)
  have J' : Jst sa ca (upd H p (.lst [])) c x n m := ⟨by rw [upd_ne h1.symm]; exact J.s, by rw [upd_ne h2.symm]; exact J.c⟩
  refine ⟨.list (c.map PyData.int), .list [], .lst (SqL.of J'.c) (dpAll_ints c), .lst (SqL.of upd_same) .nil, shaped_ints c, shaped_ints [], ?_⟩
  have e : PyData.eqv (.list (c.map PyData.int)) (.list []) = decide (c = []) := by
    cases c with
    | nil => simp [PyData.eqv, PyData.eqvAll]
    | cons z r => simp [PyData.eqv, PyData.eqvAll]
  rw [e]
  exact q _ J' fun a o h3 h4 h5 => by
    have : a ≠ p := fun e => by rw [e, hp] at h5; cases h5
    rw [upd_ne this]; exact h5
theorem q_rd0 (K : PySem.W.Frag) (J : Jst sa ca H c x n m) (e : σ[0]? = some (some (.ref sa))) (q : Q (V.ref ca) H) : tOp (rIxL K) (tVar 0) (tC (.int 0)) σ H Q := q_rd K J e (k := 0) rfl q
theorem q_rd1 (K : PySem.W.Frag) (J : Jst sa ca H c x n m) (e : σ[0]? = some (some (.ref sa))) (q : Q (.int x) H) : tOp (rIxL K) (tVar 0) (tC (.int 1)) σ H Q := q_rd K J e (k := 1) rfl q
theorem q_put1 {z : Int} (J : Jst sa ca H c x n m) (e : σ[0]? = some (some (.ref sa))) (h : sa ≠ ca) (q : ∀ H', Jst sa ca H' c z n m → Frm sa ca H H' → QG σ H') : gSub (tVar 0) (tC (.int 1)) rSetL (.int z) σ H QG := q_put J e (k := 1) (by decide) (q _ (J.upS h rfl) fun a o h1 _ e => by rw [upd_ne h1]; exact e)
theorem q_rd2 (K : PySem.W.Frag) (J : Jst sa ca H c x n m) (e : σ[0]? = some (some (.ref sa))) (q : Q (.int n) H) : tOp (rIxL K) (tVar 0) (tC (.int 2)) σ H Q := q_rd K J e (k := 2) rfl q
theorem q_put2 {z : Int} (J : Jst sa ca H c x n m) (e : σ[0]? = some (some (.ref sa))) (h : sa ≠ ca) (q : ∀ H', Jst sa ca H' c x z m → Frm sa ca H H' → QG σ H') : gSub (tVar 0) (tC (.int 2)) rSetL (.int z) σ H QG := q_put J e (k := 2) (by decide) (q _ (J.upS h rfl) fun a o h1 _ e => by rw [upd_ne h1]; exact e)
theorem q_rd3 (K : PySem.W.Frag) (J : Jst sa ca H c x n m) (e : σ[0]? = some (some (.ref sa))) (q : Q (.int m) H) : tOp (rIxL K) (tVar 0) (tC (.int 3)) σ H Q := q_rd K J e (k := 3) rfl q
theorem q_put3 {z : Int} (J : Jst sa ca H c x n m) (e : σ[0]? = some (some (.ref sa))) (h : sa ≠ ca) (q : ∀ H', Jst sa ca H' c x n z → Frm sa ca H H' → QG σ H') : gSub (tVar 0) (tC (.int 3)) rSetL (.int z) σ H QG := q_put J e (k := 3) (by decide) (q _ (J.upS h rfl) fun a o h1 _ e => by rw [upd_ne h1]; exact e)
theorem q_pop' (K : PySem.W.Frag) {z : Int} (J : Jst sa ca H (z :: c) x n m) (e : σ[0]? = some (some (.ref sa))) (h : sa ≠ ca) (q : ∀ H', Jst sa ca H' c x n m → Frm sa ca H H' → Q (.int z) H') : tBM K "list" rPopAt (tOp (rIxL K) (tVar 0) (tC (.int 0))) (tCons (tC (.int 0)) tNil) σ H Q := q_pop K J (q _ (J.upC h) fun a o _ h2 e' => by rw [upd_ne h2]; exact e') e
end
local macro_rules | `(tactic| walk_at "dr") => `(tactic| first
  | (with_reducible refine q_seq ?_)
  | (with_reducible refine q_asg ?_)
  | (with_reducible refine q_ifs ?_)
  | (with_reducible refine q_ife ?_)
  | (with_reducible refine q_and ?_)
  | (with_reducible refine q_test ?_)
  | (with_reducible refine q_ret ?_)
  | (with_reducible refine q_next ?_)
  | (with_reducible refine q_rd0 _ (by assumption) rfl ?_)
  | (with_reducible refine q_rd1 _ (by assumption) rfl ?_)
  | (with_reducible refine q_rd2 _ (by assumption) rfl ?_)
  | (with_reducible refine q_rd3 _ (by assumption) rfl ?_)
  | (with_reducible refine q_op ?_)
  | (with_reducible refine q_c ?_)
  | (with_reducible refine q_var rfl ?_)
  | (with_reducible refine q_cb ?_)
  | (with_reducible refine q_cons ?_)
  | (with_reducible refine q_nil ?_)
  | (with_reducible refine q_int ?_)
  | (with_reducible refine q_i0 ?_)
  | (with_reducible refine q_eq ?_)
  | (with_reducible refine q_bl ?_)
  | (with_reducible refine q_name ?_))
abbrev s__law_draw : Stmt := top 56
abbrev N__law_draw : List Str := ["_law_stream", "_law_many", "_law_mixed_here", "_law_cell", "_law_digit"]
theorem sc__law_draw : FnScope N__law_draw ["_law_stream", "_law_many"] (C8.fnScope s__law_draw) := C8.fnScope_by (by decide +kernel)
theorem ok__law_draw (T : Txt K mg C) (DB : DefB K mg "_law_draw" s__law_draw ["_law_stream", "_law_many"]) : C8.Cal P w K mg base 1 "_law_draw" (spG C true preDraw postDraw) [] := by
  refine cal_ok DB sc__law_draw (fun L ds n hp => ?_) fun f cdv A outer sh H E hr => ?_
  · obtain ⟨_, rfl, _⟩ := hp; rfl
  have nd := sc__law_draw.nd
  refine ⟨_, (pss_cons (ps_asg (pe_op op_add (pe_ix (r := rIxL K) ix_list (pv 0) pe_int (fun _ _ => rfl)) pe_int) (pg_sub (pv 0) pe_int set_list))
    (pss_cons (ps_if (PW.pt (pw_and (pt_cmpR op_eq (pe_ix (r := rIxL K) ix_list (pv 0) pe_int (fun _ _ => rfl)) pe_int (nomark _)) (pw_and1 (pt_cmpR (r := rNeD K) (op_neD hr.units) (pe_ix (r := rIxL K) ix_list (pv 0) pe_int (fun _ _ => rfl)) (pe_lst pa_nil) (nomark _))))) (pss_cons (ps_set (i := 3) nd rfl (Or.inl rfl) (pe_popAtK K (pe_ix (r := rIxL K) ix_list (pv 0) pe_int (fun _ _ => rfl)) pe_int))
      (pss_cons (ps_asg (pe_op op_mod (pe_callTy (T := "int") (r := cInt) call_int2 (by rfl) T.n_int (by decide +kernel) (pa_cons (pe_op op_add (pe_op op_add (pe_op op_mulW (pe_ix (r := rIxL K) ix_list (pv 0) pe_int (fun _ _ => rfl)) pe_int) (pv 3)) pe_int) pa_nil)) pe_int) (pg_sub (pv 0) pe_int set_list))
      (pss_one (ps_asg (pe_ifExp (pt_cmpR op_ge (pv 3) (pe_op op_pow pe_int pe_int) (nomark _)) (pv 3) pe_int) (pg_sub (pv 0) pe_int set_list))))) pss_nil)
    (pss_cons (ps_if (pt_cmpR op_gt (pe_ix (r := rIxL K) ix_list (pv 0) pe_int (fun _ _ => rfl)) pe_int (nomark _)) (pss_cons (ps_set (i := 4) nd rfl (Or.inl rfl) (pe_op op_mod (pe_callTy (T := "int") (r := cInt) call_int2 (by rfl) T.n_int (by decide +kernel) (pa_cons (pe_ix (r := rIxL K) ix_list (pv 0) pe_int (fun _ _ => rfl)) pa_nil)) (pv 1)))
      (pss_cons (ps_asg (pe_op op_fdivW (pe_ix (r := rIxL K) ix_list (pv 0) pe_int (fun _ _ => rfl)) (pv 1)) (pg_sub (pv 0) pe_int set_list))
      (pss_one (ps_ret (pv 4))))) pss_nil)
    (pss_cons (ps_set (i := 2) nd rfl (Or.inl rfl) (pe_op op_mod (pe_callTy (T := "int") (r := cInt) call_int2 (by rfl) T.n_int (by decide +kernel) (pa_cons (pe_op op_pow (pe_op op_add (pe_op op_add (pe_ix (r := rIxL K) ix_list (pv 0) pe_int (fun _ _ => rfl)) (pe_op op_mulW pe_int (pe_ix (r := rIxL K) ix_list (pv 0) pe_int (fun _ _ => rfl)))) pe_int) pe_int) pa_nil)) pe_int))
    (pss_one (ps_ret (pe_op op_mod (pe_op op_mod (pe_callTy (T := "int") (r := cInt) call_int2 (by rfl) T.n_int (by decide +kernel) (pa_cons (pe_op op_pow (pe_op op_add (pe_op op_add (pe_op op_mulW (pv 2) pe_int) (pe_op op_mulW pe_int (pe_ix (r := rIxL K) ix_list (pv 0) pe_int (fun _ _ => rfl)))) pe_int) pe_int) pa_nil)) pe_int) (pv 1)))))))), fun sa ca L F0 H0 ds n hp => ?_⟩
  obtain ⟨k, rfl, hk0, hk1, hn⟩ := hp
  intro F H σ r S E f
  obtain ⟨⟨hne, c, x, m, hs, hc, hx0, hm0, hm1, hcl⟩, fs, fc⟩ := S.sm rfl
  obtain ⟨v0, e0, r0⟩ := S.slots 0 _ rfl
  obtain ⟨v1, e1, r1⟩ := S.slots 1 _ rfl
  have hv0 : v0 = .ref sa := by cases r0; rfl
  have hv1 : v1 = .int k := r1.int_inv
  subst hv0; subst hv1
  have hfin : ∀ (H' : Hp) (c' : List Int) (x' m' i : Int), Jst sa ca H' c' x' ((n + 1 : Nat) : Int) m' → Frm sa ca H H' → 0 ≤ x' → 0 ≤ m' → m' < 2147483647 → c'.length ≤ 63 → 0 ≤ i → i < k → E.rt (.int i) H' := fun H' c' x' m' i J fr h1 h2 h3 h4 h5 h6 => by
    have st : Step true sa ca F H F H' (n + 1) := ⟨Ex.refl F, fun a o e z => fr a o (z rfl).1 (z rfl).2 e, fun _ _ h => h, fun a o h h' => (by rw [h] at h'; cases h'), fun _ => ⟨⟨hne, c', x', m', J.s, J.c, h1, h2, h3, h4⟩, fs, fc⟩⟩
    exact f.rt (.int i) σ F H' r _ (n + 1) (.int i) ⟨k, i, rfl, rfl, h5, h6, rfl⟩ (Ex.refl F) (S.step st) .int
  have hl := S.len
  clear S f
  match σ, hl, e0, e1 with
  | [a, b, s2, s3, s4], _, e0, e1 =>
  obtain rfl : a = some (.ref sa) := by simpa using e0
  obtain rfl : b = some (.int k) := by simpa using e1
  clear e0 e1
  have J0 : Jst sa ca H c x n m := ⟨hs, hc⟩
  repeat walk_at "dr"
  refine q_put2 J0 rfl hne fun H1 J1 fr1 => ?_
  dsimp only
  with_reducible refine q_seqK (fun σ' H' => ∃ s2 s3 s4 c x m, σ' = [some (.ref sa), some (.int k), s2, s3, s4] ∧ Jst sa ca H' c x ((n : Int) + 1) m ∧ Frm sa ca H H' ∧ 0 ≤ x ∧ 0 ≤ m ∧ m < 2147483647 ∧ c.length ≤ 63) ?_ ?_
  · intro nx hnx
    repeat walk_at "dr"
    by_cases hx : x = 0
    · rw [if_pos (decide_eq_true hx)]
      repeat walk_at "dr"
      refine q_neL K J1 (fun H2 J2 fr2 => ?_) (by rw [J1.s]; simp) (by rw [J1.c]; simp)
      have fr12 := fr1.trans fr2
      repeat walk_at "dr"
      cases c with
      | nil =>
        rw [if_neg (by simp)]
        exact hnx _ _ ⟨_, _, _, [], x, m, rfl, J2, fr12, hx0, hm0, hm1, hcl⟩
      | cons z c =>
        rw [if_pos (by simp)]
        repeat walk_at "dr"
        refine q_pop' K J2 rfl hne fun H3 J3 fr3 => ?_
        have fr13 := fr12.trans fr3
        repeat walk_at "dr"
        refine q_i (wide_mul (a := 31) (b := 13) (by omega) (by decide) (by decide) (by decide) (by decide)) ?_
        repeat walk_at "dr"
        refine q_i (by decide) ?_
        repeat walk_at "dr"
        refine q_put3 J3 rfl hne fun H4 J4 fr4 => ?_
        have fr14 := fr13.trans fr4
        have g1 := Int.emod_nonneg (m * 8191 + z + 3) (b := 2147483647) (by decide)
        have g2 := Int.emod_lt_of_pos (m * 8191 + z + 3) (b := 2147483647) (by decide)
        have g3 : c.length ≤ 63 := by simp only [List.length_cons] at hcl; omega
        repeat walk_at "dr"
        refine q_i ⟨by decide, by decide, by decide⟩ ?_
        repeat walk_at "dr"
        by_cases hz : (10 : Int) ^ (18 : Int).toNat ≤ z
        · rw [if_pos (decide_eq_true hz)]
          repeat walk_at "dr"
          refine q_put1 J4 rfl hne fun H5 J5 fr5 => ?_
          refine hnx _ _ ⟨_, _, _, c, z, _, rfl, J5, fr14.trans fr5, ?_, g1, g2, g3⟩
          have : (0 : Int) ≤ 10 ^ (18 : Int).toNat := by decide
          omega
        · rw [if_neg (by simpa using hz)]
          repeat walk_at "dr"
          refine q_put1 J4 rfl hne fun H5 J5 fr5 => ?_
          exact hnx _ _ ⟨_, _, _, c, 0, _, rfl, J5, fr14.trans fr5, Int.le_refl _, g1, g2, g3⟩
    · rw [if_neg (by simpa using hx), if_neg (by decide)]
      exact hnx _ _ ⟨_, _, _, c, x, m, rfl, J1, fr1, hx0, hm0, hm1, hcl⟩
  clear hs hc hx0 hm0 hm1 hcl J0 J1 fr1 H1 c x m
  rintro σ' H1 ⟨s2, s3, s4, c, x, m, rfl, J1, fr1, hx0, hm0, hm1, hcl⟩
  repeat walk_at "dr"
  have p40 : (2 : Nat) ^ 40 = 1099511627776 := by decide
  have p64 : (2 : Nat) ^ 64 = 18446744073709551616 := by decide
  by_cases hx : 0 < x
  · rw [if_pos (decide_eq_true hx)]
    repeat walk_at "dr"
    refine q_i hk0 ?_
    repeat walk_at "dr"
    refine q_i (wide_div (b := 17) hk0 (by omega) (by decide) (by decide)) ?_
    repeat walk_at "dr"
    refine q_put1 J1 rfl hne fun H2 J2 fr2 => ?_
    repeat walk_at "dr"
    exact hfin H2 c _ m _ J2 (fr1.trans fr2) (Int.ediv_nonneg hx0 (by omega)) hm0 hm1 hcl (Int.emod_nonneg _ (by omega)) (Int.emod_lt_of_pos _ hk0)
  · rw [if_neg (by simpa using hx)]
    repeat walk_at "dr"
    refine q_i (wide_mul (a := 13) (b := 41) (by decide) (by omega) (by decide) (by decide) (by decide)) ?_
    repeat walk_at "dr"
    refine q_i ⟨by decide, by decide, by omega⟩ ?_
    repeat walk_at "dr"
    refine q_i (by decide) ?_
    repeat walk_at "dr"
    generalize hM : (m + 7919 * ((n : Int) + 1) + 104729) ^ (5 : Int).toNat % 2147483629 = M
    have hM0 : 0 ≤ M := by rw [← hM]; exact Int.emod_nonneg _ (by decide)
    have hM1 : M < 2147483629 := by rw [← hM]; exact Int.emod_lt_of_pos _ (by decide)
    refine q_i (wide_mul (a := 31) (b := 16) (by omega) (by decide) (by decide) (by decide) (by decide)) ?_
    repeat walk_at "dr"
    refine q_i (wide_mul (a := 15) (b := 41) (by decide) (by omega) (by decide) (by decide) (by decide)) ?_
    repeat walk_at "dr"
    refine q_i ⟨by decide, by decide, by omega⟩ ?_
    repeat walk_at "dr"
    refine q_i (by decide) ?_
    repeat walk_at "dr"
    refine q_i hk0 ?_
    exact hfin H1 c x m _ J1 fr1 hx0 hm0 hm1 hcl (Int.emod_nonneg _ (by omega)) (Int.emod_lt_of_pos _ hk0)
abbrev s__law_mixed : Stmt := top 58
abbrev N__law_mixed : List Str := ["_law_stream", "_law_some", "_law_left", "_law_k"]
theorem sc__law_mixed : FnScope N__law_mixed ["_law_stream", "_law_some"] (C8.fnScope s__law_mixed) := C8.fnScope_by (by decide +kernel)
def preMixed : List Addr → List D → Nat → Prop := fun _ ds n => ∃ xs, ds = [.strm, .lst xs] ∧ xs.length ≤ 100 ∧ n < 2 ^ 39
def postMixed : Hp → List D → Nat → D → Nat → Prop := fun _ ds n d n2 => ∃ xs ys, ds = [.strm, .lst xs] ∧ d = .lst ys ∧ ys.Perm xs ∧ n2 = n + xs.length
theorem ok__law_mixed (T : Txt K mg C) (DB : DefB K mg "_law_mixed" s__law_mixed ["_law_stream", "_law_some"]) (c__law_draw : C8.Cal P w K mg base 1 "_law_draw" (spG C true preDraw postDraw) []) : C8.Cal P w K mg base 2 "_law_mixed" (spG C true preMixed postMixed) [] := by
  refine cal_ok DB sc__law_mixed (fun L ds n hp => ?_) fun f cdv A outer sh H E hr => ?_
  · obtain ⟨_, rfl, _⟩ := hp; rfl
  have nd := sc__law_mixed.nd
  refine ⟨_, (pss_cons (ps_set (i := 2) nd rfl (Or.inr rfl) (pe_callTy (T := "list") (r := cListS K) call_listS (by rfl) T.n_list (by decide +kernel) (pa_cons (pv 1) pa_nil)))
    (pss_one (ps_ret (pe_lc (own := [("_law_k", 3)]) rfl nd (pi_range1 (by rfl) T.n_range (pa_cons (pe_callB (r := cLenS K) call_lenS (by rfl) T.n_len (by decide +kernel) (pa_cons (pv 2) pa_nil)) pa_nil)) (blkOk_by (own := [("_law_k", 3)]) (N := N__law_mixed) (sc := C8.fnScope s__law_mixed) (by decide +kernel)) (fun _ _ _ _ _ => pg_name (i := 3) nd rfl (Or.inl rfl)) (fun _ _ _ _ _ => pts_nil) (fun _ _ _ _ _ => (pe_popAtK K (pv 2) (C8.pe_c c__law_draw hr (by decide) (by rfl) (pa_cons (pv 0) (pa_cons (pe_callB (r := cLenS K) call_lenS (by rfl) T.n_len (by decide +kernel) (pa_cons (pv 2) pa_nil)) pa_nil))))))))), fun sa ca L F0 H0 ds n hp => ?_⟩
  obtain ⟨xs, rfl, hlen, hn⟩ := hp
  refine ws_seq (ws_newlo (wa_cons (we_var rfl (wa_nil ⟨xs, rfl, ?_⟩))))
  refine ws_ret_lcpop (i := 2) (j := 3) rfl (by decide) (wi_range1 (wa_cons (we_lenO rfl (wa_nil ⟨_, rfl, by omega, by omega, ?_⟩))))
  refine ⟨by simp; omega, fun k ds acc n2 => (acc ++ ds).Perm xs ∧ ds.length + k = xs.length ∧ n2 = n + k, ⟨List.Perm.refl _, by simp, rfl⟩, ?_, ?_⟩
  · rintro k x ds acc n2 hk ⟨hperm, hl, rfl⟩
    have hk2 : k < xs.length := by
      have := (List.getElem?_eq_some_iff.mp hk).1
      simpa using this
    refine wa_cons (we_callS rfl (wa_cons (we_var rfl (wa_cons (we_lenO rfl (wa_nil ⟨⟨_, rfl, by omega, by omega, by omega⟩, ?_⟩))))))
    rintro d n2 H' _ ⟨m, i, he, rfl, h1, h2, rfl⟩
    simp only [List.cons.injEq, D.int.injEq, and_true, true_and] at he
    subst he
    obtain ⟨j, rfl⟩ := Int.eq_ofNat_of_zero_le h1
    have hj : j < ds.length := by omega
    refine wa_nil ⟨j, ds[j], rfl, by omega, List.getElem?_eq_getElem hj, ?_, by rw [List.length_eraseIdx_of_lt hj]; omega, by omega⟩
    rw [List.append_assoc]
    exact (List.Perm.append_left acc (er_perm (List.getElem?_eq_getElem hj))).trans hperm
  · rintro ds acc n2 ⟨hperm, hl, rfl⟩
    rw [List.length_map, List.length_range] at hl ⊢
    have e : ds = [] := List.length_eq_zero_iff.mp (by omega)
    subst e
    rw [List.append_nil] at hperm
    exact ⟨xs, acc, rfl, rfl, hperm, by omega⟩
end
end Gw

/-! Words. -/
namespace Gw
open PySem L2
theorem join_cs : ∀ cs : List Nat, Txt.join "" (cs.map fun c => (⟨#[c]⟩ : Str)) = ⟨cs.toArray⟩
  | [] => by
    rw [TL.join_eq]
    rfl
  | [c] => by
    rw [TL.join_eq]
    rfl
  | c :: d :: r => by
    have ih := join_cs (d :: r)
    rw [TL.join_eq] at ih ⊢
    show (⟨#[c]⟩ : Str) ++ "" ++ Str.join "" ((d :: r).map fun c => (⟨#[c]⟩ : Str)) = _
    rw [ih]
    show Str.mk ((#[c] ++ #[]) ++ (d :: r).toArray) = _
    simp
def lowAlpha : List Nat := ("abcxyz019." : Str).cps.toList
theorem low_signs : ∀ c ∈ lowAlpha, c ∈ signs ∧ c < 0x110000 := by decide +kernel
/-- a name that a word may be -/
def Wd (s : Str) : Prop := isName s = true ∧ PyData.strOk s = true
theorem wd_cs {cs : List Nat} (h0 : 0 < cs.length) (h1 : cs.length ≤ 60) (h : ∀ c ∈ cs, c ∈ lowAlpha) : Wd ⟨cs.toArray⟩ := by
  refine ⟨?_, ?_⟩
  · unfold isName
    simp only [Bool.and_eq_true, decide_eq_true_eq]
    refine ⟨⟨by simpa [Str.length] using h0, by simpa [Str.length] using h1⟩, ?_⟩
    rw [List.all_eq_true]
    intro c hc
    exact decide_eq_true (low_signs c (h c (by simpa using hc))).1
  · unfold PyData.strOk
    rw [Array.all_eq_true_iff_forall_mem]
    intro c hc
    exact decide_eq_true (low_signs c (h c (by simpa using hc))).2
def spares : List Str := ("abcdefghijklmnopqrstuvwxyz" : Str).cps.toList.map fun c => (⟨#[c]⟩ : Str) ++ "q"
theorem spares_nd : spares.Nodup := by decide +kernel
theorem spares_wd : ∀ x ∈ spares, isName x = true ∧ PyData.strOk x = true := by decide +kernel
theorem nodup_sub_len {α : Type} [DecidableEq α] : ∀ {l m : List α}, l.Nodup → (∀ x ∈ l, x ∈ m) → l.length ≤ m.length
  | [], m, _, _ => Nat.zero_le _
  | x :: l, m, h, hs => by
    have hx : x ∈ m := hs x List.mem_cons_self
    have ih := nodup_sub_len (l := l) (m := m.erase x) (List.nodup_cons.mp h).2 fun y hy => by
      have hne : y ≠ x := fun e => (List.nodup_cons.mp h).1 (by rw [← e]; exact hy)
      exact (List.mem_erase_of_ne hne).mpr (hs y (List.mem_cons_of_mem _ hy))
    rw [List.length_erase_of_mem hx] at ih
    have : 0 < m.length := List.length_pos_of_mem hx
    simp only [List.length_cons]
    omega
/-- there is a word left -/
theorem fresh_word {w : Str} {ws : List Str} (hw : Wd w) (hl : ws.length ≤ 9) : ∃ x r, ((w :: spares).filter fun x => !decide (x ∈ ws)) = x :: r ∧ x ∉ ws ∧ Wd x := by
  cases e : (w :: spares).filter fun x => !decide (x ∈ ws) with
  | nil =>
    exfalso
    have hall : ∀ x ∈ spares, x ∈ ws := fun x hx => by
      have := List.filter_eq_nil_iff.mp e x (List.mem_cons_of_mem _ hx)
      simpa using this
    have := nodup_sub_len spares_nd hall
    have h26 : spares.length = 26 := by decide +kernel
    omega
  | cons x r =>
    have hm : x ∈ (w :: spares).filter fun x => !decide (x ∈ ws) := by rw [e]; exact List.mem_cons_self
    obtain ⟨h1, h2⟩ := List.mem_filter.mp hm
    refine ⟨x, r, rfl, by simpa using h2, ?_⟩
    rcases List.mem_cons.mp h1 with h | h
    · rw [h]; exact hw
    · exact spares_wd x h
theorem mergeD_nodup : ∀ {ps acc : List (Str × D)}, ((acc ++ ps).map (·.1)).Nodup → mergeD acc ps = acc ++ ps
  | [], acc, _ => by simp [mergeD]
  | q :: r, acc, h => by
    have hput : putD acc q.1 q.2 = acc ++ [q] := putD_new fun p hp e => by
      rw [List.map_append, List.nodup_append] at h
      exact h.2.2 p.1 (List.mem_map.mpr ⟨p, hp, rfl⟩) q.1 (by simp) e
    show mergeD (putD acc q.1 q.2) r = _
    rw [hput]
    have := mergeD_nodup (ps := r) (acc := acc ++ [q]) (by simpa using h)
    rw [this]
    simp
end Gw

/-! Drawn words, moves and lots. -/
namespace Gw
open PySem L2
local macro_rules | `(tactic| walk_at "gw") => `(tactic| first
  | (with_reducible refine ws_seq ?_)
  | (with_reducible refine ws_ret ?_)
  | (with_reducible refine ws_newl ?_)
  | (with_reducible refine ws_newd ?_)
  | (with_reducible refine ws_set ?_)
  | (with_reducible refine ws_par3 ?_)
  | (with_reducible refine ws_par ?_)
  | (with_reducible refine ws_if ?_)
  | (with_reducible refine ws_next ?_)
  | (with_reducible refine ws_cont ?_)
  | (with_reducible refine ws_asgP ?_)
  | (with_reducible refine ws_asgP3 ?_)
  | ((with_reducible refine' ws_app ?h ?_); (case h => rfl))
  | ((with_reducible refine' ws_clear ?h ?_); (case h => rfl))
  | ((with_reducible refine' ws_dput ?h ?_); (case h => rfl))
  | (with_reducible refine ws_drop ?_)
  | ((with_reducible refine' we_var ?h ?_); (case h => rfl))
  | (with_reducible refine we_int ?_)
  | (with_reducible refine we_str ?_)
  | (with_reducible refine we_bl ?_)
  | (with_reducible refine we_non ?_)
  | (with_reducible refine we_ty ?_)
  | ((with_reducible refine' we_ixM ?h ?e ?_); (case h => rfl); (case e => exact atI_last _ _))
  | ((with_reducible refine' we_ixO ?h ?_); (case h => rfl))
  | (with_reducible refine we_neg ?_)
  | (with_reducible refine we_op ?_)
  | (with_reducible refine ro_I0 ?_)
  | (with_reducible refine ro_B0 ?_)
  | ((with_reducible refine ro_I ?h ?_); (case h => first | assumption | omega))
  | ((with_reducible refine' ro_ixT ?h ?_); (case h => rfl))
  | (with_reducible refine ro_inT2 ?_)
  | (with_reducible refine ro_ninT2 ?_)
  | (with_reducible refine ro_eqS ?_)
  | (with_reducible refine ro_neS ?_)
  | (with_reducible refine ro_eqI ?_)
  | (with_reducible refine ro_neI ?_)
  | (with_reducible refine ro_eqB ?_)
  | (with_reducible refine ro_notNon ?_)
  | (with_reducible refine ro_neB ?_)
  | ((with_reducible refine' we_dgetO ?h ?_); (case h => rfl))
  | ((with_reducible refine' we_dinO ?h ?_); (case h => rfl))
  | ((with_reducible refine' we_dnotinO ?h ?_); (case h => rfl))
  | (with_reducible refine we_dget ?_)
  | (with_reducible refine we_din ?_)
  | (with_reducible refine we_dnotin ?_)
  | ((with_reducible refine we_tup ?_))
  | ((with_reducible refine we_lst ?_))
  | (with_reducible refine wa_cons ?_)
  | (with_reducible refine wa_nil ?_)
  | (with_reducible refine we_cb ?_)
  | (with_reducible refine we_chain ?_)
  | (with_reducible refine we_if ?_)
  | (with_reducible refine we_andV ?_)
  | (with_reducible refine we_orV ?_)
  | (with_reducible refine we_notV ?_)
  | (with_reducible refine wt_test ?_)
  | (with_reducible refine wt_B ?_)
  | (with_reducible refine wt_not ?_)
  | (with_reducible refine wt_and ?_)
  | (with_reducible refine wt_or ?_)
  | (with_reducible refine wt_ifT ?_)
  | (with_reducible refine we_call ?_)
  | ((with_reducible refine' we_callS ?h ?_); (case h => rfl))
  | ((with_reducible refine' we_meth ?h ?_); (case h => decide +kernel))
  | (with_reducible refine rc_abs ?_)
  | (with_reducible refine rc_int ?_)
  | (with_reducible refine rc_lenL ?_)
  | (with_reducible refine rc_lenT ?_)
  | (with_reducible refine rc_lenD ?_)
  | (with_reducible refine rc_lenLS ?_)
  | (with_reducible refine rc_sum ?_)
  | (with_reducible refine rc_tupT ?_)
  | ((with_reducible refine' rc_isi ?ht ?hb ?_); (case ht => rfl); (case hb => first | exact kb_int_int | exact kb_int_bool | exact kb_int_list | exact kb_int_tuple | exact kb_str_str | exact kb_dict_dict | exact kb_list_list | exact kb_list_tuple | exact kb_tuple_list | exact kb_tuple_tuple | exact kb_bool_int | exact kb_bool_bool))
  | ((with_reducible refine' rc_isiT ?ht ?h1 ?h2 ?_); (case ht => rfl); (case h1 => first | exact kb_int_int | exact kb_int_bool | exact kb_int_list | exact kb_int_tuple | exact kb_str_str | exact kb_dict_dict | exact kb_list_list | exact kb_list_tuple | exact kb_tuple_list | exact kb_tuple_tuple | exact kb_bool_int | exact kb_bool_bool); (case h2 => first | exact kb_int_int | exact kb_int_bool | exact kb_int_list | exact kb_int_tuple | exact kb_str_str | exact kb_dict_dict | exact kb_list_list | exact kb_list_tuple | exact kb_tuple_list | exact kb_tuple_tuple | exact kb_bool_int | exact kb_bool_bool))
  | (with_reducible refine rc_allT ?_)
  | (with_reducible refine rc_anyF ?_)
  | (with_reducible refine rc_all ?_)
  | (with_reducible refine rc_any ?_)
  | (with_reducible refine rc_listD ?_)
  | (with_reducible refine rc_dictD fun _ _ => ?_)
  | (with_reducible refine we_rev ?_)
  | (with_reducible refine we_slL ?_)
  | (with_reducible refine wo_no ?_)
  | (with_reducible refine wo_part ?_)
  | (with_reducible refine we_listVals ?_)
  | ((with_reducible refine' we_fld ?hc ?hn ?_); (case hc => assumption); (case hn => assumption))
  | (with_reducible refine wi_list ?_)
  | (with_reducible refine wi_range1 ?_)
  | (with_reducible refine wi_str ?_)
  | (with_reducible refine wi_enum ?_)
  | (with_reducible refine wg_name ?_)
  | (with_reducible refine wg_two ?_)
  | (refine ⟨Nat.le_of_ble_eq_true rfl, ?_⟩)
  | (refine ⟨_, rfl, ?_⟩)
  | (refine ⟨_, _, rfl, ?_⟩)
  | (refine ⟨_, _, _, rfl, rfl, ?_⟩)
  | (refine ⟨_, _, _, rfl, ?_⟩)
  | (refine ⟨fun _ => ?_, fun z => Bool.noConfusion z⟩)
  | (refine ⟨fun z => Bool.noConfusion z, fun _ => ?_⟩)
  | (refine ⟨fun _ => ?_, fun z => absurd z (by decide +kernel)⟩)
  | (refine ⟨fun z => absurd z (by decide +kernel), fun _ => ?_⟩))
section
variable {P : Program} {w : World} {K : PySem.W.Frag} {mg : Str → Option Value} {base : Heap} {C : Addr}
abbrev s__law_t_words : Stmt := top 48
abbrev N__law_t_words : List Str := ["_law_stream", "_law_many", "_law_found", "_law_k", "_law_word", "_law_spare", "_law_sign", "_law_letter", "_law_x"]
theorem sc__law_t_words : FnScope N__law_t_words ["_law_stream", "_law_many"] (C8.fnScope s__law_t_words) := C8.fnScope_by (by decide +kernel)
def preWords : List Addr → List D → Nat → Prop := fun _ ds n => ∃ m : Nat, ds = [.strm, .int (m : Int)] ∧ m ≤ 9 ∧ n < 2 ^ 38
def postWords : Hp → List D → Nat → D → Nat → Prop := fun _ ds n d n2 => ∃ (m : Nat) (ws : List Str), ds = [.strm, .int (m : Int)] ∧ d = .lst (ws.map D.str) ∧ ws.length = m ∧ ws.Nodup ∧ (∀ x ∈ ws, Wd x) ∧ n2 ≤ n + 5 * m
theorem ok__law_t_words (T : Txt K mg C) (DB : DefB K mg "_law_t_words" s__law_t_words ["_law_stream", "_law_many"]) (c__law_draw : C8.Cal P w K mg base 1 "_law_draw" (spG C true preDraw postDraw) []) (c__law_pick : C8.Cal P w K mg base 2 "_law_pick" (spG C true prePick postPick) []) : C8.Cal P w K mg base 3 "_law_t_words" (spG C true preWords postWords) [] := by
  refine cal_ok DB sc__law_t_words (fun L ds n hp => ?_) fun f cdv A outer sh H E hr => ?_
  · obtain ⟨_, rfl, _⟩ := hp; rfl
  have nd := sc__law_t_words.nd
  refine ⟨_, (pss_cons (ps_set (i := 2) nd rfl (Or.inr rfl) (pe_lst pa_nil))
    (pss_cons (ps_for PassesOwn.never rfl (pi_range1 (by rfl) T.n_range (pa_cons (pv 1) pa_nil)) (pg_name (i := 3) nd rfl (Or.inl rfl))
      (pss_cons (ps_set (i := 4) nd rfl (Or.inl rfl) (pe_joinK K pe_str (pe_lc (own := [("_law_sign", 6)]) rfl nd (pi_range1 (by rfl) T.n_range (pa_cons (pe_op op_add pe_int (C8.pe_c c__law_draw hr (by decide) (by rfl) (pa_cons (pv 0) (pa_cons pe_int pa_nil)))) pa_nil)) (blkOk_by (own := [("_law_sign", 6)]) (N := N__law_t_words) (sc := C8.fnScope s__law_t_words) (by decide +kernel)) (fun _ _ _ _ _ => pg_name (i := 6) nd rfl (Or.inl rfl)) (fun _ _ _ _ _ => pts_nil) (fun _ _ _ _ _ => (C8.pe_c c__law_pick hr (by decide) (by rfl) (pa_cons (pv 0) (pa_cons pe_str pa_nil)))))))
      (pss_cons (ps_set (i := 5) nd rfl (Or.inl rfl) (pe_op op_cat (pe_lst (pa_cons (pv 4) pa_nil)) (pe_lc (own := [("_law_letter", 7)]) rfl nd (pi_str pe_str) (blkOk_by (own := [("_law_letter", 7)]) (N := N__law_t_words) (sc := C8.fnScope s__law_t_words) (by decide +kernel)) (fun _ _ _ _ _ => pg_name (i := 7) nd rfl (Or.inl rfl)) (fun _ _ _ _ _ => pts_nil) (fun _ _ _ _ _ => (pe_op op_addS (pv 7) pe_str)))))
      (pss_one (ps_expr (pe_appK K (pv 2) (pe_ix (r := rIxL K) ix_list (pe_lc (own := [("_law_x", 8)]) rfl nd (pi_listK K (pv 5)) (blkOk_by (own := [("_law_x", 8)]) (N := N__law_t_words) (sc := C8.fnScope s__law_t_words) (by decide +kernel)) (fun _ _ _ _ _ => pg_name (i := 8) nd rfl (Or.inl rfl)) (fun _ _ _ _ _ => (pts_one (pt_cmpR (r := rIn K true) op_notIn_seq (pv 8) (pv 2) (by rfl)))) (fun _ _ _ _ _ => (pv 8))) pe_int (fun _ _ => rfl))))))))
    (pss_one (ps_ret (pv 2))))), fun sa ca L F0 H0 ds n hp => ?_⟩
  obtain ⟨m, rfl, hm, hn⟩ := hp
  repeat walk_at "gw"
  refine ws_forN ?_
  repeat walk_at "gw"
  refine ⟨by omega, by omega, fun i l1 n1 => ∃ (ws : List Str) (a b c e f g : Sl), l1 = [.sh .strm, .sh (.int (m : Int)), .owl (ws.map D.str), a, b, c, e, f, g] ∧ ws.length = i ∧ ws.Nodup ∧ (∀ x ∈ ws, Wd x) ∧ n1 ≤ n + 5 * i, ?_, ?_, ?_⟩
  · exact ⟨[], _, _, _, _, _, _, rfl, rfl, List.nodup_nil, fun _ h => by simp at h, by omega⟩
  · rintro i x l1 n1 hx ⟨ws, s3, s4, s5, s6, s7, s8, rfl, hwl, hnd, hwd, hn1⟩
    have hi : i < m := by
      have := (List.getElem?_eq_some_iff.mp hx).1
      simpa using this
    repeat walk_at "gw"
    refine we_join ?_
    repeat walk_at "gw"
    refine we_lcN (by decide) ?_
    repeat walk_at "gw"
    refine ⟨⟨_, rfl, by decide, by decide, by omega⟩, ?_⟩
    rintro d n2 H' _ ⟨m', k, he, rfl, h1, h2, rfl⟩
    simp only [List.cons.injEq, D.int.injEq, and_true, true_and] at he
    subst he
    obtain ⟨kk, rfl⟩ := Int.eq_ofNat_of_zero_le h1
    have hkk : kk < 4 := by omega
    have hnat : (1 + (kk : Int)).toNat = 1 + kk := by omega
    repeat walk_at "gw"
    rw [hnat]
    refine ⟨by omega, by omega, by rw [List.length_map, List.length_range]; omega, fun j acc n2 => ∃ cs : List Nat, acc = cs.map (fun c => D.str ⟨#[c]⟩) ∧ cs.length = j ∧ (∀ c ∈ cs, c ∈ lowAlpha) ∧ n2 = n1 + 1 + j, ⟨[], rfl, rfl, (fun _ h => by simp at h), by omega⟩, ?_, ?_⟩
    · rintro j y acc n2 hy ⟨cs, rfl, hcl, hca, rfl⟩
      have hj : j < 1 + kk := by
        have := (List.getElem?_eq_some_iff.mp hy).1
        simpa using this
      refine wt_yes ⟨fun _ => ?_, fun z => Bool.noConfusion z⟩
      repeat walk_at "gw"
      refine ⟨⟨by omega, .inr ⟨_, rfl, by decide +kernel, by decide +kernel⟩⟩, ?_⟩
      rintro d n2 H' _ ⟨rfl, ⟨xs, he, hd⟩ | ⟨z, c, he, rfl, hc⟩⟩
      · cases he
      · simp only [List.cons.injEq, D.str.injEq, and_true, true_and] at he
        subst he
        exact ⟨cs ++ [c], by rw [List.map_append]; rfl, by rw [List.length_append, hcl]; rfl, fun a ha => by
          rcases List.mem_append.mp ha with h | h
          · exact hca a h
          · rw [List.mem_singleton.mp h]; exact hc, by omega⟩
    · rintro acc n2 ⟨cs, rfl, hcl, hca, rfl⟩
      rw [List.length_map, List.length_range] at hcl ⊢
      refine ⟨cs.map fun c => ⟨#[c]⟩, by rw [List.map_map]; rfl, ?_, ?_⟩
      · have hs : ((cs.map fun c => (⟨#[c]⟩ : Str)).map (·.length)).sum = cs.length := by
          rw [List.map_map]
          have : ∀ cs : List Nat, (cs.map ((fun x : Str => x.length) ∘ fun c => (⟨#[c]⟩ : Str))).sum = cs.length := by
            intro cs
            induction cs with
            | nil => rfl
            | cons c r ih => rw [List.map_cons, List.sum_cons, ih, List.length_cons]; show 1 + r.length = _; omega
          exact this cs
        rw [hs, List.length_map]
        show cs.length + cs.length * 0 ≤ _
        omega
      rw [join_cs]
      have hword : Wd ⟨cs.toArray⟩ := wd_cs (by omega) (by omega) hca
      generalize hW : (⟨cs.toArray⟩ : Str) = W at hword
      obtain ⟨x1, r1, hf, hx1, hwd1⟩ := fresh_word (ws := ws) hword (by omega)
      repeat walk_at "gw"
      refine we_map (f := fun z => match z with | .str c => .str (c ++ "q") | _ => .non) (by decide) ?_
      repeat walk_at "gw"
      refine ⟨fun z hz => ?_, spares.map D.str, ?_, ?_⟩
      · obtain ⟨c, hc, rfl⟩ := List.mem_map.mp hz
        repeat walk_at "gw"
        exact ro_addS (by show 1 + 1 ≤ 100000; decide) ⟨rfl, rfl⟩
      · unfold spares
        rw [List.map_map, List.map_map]
        rfl
      have h26 : spares.length = 26 := by decide +kernel
      refine ro_cat (by rw [List.length_map, h26]; show 1 + 26 ≤ 100000; decide) ?_
      repeat walk_at "gw"
      refine we_filter (p := fun z => match z with | .str c => !decide (c ∈ ws) | _ => false) (f := id) (by decide) ?_
      repeat walk_at "gw"
      refine ⟨fun z hz => ?_, fun z hz _ => ?_, (x1 :: r1).map D.str, ?_, ?_⟩
      · have hz2 : z ∈ (W :: spares).map D.str := hz
        obtain ⟨c, hc, rfl⟩ := List.mem_map.mp hz2
        refine wt_test ?_
        refine' we_inO (i := 2) (zs := ws) ?h ?_
        case h => rfl
        repeat walk_at "gw"
        exact ⟨rfl, rfl⟩
      · repeat walk_at "gw"
        exact ⟨rfl, rfl⟩
      · rw [← hf, List.map_id]
        show (List.map D.str (W :: spares)).filter _ = _
        rw [List.filter_map]
        rfl
      repeat walk_at "gw"
      refine ro_ixL (d := .str x1) (atD (j := 0) rfl rfl) ?_
      rw [show ws.map D.str ++ [D.str x1] = (ws ++ [x1]).map D.str from by simp]
      refine ⟨by rw [List.length_map, hwl]; omega, ws ++ [x1], _, _, _, _, _, _, rfl, by rw [List.length_append, hwl]; rfl, ?_, fun a ha => ?_, by omega⟩
      · rw [List.nodup_append]
        exact ⟨hnd, by simp, fun a ha b hb e => hx1 (by rw [← List.mem_singleton.mp hb, ← e]; exact ha)⟩
      · rcases List.mem_append.mp ha with h | h
        · exact hwd a h
        · rw [List.mem_singleton.mp h]; exact hwd1
  · rintro l1 n1 ⟨ws, s3, s4, s5, s6, s7, s8, rfl, hwl, hnd, hwd, hn1⟩
    rw [List.length_map, List.length_range] at hwl hn1
    refine ws_frl (i := 2) rfl ?_
    repeat walk_at "gw"
    exact ⟨m, ws, rfl, rfl, by omega, hnd, hwd, by omega⟩
end
end Gw

/-! A drawn game is sound. -/
namespace Gw
open PySem L2
theorem NdOk.mono {N N' : List Str} {x : Nd} (h : NdOk N x) (hs : ∀ c ∈ N, c ∈ N') : NdOk N' x := by
  cases x with
  | mv o ms => exact ⟨h.1, h.2.1, h.2.2.1, fun q hq => ⟨(h.2.2.2 q hq).1, (h.2.2.2 q hq).2.1, hs _ (h.2.2.2 q hq).2.2⟩⟩
  | ch ls => exact ⟨h.1, h.2.1, h.2.2.1, fun q hq => ⟨hs _ (h.2.2.2 q hq).1, (h.2.2.2 q hq).2⟩⟩
  | en q => exact h
/-- what is built of a game so far -/
structure BInv (nms : List Str) (i : Nat) (G : Gm) : Prop where
  nm : names G = nms.take i
  ok : ∀ n x, (n, x) ∈ G → NdOk nms x ∧ ∀ c ∈ targets x, nms.idxOf n < nms.idxOf c
theorem idx_at : ∀ {l : List Str} {i : Nat} {n : Str}, l.Nodup → l[i]? = some n → l.idxOf n = i
  | x :: l, 0, n, h, e => by
    simp at e
    subst e
    simp [List.idxOf_cons]
  | x :: l, i + 1, n, h, e => by
    have hm : n ∈ l := List.mem_of_getElem? (by simpa using e)
    have hne : x ≠ n := fun z => (List.nodup_cons.mp h).1 (by rw [z]; exact hm)
    have ih := idx_at (l := l) (i := i) (List.nodup_cons.mp h).2 (by simpa using e)
    rw [List.idxOf_cons, beq_eq_false_iff_ne.mpr hne, ih]
    rfl
theorem idx_drop {l : List Str} {i : Nat} {c : Str} (h : l.Nodup) (hc : c ∈ l.drop i) : i ≤ l.idxOf c := by
  obtain ⟨j, hj⟩ := List.mem_iff_getElem?.mp hc
  rw [List.getElem?_drop] at hj
  rw [idx_at h hj]
  omega
theorem BInv.zero {nms : List Str} : BInv nms 0 [] := ⟨rfl, fun n x h => by cases h⟩
theorem BInv.step {nms : List Str} {i : Nat} {G : Gm} {n : Str} {x : Nd} (hn : nms.Nodup) (h : BInv nms i G) (e : nms[i]? = some n) (ok : NdOk (nms.drop (i + 1)) x) : BInv nms (i + 1) (G ++ [(n, x)]) := by
  refine ⟨?_, fun m y hm => ?_⟩
  · unfold names
    rw [List.map_append, List.take_add_one, e]
    exact congrArg (· ++ [n]) h.nm
  · rcases List.mem_append.mp hm with hm | hm
    · exact h.ok m y hm
    · cases List.mem_singleton.mp hm
      refine ⟨ok.mono fun c hc => List.mem_of_mem_drop hc, fun c hc => ?_⟩
      rw [idx_at hn e]
      have := idx_drop hn (ok.tg c hc)
      omega
theorem BInv.new {nms : List Str} {i : Nat} {G : Gm} {n : Str} (hn : nms.Nodup) (h : BInv nms i G) (e : nms[i]? = some n) : n ∉ names G := by
  rw [h.nm]
  exact nodup_take hn e
def reG (G : Gm) (qs : List Str) : Gm := qs.map fun n => (n, (nodeAt G n).getD (.en (0, 1)))
theorem names_reG (G : Gm) (qs : List Str) : names (reG G qs) = qs := by
  unfold names reG
  rw [List.map_map]
  exact List.map_id qs
theorem reG_ok {nms qs : List Str} {G : Gm} (h : BInv nms nms.length G) (hp : qs.Perm nms) (hn : nms.Nodup) (h0 : nms ≠ []) (hl : nms.length ≤ 9) (hw : ∀ n ∈ nms, Wd n) : GOk (reG G qs) (fun n => nms.length - 1 - nms.idxOf n) := by
  have hnm : names G = nms := by rw [h.nm, List.take_length]
  have hmem : ∀ {n}, n ∈ qs ↔ n ∈ nms := fun {n} => hp.mem_iff
  have hlen := hp.length_eq
  have hx : ∀ n x, (n, x) ∈ reG G qs → n ∈ nms ∧ (n, x) ∈ G := fun n x hm => by
    obtain ⟨m, hm, e⟩ := List.mem_map.mp hm
    have hm' := hmem.mp hm
    obtain ⟨y, hy⟩ := nodeAt_of (G := G) (n := m) (by rw [hnm]; exact hm')
    rw [hy] at e
    cases e
    exact ⟨hm', nodeAt_mem hy⟩
  have hlt : ∀ {n}, n ∈ nms → nms.idxOf n < nms.length := fun {n} hn => List.idxOf_lt_length_iff.mpr hn
  refine ⟨fun e => ?_, ?_, ?_, ?_, ?_, ?_, ?_, ?_⟩
  · have e2 : qs.length = 0 := by
      have := congrArg List.length e
      unfold reG at this
      simpa using this
    exact h0 (List.length_eq_zero_iff.mp (by omega))
  · unfold reG; rw [List.length_map]; omega
  · rw [names_reG]; exact hp.symm.nodup hn
  · rw [names_reG]; exact fun n hq => hw n (hmem.mp hq)
  · intro n x hm
    rw [names_reG]
    exact (h.ok n x (hx n x hm).2).1.mono fun c hc => hmem.mpr hc
  · intro n x hm c hc
    have h1 := (h.ok n x (hx n x hm).2)
    have h2 := h1.2 c hc
    have h3 := hlt (h1.1.tg c hc)
    show nms.length - 1 - nms.idxOf c < nms.length - 1 - nms.idxOf n
    omega
  · rw [names_reG]
    intro n hq
    have := hlt (hmem.mp hq)
    unfold reG
    rw [List.length_map]
    show nms.length - 1 - nms.idxOf n < qs.length
    omega
  · rw [names_reG]
    intro n hq m hq' e
    have h1 := hlt (hmem.mp hq)
    have h2 := hlt (hmem.mp hq')
    have e' : nms.length - 1 - nms.idxOf n = nms.length - 1 - nms.idxOf m := e
    have : nms.idxOf n = nms.idxOf m := by omega
    have g1 := List.getElem_idxOf h1
    have g2 := List.getElem_idxOf h2
    rw [← g1, ← g2]
    simp only [this]
theorem gkv_reG {G : Gm} {ad : Str → Addr} {qs : List Str} (hn : qs.Nodup) : mergeD [] (gkv ad (reG G qs)) = gkv ad (reG G qs) := by
  rw [mergeD_nodup]
  · rfl
  · rw [List.nil_append, keys_gkv, names_reG]; exact hn
end Gw

/-! Drawn moves and lots, a drawn game, a drawn plan. -/
namespace Gw
open PySem L2
local macro_rules | `(tactic| walk_at "gw") => `(tactic| first
  | (with_reducible refine ws_seq ?_)
  | (with_reducible refine ws_ret ?_)
  | (with_reducible refine ws_newl ?_)
  | (with_reducible refine ws_newd ?_)
  | (with_reducible refine ws_set ?_)
  | (with_reducible refine ws_par3 ?_)
  | (with_reducible refine ws_par ?_)
  | (with_reducible refine ws_if ?_)
  | (with_reducible refine ws_next ?_)
  | (with_reducible refine ws_cont ?_)
  | (with_reducible refine ws_asgP ?_)
  | (with_reducible refine ws_asgP3 ?_)
  | ((with_reducible refine' ws_app ?h ?_); (case h => rfl))
  | ((with_reducible refine' ws_clear ?h ?_); (case h => rfl))
  | ((with_reducible refine' ws_dput ?h ?_); (case h => rfl))
  | (with_reducible refine ws_drop ?_)
  | ((with_reducible refine' we_var ?h ?_); (case h => rfl))
  | (with_reducible refine we_int ?_)
  | (with_reducible refine we_str ?_)
  | (with_reducible refine we_bl ?_)
  | (with_reducible refine we_non ?_)
  | (with_reducible refine we_ty ?_)
  | ((with_reducible refine' we_ixM ?h ?e ?_); (case h => rfl); (case e => exact atI_last _ _))
  | ((with_reducible refine' we_ixO ?h ?_); (case h => rfl))
  | (with_reducible refine we_neg ?_)
  | (with_reducible refine we_op ?_)
  | (with_reducible refine ro_I0 ?_)
  | (with_reducible refine ro_B0 ?_)
  | ((with_reducible refine ro_I ?h ?_); (case h => first | assumption | omega))
  | ((with_reducible refine' ro_ixT ?h ?_); (case h => rfl))
  | (with_reducible refine ro_inT2 ?_)
  | (with_reducible refine ro_ninT2 ?_)
  | (with_reducible refine ro_eqS ?_)
  | (with_reducible refine ro_neS ?_)
  | (with_reducible refine ro_eqI ?_)
  | (with_reducible refine ro_neI ?_)
  | (with_reducible refine ro_eqB ?_)
  | (with_reducible refine ro_notNon ?_)
  | (with_reducible refine ro_neB ?_)
  | ((with_reducible refine' we_dgetO ?h ?_); (case h => rfl))
  | ((with_reducible refine' we_dinO ?h ?_); (case h => rfl))
  | ((with_reducible refine' we_dnotinO ?h ?_); (case h => rfl))
  | (with_reducible refine we_dget ?_)
  | (with_reducible refine we_din ?_)
  | (with_reducible refine we_dnotin ?_)
  | ((with_reducible refine we_tup ?_))
  | ((with_reducible refine we_lst ?_))
  | (with_reducible refine wa_cons ?_)
  | (with_reducible refine wa_nil ?_)
  | (with_reducible refine we_cb ?_)
  | (with_reducible refine we_chain ?_)
  | (with_reducible refine we_if ?_)
  | (with_reducible refine we_andV ?_)
  | (with_reducible refine we_orV ?_)
  | (with_reducible refine we_notV ?_)
  | (with_reducible refine wt_test ?_)
  | (with_reducible refine wt_B ?_)
  | (with_reducible refine wt_not ?_)
  | (with_reducible refine wt_and ?_)
  | (with_reducible refine wt_or ?_)
  | (with_reducible refine wt_ifT ?_)
  | (with_reducible refine we_call ?_)
  | ((with_reducible refine' we_callS ?h ?_); (case h => rfl))
  | ((with_reducible refine' we_meth ?h ?_); (case h => decide +kernel))
  | (with_reducible refine rc_abs ?_)
  | (with_reducible refine rc_int ?_)
  | (with_reducible refine rc_lenL ?_)
  | (with_reducible refine rc_lenT ?_)
  | (with_reducible refine rc_lenD ?_)
  | (with_reducible refine rc_lenLS ?_)
  | (with_reducible refine rc_sum ?_)
  | (with_reducible refine rc_tupT ?_)
  | ((with_reducible refine' rc_isi ?ht ?hb ?_); (case ht => rfl); (case hb => first | exact kb_int_int | exact kb_int_bool | exact kb_int_list | exact kb_int_tuple | exact kb_str_str | exact kb_dict_dict | exact kb_list_list | exact kb_list_tuple | exact kb_tuple_list | exact kb_tuple_tuple | exact kb_bool_int | exact kb_bool_bool))
  | ((with_reducible refine' rc_isiT ?ht ?h1 ?h2 ?_); (case ht => rfl); (case h1 => first | exact kb_int_int | exact kb_int_bool | exact kb_int_list | exact kb_int_tuple | exact kb_str_str | exact kb_dict_dict | exact kb_list_list | exact kb_list_tuple | exact kb_tuple_list | exact kb_tuple_tuple | exact kb_bool_int | exact kb_bool_bool); (case h2 => first | exact kb_int_int | exact kb_int_bool | exact kb_int_list | exact kb_int_tuple | exact kb_str_str | exact kb_dict_dict | exact kb_list_list | exact kb_list_tuple | exact kb_tuple_list | exact kb_tuple_tuple | exact kb_bool_int | exact kb_bool_bool))
  | (with_reducible refine rc_allT ?_)
  | (with_reducible refine rc_anyF ?_)
  | (with_reducible refine rc_all ?_)
  | (with_reducible refine rc_any ?_)
  | (with_reducible refine rc_listD ?_)
  | (with_reducible refine rc_dictD fun _ _ => ?_)
  | (with_reducible refine we_rev ?_)
  | (with_reducible refine we_slL ?_)
  | (with_reducible refine wo_no ?_)
  | (with_reducible refine wo_part ?_)
  | (with_reducible refine we_listVals ?_)
  | ((with_reducible refine' we_fld ?hc ?hn ?_); (case hc => assumption); (case hn => assumption))
  | (with_reducible refine wi_list ?_)
  | (with_reducible refine wi_range1 ?_)
  | (with_reducible refine wi_str ?_)
  | (with_reducible refine wi_enum ?_)
  | (with_reducible refine wg_name ?_)
  | (with_reducible refine wg_two ?_)
  | (refine ⟨Nat.le_of_ble_eq_true rfl, ?_⟩)
  | (refine ⟨_, rfl, ?_⟩)
  | (refine ⟨_, _, rfl, ?_⟩)
  | (refine ⟨_, _, _, rfl, rfl, ?_⟩)
  | (refine ⟨_, _, _, rfl, ?_⟩)
  | (refine ⟨fun _ => ?_, fun z => Bool.noConfusion z⟩)
  | (refine ⟨fun z => Bool.noConfusion z, fun _ => ?_⟩)
  | (refine ⟨fun _ => ?_, fun z => absurd z (by decide +kernel)⟩)
  | (refine ⟨fun z => absurd z (by decide +kernel), fun _ => ?_⟩))
section
variable {P : Program} {w : World} {K : PySem.W.Frag} {mg : Str → Option Value} {base : Heap} {C : Addr}
def unS : D → Str
  | .str s => s
  | _ => ""
theorem perm_str {ys : List D} {xs : List Str} (h : ys.Perm (xs.map D.str)) : ∃ zs : List Str, ys = zs.map D.str ∧ zs.Perm xs := by
  refine ⟨ys.map unS, ?_, ?_⟩
  · rw [List.map_map]
    have : ∀ y ∈ ys, (D.str ∘ unS) y = y := fun y hy => by
      obtain ⟨x, _, rfl⟩ := List.mem_map.mp (h.mem_iff.mp hy)
      rfl
    rw [List.map_congr_left this, List.map_id']
  · have := h.map unS
    rw [List.map_map] at this
    rw [show List.map (unS ∘ D.str) xs = xs from List.map_id xs] at this
    exact this
abbrev s__law_t_leads : Stmt := top 49
abbrev N__law_t_leads : List Str := ["_law_stream", "_law_word", "_law_some", "_law_moves", "_law_places", "_law_place", "_law_move"]
theorem sc__law_t_leads : FnScope N__law_t_leads ["_law_stream", "_law_word", "_law_some"] (C8.fnScope s__law_t_leads) := C8.fnScope_by (by decide +kernel)
def preLeads : List Addr → List D → Nat → Prop := fun _ ds n => ∃ (wd : Str) (xs : List Str), ds = [.strm, .str wd, .lst (xs.map D.str)] ∧ (wd = "chance" ∨ ∃ o, wd = sideS o) ∧ xs ≠ [] ∧ xs.length ≤ 9 ∧ xs.Nodup ∧ n < 2 ^ 37
def postLeads : Hp → List D → Nat → D → Nat → Prop := fun _ ds n d n2 => ∃ (wd : Str) (xs : List Str) (x : Nd) (a : Addr), ds = [.strm, .str wd, .lst (xs.map D.str)] ∧ d = restD a x ∧ word x = wd ∧ NdOk xs x ∧ n2 ≤ n + 20
theorem ok__law_t_leads (T : Txt K mg C) (DB : DefB K mg "_law_t_leads" s__law_t_leads ["_law_stream", "_law_word", "_law_some"]) (c__law_draw : C8.Cal P w K mg base 1 "_law_draw" (spG C true preDraw postDraw) []) (c__law_pick : C8.Cal P w K mg base 2 "_law_pick" (spG C true prePick postPick) []) (c__law_mixed : C8.Cal P w K mg base 2 "_law_mixed" (spG C true preMixed postMixed) []) (c__law_t_words : C8.Cal P w K mg base 3 "_law_t_words" (spG C true preWords postWords) []) : C8.Cal P w K mg base 4 "_law_t_leads" (spG C true preLeads postLeads) [] := by
  refine cal_ok DB sc__law_t_leads (fun L ds n hp => ?_) fun f cdv A outer sh H E hr => ?_
  · obtain ⟨_, _, rfl, _⟩ := hp; rfl
  have nd := sc__law_t_leads.nd
  refine ⟨_, (pss_cons (ps_if (pt_cmpR op_eq (pv 1) pe_str (nomark _)) (pss_cons (ps_set (i := 4) nd rfl (Or.inl rfl) (pe_slice (r := rSlL K) sl_list (C8.pe_c c__law_mixed hr (by decide) (by rfl) (pa_cons (pv 0) (pa_cons (pv 2) pa_nil))) po_none (po_some (pe_op op_add pe_int (C8.pe_c c__law_draw hr (by decide) (by rfl) (pa_cons (pv 0) (pa_cons pe_int pa_nil)))))))
      (pss_one (ps_ret (pe_lc (own := [("_law_place", 5)]) rfl nd (pi_listK K (pv 4)) (blkOk_by (own := [("_law_place", 5)]) (N := N__law_t_leads) (sc := C8.fnScope s__law_t_leads) (by decide +kernel)) (fun _ _ _ _ _ => pg_name (i := 5) nd rfl (Or.inl rfl)) (fun _ _ _ _ _ => pts_nil) (fun _ _ _ _ _ => (pe_tup (pa_cons (pv 5) (pa_cons (pe_op op_add pe_int (C8.pe_c c__law_draw hr (by decide) (by rfl) (pa_cons (pv 0) (pa_cons pe_int pa_nil)))) pa_nil)))))))) pss_nil)
    (pss_cons (ps_set (i := 3) nd rfl (Or.inl rfl) (C8.pe_c c__law_t_words hr (by decide) (by rfl) (pa_cons (pv 0) (pa_cons (pe_op op_add pe_int (C8.pe_c c__law_draw hr (by decide) (by rfl) (pa_cons (pv 0) (pa_cons pe_int pa_nil)))) pa_nil))))
    (pss_one (ps_ret (pe_callTy (T := "dict") (r := cDictP K) (call_dictP1 rfl) (by rfl) T.n_dict (by decide +kernel) (pa_cons (pe_lc (own := [("_law_move", 6)]) rfl nd (pi_listK K (pv 3)) (blkOk_by (own := [("_law_move", 6)]) (N := N__law_t_leads) (sc := C8.fnScope s__law_t_leads) (by decide +kernel)) (fun _ _ _ _ _ => pg_name (i := 6) nd rfl (Or.inl rfl)) (fun _ _ _ _ _ => pts_nil) (fun _ _ _ _ _ => (pe_tup (pa_cons (pv 6) (pa_cons (C8.pe_c c__law_pick hr (by decide) (by rfl) (pa_cons (pv 0) (pa_cons (pv 2) pa_nil))) pa_nil))))) pa_nil)))))), fun sa ca L F0 H0 ds n hp => ?_⟩
  obtain ⟨wd, xs, rfl, hwd, hne, hlen, hnd, hn⟩ := hp
  repeat walk_at "gw"
  refine ⟨fun hb => ?_, fun hb => ?_⟩
  · have hw : wd = "chance" := of_decide_eq_true hb
    repeat walk_at "gw"
    refine ⟨⟨_, rfl, by rw [List.length_map]; omega, by omega⟩, ?_⟩
    rintro d n2 H' _ ⟨xs', ys, he, rfl, hperm, rfl⟩
    simp only [List.cons.injEq, D.lst.injEq, and_true, true_and] at he
    subst he
    repeat walk_at "gw"
    refine ⟨⟨_, rfl, by decide, by decide, by rw [List.length_map]; omega⟩, ?_⟩
    rintro d n2 H' _ ⟨m', k, he, rfl, h1, h2, rfl⟩
    simp only [List.cons.injEq, D.int.injEq, and_true, true_and] at he
    subst he
    obtain ⟨kk, rfl⟩ := Int.eq_ofNat_of_zero_le h1
    have hkk : kk < 3 := by omega
    obtain ⟨zs, rfl, hpz⟩ := perm_str hperm
    have hzl := hpz.length_eq
    have hznd : zs.Nodup := hpz.symm.nodup hnd
    repeat walk_at "gw"
    rw [show (1 + (kk : Int)) = ((1 + kk : Nat) : Int) from by omega, cutD_take]
    rw [← List.map_take]
    generalize hV : zs.take (1 + kk) = vs
    have hvl : vs.length ≤ 3 := by rw [← hV, List.length_take]; omega
    have hv0 : vs ≠ [] := by
      rw [← hV]
      intro e
      have := congrArg List.length e
      have h0 := List.length_pos_iff.mpr hne
      rw [List.length_take, List.length_nil] at this
      omega
    have hvnd : vs.Nodup := by rw [← hV]; exact (List.take_sublist _ _).nodup hznd
    have hvx : ∀ v ∈ vs, v ∈ xs := fun v hv => by rw [← hV] at hv; exact hpz.mem_iff.mp (List.mem_of_mem_take hv)
    have hn0 : n + (xs.map D.str).length + 1 ≤ n + 10 := by rw [List.length_map]; omega
    generalize n + (xs.map D.str).length + 1 = N0 at hn0
    repeat walk_at "gw"
    refine we_lcN (by decide) ?_
    repeat walk_at "gw"
    refine ⟨by rw [List.length_map]; omega, fun j acc n2 => ∃ ls : List (Str × Int), acc = ls.map lotD ∧ ls.map (·.1) = vs.take j ∧ (∀ q ∈ ls, 1 ≤ q.2 ∧ q.2 ≤ 3) ∧ n2 = N0 + j, ⟨[], rfl, rfl, (fun _ h => by simp at h), rfl⟩, ?_, ?_⟩
    · rintro j y acc n2 hy ⟨ls, rfl, hls, hlq, rfl⟩
      rw [List.getElem?_map] at hy
      cases hvj : vs[j]? with
      | none => rw [hvj] at hy; cases hy
      | some v =>
      rw [hvj] at hy
      cases hy
      have hj := (List.getElem?_eq_some_iff.mp hvj).1
      refine wt_yes ⟨fun _ => ?_, fun z => Bool.noConfusion z⟩
      repeat walk_at "gw"
      refine ⟨⟨_, rfl, by decide, by decide, by omega⟩, ?_⟩
      rintro d n2 H' _ ⟨m', k, he, rfl, h1, h2, rfl⟩
      simp only [List.cons.injEq, D.int.injEq, and_true, true_and] at he
      subst he
      repeat walk_at "gw"
      refine ⟨ls ++ [(v, 1 + k)], by rw [List.map_append]; rfl, by rw [List.map_append, hls, List.take_add_one, hvj]; rfl, fun q hq => ?_, by omega⟩
      rcases List.mem_append.mp hq with h | h
      · exact hlq q h
      · rw [List.mem_singleton.mp h]; exact ⟨by show 1 ≤ 1 + k; omega, by show 1 + k ≤ 3; omega⟩
    · rintro acc n2 ⟨ls, rfl, hls, hlq, rfl⟩
      rw [List.length_map, List.take_length] at hls
      rw [List.length_map]
      refine ⟨_, xs, .ch ls, 0, rfl, rfl, hw.symm, ⟨?_, ?_, ?_, fun q hq => ⟨?_, hlq q hq⟩⟩, by omega⟩
      · intro e; subst e; exact hv0 hls.symm
      · have := congrArg List.length hls
        rw [List.length_map] at this
        omega
      · rw [hls]; exact hvnd
      · exact hvx _ (by rw [← hls]; exact List.mem_map.mpr ⟨q, hq, rfl⟩)
  · have hw : ¬ wd = "chance" := of_decide_eq_false hb
    obtain ⟨o, rfl⟩ := hwd.resolve_left hw
    repeat walk_at "gw"
    refine ⟨⟨_, rfl, by decide, by decide, by omega⟩, ?_⟩
    rintro d n2 H' _ ⟨m', k, he, rfl, h1, h2, rfl⟩
    simp only [List.cons.injEq, D.int.injEq, and_true, true_and] at he
    subst he
    obtain ⟨kk, rfl⟩ := Int.eq_ofNat_of_zero_le h1
    have hkk : kk < 3 := by omega
    repeat walk_at "gw"
    refine ⟨⟨1 + kk, by simp, by omega, by omega⟩, ?_⟩
    rintro d n2 H' _ ⟨m', vs, he, rfl, hvl, hvnd, hvw, hn2⟩
    simp only [List.cons.injEq, D.int.injEq, and_true, true_and] at he
    have he : m' = 1 + kk := by omega
    subst he
    repeat walk_at "gw"
    refine we_lcN (by decide) ?_
    repeat walk_at "gw"
    refine ⟨by rw [List.length_map]; omega, fun j acc n3 => ∃ ms : List (Str × Str), acc = (mvD ms).map (fun q => D.tup [.str q.1, q.2]) ∧ ms.map (·.1) = vs.take j ∧ (∀ q ∈ ms, q.2 ∈ xs) ∧ n3 = n2 + j, ⟨[], rfl, rfl, (fun _ h => by simp at h), rfl⟩, ?_, ?_⟩
    · rintro j y acc n3 hy ⟨ms, rfl, hms, hmq, rfl⟩
      rw [List.getElem?_map] at hy
      cases hvj : vs[j]? with
      | none => rw [hvj] at hy; cases hy
      | some v =>
      rw [hvj] at hy
      cases hy
      have hj := (List.getElem?_eq_some_iff.mp hvj).1
      refine wt_yes ⟨fun _ => ?_, fun z => Bool.noConfusion z⟩
      repeat walk_at "gw"
      refine ⟨⟨by omega, .inl ⟨_, rfl, by simpa using hne, by rw [List.length_map]; omega⟩⟩, ?_⟩
      rintro d n4 H' _ ⟨rfl, ⟨xs', he, hd⟩ | ⟨z, c, he, _⟩⟩
      · simp only [List.cons.injEq, D.lst.injEq, and_true, true_and] at he
        subst he
        obtain ⟨t, ht, rfl⟩ := List.mem_map.mp hd
        repeat walk_at "gw"
        refine ⟨ms ++ [(v, t)], by unfold mvD; rw [List.map_append, List.map_append]; rfl, by rw [List.map_append, hms, List.take_add_one, hvj]; rfl, fun q hq => ?_, by omega⟩
        rcases List.mem_append.mp hq with h | h
        · exact hmq q h
        · rw [List.mem_singleton.mp h]; exact ht
      · cases he
    · rintro acc n3 ⟨ms, rfl, hms, hmq, rfl⟩
      rw [List.length_map, List.take_length] at hms
      rw [List.length_map]
      repeat walk_at "gw"
      refine rc_dictP fun p hp => ?_
      have hmnd : (ms.map (·.1)).Nodup := by rw [hms]; exact hvnd
      rw [mergeD_nodup (acc := []) (by rw [List.nil_append, keys_mvD]; exact hmnd)]
      have hml := congrArg List.length hms
      rw [List.length_map] at hml
      refine ⟨_, xs, .mv o ms, p, rfl, rfl, rfl, ⟨?_, by omega, hmnd, fun q hq => ?_⟩, by omega⟩
      · intro e; subst e; simp at hml; omega
      · have hqv : q.1 ∈ vs := by rw [← hms]; exact List.mem_map.mpr ⟨q, hq, rfl⟩
        exact ⟨(hvw _ hqv).1, (hvw _ hqv).2, hmq q hq⟩
abbrev s__law_t_one_plan : Stmt := top 54
abbrev N__law_t_one_plan : List Str := ["_law_stream", "_law_game", "_law_side", "_law_found", "_law_name"]
theorem sc__law_t_one_plan : FnScope N__law_t_one_plan ["_law_stream", "_law_game", "_law_side"] (C8.fnScope s__law_t_one_plan) := C8.fnScope_by (by decide +kernel)
def preOne : List Addr → List D → Nat → Prop := fun L ds n => ∃ g ad G rk o, ds = [.strm, gameD g ad G, .str (sideS o)] ∧ GOk G rk ∧ g ∉ L ∧ n < 2 ^ 37
def postOne : Hp → List D → Nat → D → Nat → Prop := fun H ds n d n2 => ∃ g ad G o p ms, ds = [.strm, gameD g ad G, .str (sideS o)] ∧ d = .dct (some p) (mvD ms) ∧ H p = none ∧ ms.map (·.1) = sideNames G o ∧ PlanOk G o ms ∧ n2 ≤ n + 9
theorem sideNames_take {G : Gm} {o : Bool} {i : Nat} {q : Str × Nd} (h : G[i]? = some q) : sideNames (G.take (i + 1)) o = sideNames (G.take i) o ++ (if word q.2 = sideS o then [q.1] else []) := by
  unfold sideNames
  rw [List.take_add_one, h, List.filter_append, List.map_append]
  congr 1
  show List.map (·.1) (List.filter _ [q]) = _
  rw [List.filter_cons]
  by_cases e : word q.2 = sideS o
  · rw [if_pos e, if_pos (decide_eq_true e)]; rfl
  · rw [if_neg e, if_neg (by simpa using e)]; rfl
theorem put_mvD {ms : List (Str × Str)} {m t : Str} (h : m ∉ ms.map (·.1)) : putD (mvD ms) m (.str t) = mvD (ms ++ [(m, t)]) := by
  rw [putD_new]
  · unfold mvD; rw [List.map_append]; rfl
  · intro q hq e
    exact h (by rw [← keys_mvD, ← e]; exact List.mem_map.mpr ⟨q, hq, rfl⟩)
theorem sideNames_tk {G : Gm} {o : Bool} {i : Nat} {n : Str} (h : n ∈ sideNames (G.take i) o) : n ∈ (names G).take i := by
  obtain ⟨q, hq, rfl⟩ := List.mem_map.mp h
  unfold names
  rw [← List.map_take]
  exact List.mem_map.mpr ⟨q, (List.mem_filter.mp hq).1, rfl⟩
theorem planOk_of {G : Gm} {o : Bool} {ms : List (Str × Str)} (hn : (names G).Nodup) (hk : ms.map (·.1) = sideNames G o) (hq : ∀ q ∈ ms, ∃ ns, (q.1, Nd.mv o ns) ∈ G ∧ q.2 ∈ ns.map (·.1)) : PlanOk G o ms := by
  refine ⟨by rw [← hk, List.length_map], fun n ns hm => ?_⟩
  obtain ⟨m, hl⟩ := lkp_of (ms := ms) (n := n) (by rw [hk]; exact mem_sideNames hm)
  refine ⟨m, hl, ?_⟩
  obtain ⟨ns', h1, h2⟩ := hq _ (lkp_mem hl)
  have e1 := nodeAt_eq hn h1
  have e2 := nodeAt_eq hn hm
  rw [e1] at e2
  cases e2
  exact h2
theorem ok__law_t_one_plan (T : Txt K mg C) (DB : DefB K mg "_law_t_one_plan" s__law_t_one_plan ["_law_stream", "_law_game", "_law_side"]) (c__law_pick : C8.Cal P w K mg base 2 "_law_pick" (spG C true prePick postPick) []) : C8.Cal P w K mg base 3 "_law_t_one_plan" (spG C true preOne postOne) [] := by
  refine cal_ok DB sc__law_t_one_plan (fun L ds n hp => ?_) fun f cdv A outer sh H E hr => ?_
  · obtain ⟨_, _, _, _, _, rfl, _⟩ := hp; rfl
  have nd := sc__law_t_one_plan.nd
  refine ⟨_, (pss_cons (ps_set (i := 3) nd rfl (Or.inl rfl) pe_dnewK)
    (pss_cons (ps_lock (ps_for PassesOwn.never rfl (pi_keys (pv 1)) (pg_name (i := 4) nd rfl (Or.inl rfl))
      (pss_one (ps_if (pt_cmpR op_eq (pe_ix (r := rIxT K) ix_tup (pe_dget (hu_of hr) (pv 1) (pv 4) (fun _ _ => rfl)) pe_int (fun _ _ => rfl)) (pv 2) (nomark _)) (pss_one (ps_dput (hu_of hr) (pv 3) (pv 4) (C8.pe_c c__law_pick hr (by decide) (by rfl) (pa_cons (pv 0) (pa_cons (pe_callTy (T := "list") (r := cListD) (call_listD1 rfl) (by rfl) T.n_list (by decide +kernel) (pa_cons (pe_ix (r := rIxT K) ix_tup (pe_dget (hu_of hr) (pv 1) (pv 4) (fun _ _ => rfl)) pe_int (fun _ _ => rfl)) pa_nil)) pa_nil))) rfl)) pss_nil))))
    (pss_one (ps_ret (pv 3))))), fun sa ca L F0 H0 ds n hp => ?_⟩
  obtain ⟨g, ad, G, rk, o, rfl, hG, hgL, hn⟩ := hp
  have hlen := hG.len
  have hNl : (names G).length = G.length := by unfold names; rw [List.length_map]
  repeat walk_at "gw"
  refine ws_lock (a := g) ?_ ?_ ?_ fun od => ws_forN (wi_keys ?_)
  · exact ⟨1, _, _, rfl, .refl⟩
  · exact List.not_mem_nil
  · exact hgL
  repeat walk_at "gw"
  refine ⟨g, _, od, rfl, List.mem_cons_self, fun i l1 n1 => ∃ (ms : List (Str × Str)) (x4 : Sl), l1 = [.sh .strm, .sh (gameD g ad G), .sh (.str (sideS o)), .owd (mvD ms), x4] ∧ ms.map (·.1) = sideNames (G.take i) o ∧ (∀ q ∈ ms, ∃ ns, (q.1, Nd.mv o ns) ∈ G ∧ q.2 ∈ ns.map (·.1)) ∧ n1 ≤ n + i, ⟨[], _, rfl, rfl, (fun _ h => by simp at h), by omega⟩, ?_, ?_⟩
  · rintro i d l1 n1 hi ⟨ms, x4, rfl, hk, hq, hn1⟩
    rw [keys_gkv, List.getElem?_map] at hi
    cases hn : (names G)[i]? with
    | none => rw [hn] at hi; cases hi
    | some m =>
    rw [hn] at hi
    cases hi
    have hm := List.mem_of_getElem? hn
    have hi9 := (List.getElem?_eq_some_iff.mp hn).1
    obtain ⟨y, h1, h2, h3, h4⟩ := hG.lk hm ad
    have hGi : G[i]? = some (m, y) := by
      unfold names at hn
      rw [List.getElem?_map] at hn
      cases e : G[i]? with
      | none => rw [e] at hn; cases hn
      | some q =>
        rw [e] at hn
        cases hn
        have := nodeAt_eq hG.nd (List.mem_of_getElem? e : (q.1, q.2) ∈ G)
        rw [h2] at this
        cases this
        rfl
    have hst := sideNames_take (o := o) hGi
    repeat walk_at "gw"
    refine ⟨_, h1, ?_⟩
    repeat walk_at "gw"
    refine ⟨fun hb => ?_, fun hb => ?_⟩
    · have hw : word y = sideS o := of_decide_eq_true hb
      rw [if_pos hw] at hst
      obtain ⟨ns, rfl⟩ := side_mv hw
      repeat walk_at "gw"
      refine ⟨_, h1, ?_⟩
      repeat walk_at "gw"
      have hns := h4.1
      have hnl := h4.2.1
      refine ⟨⟨by omega, .inl ⟨_, rfl, by rw [keys_mvD]; simpa using hns, by rw [keys_mvD, List.length_map, List.length_map]; omega⟩⟩, ?_⟩
      rintro d n2 H' _ ⟨rfl, ⟨xs', he, hd⟩ | ⟨z, c, he, _⟩⟩
      · simp only [List.cons.injEq, D.lst.injEq, and_true, true_and] at he
        subst he
        rw [keys_mvD] at hd
        obtain ⟨t, ht, rfl⟩ := List.mem_map.mp hd
        have hmn : m ∉ ms.map (·.1) := fun z => nodup_take hG.nd hn (sideNames_tk (by rw [← hk]; exact z))
        have hml := congrArg List.length hk
        have hsl : (sideNames (G.take i) o).length ≤ G.length := by
          unfold sideNames
          rw [List.length_map]
          exact Nat.le_trans (List.length_filter_le ..) (by rw [List.length_take]; omega)
        rw [List.length_map] at hml
        repeat walk_at "gw"
        rw [put_mvD hmn]
        refine ⟨by unfold mvD; rw [List.length_map]; omega, ms ++ [(m, t)], _, rfl, by rw [List.map_append, hk, hst]; rfl, fun q hq' => ?_, by omega⟩
        rcases List.mem_append.mp hq' with h | h
        · exact hq q h
        · rw [List.mem_singleton.mp h]; exact ⟨ns, h3, ht⟩
      · cases he
    · have hw : ¬ word y = sideS o := of_decide_eq_false hb
      rw [if_neg hw, List.append_nil] at hst
      refine ws_next ⟨ms, _, rfl, by rw [hst]; exact hk, hq, by omega⟩
  · rintro l1 n1 ⟨ms, x4, rfl, hk, hq, hn1⟩
    rw [List.length_map, keys_gkv] at hk hn1
    rw [hNl, List.take_length] at hk
    refine ws_frd (i := 3) rfl fun a ha => ?_
    repeat walk_at "gw"
    exact ⟨g, ad, G, o, a, ms, rfl, rfl, ha, hk, planOk_of hG.nd hk hq, by omega⟩
end
end Gw

/-! A drawn game. -/
namespace Gw
open PySem L2
local macro_rules | `(tactic| walk_at "gw") => `(tactic| first
  | (with_reducible refine ws_seq ?_)
  | (with_reducible refine ws_ret ?_)
  | (with_reducible refine ws_newl ?_)
  | (with_reducible refine ws_newd ?_)
  | (with_reducible refine ws_set ?_)
  | (with_reducible refine ws_par3 ?_)
  | (with_reducible refine ws_par ?_)
  | (with_reducible refine ws_if ?_)
  | (with_reducible refine ws_next ?_)
  | (with_reducible refine ws_cont ?_)
  | (with_reducible refine ws_asgP ?_)
  | (with_reducible refine ws_asgP3 ?_)
  | ((with_reducible refine' ws_app ?h ?_); (case h => rfl))
  | ((with_reducible refine' ws_clear ?h ?_); (case h => rfl))
  | ((with_reducible refine' ws_dput ?h ?_); (case h => rfl))
  | (with_reducible refine ws_drop ?_)
  | ((with_reducible refine' we_var ?h ?_); (case h => rfl))
  | (with_reducible refine we_int ?_)
  | (with_reducible refine we_str ?_)
  | (with_reducible refine we_bl ?_)
  | (with_reducible refine we_non ?_)
  | (with_reducible refine we_ty ?_)
  | ((with_reducible refine' we_ixM ?h ?e ?_); (case h => rfl); (case e => exact atI_last _ _))
  | ((with_reducible refine' we_ixO ?h ?_); (case h => rfl))
  | (with_reducible refine we_neg ?_)
  | (with_reducible refine we_op ?_)
  | (with_reducible refine ro_I0 ?_)
  | (with_reducible refine ro_B0 ?_)
  | ((with_reducible refine ro_I ?h ?_); (case h => first | assumption | omega))
  | ((with_reducible refine' ro_ixT ?h ?_); (case h => rfl))
  | (with_reducible refine ro_inT2 ?_)
  | (with_reducible refine ro_ninT2 ?_)
  | (with_reducible refine ro_eqS ?_)
  | (with_reducible refine ro_neS ?_)
  | (with_reducible refine ro_eqI ?_)
  | (with_reducible refine ro_neI ?_)
  | (with_reducible refine ro_eqB ?_)
  | (with_reducible refine ro_notNon ?_)
  | (with_reducible refine ro_neB ?_)
  | ((with_reducible refine' we_dgetO ?h ?_); (case h => rfl))
  | ((with_reducible refine' we_dinO ?h ?_); (case h => rfl))
  | ((with_reducible refine' we_dnotinO ?h ?_); (case h => rfl))
  | (with_reducible refine we_dget ?_)
  | (with_reducible refine we_din ?_)
  | (with_reducible refine we_dnotin ?_)
  | ((with_reducible refine we_tup ?_))
  | ((with_reducible refine we_lst ?_))
  | (with_reducible refine wa_cons ?_)
  | (with_reducible refine wa_nil ?_)
  | (with_reducible refine we_cb ?_)
  | (with_reducible refine we_chain ?_)
  | (with_reducible refine we_if ?_)
  | (with_reducible refine we_andV ?_)
  | (with_reducible refine we_orV ?_)
  | (with_reducible refine we_notV ?_)
  | (with_reducible refine wt_test ?_)
  | (with_reducible refine wt_B ?_)
  | (with_reducible refine wt_not ?_)
  | (with_reducible refine wt_and ?_)
  | (with_reducible refine wt_or ?_)
  | (with_reducible refine wt_ifT ?_)
  | (with_reducible refine we_call ?_)
  | ((with_reducible refine' we_callS ?h ?_); (case h => rfl))
  | ((with_reducible refine' we_meth ?h ?_); (case h => decide +kernel))
  | (with_reducible refine rc_abs ?_)
  | (with_reducible refine rc_int ?_)
  | (with_reducible refine rc_lenL ?_)
  | (with_reducible refine rc_lenT ?_)
  | (with_reducible refine rc_lenD ?_)
  | (with_reducible refine rc_lenLS ?_)
  | (with_reducible refine rc_sum ?_)
  | (with_reducible refine rc_tupT ?_)
  | ((with_reducible refine' rc_isi ?ht ?hb ?_); (case ht => rfl); (case hb => first | exact kb_int_int | exact kb_int_bool | exact kb_int_list | exact kb_int_tuple | exact kb_str_str | exact kb_dict_dict | exact kb_list_list | exact kb_list_tuple | exact kb_tuple_list | exact kb_tuple_tuple | exact kb_bool_int | exact kb_bool_bool))
  | ((with_reducible refine' rc_isiT ?ht ?h1 ?h2 ?_); (case ht => rfl); (case h1 => first | exact kb_int_int | exact kb_int_bool | exact kb_int_list | exact kb_int_tuple | exact kb_str_str | exact kb_dict_dict | exact kb_list_list | exact kb_list_tuple | exact kb_tuple_list | exact kb_tuple_tuple | exact kb_bool_int | exact kb_bool_bool); (case h2 => first | exact kb_int_int | exact kb_int_bool | exact kb_int_list | exact kb_int_tuple | exact kb_str_str | exact kb_dict_dict | exact kb_list_list | exact kb_list_tuple | exact kb_tuple_list | exact kb_tuple_tuple | exact kb_bool_int | exact kb_bool_bool))
  | (with_reducible refine rc_allT ?_)
  | (with_reducible refine rc_anyF ?_)
  | (with_reducible refine rc_all ?_)
  | (with_reducible refine rc_any ?_)
  | (with_reducible refine rc_listD ?_)
  | (with_reducible refine rc_dictD fun _ _ => ?_)
  | (with_reducible refine we_rev ?_)
  | (with_reducible refine we_slL ?_)
  | (with_reducible refine wo_no ?_)
  | (with_reducible refine wo_part ?_)
  | (with_reducible refine we_listVals ?_)
  | ((with_reducible refine' we_fld ?hc ?hn ?_); (case hc => assumption); (case hn => assumption))
  | (with_reducible refine wi_list ?_)
  | (with_reducible refine wi_range1 ?_)
  | (with_reducible refine wi_str ?_)
  | (with_reducible refine wi_enum ?_)
  | (with_reducible refine wg_name ?_)
  | (with_reducible refine wg_two ?_)
  | (refine ⟨Nat.le_of_ble_eq_true rfl, ?_⟩)
  | (refine ⟨_, rfl, ?_⟩)
  | (refine ⟨_, _, rfl, ?_⟩)
  | (refine ⟨_, _, _, rfl, rfl, ?_⟩)
  | (refine ⟨_, _, _, rfl, ?_⟩)
  | (refine ⟨fun _ => ?_, fun z => Bool.noConfusion z⟩)
  | (refine ⟨fun z => Bool.noConfusion z, fun _ => ?_⟩)
  | (refine ⟨fun _ => ?_, fun z => absurd z (by decide +kernel)⟩)
  | (refine ⟨fun z => absurd z (by decide +kernel), fun _ => ?_⟩))
section
variable {P : Program} {w : World} {K : PySem.W.Frag} {mg : Str → Option Value} {base : Heap} {C : Addr}
abbrev s__law_t_game : Stmt := top 50
abbrev N__law_t_game : List Str := ["_law_stream", "_law_many", "_law_is_tree", "_law_names", "_law_found", "_law_at", "_law_name", "_law_behind", "_law_word"]
theorem sc__law_t_game : FnScope N__law_t_game ["_law_stream", "_law_many", "_law_is_tree"] (C8.fnScope s__law_t_game) := C8.fnScope_by (by decide +kernel)
def preGame : List Addr → List D → Nat → Prop := fun _ ds n => ∃ m : Nat, ds = [.strm, .int (m : Int), .bl true] ∧ 0 < m ∧ m ≤ 9 ∧ n < 2 ^ 36
def postGame : Hp → List D → Nat → D → Nat → Prop := fun H _ n d n2 => ∃ g ad G rk, d = gameD g ad G ∧ H g = none ∧ GOk G rk ∧ n2 ≤ n + 300
/-- an end drawn: the word of a place -/
theorem six {d : D} (h : d ∈ [D.str "ours", .str "theirs", .str "chance", .str "ours", .str "theirs", .str "end"]) : ∃ wd : Str, d = .str wd ∧ (wd = "end" ∨ wd = "chance" ∨ ∃ o, wd = sideS o) := by
  simp only [List.mem_cons, List.not_mem_nil, or_false] at h
  rcases h with h | h | h | h | h | h
  · exact ⟨_, h, .inr (.inr ⟨true, rfl⟩)⟩
  · exact ⟨_, h, .inr (.inr ⟨false, rfl⟩)⟩
  · exact ⟨_, h, .inr (.inl rfl)⟩
  · exact ⟨_, h, .inr (.inr ⟨true, rfl⟩)⟩
  · exact ⟨_, h, .inr (.inr ⟨false, rfl⟩)⟩
  · exact ⟨_, h, .inl rfl⟩
theorem oks_of {xs : List Str} (h : ∀ x ∈ xs, Wd x) : oks xs = true := List.all_eq_true.mpr fun x hx => (h x hx).2
theorem ok__law_t_game (T : Txt K mg C) (DB : DefB K mg "_law_t_game" s__law_t_game ["_law_stream", "_law_many", "_law_is_tree"]) (c__law_t_words : C8.Cal P w K mg base 3 "_law_t_words" (spG C true preWords postWords) []) (c__law_pick : C8.Cal P w K mg base 2 "_law_pick" (spG C true prePick postPick) []) (c__law_t_fraction : C8.Cal P w K mg base 2 "_law_t_fraction" (spG C true preStrm postFrac) []) (c__law_t_leads : C8.Cal P w K mg base 4 "_law_t_leads" (spG C true preLeads postLeads) []) (c__law_mixed : C8.Cal P w K mg base 2 "_law_mixed" (spG C true preMixed postMixed) []) : C8.Cal P w K mg base 5 "_law_t_game" (spG C true preGame postGame) [] := by
  refine cal_ok DB sc__law_t_game (fun L ds n hp => ?_) fun f cdv A outer sh H E hr => ?_
  · obtain ⟨_, rfl, _⟩ := hp; rfl
  have nd := sc__law_t_game.nd
  refine ⟨_, (pss_cons (ps_asg (pe_tup (pa_cons (C8.pe_c c__law_t_words hr (by decide) (by rfl) (pa_cons (pv 0) (pa_cons (pv 1) pa_nil))) (pa_cons pe_dnewK pa_nil))) (pg_tupK (n := 2) K rfl (pgs_cons (pg_name (i := 3) nd rfl (Or.inl rfl)) (pgs_cons (pg_name (i := 4) nd rfl (Or.inr rfl)) pgs_nil))))
    (pss_cons (ps_for PassesOwn.never rfl (pi_enumK K (by rfl) T.n_enumerate (pa_cons (pv 3) pa_nil)) (pg_tupK (n := 2) K rfl (pgs_cons (pg_name (i := 5) nd rfl (Or.inl rfl)) (pgs_cons (pg_name (i := 6) nd rfl (Or.inl rfl)) pgs_nil)))
      (pss_cons (ps_set (i := 7) nd rfl (Or.inl rfl) (pe_ifExp (pt_val (pv 2)) (pe_slice (r := rSlL K) sl_list (pv 3) (po_some (pe_op op_add (pv 5) pe_int)) po_none) (pv 3)))
      (pss_cons (ps_set (i := 8) nd rfl (Or.inl rfl) (C8.pe_c c__law_pick hr (by decide) (by rfl) (pa_cons (pv 0) (pa_cons (pe_lst (pa_cons pe_str (pa_cons pe_str (pa_cons pe_str (pa_cons pe_str (pa_cons pe_str (pa_cons pe_str pa_nil))))))) pa_nil))))
      (pss_one (ps_if (PW.pt (pw_or (pt_cmpR (r := rEqD K) (op_eqD hr.units) (pv 7) (pe_lst pa_nil) (nomark _)) (pw_or1 (PW.pt (pw_and (pt_cmpR op_eq (pv 8) pe_str (nomark _)) (pw_and1 (pt_cmpR op_gt (pv 5) pe_int (nomark _)))))))) (pss_one (ps_dput (hu_of hr) (pv 4) (pv 6) (pe_tup (pa_cons pe_str (pa_cons (C8.pe_c c__law_t_fraction hr (by decide) (by rfl) (pa_cons (pv 0) pa_nil)) pa_nil))) rfl)) (pss_cons (ps_set (i := 8) nd rfl (Or.inl rfl) (pe_ifExp (pt_cmpR op_ne (pv 8) pe_str (nomark _)) (pv 8) pe_str))
        (pss_one (ps_dput (hu_of hr) (pv 4) (pv 6) (pe_tup (pa_cons (pv 8) (pa_cons (C8.pe_c c__law_t_leads hr (by decide) (by rfl) (pa_cons (pv 0) (pa_cons (pv 8) (pa_cons (pv 7) pa_nil)))) pa_nil))) rfl))))))))
    (pss_one (ps_ret (pe_callTy (T := "dict") (r := cDictP K) (call_dictP1 rfl) (by rfl) T.n_dict (by decide +kernel) (pa_cons (pe_lc (own := [("_law_name", 6)]) rfl nd (pi_listK K (C8.pe_c c__law_mixed hr (by decide) (by rfl) (pa_cons (pv 0) (pa_cons (pv 3) pa_nil)))) (blkOk_by (own := [("_law_name", 6)]) (N := N__law_t_game) (sc := C8.fnScope s__law_t_game) (by decide +kernel)) (fun _ _ _ _ _ => pg_name (i := 6) nd rfl (Or.inl rfl)) (fun _ _ _ _ _ => pts_nil) (fun _ _ _ _ _ => (pe_tup (pa_cons (pv 6) (pa_cons (pe_dget (hu_of hr) (pv 4) (pv 6) (fun _ _ => rfl)) pa_nil))))) pa_nil)))))), fun sa ca L F0 H0 ds n hp => ?_⟩
  obtain ⟨m, rfl, hm0, hm9, hn⟩ := hp
  refine ws_seq (ws_asg_xd ?_)
  repeat walk_at "gw"
  refine ⟨⟨m, rfl, hm9, by omega⟩, ?_⟩
  rintro d n0 H' _ ⟨m', nms, he, rfl, hml, hnd, hwd, hn0⟩
  simp only [List.cons.injEq, D.int.injEq, and_true, true_and] at he
  have he : m' = m := by omega
  subst he
  have hne : nms ≠ [] := by intro e; subst e; simp at hml; omega
  repeat walk_at "gw"
  refine ws_forP ?_
  repeat walk_at "gw"
  refine ⟨fun i l1 n1 => ∃ (ad : Str → Addr) (G : Gm) (x5 x6 x7 x8 : Sl), l1 = [.sh .strm, .sh (.int (m' : Int)), .sh (.bl true), .sh (.lst (nms.map D.str)), .owd (gkv ad G), x5, x6, x7, x8] ∧ BInv nms i G ∧ n1 ≤ n + 45 + 21 * i, ⟨fun _ => 0, [], _, _, _, _, rfl, BInv.zero, by omega⟩, ?_, ?_⟩
  · rintro i z l1 n1 hz ⟨ad, G, x5, x6, x7, x8, rfl, hB, hn1⟩
    unfold enumD at hz
    rw [List.getElem?_mapIdx, List.getElem?_map] at hz
    cases hni : nms[i]? with
    | none => rw [hni] at hz; cases hz
    | some v =>
    rw [hni] at hz
    cases hz
    have hi := (List.getElem?_eq_some_iff.mp hni).1
    refine ⟨_, _, rfl, ?_⟩
    have hnew := hB.new hnd hni
    have hgl : (gkv ad G).length < 100000 := by
      have := congrArg List.length hB.nm
      unfold names at this
      rw [List.length_map, List.length_take] at this
      unfold gkv
      rw [List.length_map]
      omega
    repeat walk_at "gw"
    rw [show ((i : Int) + 1) = ((i + 1 : Nat) : Int) from by omega, cutD_drop, ← List.map_drop]
    have hdl : (nms.drop (i + 1)).length ≤ 9 := by rw [List.length_drop]; omega
    have hdn : (nms.drop (i + 1)).Nodup := (List.drop_sublist _ _).nodup hnd
    have hdo : oks (nms.drop (i + 1)) = true := oks_of fun x hx => hwd x (List.mem_of_mem_drop hx)
    have hfin : ∀ (x : Nd) (a : Addr), NdOk (nms.drop (i + 1)) x → putD (gkv ad G) v (nodeD a x) = gkv (fun m => if m = v then a else ad m) (G ++ [(v, x)]) ∧ BInv nms (i + 1) (G ++ [(v, x)]) := fun x a ok => ⟨put_gkv hnew, hB.step hnd hni ok⟩
    generalize hR : nms.drop (i + 1) = R at hdl hdn hdo hfin
    repeat walk_at "gw"
    refine ⟨⟨by omega, .inl ⟨_, rfl, by simp, by simp⟩⟩, ?_⟩
    rintro d n2 H' _ ⟨rfl, ⟨xs', he, hd⟩ | ⟨z, c, he, _⟩⟩
    · simp only [List.cons.injEq, D.lst.injEq, and_true, true_and] at he
      subst he
      obtain ⟨wd, rfl, hwds⟩ := six hd
      repeat walk_at "gw"
      refine ro_eqLs (ys := []) hdo rfl ?_
      have hend : ∀ PP : Post, (∀ l1 n3, (∃ (ad : Str → Addr) (G : Gm) (x5 x6 x7 x8 : Sl), l1 = [.sh .strm, .sh (.int (m' : Int)), .sh (.bl true), .sh (.lst (nms.map D.str)), .owd (gkv ad G), x5, x6, x7, x8] ∧ BInv nms (i + 1) G ∧ n3 ≤ n + 45 + 21 * (i + 1)) → PP.nx l1 n3) → WS ⟨K, C, sa, ca, true, L, F0, H0⟩ [] (sDPut (tVar 4) (tVar 6) (tTup (tCons (tC (V.str "end")) (tCons (tCall (spG C true preStrm postFrac) [] C8.E0 (tCons (tVar 0) tNil)) tNil)))) [.sh .strm, .sh (.int (m' : Int)), .sh (.bl true), .sh (.lst (nms.map D.str)), .owd (gkv ad G), .sh (.int (i : Int)), .sh (.str v), .sh (.lst (R.map D.str)), .sh (.str wd)] (n1 + 1) PP := by
        intro PP hPP
        repeat walk_at "gw"
        refine ⟨⟨rfl, by omega⟩, ?_⟩
        rintro d n2 H' _ ⟨rfl, q, rfl, hq⟩
        repeat walk_at "gw"
        obtain ⟨e1, e2⟩ := hfin (.en q) 0 hq
        have e1' : putD (gkv ad G) v (.tup [.str "end", fr q]) = _ := e1
        rw [e1']
        exact ⟨hgl, hPP _ _ ⟨_, _, _, _, _, _, rfl, e2, by omega⟩⟩
      have hlead : ∀ (PP : Post) (wd : Str), R ≠ [] → (wd = "chance" ∨ ∃ o, wd = sideS o) → (∀ l1 n3, (∃ (ad : Str → Addr) (G : Gm) (x5 x6 x7 x8 : Sl), l1 = [.sh .strm, .sh (.int (m' : Int)), .sh (.bl true), .sh (.lst (nms.map D.str)), .owd (gkv ad G), x5, x6, x7, x8] ∧ BInv nms (i + 1) G ∧ n3 ≤ n + 45 + 21 * (i + 1)) → PP.nx l1 n3) → WS ⟨K, C, sa, ca, true, L, F0, H0⟩ [] (sDPut (tVar 4) (tVar 6) (tTup (tCons (tVar 8) (tCons (tCall (spG C true preLeads postLeads) [] C8.E0 (tCons (tVar 0) (tCons (tVar 8) (tCons (tVar 7) tNil)))) tNil)))) [.sh .strm, .sh (.int (m' : Int)), .sh (.bl true), .sh (.lst (nms.map D.str)), .owd (gkv ad G), .sh (.int (i : Int)), .sh (.str v), .sh (.lst (R.map D.str)), .sh (.str wd)] (n1 + 1) PP := by
        intro PP wd hRne hwds hPP
        repeat walk_at "gw"
        refine ⟨⟨wd, R, rfl, hwds, hRne, hdl, hdn, by omega⟩, ?_⟩
        rintro d n2 H' _ ⟨wd', R', x, a, he, rfl, hwx, hok, hn2⟩
        simp only [List.cons.injEq, D.str.injEq, D.lst.injEq, and_true, true_and] at he
        obtain ⟨rfl, he⟩ := he
        have he := strD_inj he
        subst he
        subst hwx
        repeat walk_at "gw"
        obtain ⟨e1, e2⟩ := hfin x a hok
        have e1' : putD (gkv ad G) v (.tup [.str (word x), restD a x]) = _ := e1
        rw [e1']
        exact ⟨hgl, hPP _ _ ⟨_, _, _, _, _, _, rfl, e2, by omega⟩⟩
      refine ⟨_, rfl, fun hb => ?_, fun hb => ?_⟩
      · refine ⟨fun _ => ?_, fun z => Bool.noConfusion z⟩
        refine hend _ ?_
        intro _ _ h
        exact h
      · have hRne : R ≠ [] := of_decide_eq_false hb
        repeat walk_at "gw"
        refine ⟨fun hb2 => ?_, fun hb2 => ?_⟩
        · repeat walk_at "gw"
          have hwe : wd = "end" := of_decide_eq_true hb2
          refine ⟨fun hb3 => ?_, fun hb3 => ?_⟩
          · refine hend _ ?_
            intro _ _ h
            exact h
          · subst hwe
            refine ws_seq (ws_set (we_if (wt_test (we_op (we_var rfl (we_str (ro_neS ⟨_, rfl, fun z => absurd z (by decide +kernel), fun _ => we_str ?_⟩)))))))
            refine hlead _ "ours" hRne (.inr ⟨true, rfl⟩) ?_
            intro _ _ h
            exact h
        · have hwe : wd ≠ "end" := of_decide_eq_false hb2
          refine ⟨fun z => Bool.noConfusion z, fun _ => ?_⟩
          refine ws_seq (ws_set (we_if (wt_test (we_op (we_var rfl (we_str (ro_neS ⟨_, rfl, fun _ => we_var rfl ?_, fun z => absurd hwe (by simpa using z)⟩)))))))
          refine hlead _ wd hRne (hwds.resolve_left hwe) ?_
          intro _ _ h
          exact h
    · cases he
  · rintro l1 n1 ⟨ad, G, x5, x6, x7, x8, rfl, hB, hn1⟩
    repeat walk_at "gw"
    have hel : (enumD (nms.map D.str)).length = nms.length := by unfold enumD; rw [List.length_mapIdx, List.length_map]
    rw [hel] at hB hn1
    have hlen : nms.length ≤ 9 := by omega
    refine we_map (f := fun z => match z with | .str c => .tup [.str c, nodeD (ad c) ((nodeAt G c).getD (.en (0, 1)))] | _ => .non) (by decide) ?_
    repeat walk_at "gw"
    refine ⟨⟨_, rfl, by rw [List.length_map]; omega, by omega⟩, ?_⟩
    rintro d n2 H' _ ⟨xs', ys, he, rfl, hperm, rfl⟩
    simp only [List.cons.injEq, D.lst.injEq, and_true, true_and] at he
    subst he
    obtain ⟨qs, rfl, hpz⟩ := perm_str hperm
    have hql := hpz.length_eq
    have hnm : names G = nms := by rw [hB.nm, List.take_length]
    repeat walk_at "gw"
    refine ⟨by rw [List.length_map]; omega, fun z hz => ?_, (gkv ad (reG G qs)).map (fun q => D.tup [.str q.1, q.2]), ?_, ?_⟩
    · obtain ⟨c, hc, rfl⟩ := List.mem_map.mp hz
      obtain ⟨y, hy⟩ := nodeAt_of (G := G) (n := c) (by rw [hnm]; exact hpz.mem_iff.mp hc)
      repeat walk_at "gw"
      refine ⟨nodeD (ad c) y, by rw [lk_gkv, hy]; rfl, ?_⟩
      repeat walk_at "gw"
      exact ⟨by simp only [hy]; rfl, rfl⟩
    · unfold gkv reG
      rw [List.map_map, List.map_map, List.map_map]
      rfl
    repeat walk_at "gw"
    refine rc_dictP fun p hp => ?_
    rw [gkv_reG (hpz.symm.nodup hnd)]
    exact ⟨p, ad, _, _, rfl, hp, reG_ok hB hpz hnd hne hlen hwd, by rw [List.length_map]; omega⟩
end
end Gw

/-! All whole plans of a side. -/
namespace Gw
open PySem L2
local macro_rules | `(tactic| walk_at "gw") => `(tactic| first
  | (with_reducible refine ws_seq ?_)
  | (with_reducible refine ws_ret ?_)
  | (with_reducible refine ws_newl ?_)
  | (with_reducible refine ws_newd ?_)
  | (with_reducible refine ws_set ?_)
  | (with_reducible refine ws_par3 ?_)
  | (with_reducible refine ws_par ?_)
  | (with_reducible refine ws_if ?_)
  | (with_reducible refine ws_next ?_)
  | (with_reducible refine ws_cont ?_)
  | (with_reducible refine ws_asgP ?_)
  | (with_reducible refine ws_asgP3 ?_)
  | ((with_reducible refine' ws_app ?h ?_); (case h => rfl))
  | ((with_reducible refine' ws_clear ?h ?_); (case h => rfl))
  | ((with_reducible refine' ws_dput ?h ?_); (case h => rfl))
  | (with_reducible refine ws_drop ?_)
  | ((with_reducible refine' we_var ?h ?_); (case h => rfl))
  | (with_reducible refine we_int ?_)
  | (with_reducible refine we_str ?_)
  | (with_reducible refine we_bl ?_)
  | (with_reducible refine we_non ?_)
  | (with_reducible refine we_ty ?_)
  | ((with_reducible refine' we_ixM ?h ?e ?_); (case h => rfl); (case e => exact atI_last _ _))
  | ((with_reducible refine' we_ixO ?h ?_); (case h => rfl))
  | (with_reducible refine we_neg ?_)
  | (with_reducible refine we_op ?_)
  | (with_reducible refine ro_I0 ?_)
  | (with_reducible refine ro_B0 ?_)
  | ((with_reducible refine ro_I ?h ?_); (case h => first | assumption | omega))
  | ((with_reducible refine' ro_ixT ?h ?_); (case h => rfl))
  | (with_reducible refine ro_inT2 ?_)
  | (with_reducible refine ro_ninT2 ?_)
  | (with_reducible refine ro_eqS ?_)
  | (with_reducible refine ro_neS ?_)
  | (with_reducible refine ro_eqI ?_)
  | (with_reducible refine ro_neI ?_)
  | (with_reducible refine ro_eqB ?_)
  | (with_reducible refine ro_notNon ?_)
  | (with_reducible refine ro_neB ?_)
  | ((with_reducible refine' we_dgetO ?h ?_); (case h => rfl))
  | ((with_reducible refine' we_dinO ?h ?_); (case h => rfl))
  | ((with_reducible refine' we_dnotinO ?h ?_); (case h => rfl))
  | (with_reducible refine we_dget ?_)
  | (with_reducible refine we_din ?_)
  | (with_reducible refine we_dnotin ?_)
  | ((with_reducible refine we_tup ?_))
  | ((with_reducible refine we_lst ?_))
  | (with_reducible refine wa_cons ?_)
  | (with_reducible refine wa_nil ?_)
  | (with_reducible refine we_cb ?_)
  | (with_reducible refine we_chain ?_)
  | (with_reducible refine we_if ?_)
  | (with_reducible refine we_andV ?_)
  | (with_reducible refine we_orV ?_)
  | (with_reducible refine we_notV ?_)
  | (with_reducible refine wt_test ?_)
  | (with_reducible refine wt_B ?_)
  | (with_reducible refine wt_not ?_)
  | (with_reducible refine wt_and ?_)
  | (with_reducible refine wt_or ?_)
  | (with_reducible refine wt_ifT ?_)
  | (with_reducible refine we_call ?_)
  | ((with_reducible refine' we_callS ?h ?_); (case h => rfl))
  | ((with_reducible refine' we_meth ?h ?_); (case h => decide +kernel))
  | (with_reducible refine rc_abs ?_)
  | (with_reducible refine rc_int ?_)
  | (with_reducible refine rc_lenL ?_)
  | (with_reducible refine rc_lenT ?_)
  | (with_reducible refine rc_lenD ?_)
  | (with_reducible refine rc_lenLS ?_)
  | (with_reducible refine rc_sum ?_)
  | (with_reducible refine rc_tupT ?_)
  | ((with_reducible refine' rc_isi ?ht ?hb ?_); (case ht => rfl); (case hb => first | exact kb_int_int | exact kb_int_bool | exact kb_int_list | exact kb_int_tuple | exact kb_str_str | exact kb_dict_dict | exact kb_list_list | exact kb_list_tuple | exact kb_tuple_list | exact kb_tuple_tuple | exact kb_bool_int | exact kb_bool_bool))
  | ((with_reducible refine' rc_isiT ?ht ?h1 ?h2 ?_); (case ht => rfl); (case h1 => first | exact kb_int_int | exact kb_int_bool | exact kb_int_list | exact kb_int_tuple | exact kb_str_str | exact kb_dict_dict | exact kb_list_list | exact kb_list_tuple | exact kb_tuple_list | exact kb_tuple_tuple | exact kb_bool_int | exact kb_bool_bool); (case h2 => first | exact kb_int_int | exact kb_int_bool | exact kb_int_list | exact kb_int_tuple | exact kb_str_str | exact kb_dict_dict | exact kb_list_list | exact kb_list_tuple | exact kb_tuple_list | exact kb_tuple_tuple | exact kb_bool_int | exact kb_bool_bool))
  | (with_reducible refine rc_allT ?_)
  | (with_reducible refine rc_anyF ?_)
  | (with_reducible refine rc_all ?_)
  | (with_reducible refine rc_any ?_)
  | (with_reducible refine rc_listD ?_)
  | (with_reducible refine rc_dictD fun _ _ => ?_)
  | (with_reducible refine we_rev ?_)
  | (with_reducible refine we_slL ?_)
  | (with_reducible refine wo_no ?_)
  | (with_reducible refine wo_part ?_)
  | (with_reducible refine we_listVals ?_)
  | ((with_reducible refine' we_fld ?hc ?hn ?_); (case hc => assumption); (case hn => assumption))
  | (with_reducible refine wi_list ?_)
  | (with_reducible refine wi_range1 ?_)
  | (with_reducible refine wi_str ?_)
  | (with_reducible refine wi_enum ?_)
  | (with_reducible refine wg_name ?_)
  | (with_reducible refine wg_two ?_)
  | (refine ⟨Nat.le_of_ble_eq_true rfl, ?_⟩)
  | (refine ⟨_, rfl, ?_⟩)
  | (refine ⟨_, _, rfl, ?_⟩)
  | (refine ⟨_, _, _, rfl, rfl, ?_⟩)
  | (refine ⟨_, _, _, rfl, ?_⟩)
  | (refine ⟨fun _ => ?_, fun z => Bool.noConfusion z⟩)
  | (refine ⟨fun z => Bool.noConfusion z, fun _ => ?_⟩)
  | (refine ⟨fun _ => ?_, fun z => absurd z (by decide +kernel)⟩)
  | (refine ⟨fun z => absurd z (by decide +kernel), fun _ => ?_⟩))
section
variable {P : Program} {w : World} {K : PySem.W.Frag} {mg : Str → Option Value} {base : Heap} {C : Addr}
abbrev s__law_t_plans : Stmt := top 53
abbrev N__law_t_plans : List Str := ["_law_game", "_law_side", "_law_found", "_law_many", "_law_name", "_law_longer", "_law_plan", "_law_move", "_law_more"]
theorem sc__law_t_plans : FnScope N__law_t_plans ["_law_game", "_law_side"] (C8.fnScope s__law_t_plans) := C8.fnScope_by (by decide +kernel)
def prePlans : List Addr → List D → Nat → Prop := fun L ds _ => ∃ g ad G rk o, ds = [gameD g ad G, .str (sideS o)] ∧ GOk G rk ∧ Free L g ad G
def postPlans : Hp → List D → Nat → D → Nat → Prop := fun _ ds _ d _ => ∃ g ad G o ps, ds = [gameD g ad G, .str (sideS o)] ∧ d = .lst ps ∧ ps.length ≤ 20000 ∧ ∀ p ∈ ps, ∃ a ms, p = .dct a (mvD ms) ∧ PlanOk G o ms
/-- a plan of the places so far -/
def PlTo (G : Gm) (o : Bool) (i : Nat) (p : D) : Prop := ∃ a ms, p = .dct a (mvD ms) ∧ ms.map (·.1) = sideNames (G.take i) o ∧ ∀ q ∈ ms, ∃ ns, (q.1, Nd.mv o ns) ∈ G ∧ q.2 ∈ ns.map (·.1)
theorem ok__law_t_plans (T : Txt K mg C) (DB : DefB K mg "_law_t_plans" s__law_t_plans ["_law_game", "_law_side"]) : C8.Cal P w K mg base 1 "_law_t_plans" (spG C false prePlans postPlans) [] := by
  refine cal_ok DB sc__law_t_plans (fun L ds n hp => ?_) fun f cdv A outer sh H E hr => ?_
  · obtain ⟨_, _, _, _, _, rfl, _⟩ := hp; rfl
  have nd := sc__law_t_plans.nd
  refine ⟨_, (pss_cons (ps_par (i := 2) (j := 3) rfl nd rfl rfl (by decide) rfl rfl (pa_cons (pe_lst (pa_cons pe_dnewK pa_nil)) (pa_cons pe_int pa_nil)) rfl)
    (pss_cons (ps_lock (ps_for PassesOwn.never rfl (pi_keys (pv 0)) (pg_name (i := 4) nd rfl (Or.inl rfl))
      (pss_one (ps_set (i := 3) nd rfl (Or.inl rfl) (pe_op op_mulW (pv 3) (pe_ifExp (pt_cmpR op_eq (pe_ix (r := rIxT K) ix_tup (pe_dget (hu_of hr) (pv 0) (pv 4) (fun _ _ => rfl)) pe_int (fun _ _ => rfl)) (pv 1) (nomark _)) (pe_callB (r := cLenD) call_lenD1 (by rfl) T.n_len (by decide +kernel) (pa_cons (pe_ix (r := rIxT K) ix_tup (pe_dget (hu_of hr) (pv 0) (pv 4) (fun _ _ => rfl)) pe_int (fun _ _ => rfl)) pa_nil)) pe_int))))))
    (pss_cons (ps_lock (ps_for PassesOwn.never rfl (pi_keys (pv 0)) (pg_name (i := 4) nd rfl (Or.inl rfl))
      (pss_one (ps_if (PW.pt (pw_and (pt_cmpR op_eq (pe_ix (r := rIxT K) ix_tup (pe_dget (hu_of hr) (pv 0) (pv 4) (fun _ _ => rfl)) pe_int (fun _ _ => rfl)) (pv 1) (nomark _)) (pw_and1 (pt_cmpR op_le (pv 3) pe_int (nomark _))))) (pss_cons (ps_set (i := 5) nd rfl (Or.inl rfl) (pe_lst pa_nil))
        (pss_cons (ps_for PassesOwn.never rfl (pi_listK K (pv 2)) (pg_name (i := 6) nd rfl (Or.inl rfl))
          (pss_one (ps_lock (ps_for PassesOwn.never rfl (pi_keys (pe_ix (r := rIxT K) ix_tup (pe_dget (hu_of hr) (pv 0) (pv 4) (fun _ _ => rfl)) pe_int (fun _ _ => rfl))) (pg_name (i := 7) nd rfl (Or.inl rfl))
            (pss_cons (ps_set (i := 8) nd rfl (Or.inl rfl) (pe_callTy (T := "dict") (r := cDictD) call_dictD1 (by rfl) T.n_dict (by decide +kernel) (pa_cons (pv 6) pa_nil)))
            (pss_cons (ps_dput (hu_of hr) (pv 8) (pv 4) (pv 7) rfl)
            (pss_one (ps_expr (pe_appK K (pv 5) (pv 8))))))))))
        (pss_one (ps_set (i := 2) nd rfl (Or.inl rfl) (pv 5))))) pss_nil))))
    (pss_one (ps_ret (pe_ifExp (pt_cmpR op_le (pv 3) pe_int (nomark _)) (pv 2) (pe_lst pa_nil))))))), fun sa ca L F0 H0 ds n hp => ?_⟩
  obtain ⟨g, ad, G, rk, o, rfl, hG, hgL, haL⟩ := hp
  have hlen := hG.len
  have hNl : (names G).length = G.length := by unfold names; rw [List.length_map]
  have hp9 : ∀ i, i ≤ 9 → 3 ^ i ≤ 19683 := fun i hi => Nat.le_trans (Nat.pow_le_pow_right (by decide) hi) (by decide)
  have hps : ∀ i, 3 ^ (i + 1) = 3 * 3 ^ i := fun i => by rw [Nat.pow_succ]; omega
  have hat : ∀ {i : Nat} {m : Str}, (names G)[i]? = some m → ∃ y, lk (gkv ad G) m = some (nodeD (ad m) y) ∧ (m, y) ∈ G ∧ NdOk (names G) y ∧ G[i]? = some (m, y) := by
    intro i m hn
    have hm := List.mem_of_getElem? hn
    obtain ⟨y, h1, h2, h3, h4⟩ := hG.lk hm ad
    refine ⟨y, h1, h3, h4, ?_⟩
    unfold names at hn
    rw [List.getElem?_map] at hn
    cases e : G[i]? with
    | none => rw [e] at hn; cases hn
    | some q =>
      rw [e] at hn
      cases hn
      have := nodeAt_eq hG.nd (List.mem_of_getElem? e : (q.1, q.2) ∈ G)
      rw [h2] at this
      cases this
      rfl
  refine ws_seq (ws_par (wa_cons (we_lst (wa_cons (we_dnewK (wa_nil ⟨Nat.le_of_ble_eq_true rfl, wa_cons (we_int (wa_nil ⟨_, _, rfl, ?_⟩))⟩))))))
  refine ws_seq ?_
  refine ws_lock (a := g) ?_ ?_ ?_ fun od => ws_forN (wi_keys ?_)
  · exact ⟨0, _, _, rfl, .refl⟩
  · exact List.not_mem_nil
  · exact hgL
  repeat walk_at "gw"
  refine ⟨g, _, od, rfl, List.mem_cons_self, fun i l1 n1 => ∃ (mm : Int) (x4 x5 x6 x7 x8 : Sl), l1 = [.sh (gameD g ad G), .sh (.str (sideS o)), .sh (.lst [.dct none []]), .sh (.int mm), x4, x5, x6, x7, x8] ∧ 1 ≤ mm ∧ mm ≤ ((3 ^ i : Nat) : Int), ⟨1, _, _, _, _, _, rfl, by decide, by decide⟩, ?_, ?_⟩
  · rintro i d l1 n1 hi ⟨mm, x4, x5, x6, x7, x8, rfl, h1, h2⟩
    rw [keys_gkv, List.getElem?_map] at hi
    cases hn : (names G)[i]? with
    | none => rw [hn] at hi; cases hi
    | some m =>
    rw [hn] at hi
    cases hi
    have hi9 := (List.getElem?_eq_some_iff.mp hn).1
    obtain ⟨y, g1, g2, g3, g4⟩ := hat hn
    have hpi := hp9 i (by omega)
    have hsi := hps i
    repeat walk_at "gw"
    refine ⟨_, g1, ?_⟩
    repeat walk_at "gw"
    have hmm : mm.natAbs < 2 ^ 15 := by have : (2 : Nat) ^ 15 = 32768 := by decide
                                        omega
    refine ⟨fun hb => ?_, fun hb => ?_⟩
    · obtain ⟨ns, rfl⟩ := side_mv (of_decide_eq_true hb)
      have hnl := g3.2.1
      have hn0 : 0 < ns.length := List.length_pos_iff.mpr g3.1
      repeat walk_at "gw"
      refine ⟨_, g1, ?_⟩
      repeat walk_at "gw"
      have hml : (mvD ns).length = ns.length := by unfold mvD; rw [List.length_map]
      rw [hml]
      refine ro_I (wide_mul (a := 15) (b := 2) hmm (by omega) (by decide) (by decide) (by decide)) ?_
      refine ⟨mm * (ns.length : Int), _, _, _, _, _, rfl, ?_, ?_⟩
      · have := Int.mul_le_mul h1 (show (1 : Int) ≤ ns.length by omega) (by decide) (by omega)
        omega
      · have := Int.mul_le_mul (Int.le_refl mm) (show (ns.length : Int) ≤ 3 by omega) (by omega) (by omega)
        rw [hsi]
        omega
    · repeat walk_at "gw"
      refine ro_I (wide_mul (a := 15) (b := 2) hmm (by decide) (by decide) (by decide) (by decide)) ?_
      refine ⟨mm * 1, _, _, _, _, _, rfl, by omega, ?_⟩
      rw [hsi]
      omega
  · rintro l1 n1 ⟨mm, x4, x5, x6, x7, x8, rfl, h1, h2⟩
    clear h2
    refine ws_seq ?_
    refine ws_lock (a := g) ?_ ?_ ?_ fun od => ws_forN (wi_keys ?_)
    · exact ⟨0, _, _, rfl, .refl⟩
    · exact List.not_mem_nil
    · exact hgL
    repeat walk_at "gw"
    refine ⟨g, _, od, rfl, List.mem_cons_self, fun i l1 n1 => ∃ (ps : List D) (x4 x5 x6 x7 x8 : Sl), l1 = [.sh (gameD g ad G), .sh (.str (sideS o)), .sh (.lst ps), .sh (.int mm), x4, x5, x6, x7, x8] ∧ ps.length ≤ 3 ^ i ∧ (mm ≤ 200 → ∀ p ∈ ps, PlTo G o i p), ⟨[.dct none []], _, _, _, _, _, rfl, by decide, fun _ p hp => ?_⟩, ?_, ?_⟩
    · rw [List.mem_singleton.mp hp]
      exact ⟨none, [], rfl, rfl, fun _ h => by simp at h⟩
    · rintro i d l1 n1 hi ⟨ps, x4, x5, x6, x7, x8, rfl, h2, h3⟩
      rw [keys_gkv, List.getElem?_map] at hi
      cases hn : (names G)[i]? with
      | none => rw [hn] at hi; cases hi
      | some m =>
      rw [hn] at hi
      cases hi
      have hi9 := (List.getElem?_eq_some_iff.mp hn).1
      obtain ⟨y, g1, g2, g3, g4⟩ := hat hn
      have hpi := hp9 i (by omega)
      have hsi := hps i
      have hst := sideNames_take (o := o) g4
      refine ws_difN (g := g) (ad := ad) (G := G) ⟨0, _, rfl, .refl⟩ g2 g3 hG.ne fun hne => ?_
      repeat walk_at "gw"
      refine ⟨_, g1, ?_⟩
      repeat walk_at "gw"
      refine ⟨fun hb => ?_, fun hb => ?_⟩
      · have hw : word y = sideS o := of_decide_eq_true hb
        obtain ⟨ns, rfl⟩ := side_mv hw
        rw [if_pos hw] at hst
        have hnl := g3.2.1
        repeat walk_at "gw"
        refine ⟨fun hb2 => ?_, fun hb2 => ?_⟩
        · have h3' := h3 (of_decide_eq_true hb2)
          repeat walk_at "gw"
          refine ws_forN ?_
          repeat walk_at "gw"
          refine ⟨fun j l1 n1 => ∃ (acc : List D) (x6 x7 x8 : Sl), l1 = [.sh (gameD g ad G), .sh (.str (sideS o)), .sh (.lst ps), .sh (.int mm), .sh (.str m), .owl acc, x6, x7, x8] ∧ acc.length ≤ 3 * j ∧ ∀ p ∈ acc, PlTo G o (i + 1) p, ⟨[], _, _, _, rfl, Nat.zero_le _, fun p hp => by cases hp⟩, ?_, ?_⟩
          · rintro j pd l1 n1 hj ⟨acc, x6, x7, x8, rfl, hal, hap⟩
            have hjl := (List.getElem?_eq_some_iff.mp hj).1
            obtain ⟨a, ms, rfl, k1, k2⟩ := h3' pd (List.mem_of_getElem? hj)
            have hmn : m ∉ ms.map (·.1) := fun z => nodup_take hG.nd hn (sideNames_tk (by rw [← k1]; exact z))
            have hml := congrArg List.length k1
            have hsl : (sideNames (G.take i) o).length ≤ G.length := by
              unfold sideNames
              rw [List.length_map]
              exact Nat.le_trans (List.length_filter_le ..) (by rw [List.length_take]; omega)
            rw [List.length_map] at hml
            refine ws_lock (a := ad m) ?_ ?_ ?_ fun od2 => ws_forN (wi_keys ?_)
            · exact ⟨0, _, _, rfl, sub_node g2⟩
            · intro z; rw [List.mem_singleton.mp z] at hne; exact hne _ _ rfl rfl
            · exact haL m o ns g2
            repeat walk_at "gw"
            refine ⟨_, g1, ?_⟩
            repeat walk_at "gw"
            refine ⟨ad m, mvD ns, od2, rfl, List.mem_cons_self, fun k l1 n1 => ∃ (acc : List D) (x7 x8 : Sl), l1 = [.sh (gameD g ad G), .sh (.str (sideS o)), .sh (.lst ps), .sh (.int mm), .sh (.str m), .owl acc, .sh (.dct a (mvD ms)), x7, x8] ∧ acc.length ≤ 3 * j + k ∧ ∀ p ∈ acc, PlTo G o (i + 1) p, ⟨acc, _, _, rfl, hal, hap⟩, ?_, ?_⟩
            · rintro k kd l1 n1 hk ⟨acc, x7, x8, rfl, hal, hap⟩
              rw [keys_mvD, List.getElem?_map] at hk
              cases hkn : (ns.map (·.1))[k]? with
              | none => rw [hkn] at hk; cases hk
              | some t =>
              rw [hkn] at hk
              cases hk
              have hkl := (List.getElem?_eq_some_iff.mp hkn).1
              rw [List.length_map] at hkl
              have ht := List.mem_of_getElem? hkn
              refine ws_seq (ws_newdo (wa_cons (we_var rfl (wa_nil ⟨_, _, rfl, ?_⟩))))
              repeat walk_at "gw"
              rw [put_mvD hmn]
              refine ⟨by unfold mvD; rw [List.length_map]; omega, ?_⟩
              refine ws_frd (i := 8) rfl fun pa _ => ?_
              repeat walk_at "gw"
              refine ⟨by omega, acc ++ [.dct (some pa) (mvD (ms ++ [(m, t)]))], _, _, rfl, by rw [List.length_append, List.length_singleton]; omega, fun p hp => ?_⟩
              rcases List.mem_append.mp hp with h | h
              · exact hap p h
              · rw [List.mem_singleton.mp h]
                refine ⟨_, _, rfl, by rw [List.map_append, k1, hst]; rfl, fun q hq => ?_⟩
                rcases List.mem_append.mp hq with h | h
                · exact k2 q h
                · rw [List.mem_singleton.mp h]; exact ⟨ns, g2, ht⟩
            · rintro l1 n1 ⟨acc, x7, x8, rfl, hal, hap⟩
              rw [List.length_map, keys_mvD, List.length_map] at hal
              exact ⟨acc, _, _, _, rfl, by omega, hap⟩
          · rintro l1 n1 ⟨acc, x6, x7, x8, rfl, hal, hap⟩
            refine ws_frl (i := 5) rfl ?_
            repeat walk_at "gw"
            exact ⟨acc, _, _, _, _, _, rfl, by omega, fun _ => hap⟩
        · refine ws_next ⟨ps, _, _, _, _, _, rfl, by omega, fun z => absurd z (of_decide_eq_false hb2)⟩
      · have hw : ¬ word y = sideS o := of_decide_eq_false hb
        rw [if_neg hw, List.append_nil] at hst
        repeat walk_at "gw"
        refine ⟨ps, _, _, _, _, _, rfl, by omega, fun z p hp => ?_⟩
        obtain ⟨a, ms, rfl, k1, k2⟩ := h3 z p hp
        exact ⟨a, ms, rfl, by rw [hst]; exact k1, k2⟩
    · rintro l1 n1 ⟨ps, x4, x5, x6, x7, x8, rfl, h2, h3⟩
      rw [List.length_map, keys_gkv] at h2 h3
      have hpi := hp9 (names G).length (by omega)
      repeat walk_at "gw"
      refine ⟨fun hb => ?_, fun hb => ?_⟩
      · repeat walk_at "gw"
        refine ⟨g, ad, G, o, ps, rfl, rfl, by omega, fun p hp => ?_⟩
        obtain ⟨a, ms, rfl, k1, k2⟩ := h3 (of_decide_eq_true hb) p hp
        rw [hNl, List.take_length] at k1
        exact ⟨a, ms, rfl, planOk_of hG.nd k1 k2⟩
      · repeat walk_at "gw"
        exact ⟨g, ad, G, o, [], rfl, rfl, Nat.zero_le _, fun p hp => by cases hp⟩
end
end Gw

/-! Equal and of the same kinds. -/
namespace Gw
open PySem L2
local macro_rules | `(tactic| walk_at "gw") => `(tactic| first
  | (with_reducible refine ws_seq ?_)
  | (with_reducible refine ws_ret ?_)
  | (with_reducible refine ws_newl ?_)
  | (with_reducible refine ws_newd ?_)
  | (with_reducible refine ws_set ?_)
  | (with_reducible refine ws_par3 ?_)
  | (with_reducible refine ws_par ?_)
  | (with_reducible refine ws_if ?_)
  | (with_reducible refine ws_next ?_)
  | (with_reducible refine ws_cont ?_)
  | (with_reducible refine ws_asgP ?_)
  | (with_reducible refine ws_asgP3 ?_)
  | ((with_reducible refine' ws_app ?h ?_); (case h => rfl))
  | ((with_reducible refine' ws_clear ?h ?_); (case h => rfl))
  | ((with_reducible refine' ws_dput ?h ?_); (case h => rfl))
  | (with_reducible refine ws_drop ?_)
  | ((with_reducible refine' we_var ?h ?_); (case h => rfl))
  | (with_reducible refine we_int ?_)
  | (with_reducible refine we_str ?_)
  | (with_reducible refine we_bl ?_)
  | (with_reducible refine we_non ?_)
  | (with_reducible refine we_ty ?_)
  | ((with_reducible refine' we_ixM ?h ?e ?_); (case h => rfl); (case e => exact atI_last _ _))
  | ((with_reducible refine' we_ixO ?h ?_); (case h => rfl))
  | (with_reducible refine we_neg ?_)
  | (with_reducible refine we_op ?_)
  | (with_reducible refine ro_I0 ?_)
  | (with_reducible refine ro_B0 ?_)
  | ((with_reducible refine ro_I ?h ?_); (case h => first | assumption | omega))
  | ((with_reducible refine' ro_ixT ?h ?_); (case h => rfl))
  | (with_reducible refine ro_inT2 ?_)
  | (with_reducible refine ro_ninT2 ?_)
  | (with_reducible refine ro_eqS ?_)
  | (with_reducible refine ro_neS ?_)
  | (with_reducible refine ro_eqI ?_)
  | (with_reducible refine ro_neI ?_)
  | (with_reducible refine ro_eqB ?_)
  | (with_reducible refine ro_notNon ?_)
  | (with_reducible refine ro_neB ?_)
  | ((with_reducible refine' we_dgetO ?h ?_); (case h => rfl))
  | ((with_reducible refine' we_dinO ?h ?_); (case h => rfl))
  | ((with_reducible refine' we_dnotinO ?h ?_); (case h => rfl))
  | (with_reducible refine we_dget ?_)
  | (with_reducible refine we_din ?_)
  | (with_reducible refine we_dnotin ?_)
  | ((with_reducible refine we_tup ?_))
  | ((with_reducible refine we_lst ?_))
  | (with_reducible refine wa_cons ?_)
  | (with_reducible refine wa_nil ?_)
  | (with_reducible refine we_cb ?_)
  | (with_reducible refine we_chain ?_)
  | (with_reducible refine we_if ?_)
  | (with_reducible refine we_andV ?_)
  | (with_reducible refine we_orV ?_)
  | (with_reducible refine we_notV ?_)
  | (with_reducible refine wt_test ?_)
  | (with_reducible refine wt_B ?_)
  | (with_reducible refine wt_not ?_)
  | (with_reducible refine wt_and ?_)
  | (with_reducible refine wt_or ?_)
  | (with_reducible refine wt_ifT ?_)
  | (with_reducible refine we_call ?_)
  | ((with_reducible refine' we_callS ?h ?_); (case h => rfl))
  | ((with_reducible refine' we_meth ?h ?_); (case h => decide +kernel))
  | (with_reducible refine rc_abs ?_)
  | (with_reducible refine rc_int ?_)
  | (with_reducible refine rc_lenL ?_)
  | (with_reducible refine rc_lenT ?_)
  | (with_reducible refine rc_lenD ?_)
  | (with_reducible refine rc_lenLS ?_)
  | (with_reducible refine rc_sum ?_)
  | (with_reducible refine rc_tupT ?_)
  | ((with_reducible refine' rc_isi ?ht ?hb ?_); (case ht => rfl); (case hb => first | exact kb_int_int | exact kb_int_bool | exact kb_int_list | exact kb_int_tuple | exact kb_str_str | exact kb_dict_dict | exact kb_list_list | exact kb_list_tuple | exact kb_tuple_list | exact kb_tuple_tuple | exact kb_bool_int | exact kb_bool_bool))
  | ((with_reducible refine' rc_isiT ?ht ?h1 ?h2 ?_); (case ht => rfl); (case h1 => first | exact kb_int_int | exact kb_int_bool | exact kb_int_list | exact kb_int_tuple | exact kb_str_str | exact kb_dict_dict | exact kb_list_list | exact kb_list_tuple | exact kb_tuple_list | exact kb_tuple_tuple | exact kb_bool_int | exact kb_bool_bool); (case h2 => first | exact kb_int_int | exact kb_int_bool | exact kb_int_list | exact kb_int_tuple | exact kb_str_str | exact kb_dict_dict | exact kb_list_list | exact kb_list_tuple | exact kb_tuple_list | exact kb_tuple_tuple | exact kb_bool_int | exact kb_bool_bool))
  | (with_reducible refine rc_allT ?_)
  | (with_reducible refine rc_anyF ?_)
  | (with_reducible refine rc_all ?_)
  | (with_reducible refine rc_any ?_)
  | (with_reducible refine rc_listD ?_)
  | (with_reducible refine rc_dictD fun _ _ => ?_)
  | (with_reducible refine we_rev ?_)
  | (with_reducible refine we_slL ?_)
  | (with_reducible refine wo_no ?_)
  | (with_reducible refine wo_part ?_)
  | (with_reducible refine we_listVals ?_)
  | ((with_reducible refine' we_fld ?hc ?hn ?_); (case hc => assumption); (case hn => assumption))
  | (with_reducible refine wi_list ?_)
  | (with_reducible refine wi_range1 ?_)
  | (with_reducible refine wi_str ?_)
  | (with_reducible refine wi_enum ?_)
  | (with_reducible refine wg_name ?_)
  | (with_reducible refine wg_two ?_)
  | (refine ⟨Nat.le_of_ble_eq_true rfl, ?_⟩)
  | (refine ⟨_, rfl, ?_⟩)
  | (refine ⟨_, _, rfl, ?_⟩)
  | (refine ⟨_, _, _, rfl, rfl, ?_⟩)
  | (refine ⟨_, _, _, rfl, ?_⟩)
  | (refine ⟨fun _ => ?_, fun z => Bool.noConfusion z⟩)
  | (refine ⟨fun z => Bool.noConfusion z, fun _ => ?_⟩)
  | (refine ⟨fun _ => ?_, fun z => absurd z (by decide +kernel)⟩)
  | (refine ⟨fun z => absurd z (by decide +kernel), fun _ => ?_⟩))
section
variable {P : Program} {w : World} {K : PySem.W.Frag} {mg : Str → Option Value} {base : Heap} {C : Addr}
abbrev s__law_same : Stmt := top 59
abbrev N__law_same : List Str := ["_law_found", "_law_due", "_law_x", "_law_y"]
theorem sc__law_same : FnScope N__law_same ["_law_found", "_law_due"] (C8.fnScope s__law_same) := C8.fnScope_by (by decide +kernel)
def preSame1 : List Addr → List D → Nat → Prop := fun _ ds _ => ∃ i j : Int, ds = [.int i, .int j]
def postSame1 : Hp → List D → Nat → D → Nat → Prop := fun _ ds _ d _ => ∃ i j : Int, ds = [.int i, .int j] ∧ d = .bl (decide (i = j))
theorem ok__law_same1 (T : Txt K mg C) (DB : DefB K mg "_law_same" s__law_same ["_law_found", "_law_due"]) : C8.Cal P w K mg base 1 "_law_same" (spG C false preSame1 postSame1) [] := by
  refine cal_ok DB sc__law_same (fun L ds n hp => ?_) fun f cdv A outer sh H E hr => ?_
  · obtain ⟨_, _, rfl⟩ := hp; rfl
  have nd := sc__law_same.nd
  refine ⟨_, (pss_cons (ps_if (pt_val (pe_callB (r := rIsiT K) call_isiT (by rfl) T.n_isinstance (by decide +kernel) (pa_cons (pv 1) (pa_cons (pe_tup (pa_cons (pe_bltn (v := .ty "list") (by rfl) T.n_list (by decide +kernel) rfl) (pa_cons (pe_bltn (v := .ty "tuple") (by rfl) T.n_tuple (by decide +kernel) rfl) pa_nil))) pa_nil)))) pss_never pss_nil) (pss_cons (ps_if (pt_val (pe_callB (r := rIsi K) call_isi (by rfl) T.n_isinstance (by decide +kernel) (pa_cons (pv 1) (pa_cons (pe_bltn (v := .ty "int") (by rfl) T.n_int (by decide +kernel) rfl) pa_nil)))) (pss_one (ps_ret (pe_and (pe_callB (r := rIsi K) call_isi (by rfl) T.n_isinstance (by decide +kernel) (pa_cons (pv 0) (pa_cons (pe_bltn (v := .ty "int") (by rfl) T.n_int (by decide +kernel) rfl) pa_nil))) (pe_and (pe_cmpR op_eq (pe_callB (r := rIsi K) call_isi (by rfl) T.n_isinstance (by decide +kernel) (pa_cons (pv 0) (pa_cons (pe_bltn (v := .ty "bool") (by rfl) T.n_bool (by decide +kernel) rfl) pa_nil))) (pe_callB (r := rIsi K) call_isi (by rfl) T.n_isinstance (by decide +kernel) (pa_cons (pv 1) (pa_cons (pe_bltn (v := .ty "bool") (by rfl) T.n_bool (by decide +kernel) rfl) pa_nil))) (nomark _)) (pe_one (pe_cmpR op_eq (pv 0) (pv 1) (nomark _))))))) pss_nil) pss_never)), fun sa ca L F0 H0 ds n hp => ?_⟩
  obtain ⟨i, j, rfl⟩ := hp
  repeat walk_at "gw"
  rfl
def preSame : List Addr → List D → Nat → Prop := fun _ ds _ => ∃ q : Int × Int, ds = [fr q, fr q]
def postSame : Hp → List D → Nat → D → Nat → Prop := fun _ ds _ d _ => d = .bl true
theorem ok__law_same (T : Txt K mg C) (DB : DefB K mg "_law_same" s__law_same ["_law_found", "_law_due"]) (c__law_same : C8.Cal P w K mg base 1 "_law_same" (spG C false preSame1 postSame1) []) : C8.Cal P w K mg base 2 "_law_same" (spG C false preSame postSame) [] := by
  refine cal_ok DB sc__law_same (fun L ds n hp => ?_) fun f cdv A outer sh H E hr => ?_
  · obtain ⟨_, rfl⟩ := hp; rfl
  have nd := sc__law_same.nd
  refine ⟨_, (pss_cons (ps_if (pt_val (pe_callB (r := rIsiT K) call_isiT (by rfl) T.n_isinstance (by decide +kernel) (pa_cons (pv 1) (pa_cons (pe_tup (pa_cons (pe_bltn (v := .ty "list") (by rfl) T.n_list (by decide +kernel) rfl) (pa_cons (pe_bltn (v := .ty "tuple") (by rfl) T.n_tuple (by decide +kernel) rfl) pa_nil))) pa_nil)))) (pss_cons (ps_if (PW.pt (pw_or (pt_cmpR op_ne (pe_callB (r := rIsi K) call_isi (by rfl) T.n_isinstance (by decide +kernel) (pa_cons (pv 0) (pa_cons (pe_bltn (v := .ty "list") (by rfl) T.n_list (by decide +kernel) rfl) pa_nil))) (pe_callB (r := rIsi K) call_isi (by rfl) T.n_isinstance (by decide +kernel) (pa_cons (pv 1) (pa_cons (pe_bltn (v := .ty "list") (by rfl) T.n_list (by decide +kernel) rfl) pa_nil))) (nomark _)) (pw_or1 (pt_cmpR op_ne (pe_callB (r := rIsi K) call_isi (by rfl) T.n_isinstance (by decide +kernel) (pa_cons (pv 0) (pa_cons (pe_bltn (v := .ty "tuple") (by rfl) T.n_tuple (by decide +kernel) rfl) pa_nil))) (pe_callB (r := rIsi K) call_isi (by rfl) T.n_isinstance (by decide +kernel) (pa_cons (pv 1) (pa_cons (pe_bltn (v := .ty "tuple") (by rfl) T.n_tuple (by decide +kernel) rfl) pa_nil))) (nomark _))))) (pss_one (ps_ret pe_bl)) pss_nil)
      (pss_one (ps_ret (pe_and (pe_cmpR op_eq (pe_callB (r := cLenS K) call_lenS (by rfl) T.n_len (by decide +kernel) (pa_cons (pv 0) pa_nil)) (pe_callB (r := cLenS K) call_lenS (by rfl) T.n_len (by decide +kernel) (pa_cons (pv 1) pa_nil)) (nomark _)) (pe_one (pe_callB (r := rAll K) (cr_all rfl) (by rfl) T.n_all (by decide +kernel) (pa_cons (pe_lc (own := [("_law_x", 2), ("_law_y", 3)]) rfl nd (pi_zipK K (by rfl) T.n_zip (pa_cons (pv 0) (pa_cons (pv 1) pa_nil))) (blkOk_by (own := [("_law_x", 2), ("_law_y", 3)]) (N := N__law_same) (sc := C8.fnScope s__law_same) (by decide +kernel)) (fun _ _ _ _ _ => pg_tupK (n := 2) K rfl (pgs_cons (pg_name (i := 2) nd rfl (Or.inl rfl)) (pgs_cons (pg_name (i := 3) nd rfl (Or.inl rfl)) pgs_nil))) (fun _ _ _ _ _ => pts_nil) (fun _ _ _ _ _ => (C8.pe_c c__law_same hr (by decide) (by rfl) (pa_cons (pv 2) (pa_cons (pv 3) pa_nil))))) pa_nil))))))) pss_nil) pss_never), fun sa ca L F0 H0 ds n hp => ?_⟩
  obtain ⟨q, rfl⟩ := hp
  repeat walk_at "gw"
  refine we_mapP (f := fun _ => .bl true) (by decide) (by decide) (wi_zipT ?_)
  repeat walk_at "gw"
  refine ⟨rfl, Nat.le_of_ble_eq_true rfl, fun z hz => ?_, [D.bl true, D.bl true], rfl, ?_⟩
  · have hz2 : z ∈ [D.tup [.int q.1, .int q.1], .tup [.int q.2, .int q.2]] := hz
    have : ∃ i : Int, z = .tup [.int i, .int i] := by
      simp only [List.mem_cons, List.not_mem_nil, or_false] at hz2
      rcases hz2 with h | h
      · exact ⟨_, h⟩
      · exact ⟨_, h⟩
    obtain ⟨i, rfl⟩ := this
    refine ⟨_, _, rfl, ?_⟩
    repeat walk_at "gw"
    refine ⟨⟨i, i, rfl⟩, ?_⟩
    rintro d n2 H' _ ⟨a, b, he, rfl⟩
    simp only [List.cons.injEq, D.int.injEq, and_true] at he
    obtain ⟨rfl, rfl⟩ := he
    exact ⟨by simp, rfl⟩
  repeat walk_at "gw"
  exact rc_all (bs := [true, true]) rfl
end
end Gw

/-! The law. -/
namespace Gw
open PySem L2
local macro_rules | `(tactic| walk_at "gw") => `(tactic| first
  | (with_reducible refine ws_seq ?_)
  | (with_reducible refine ws_ret ?_)
  | (with_reducible refine ws_newl ?_)
  | (with_reducible refine ws_newd ?_)
  | (with_reducible refine ws_set ?_)
  | (with_reducible refine ws_par3 ?_)
  | (with_reducible refine ws_par ?_)
  | (with_reducible refine ws_if ?_)
  | (with_reducible refine ws_next ?_)
  | (with_reducible refine ws_cont ?_)
  | (with_reducible refine ws_asgP ?_)
  | (with_reducible refine ws_asgP3 ?_)
  | ((with_reducible refine' ws_app ?h ?_); (case h => rfl))
  | ((with_reducible refine' ws_clear ?h ?_); (case h => rfl))
  | ((with_reducible refine' ws_dput ?h ?_); (case h => rfl))
  | (with_reducible refine ws_drop ?_)
  | ((with_reducible refine' we_var ?h ?_); (case h => rfl))
  | (with_reducible refine we_int ?_)
  | (with_reducible refine we_str ?_)
  | (with_reducible refine we_bl ?_)
  | (with_reducible refine we_non ?_)
  | (with_reducible refine we_ty ?_)
  | ((with_reducible refine' we_ixM ?h ?e ?_); (case h => rfl); (case e => exact atI_last _ _))
  | ((with_reducible refine' we_ixO ?h ?_); (case h => rfl))
  | (with_reducible refine we_neg ?_)
  | (with_reducible refine we_op ?_)
  | (with_reducible refine ro_I0 ?_)
  | (with_reducible refine ro_B0 ?_)
  | ((with_reducible refine ro_I ?h ?_); (case h => first | assumption | omega))
  | ((with_reducible refine' ro_ixT ?h ?_); (case h => rfl))
  | (with_reducible refine ro_inT2 ?_)
  | (with_reducible refine ro_ninT2 ?_)
  | (with_reducible refine ro_eqS ?_)
  | (with_reducible refine ro_neS ?_)
  | (with_reducible refine ro_eqI ?_)
  | (with_reducible refine ro_neI ?_)
  | (with_reducible refine ro_eqB ?_)
  | (with_reducible refine ro_notNon ?_)
  | (with_reducible refine ro_neB ?_)
  | ((with_reducible refine' we_dgetO ?h ?_); (case h => rfl))
  | ((with_reducible refine' we_dinO ?h ?_); (case h => rfl))
  | ((with_reducible refine' we_dnotinO ?h ?_); (case h => rfl))
  | (with_reducible refine we_dget ?_)
  | (with_reducible refine we_din ?_)
  | (with_reducible refine we_dnotin ?_)
  | ((with_reducible refine we_tup ?_))
  | ((with_reducible refine we_lst ?_))
  | (with_reducible refine wa_cons ?_)
  | (with_reducible refine wa_nil ?_)
  | (with_reducible refine we_cb ?_)
  | (with_reducible refine we_chain ?_)
  | (with_reducible refine we_if ?_)
  | (with_reducible refine we_andV ?_)
  | (with_reducible refine we_orV ?_)
  | (with_reducible refine we_notV ?_)
  | (with_reducible refine wt_test ?_)
  | (with_reducible refine wt_B ?_)
  | (with_reducible refine wt_not ?_)
  | (with_reducible refine wt_and ?_)
  | (with_reducible refine wt_or ?_)
  | (with_reducible refine wt_ifT ?_)
  | (with_reducible refine we_call ?_)
  | ((with_reducible refine' we_callS ?h ?_); (case h => rfl))
  | ((with_reducible refine' we_meth ?h ?_); (case h => decide +kernel))
  | (with_reducible refine rc_abs ?_)
  | (with_reducible refine rc_int ?_)
  | (with_reducible refine rc_lenL ?_)
  | (with_reducible refine rc_lenT ?_)
  | (with_reducible refine rc_lenD ?_)
  | (with_reducible refine rc_lenLS ?_)
  | (with_reducible refine rc_sum ?_)
  | (with_reducible refine rc_tupT ?_)
  | ((with_reducible refine' rc_isi ?ht ?hb ?_); (case ht => rfl); (case hb => first | exact kb_int_int | exact kb_int_bool | exact kb_int_list | exact kb_int_tuple | exact kb_str_str | exact kb_dict_dict | exact kb_list_list | exact kb_list_tuple | exact kb_tuple_list | exact kb_tuple_tuple | exact kb_bool_int | exact kb_bool_bool))
  | ((with_reducible refine' rc_isiT ?ht ?h1 ?h2 ?_); (case ht => rfl); (case h1 => first | exact kb_int_int | exact kb_int_bool | exact kb_int_list | exact kb_int_tuple | exact kb_str_str | exact kb_dict_dict | exact kb_list_list | exact kb_list_tuple | exact kb_tuple_list | exact kb_tuple_tuple | exact kb_bool_int | exact kb_bool_bool); (case h2 => first | exact kb_int_int | exact kb_int_bool | exact kb_int_list | exact kb_int_tuple | exact kb_str_str | exact kb_dict_dict | exact kb_list_list | exact kb_list_tuple | exact kb_tuple_list | exact kb_tuple_tuple | exact kb_bool_int | exact kb_bool_bool))
  | (with_reducible refine rc_allT ?_)
  | (with_reducible refine rc_anyF ?_)
  | (with_reducible refine rc_all ?_)
  | (with_reducible refine rc_any ?_)
  | (with_reducible refine rc_listD ?_)
  | (with_reducible refine rc_dictD fun _ _ => ?_)
  | (with_reducible refine we_rev ?_)
  | (with_reducible refine we_slL ?_)
  | (with_reducible refine wo_no ?_)
  | (with_reducible refine wo_part ?_)
  | (with_reducible refine we_listVals ?_)
  | ((with_reducible refine' we_fld ?hc ?hn ?_); (case hc => assumption); (case hn => assumption))
  | (with_reducible refine wi_list ?_)
  | (with_reducible refine wi_range1 ?_)
  | (with_reducible refine wi_str ?_)
  | (with_reducible refine wi_enum ?_)
  | (with_reducible refine wg_name ?_)
  | (with_reducible refine wg_two ?_)
  | (refine ⟨Nat.le_of_ble_eq_true rfl, ?_⟩)
  | (refine ⟨_, rfl, ?_⟩)
  | (refine ⟨_, _, rfl, ?_⟩)
  | (refine ⟨_, _, _, rfl, rfl, ?_⟩)
  | (refine ⟨_, _, _, rfl, ?_⟩)
  | (refine ⟨fun _ => ?_, fun z => Bool.noConfusion z⟩)
  | (refine ⟨fun z => Bool.noConfusion z, fun _ => ?_⟩)
  | (refine ⟨fun _ => ?_, fun z => absurd z (by decide +kernel)⟩)
  | (refine ⟨fun z => absurd z (by decide +kernel), fun _ => ?_⟩))
section
variable {B : Bk} {M : List (Addr × Obj)} {l : List Sl} {n : Nat} {P : Post} {ts : TS}
/-- a place's dict is not the table of places -/
theorem ws_free {g g' : Addr} {ad ad' : Str → Addr} {G G' : Gm} (hg : InV l g (gkv ad G)) (hg' : InV l g' (gkv ad' G')) (hG : G ≠ []) (ok : ∀ n o ms, (n, Nd.mv o ms) ∈ G' → ms ≠ []) (k : (∀ n o ms, (n, Nd.mv o ms) ∈ G' → ad' n ≠ g) → WS B M ts l n P) : WS B M ts l n P := fun F H σ r S E f =>
  k (fun n o ms hm => (diff_mv (ok n o ms hm) hG).ne S (inv_node hg' hm) hg) F H σ r S E f
end
section
variable {P : Program} {w : World} {K : PySem.W.Frag} {mg : Str → Option Value} {base : Heap} {C : Addr}
abbrev s__law_start : Stmt := top 55
abbrev N__law_start : List Str := ["_law_script"]
theorem sc__law_start : FnScope N__law_start ["_law_script"] (C8.fnScope s__law_start) := C8.fnScope_by (by decide +kernel)
def spStart (K : PySem.W.Frag) : Sp := fun vs H Q _ => ∃ (a : Addr) (ns : List Int), vs = [.ref a] ∧ SqL K H a (ns.map V.int) ∧ ns.length ≤ 63 ∧ ∀ sa ca H', StrmOk sa ca H' 0 → Q (.ref sa) H'
theorem ok__law_start (T : Txt K mg C) (DB : DefB K mg "_law_start" s__law_start ["_law_script"]) : C8.Cal P w K mg base 1 "_law_start" (spStart K) [] := by
  obtain ⟨f, fd, F, b⟩ := DB
  refine C8.cal0 F b .nil sc__law_start (fun vs H Q E h => ?_) fun cdv A outer s H vs Q E hr h => ?_
  · obtain ⟨_, _, rfl, _⟩ := h; rfl
  obtain ⟨a, ns, rfl, hS, hl, k⟩ := h
  have nd := sc__law_start.nd
  refine ⟨_, (pss_one (ps_ret (pe_lst (pa_cons (pe_callTy (T := "list") (r := cListS K) call_listS (by rfl) T.n_list (by decide +kernel) (pa_cons (pv 0) pa_nil)) (pa_cons pe_int (pa_cons pe_int (pa_cons pe_int pa_nil))))))), ?_⟩
  refine ⟨_, rfl, a, _, rfl, .inl hS, fun ca hca => ?_⟩
  refine ⟨by show 4 ≤ sizeLine; decide, fun sa hsa => ?_⟩
  have hne : sa ≠ ca := fun e => by
    rw [e, upd_same] at hsa
    cases hsa
  exact k sa ca _ ⟨hne, ns, 0, 11, upd_same, by rw [upd_ne hne.symm, upd_same], by decide, by decide, by decide, hl⟩
theorem lw_inv {H : Hp} {g : Addr} {ad : Str → Addr} {G : Gm} {o : Option Addr} {kvs : List (Str × D)} {pl : Plans} {d : D} {n n2 : Nat} (h : postLW H [gameD g ad G, .dct o kvs] n d n2) (hp : PlD kvs pl) : ∃ o' xs, d = .dct o' (tabD (worth G pl) xs) ∧ (∀ m ∈ names G, m ∈ xs) ∧ xs.Nodup ∧ ∀ m ∈ xs, m ∈ names G := by
  obtain ⟨g', ad', G', o1, o', kvs', pl', xs, he, hpd, rfl, h1, h2, h3⟩ := h
  simp only [List.cons.injEq, D.dct.injEq, and_true] at he
  obtain ⟨he, -, rfl⟩ := he
  have hg : gameD g ad G = gameD g' ad' G' := by
    unfold gameD
    rw [he.1, he.2]
  obtain ⟨rfl, rfl⟩ := gameD_inj hg
  rw [hpd.uniq hp]
  exact ⟨o', xs, rfl, h1, h2, h3⟩
theorem sideNames_nd {G : Gm} {o : Bool} (h : (names G).Nodup) : (sideNames G o).Nodup := by
  unfold sideNames
  exact (List.Sublist.map _ List.filter_sublist).nodup h
theorem lkp_rev {ms : List (Str × Str)} (h : (ms.map (·.1)).Nodup) (n : Str) : lkp ms.reverse n = lkp ms n := by
  have hr : (ms.reverse.map (·.1)).Nodup := by rw [List.map_reverse]; exact (List.reverse_perm _).symm.nodup h
  cases e : lkp ms n with
  | some x => exact lkp_eq hr (List.mem_reverse.mpr (lkp_mem e))
  | none =>
    cases e2 : lkp ms.reverse n with
    | none => rfl
    | some y =>
      have := lkp_eq h (List.mem_reverse.mp (lkp_mem e2))
      rw [e] at this
      cases this
theorem sideNames_sub_len (G : Gm) (o : Bool) : (sideNames G o).length ≤ G.length := by
  unfold sideNames
  rw [List.length_map]
  exact List.length_filter_le ..
theorem planOk_rev {G : Gm} {o : Bool} {ms : List (Str × Str)} (h : (ms.map (·.1)).Nodup) (hp : PlanOk G o ms) : PlanOk G o ms.reverse :=
  ⟨by rw [List.length_reverse]; exact hp.1, fun n ns hm => by rw [lkp_rev h]; exact hp.2 n ns hm⟩
abbrev s_law : Stmt := top 60
abbrev N_law : List Str := ["_law_script", "_law_stream", "_law_turn", "_law_due", "_law_made", "_law_ours", "_law_theirs", "_law_table", "_law_turned", "_law_kept", "_law_told", "_law_least", "_law_plan", "_law_other", "_law_name"]
theorem sc_law : FnScope N_law ["_law_script"] (C8.fnScope s_law) := C8.fnScope_by (by decide +kernel)
def spLaw (K : PySem.W.Frag) : Sp := fun vs H Q _ => ∃ (a : Addr) (ns : List Int), vs = [.ref a] ∧ SqL K H a (ns.map V.int) ∧ ns.length ≤ 63 ∧ ∀ H', Q (.bl true) H'
theorem ok_law {f : Addr} {fd : FuncData} (T : Txt K mg C) (FL : C8.Fun K "law" "law" s_law f fd) (c__law_start : C8.Cal P w K mg base 1 "_law_start" (spStart K) []) (c__law_t_game : C8.Cal P w K mg base 5 "_law_t_game" (spG C true preGame postGame) []) (c__law_draw : C8.Cal P w K mg base 1 "_law_draw" (spG C true preDraw postDraw) [])
    (c_Game : C8.Mak P w K mg base 4 "Game" C (spI C preInit postInit) []) (c__law_t_one_plan : C8.Cal P w K mg base 3 "_law_t_one_plan" (spG C true preOne postOne) []) (c__law_t_worths : C8.Cal P w K mg base 3 "_law_t_worths" (spG C false preLW postLW) []) (c__law_same : C8.Cal P w K mg base 2 "_law_same" (spG C false preSame postSame) [])
    (c_mean : C8.Cal P w K mg base 5 "mean" (spG C false preMean postMeanW) []) (c_answer : C8.Cal P w K mg base 5 "answer" (spG C false preAns postAns) []) (c_is_plan : C8.Cal P w K mg base 2 "is_plan" (spG C false prePlan postT) []) (c_is_floor : C8.Cal P w K mg base 4 "is_floor" (spG C false preFloor postT) []) (c__law_t_plans : C8.Cal P w K mg base 1 "_law_t_plans" (spG C false prePlans postPlans) []) (c__law_t_less : C8.Cal P w K mg base 1 "_law_t_less" (spG C false preTwoQ postLess) []) : FnOk P w K mg base C8.CX0 6 f fd ["_law_script"] (spLaw K) := by
  refine C8.fn0 FL sc_law (fun vs H Q E h => ?_) fun cdv A outer sh H vs Q E hr h => ?_
  · obtain ⟨_, _, rfl, _⟩ := h; rfl
  obtain ⟨a, ns, rfl, hS, hl, hQ⟩ := h
  have nd := sc_law.nd
  refine ⟨_, (pss_cons (ps_set (i := 1) nd rfl (Or.inl rfl) (C8.pe_c c__law_start hr (by decide) (by rfl) (pa_cons (pv 0) pa_nil)))
    (pss_cons (ps_for PassesOwn.never rfl (pi_range1 (by rfl) T.n_range (pa_cons pe_int pa_nil)) (pg_name (i := 2) nd rfl (Or.inl rfl))
      (pss_cons (ps_set (i := 3) nd rfl (Or.inr rfl) (C8.pe_c c__law_t_game hr (by decide) (by rfl) (pa_cons (pv 1) (pa_cons (pe_op op_add pe_int (C8.pe_c c__law_draw hr (by decide) (by rfl) (pa_cons (pv 1) (pa_cons pe_int pa_nil)))) (pa_cons pe_bl pa_nil)))))
      (pss_cons (ps_set (i := 4) nd rfl (Or.inr rfl) (C8.pe_mk c_Game hr (by decide) (by rfl) (pa_cons (pv 3) pa_nil)))
      (pss_cons (ps_asg (pe_tup (pa_cons (C8.pe_c c__law_t_one_plan hr (by decide) (by rfl) (pa_cons (pv 1) (pa_cons (pv 3) (pa_cons pe_str pa_nil)))) (pa_cons (C8.pe_c c__law_t_one_plan hr (by decide) (by rfl) (pa_cons (pv 1) (pa_cons (pv 3) (pa_cons pe_str pa_nil)))) pa_nil))) (pg_tupK (n := 2) K rfl (pgs_cons (pg_name (i := 5) nd rfl (Or.inr rfl)) (pgs_cons (pg_name (i := 6) nd rfl (Or.inr rfl)) pgs_nil))))
      (pss_cons (ps_set (i := 7) nd rfl (Or.inr rfl) (C8.pe_c c__law_t_worths hr (by decide) (by rfl) (pa_cons (pv 3) (pa_cons (pe_disp (pps_cons pe_str (pv 5) (pps_cons pe_str (pv 6) pps_nil)) (by rfl) (by rfl) (fun z => by cases z) (by decide)) pa_nil))))
      (pss_cons (ps_set (i := 8) nd rfl (Or.inr rfl) (pe_callTy (T := "dict") (r := cDictP K) (call_dictP1 rfl) (by rfl) T.n_dict (by decide +kernel) (pa_cons (pe_lc (own := [("_law_name", 14)]) rfl nd (pi_listK K (pe_revK K (pe_callTy (T := "list") (r := cListD) (call_listD1 rfl) (by rfl) T.n_list (by decide +kernel) (pa_cons (pv 5) pa_nil)))) (blkOk_by (own := [("_law_name", 14)]) (N := N_law) (sc := C8.fnScope s_law) (by decide +kernel)) (fun _ _ _ _ _ => pg_name (i := 14) nd rfl (Or.inl rfl)) (fun _ _ _ _ _ => pts_nil) (fun _ _ _ _ _ => (pe_tup (pa_cons (pv 14) (pa_cons (pe_dget (hu_of hr) (pv 5) (pv 14) (fun _ _ => rfl)) pa_nil))))) pa_nil)))
      (pss_cons (ps_if (pt_not (pt_val (pe_callB (r := rAll K) (cr_all rfl) (by rfl) T.n_all (by decide +kernel) (pa_cons (pe_lock (pe_lc (own := [("_law_name", 14)]) rfl nd (pi_keys (pv 3)) (blkOk_by (own := [("_law_name", 14)]) (N := N_law) (sc := C8.fnScope s_law) (by decide +kernel)) (fun _ _ _ _ _ => pg_name (i := 14) nd rfl (Or.inl rfl)) (fun _ _ _ _ _ => pts_nil) (fun _ _ _ _ _ => (C8.pe_c c__law_same hr (by decide) (by rfl) (pa_cons (C8.pe_c c_mean hr (by decide) (by rfl) (pa_cons (pv 4) (pa_cons (pv 8) (pa_cons (pv 6) (pa_cons (pv 14) pa_nil))))) (pa_cons (pe_dget (hu_of hr) (pv 7) (pv 14) (fun _ _ => rfl)) pa_nil)))))) pa_nil)))) (pss_one (ps_ret pe_bl)) pss_nil)
      (pss_cons (ps_par (i := 9) (j := 10) rfl nd rfl rfl (by decide) rfl rfl (pa_cons (pe_callTy (T := "dict") (r := cDictD) call_dictD1 (by rfl) T.n_dict (by decide +kernel) (pa_cons (pv 5) pa_nil)) (pa_cons (C8.pe_c c_answer hr (by decide) (by rfl) (pa_cons (pv 4) (pa_cons (pv 8) pa_nil))) pa_nil)) rfl)
      (pss_cons (ps_if (PW.pt (pw_or (pt_not (pt_val (C8.pe_c c_is_plan hr (by decide) (by rfl) (pa_cons (pv 4) (pa_cons pe_str (pa_cons (pv 10) pa_nil)))))) (pw_or1 (pt_cmpR (r := rNeD K) (op_neD hr.units) (pe_callTy (T := "list") (r := cListD) (call_listD1 rfl) (by rfl) T.n_list (by decide +kernel) (pa_cons (pv 10) pa_nil)) (pe_lock (pe_lc (own := [("_law_name", 14)]) rfl nd (pi_keys (pv 3)) (blkOk_by (own := [("_law_name", 14)]) (N := N_law) (sc := C8.fnScope s_law) (by decide +kernel)) (fun _ _ _ _ _ => pg_name (i := 14) nd rfl (Or.inl rfl)) (fun _ _ _ _ _ => (pts_one (pt_cmpR op_eq (pe_ix (r := rIxT K) ix_tup (pe_dget (hu_of hr) (pv 3) (pv 14) (fun _ _ => rfl)) pe_int (fun _ _ => rfl)) pe_str (nomark _)))) (fun _ _ _ _ _ => (pv 14)))) (nomark _))))) (pss_one (ps_ret pe_bl)) pss_nil)
      (pss_cons (ps_set (i := 11) nd rfl (Or.inr rfl) (C8.pe_c c__law_t_worths hr (by decide) (by rfl) (pa_cons (pv 3) (pa_cons (pe_disp (pps_cons pe_str (pv 5) pps_nil) (by rfl) (by rfl) (fun z => by cases z) (by decide)) pa_nil))))
      (pss_cons (ps_if (PW.pt (pw_or (pt_cmpR (r := rNeDD K) (op_neDD (hu65 hr)) (C8.pe_c c__law_t_worths hr (by decide) (by rfl) (pa_cons (pv 3) (pa_cons (pe_disp (pps_cons pe_str (pv 5) (pps_cons pe_str (pv 10) pps_nil)) (by rfl) (by rfl) (fun z => by cases z) (by decide)) pa_nil))) (pv 11) (nomark _)) (pw_or1 (pt_not (pt_val (C8.pe_c c_is_floor hr (by decide) (by rfl) (pa_cons (pv 4) (pa_cons (pv 5) (pa_cons (pv 11) pa_nil))))))))) (pss_one (ps_ret pe_bl)) pss_nil)
      (pss_cons (ps_for PassesOwn.never rfl (pi_listK K (pe_slice (r := rSlL K) sl_list (C8.pe_c c__law_t_plans hr (by decide) (by rfl) (pa_cons (pv 3) (pa_cons pe_str pa_nil))) po_none (po_some pe_int))) (pg_name (i := 12) nd rfl (Or.inl rfl))
        (pss_cons (ps_set (i := 13) nd rfl (Or.inr rfl) (C8.pe_c c__law_t_worths hr (by decide) (by rfl) (pa_cons (pv 3) (pa_cons (pe_disp (pps_cons pe_str (pv 5) (pps_cons pe_str (pv 12) pps_nil)) (by rfl) (by rfl) (fun z => by cases z) (by decide)) pa_nil))))
        (pss_one (ps_if (pt_val (pe_callB (r := rAny K) (cr_any rfl) (by rfl) T.n_any (by decide +kernel) (pa_cons (pe_lock (pe_lc (own := [("_law_name", 14)]) rfl nd (pi_keys (pv 3)) (blkOk_by (own := [("_law_name", 14)]) (N := N_law) (sc := C8.fnScope s_law) (by decide +kernel)) (fun _ _ _ _ _ => pg_name (i := 14) nd rfl (Or.inl rfl)) (fun _ _ _ _ _ => pts_nil) (fun _ _ _ _ _ => (C8.pe_c c__law_t_less hr (by decide) (by rfl) (pa_cons (pe_dget (hu_of hr) (pv 13) (pv 14) (fun _ _ => rfl)) (pa_cons (pe_dget (hu_of hr) (pv 11) (pv 14) (fun _ _ => rfl)) pa_nil)))))) pa_nil))) (pss_one (ps_ret pe_bl)) pss_nil))))
      (pss_cons (ps_expr (pe_clearK K (pv 10)))
      (pss_one (ps_if (PW.pt (pw_or (PW.pt (pw_and (pt_cmpR (r := rEqDD K) (op_eqDD (hu65 hr)) (C8.pe_c c_answer hr (by decide) (by rfl) (pa_cons (pv 4) (pa_cons (pv 5) pa_nil))) pe_dnewK (nomark _)) (pw_and1 (pt_cmpR (r := rIn K false) op_in_seq pe_str (pe_lock (pe_lc (own := [("_law_name", 14)]) rfl nd (pi_keys (pv 3)) (blkOk_by (own := [("_law_name", 14)]) (N := N_law) (sc := C8.fnScope s_law) (by decide +kernel)) (fun _ _ _ _ _ => pg_name (i := 14) nd rfl (Or.inl rfl)) (fun _ _ _ _ _ => pts_nil) (fun _ _ _ _ _ => (pe_ix (r := rIxT K) ix_tup (pe_dget (hu_of hr) (pv 3) (pv 14) (fun _ _ => rfl)) pe_int (fun _ _ => rfl))))) (by rfl))))) (pw_or1 (pt_cmpR (r := rNeDD K) (op_neDD (hu65 hr)) (pv 5) (pv 9) (nomark _))))) (pss_one (ps_ret pe_bl)) pss_nil)))))))))))))))
    (pss_one (ps_ret pe_bl)))), ?_⟩
  refine q_seq (q_asg ?_)
  refine ⟨_, rfl, a, ns, rfl, hS, hl, fun sa ca Hs hst => ?_⟩
  have sta : Sta ⟨K, C, sa, ca, true, [], fun _ => none, Hs⟩ [] ((L2.start N_law [V.ref a]).set 1 (some (.ref sa))) [.any, .sh .strm, .any, .any, .any, .any, .any, .any, .any, .any, .any, .any, .any, .any, .any] 0 (fun _ => none) Hs (fun _ => none) := by
    refine ⟨rfl, Ex.refl _, fun _ _ h => h, fun b o h _ => ⟨fun _ => h, fun od z => (by cases z)⟩, fun b o h => (by cases h), fun b h => (by rcases h with h | h <;> cases h), fun b o h e => (by cases e), fun b i h => (by cases h), fun _ => hst.sa_some, fun b h => (by cases h), fun _ => ⟨hst, rfl, rfl⟩, fun i s e => ?_⟩
    match i, e with
    | 0, e => cases e; trivial
    | 1, e => cases e; exact ⟨_, rfl, .strm⟩
    | k + 2, e =>
      have e2 : (List.replicate 13 Sl.any)[k]? = some s := e
      rw [List.getElem?_replicate] at e2
      split at e2
      · cases e2; trivial
      · cases e2
  refine q_name ?_
  dsimp only
  refine (?_ : WS ⟨K, C, sa, ca, true, [], fun _ => none, Hs⟩ [] _ _ 0 { nx := fun _ _ => False, rt := fun d _ => d = .bl true }) _ _ _ _ sta _ ⟨fun _ _ _ _ _ _ h => h.elim, fun v σ F2 H2 r l n d h _ _ rv => ?_, fun _ _ _ _ _ _ h => h.elim, fun _ _ _ _ _ _ h => h.elim⟩
  rotate_left
  · have h : d = .bl true := h
    subst h
    have e : v = .bl true := by cases rv; rfl
    rw [e]
    exact hQ H2
  clear sta hst hS hQ
  repeat walk_at "gw"
  refine ws_forN ?_
  repeat walk_at "gw"
  refine ⟨by decide, by decide, fun i l1 n1 => ∃ (x0 x2 x3 x4 x5 x6 x7 x8 x9 x10 x11 x12 x13 x14 : Sl), l1 = [x0, .sh .strm, x2, x3, x4, x5, x6, x7, x8, x9, x10, x11, x12, x13, x14] ∧ n1 ≤ 400 * i, ⟨_, _, _, _, _, _, _, _, _, _, _, _, _, _, rfl, Nat.le_refl _⟩, ?_, ?_⟩
  · rintro i x l1 n1 hx ⟨x0, x2, x3, x4, x5, x6, x7, x8, x9, x10, x11, x12, x13, x14, rfl, hn1⟩
    have hi5 : i < 5 := by
      have := (List.getElem?_eq_some_iff.mp hx).1
      simpa using this
    have hn0 : n1 < 2 ^ 20 := by have : (2 : Nat) ^ 20 = 1048576 := by decide
                                 omega
    have p36 : (2 : Nat) ^ 36 = 68719476736 := by decide
    have p20 : (2 : Nat) ^ 20 = 1048576 := by decide
    repeat walk_at "gw"
    refine ⟨⟨_, rfl, by decide, by decide, by omega⟩, ?_⟩
    rintro d n2 H' _ ⟨m', k, he, rfl, h1, h2, rfl⟩
    simp only [List.cons.injEq, D.int.injEq, and_true, true_and] at he
    subst he
    obtain ⟨kk, rfl⟩ := Int.eq_ofNat_of_zero_le h1
    have hkk : kk < 9 := by omega
    repeat walk_at "gw"
    refine ⟨⟨1 + kk, by simp, by omega, by omega, by omega⟩, ?_⟩
    rintro d n3 H' _ ⟨g, ad, G, rk, rfl, hg0, hG, hn3⟩
    repeat walk_at "gw"
    refine we_make (wa_cons (we_var rfl (wa_nil ⟨gameD g ad G, rfl, ⟨g, ad, G, rk, rfl, hG, by simp, fun _ _ _ _ => by simp⟩, ?_⟩)))
    rintro d2 H'' hliv ⟨g1, g', ad1, ad', G1, he, rfl, hg'⟩
    obtain ⟨rfl, rfl⟩ := gameD_inj he
    have hgg : g' ≠ g := fun e => hliv.inl g ⟨3, _, _, rfl, .refl⟩ (by rw [← e]; exact hg')
    have hGK := keepG_ok hG
    have hlow : Lowest (keepG G) := keepG_lowest hG
    clear he hliv hg'
    repeat walk_at "gw"
    refine ⟨⟨g, ad, G, rk, true, rfl, hG, by simp, by omega⟩, ?_⟩
    rintro d n4 H'' _ ⟨g1, ad1, G1, o1, pa, ours, he, rfl, _, hok, hop, hn4⟩
    simp only [List.cons.injEq, and_true, true_and] at he
    obtain ⟨he, ho1⟩ := he
    obtain ⟨rfl, rfl⟩ := gameD_inj he
    have ho1 : true = o1 := (side_ne true).2.2 o1 (D.str.inj ho1)
    subst ho1
    clear he
    repeat walk_at "gw"
    refine ⟨⟨g, ad, G, rk, false, rfl, hG, by simp, by omega⟩, ?_⟩
    rintro d n5 H'' _ ⟨g1, ad1, G1, o1, pb, theirs, he, rfl, _, htk, htp, hn5⟩
    simp only [List.cons.injEq, and_true, true_and] at he
    obtain ⟨he, ho1⟩ := he
    obtain ⟨rfl, rfl⟩ := gameD_inj he
    have ho1 : false = o1 := (side_ne false).2.2 o1 (D.str.inj ho1)
    subst ho1
    clear he
    have hend : n5 ≤ 400 * (i + 1) := by omega
    clear hn3 hn4 hn5 hn0 hn1
    repeat walk_at "gw"
    refine we_disp ?_
    unfold WPs
    repeat walk_at "gw"
    unfold WPs
    repeat walk_at "gw"
    refine ⟨⟨g, ad, G, rk, none, _, two (some ours) (some theirs), rfl, hG, plansOk_two hop htp, plD_two lk_disp2.1 lk_disp2.2, by simp, fun _ _ _ _ => by simp⟩, ?_⟩
    rintro d _ H'' _ hpost
    obtain ⟨oT, xT, rfl, hT1, hT2, hT3⟩ := lw_inv hpost (plD_two lk_disp2.1 lk_disp2.2)
    clear hpost
    repeat walk_at "gw"
    have hond : (ours.map (·.1)).Nodup := by rw [hok]; exact sideNames_nd hG.nd
    refine we_map (f := fun z => match z with | .str c => .tup [.str c, .str ((lkp ours c).getD "")] | _ => .non) (by decide) ?_
    repeat walk_at "gw"
    have hol : ours.length ≤ 9 := by
      have h1 := congrArg List.length hok
      have h2 := sideNames_sub_len G true
      have h3 := hG.len
      rw [List.length_map] at h1
      omega
    rw [keys_mvD]
    refine ⟨by rw [List.length_reverse, List.length_map, List.length_map]; omega, fun z hz => ?_, (mvD ours.reverse).map (fun q => D.tup [.str q.1, q.2]), ?_, ?_⟩
    · obtain ⟨c, hc, rfl⟩ := List.mem_map.mp (List.mem_reverse.mp hz)
      obtain ⟨t, ht⟩ := lkp_of hc
      repeat walk_at "gw"
      refine ⟨.str t, by rw [lk_mvD, ht]; rfl, ?_⟩
      repeat walk_at "gw"
      exact ⟨by simp only [ht]; rfl, rfl⟩
    · unfold mvD
      rw [← List.map_reverse, List.map_map, List.map_map, ← List.map_reverse, List.map_map]
      refine List.map_congr_left fun q hq => ?_
      have := lkp_eq hond (x := q.2) (List.mem_reverse.mp hq)
      show D.tup [.str q.1, .str ((lkp ours q.1).getD "")] = D.tup [.str q.1, .str q.2]
      rw [this]
      rfl
    repeat walk_at "gw"
    refine rc_dictP fun pt _ => ?_
    have hrnd : (ours.reverse.map (·.1)).Nodup := by rw [List.map_reverse]; exact (List.reverse_perm _).symm.nodup hond
    rw [mergeD_nodup (acc := []) (by rw [List.nil_append, keys_mvD]; exact hrnd), List.nil_append]
    have hrp : PlanOk G true ours.reverse := planOk_rev hond hop
    refine ws_free (g := g) (ad := ad) (G := G) (g' := g') (ad' := ad') (G' := keepG G) ⟨3, _, rfl, .refl⟩ ⟨4, _, rfl, .obj .refl⟩ hG.ne (fun n o ms hm => (hGK.ok n _ hm).1) fun hfr => ?_
    have hFree : Free [g] g' ad' (keepG G) := ⟨by simpa using hgg, fun n o ms hm => by simpa using hfr n o ms hm⟩
    have hNK : names (keepG G) = names G := names_keepG G
    repeat walk_at "gw"
    refine we_lock (a := g) ?_ ?_ ?_ fun od => we_mapC (c := .bl true) (by decide) (wi_keys ?_)
    · exact ⟨3, _, _, rfl, .refl⟩
    · exact List.not_mem_nil
    · exact List.not_mem_nil
    repeat walk_at "gw"
    refine ⟨g, _, od, rfl, List.mem_cons_self, ?_, fun z hz => ?_, ?_⟩
    · rw [keys_gkv, List.length_map]; unfold names; rw [List.length_map]; have := hG.len; omega
    · rw [keys_gkv] at hz
      obtain ⟨m, hm, rfl⟩ := List.mem_map.mp hz
      repeat walk_at "gw"
      refine ⟨⟨g', ad', keepG G, rk, _, _, ours.reverse, theirs, m, rfl, hGK, hlow, planOk_keep hrp, planOk_keep htp, by rw [hNK]; exact hm, hFree⟩, ?_⟩
      rintro d _ H'' _ ⟨g1, ad1, G1, a1, b1, p1, q1, m1, he, rfl⟩
      simp only [List.cons.injEq, and_true] at he
      obtain ⟨e1, e2, e3, e4⟩ := he
      obtain ⟨rfl, rfl⟩ := gameD_inj (D.obj.inj e1)
      have e2 := mvD_inj (D.dct.inj e2).2
      have e3 := mvD_inj (D.dct.inj e3).2
      have e4 := D.str.inj e4
      subst e2
      subst e3
      subst e4
      clear e1
      have hw : worth (keepG G) (two (some ours.reverse) (some theirs)) m = worth G (two (some ours) (some theirs)) m := by
        rw [worth_keep hG]
        refine worth_plans (fun o => ?_) m
        cases o with
        | true => exact .inr ⟨_, _, rfl, rfl, fun n => lkp_rev hond n⟩
        | false => exact .inr ⟨_, _, rfl, rfl, fun n => rfl⟩
      rw [hw]
      repeat walk_at "gw"
      refine ⟨_, lk_tab (hT1 m hm), ?_⟩
      repeat walk_at "gw"
      refine ⟨⟨_, rfl⟩, ?_⟩
      rintro d n2 H'' _ rfl
      exact ⟨rfl, rfl⟩
    refine wa_nil (rc_allT ⟨_, rfl, fun z => Bool.noConfusion z, fun _ => ws_next ?_⟩)
    refine ws_seq (ws_par_call ?_)
    repeat walk_at "gw"
    refine ⟨⟨g', ad', keepG G, rk, some pt, ours.reverse, rfl, hGK, hlow, planOk_keep hrp, by simp, fun _ _ _ _ => by simp⟩, ?_⟩
    rintro d _ H'' _ ⟨g1, ad1, G1, a1, p1, r1, he, rfl, hr1⟩
    simp only [List.cons.injEq, and_true] at he
    obtain ⟨e1, e2⟩ := he
    obtain ⟨rfl, rfl⟩ := gameD_inj (D.obj.inj e1)
    have e2 := mvD_inj (D.dct.inj e2).2
    subst e2
    clear e1
    refine ⟨r1, _, rfl, hr1, ?_⟩
    have htk2 : (toldL (keepG G) ours.reverse (names (keepG G))).map (·.1) = sideNames G false := by rw [toldL_keys hGK, sideNames_keep]
    have htold : Told G ours (toldL (keepG G) ours.reverse (names (keepG G))) := fun n ms hm => by
      obtain ⟨m, c, k1, k2, k3⟩ := toldL_ok hGK (p := ours.reverse) n ms (by exact List.mem_map.mpr ⟨(n, .mv false ms), hm, rfl⟩)
      refine ⟨m, c, k1, k2, ?_⟩
      have hw : ∀ n, worth (keepG G) (two (some ours.reverse) none) n = worth G (two (some ours) none) n := fun n => by
        rw [worth_keep hG]
        refine worth_plans (fun o => ?_) n
        cases o with
        | true => exact .inr ⟨_, _, rfl, rfl, fun n => lkp_rev hond n⟩
        | false => exact .inl ⟨rfl, rfl⟩
      rw [← hw, ← hw]
      exact k3
    generalize toldL (keepG G) ours.reverse (names (keepG G)) = told at htk2 htold
    have htoldp : PlanOk G false told := ⟨by rw [← htk2, List.length_map], fun n ms hm => by
      obtain ⟨m, c, k1, k2, _⟩ := htold n ms hm
      exact ⟨m, k1, List.mem_map.mpr ⟨_, lkp_mem k2, rfl⟩⟩⟩
    refine ws_seq (ws_if (wt_or (wt_tmp (j := 10) rfl fun pr _ => ?_)))
    repeat walk_at "gw"
    refine ⟨⟨g', ad', keepG G, rk, false, some pr, told, rfl, hGK, planOk_keep htoldp⟩, ?_⟩
    rintro d _ H'' _ rfl
    refine ⟨_, rfl, fun z => Bool.noConfusion z, fun _ => ?_⟩
    refine wt_tmp (j := 10) rfl fun pr2 _ => ?_
    repeat walk_at "gw"
    refine we_lock (a := g) ?_ ?_ ?_ fun od2 => we_filter (p := sidePD G false) (f := id) (by decide) (wi_keys ?_)
    · exact ⟨3, _, _, rfl, .refl⟩
    · exact List.not_mem_nil
    · exact List.not_mem_nil
    repeat walk_at "gw"
    refine ⟨g, _, od2, rfl, List.mem_cons_self, ?_, fun z hz => ?_, fun z hz _ => ?_, (sideNames G false).map D.str, ?_, ?_⟩
    · rw [keys_gkv, List.length_map]; unfold names; rw [List.length_map]; have := hG.len; omega
    · rw [keys_gkv] at hz
      obtain ⟨m, hm, rfl⟩ := List.mem_map.mp hz
      obtain ⟨y, k1, k2, k3, k4⟩ := hG.lk hm ad
      repeat walk_at "gw"
      refine ⟨_, k1, ?_⟩
      repeat walk_at "gw"
      exact ⟨sideP_of (o := false) k2, rfl⟩
    · rw [keys_gkv] at hz
      obtain ⟨m, hm, rfl⟩ := List.mem_map.mp hz
      repeat walk_at "gw"
      exact ⟨rfl, rfl⟩
    · rw [keys_gkv, List.map_id, List.filter_map, ← sideNames_eq hG.nd]
      rfl
    have hoks : oks (sideNames G false) = true := List.all_eq_true.mpr fun n hn => (hG.nm n (sideNames_sub hn)).2
    rw [keys_mvD, htk2]
    refine ro_neLs hoks hoks ⟨_, rfl, fun z => by simp at z, fun _ => ws_next ?_⟩
    refine ws_seq (ws_set ?_)
    repeat walk_at "gw"
    refine we_disp ?_
    unfold WPs
    repeat walk_at "gw"
    refine ⟨⟨g, ad, G, rk, none, _, two (some ours) none, rfl, hG, plansOk_one hop, plD_one lk_disp1.1 lk_disp1.2, by simp, fun _ _ _ _ => by simp⟩, ?_⟩
    rintro d _ H'' _ hpost
    obtain ⟨oL, xL, rfl, hL1, hL2, hL3⟩ := lw_inv hpost (plD_one lk_disp1.1 lk_disp1.2)
    clear hpost
    have hLl : xL.length = (names G).length := Nat.le_antisymm (nodup_sub_len hL2 hL3) (nodup_sub_len hG.nd hL1)
    have hNl : (names G).length = G.length := by unfold names; rw [List.length_map]
    refine ws_seq (ws_if (wt_or (wt_tmp (j := 10) rfl fun pr3 _ => ?_)))
    repeat walk_at "gw"
    refine we_disp ?_
    unfold WPs
    repeat walk_at "gw"
    unfold WPs
    repeat walk_at "gw"
    refine ⟨⟨g, ad, G, rk, none, _, two (some ours) (some told), rfl, hG, plansOk_two hop htoldp, plD_two lk_disp2.1 lk_disp2.2, by simp, fun _ _ _ _ => by simp⟩, ?_⟩
    rintro d _ H'' _ hpost
    obtain ⟨oP, xP, rfl, hP1, hP2, hP3⟩ := lw_inv hpost (plD_two lk_disp2.1 lk_disp2.2)
    clear hpost
    have hPl : xP.length = (names G).length := Nat.le_antisymm (nodup_sub_len hP2 hP3) (nodup_sub_len hG.nd hP1)
    repeat walk_at "gw"
    refine ro_neDD (by unfold tabD; rw [List.length_map, List.length_map, hPl, hLl]) (fun q hq => ?_) ?_
    · obtain ⟨m, hm, rfl⟩ := List.mem_map.mp hq
      have hmN := hP3 m hm
      have hwt := worth_told hG hop htold m hmN
      refine ⟨?_, _, .two _ _⟩
      show lk (tabD _ xL) m = some (fr (worth G (two (some ours) (some told)) m))
      rw [lk_tab (hL1 m hmN), hwt]
    refine ⟨_, rfl, fun z => Bool.noConfusion z, fun _ => ?_⟩
    have hwk : worth (keepG G) (two (some ours) none) = worth G (two (some ours) none) := funext fun n => worth_keep hG _ n
    repeat walk_at "gw"
    refine ⟨⟨g', ad', keepG G, rk, some pa, oL, ours, xL, by rw [hwk], hGK, hlow, planOk_keep hop, fun m hm => hL1 m (by rw [← hNK]; exact hm), by rw [hLl, hNl]; unfold keepG; rw [List.length_map], by simp, fun _ _ _ _ => by simp⟩, ?_⟩
    rintro d _ H'' _ rfl
    refine ⟨_, rfl, fun z => Bool.noConfusion z, fun _ => ws_next ?_⟩
    refine ws_seq (ws_forN ?_)
    repeat walk_at "gw"
    refine ⟨⟨g, ad, G, rk, false, rfl, hG, by simp, fun _ _ _ _ => by simp⟩, ?_⟩
    rintro d _ H'' _ ⟨g1, ad1, G1, o1, ps, he, rfl, hpl, hps⟩
    simp only [List.cons.injEq, and_true] at he
    obtain ⟨he, ho1⟩ := he
    obtain ⟨rfl, rfl⟩ := gameD_inj he
    have ho1 : false = o1 := (side_ne false).2.2 o1 (D.str.inj ho1)
    subst ho1
    clear he
    repeat walk_at "gw"
    refine ⟨fun j l1 n1 => ∃ (pk : Addr) (x12 x13 x14 : Sl), l1 = [x0, .sh .strm, .sh x, .sh (gameD g ad G), .sh (gameD g' ad' (keepG G)).obj, .sh (.dct (some pa) (mvD ours)), .sh (.dct (some pb) (mvD theirs)), .sh (.dct oT (tabD (worth G (two (some ours) (some theirs))) xT)), .sh (.dct (some pt) (mvD ours.reverse)), .sh (.dct (some pk) (mvD ours)), .owd (mvD told), .sh (.dct oL (tabD (worth G (two (some ours) none)) xL)), x12, x13, x14] ∧ n1 = n5, ⟨_, _, _, _, rfl, rfl⟩, ?_, ?_⟩
    · rintro j pd l1 n1 hj ⟨pk, x12, x13, x14, rfl, rfl⟩
      have hpd : pd ∈ ps := by
        have h1 := List.mem_of_getElem? hj
        rw [show (60 : Int) = ((60 : Nat) : Int) from rfl, cutD_take] at h1
        exact List.mem_of_mem_take h1
      obtain ⟨pa2, ms, rfl, hms⟩ := hps pd hpd
      repeat walk_at "gw"
      refine we_disp ?_
      unfold WPs
      repeat walk_at "gw"
      unfold WPs
      repeat walk_at "gw"
      refine ⟨⟨g, ad, G, rk, none, _, two (some ours) (some ms), rfl, hG, plansOk_two hop hms, plD_two lk_disp2.1 lk_disp2.2, by simp, fun _ _ _ _ => by simp⟩, ?_⟩
      rintro d _ H'' _ hpost
      obtain ⟨oO, xO, rfl, hO1, hO2, hO3⟩ := lw_inv hpost (plD_two lk_disp2.1 lk_disp2.2)
      clear hpost
      repeat walk_at "gw"
      refine we_lock (a := g) ?_ ?_ ?_ fun od3 => we_mapC (c := .bl false) (by decide) (wi_keys ?_)
      · exact ⟨3, _, _, rfl, .refl⟩
      · exact List.not_mem_nil
      · exact List.not_mem_nil
      repeat walk_at "gw"
      refine ⟨g, _, od3, rfl, List.mem_cons_self, ?_, fun z hz => ?_, ?_⟩
      · rw [keys_gkv, List.length_map]; unfold names; rw [List.length_map]; have := hG.len; omega
      · rw [keys_gkv] at hz
        obtain ⟨m, hm, rfl⟩ := List.mem_map.mp hz
        have b1 := worth_big hG (plansOk_two hop hms) hm
        have b2 := worth_big hG (plansOk_one hop) hm
        have hle := worth_least hG hop hms m hm
        repeat walk_at "gw"
        refine ⟨_, lk_tab (hO1 m hm), ?_⟩
        repeat walk_at "gw"
        refine ⟨_, lk_tab (hL1 m hm), ?_⟩
        repeat walk_at "gw"
        refine ⟨⟨_, _, rfl, b1.2, b2.2⟩, ?_⟩
        rintro d _ H'' _ ⟨p1, q1, he, rfl⟩
        simp only [List.cons.injEq, and_true] at he
        have e1 := fr_inj he.1
        have e2 := fr_inj he.2
        subst e1
        subst e2
        refine ⟨congrArg D.bl ?_, rfl⟩
        unfold lessQ
        unfold leQ at hle
        exact decide_eq_false (by omega)
      refine wa_nil (rc_anyF ⟨_, rfl, fun z => Bool.noConfusion z, fun _ => ws_next ?_⟩)
      exact ⟨pk, _, _, _, rfl, rfl⟩
    · rintro l1 n1 ⟨pk, x12, x13, x14, rfl, rfl⟩
      have hlast : ∀ l1 : List Sl, l1[5]? = some (.sh (.dct (some pa) (mvD ours))) → l1[9]? = some (.sh (.dct (some pk) (mvD ours))) → WT ⟨K, C, sa, ca, true, [], fun _ => none, Hs⟩ [] (tTest (tOp (rNeDD K) (tVar 5) (tVar 9))) l1 n1 fun b n2 => b = false ∧ n2 = n1 := fun l1 g5 g9 => by
        refine wt_test (we_op (we_var g5 (we_var g9 (ro_neDD rfl (fun q hq => ?_) ⟨_, rfl, rfl, rfl⟩))))
        obtain ⟨z, hz, rfl⟩ := List.mem_map.mp hq
        have hlk := lkp_eq hond (x := z.2) hz
        refine ⟨by show lk (mvD ours) z.1 = some (.str z.2); rw [lk_mvD, hlk]; rfl, _, .str ?_⟩
        obtain ⟨ns2, hmem⟩ := sideNames_mem (G := G) (o := true) (n := z.1) (by rw [← hok]; exact List.mem_map.mpr ⟨z, hz, rfl⟩)
        obtain ⟨m, k1, k2⟩ := hop.2 _ _ hmem
        rw [hlk] at k1
        cases k1
        obtain ⟨r, hr, e⟩ := List.mem_map.mp k2
        rw [← e]
        exact ((hG.ok _ _ hmem).2.2.2 r hr).2.1
      refine ws_seq ?_
      repeat walk_at "gw"
      refine ⟨⟨g', ad', keepG G, rk, some pa, ours, rfl, hGK, hlow, planOk_keep hop, by simp, fun _ _ _ _ => by simp⟩, ?_⟩
      rintro d _ H'' _ ⟨g1, ad1, G1, a1, p1, r2, he, rfl, hr2⟩
      simp only [List.cons.injEq, and_true] at he
      obtain ⟨e1, e2⟩ := he
      obtain ⟨rfl, rfl⟩ := gameD_inj (D.obj.inj e1)
      have e2 := mvD_inj (D.dct.inj e2).2
      subst e2
      clear e1
      have htk3 : (toldL (keepG G) ours (names (keepG G))).map (·.1) = sideNames G false := by rw [toldL_keys hGK, sideNames_keep]
      generalize toldL (keepG G) ours (names (keepG G)) = told2 at htk3
      refine we_dnewK (ro_eqD0 ⟨_, rfl, fun hb => ?_, fun hb => ?_⟩)
      · have hz : (mvD told2).length = 0 := of_decide_eq_true hb
        have hsn : sideNames G false = [] := by
          rw [← htk3]
          unfold mvD at hz
          rw [List.length_map] at hz
          rw [List.length_eq_zero_iff.mp hz]
          rfl
        repeat walk_at "gw"
        refine we_lock (a := g) ?_ ?_ ?_ fun od4 => we_map (f := fun z => match z with | .str c => .str (match nodeAt G c with | some y => word y | none => "") | _ => .non) (by decide) (wi_keys ?_)
        · exact ⟨3, _, _, rfl, .refl⟩
        · exact List.not_mem_nil
        · exact List.not_mem_nil
        repeat walk_at "gw"
        refine ⟨g, _, od4, rfl, List.mem_cons_self, ?_, fun z hz => ?_, (G.map fun q => word q.2).map D.str, ?_, ?_⟩
        · rw [keys_gkv, List.length_map]; unfold names; rw [List.length_map]; have := hG.len; omega
        · rw [keys_gkv] at hz
          obtain ⟨m, hm, rfl⟩ := List.mem_map.mp hz
          obtain ⟨y, k1, k2, k3, k4⟩ := hG.lk hm ad
          repeat walk_at "gw"
          refine ⟨_, k1, ?_⟩
          repeat walk_at "gw"
          exact ⟨by simp only [k2], rfl⟩
        · rw [keys_gkv]
          unfold names
          rw [List.map_map, List.map_map, List.map_map]
          refine List.map_congr_left fun q hq => ?_
          have := nodeAt_eq hG.nd (n := q.1) (x := q.2) hq
          show D.str (match nodeAt G q.1 with | some y => word y | none => "") = D.str (word q.2)
          rw [this]
        refine ro_inL ⟨_, rfl, fun z => ?_, fun _ => ?_⟩
        · exfalso
          have hm := of_decide_eq_true z
          obtain ⟨q, hq, e⟩ := List.mem_map.mp hm
          have : q.1 ∈ sideNames G false := List.mem_map.mpr ⟨q, List.mem_filter.mpr ⟨hq, decide_eq_true e⟩, rfl⟩
          rw [hsn] at this
          cases this
        refine wt_mono (hlast _ rfl rfl) fun b n2 hb => ?_
        obtain ⟨rfl, rfl⟩ := hb
        refine ⟨fun z => Bool.noConfusion z, fun _ => ws_next ?_⟩
        exact ⟨_, _, _, _, _, _, _, _, _, _, _, _, _, _, rfl, hend⟩
      · refine ⟨fun z => Bool.noConfusion z, fun _ => ?_⟩
        refine wt_mono (hlast _ rfl rfl) fun b n2 hb => ?_
        obtain ⟨rfl, rfl⟩ := hb
        refine ⟨fun z => Bool.noConfusion z, fun _ => ws_next ?_⟩
        exact ⟨_, _, _, _, _, _, _, _, _, _, _, _, _, _, rfl, hend⟩
  · rintro l1 n1 ⟨x0, x2, x3, x4, x5, x6, x7, x8, x9, x10, x11, x12, x13, x14, rfl, hn1⟩
    repeat walk_at "gw"
    rfl
end
end Gw

/-! All together; the head. -/
namespace Gw
open PySem L2
section
variable {w : World} {K : PySem.W.Frag} {h : Heap} {mg : Str → Option Value} {C : Addr}
theorem c8fun_mk {x qual : Str} {st : Stmt} {f : Addr} {oc : Value} {od an : Option Addr} {osl : Array (Option Value)} {kV doc pm cdv ct : Value} (l : K.lookup f = some ⟨oc, od, .func (PySem.W.fnOf x qual (C8.fnArgs st) (C8.fnBody st) (C8.fnScope st) .none kV doc pm an cdv ct), osl⟩)
    (c : PySem.W.codeIn K cdv qual = true) : C8.Fun K x qual st f (PySem.W.fnOf x qual (C8.fnArgs st) (C8.fnBody st) (C8.fnScope st) .none kV doc pm an cdv ct) := ⟨⟨oc, od, .none, kV, doc, pm, an, cdv, ct, osl, rfl, l, c⟩⟩
def Hb (x qual : Str) (st : Stmt) (ps : List Str) : Prop := ∀ (kV doc pm : Value) (an : Option Addr) (cdv ct : Value) (us : List Value), us.length = ps.length → bindArgs (PySem.W.fnOf x qual (C8.fnArgs st) (C8.fnBody st) (C8.fnScope st) .none kV doc pm an cdv ct) ⟨us, []⟩ = pure (ps.zip us)
theorem defB_mk (X : K.In h) (G : h.Ns mainGlobals mg) {x : Str} {st : Stmt} {f : Addr} {oc : Value} {od an : Option Addr} {osl : Array (Option Value)} {kV doc pm cdv ct : Value} {ps : List Str} (hb : Hb x x st ps) (a : PySem.W.nsIn K mainGlobals x = some (some (.ref f)))
    (l : K.lookup f = some ⟨oc, od, .func (PySem.W.fnOf x x (C8.fnArgs st) (C8.fnBody st) (C8.fnScope st) .none kV doc pm an cdv ct), osl⟩) (c : PySem.W.codeIn K cdv x = true) (k : PySem.W.keepIn K (.ref f) = true) : DefB K mg x st ps :=
  ⟨f, _, ⟨c8fun_mk l c, PySem.W.mg_of X G a, k⟩, (c8fun_mk l c).binds rfl hb⟩
theorem metB_mk {m qual : Str} {st : Stmt} {f : Addr} {oc : Value} {od an : Option Addr} {osl : Array (Option Value)} {kV doc pm cdv ct : Value} {ps : List Str} (hb : Hb m qual st ps) (a : PySem.W.findIn K (.ref C) m = some (some (.ref f)))
    (l : K.lookup f = some ⟨oc, od, .func (PySem.W.fnOf m qual (C8.fnArgs st) (C8.fnBody st) (C8.fnScope st) .none kV doc pm an cdv ct), osl⟩) (c : PySem.W.codeIn K cdv qual = true) (i : PySem.W.isFn K (.ref f) = true) (k : PySem.W.keepIn K (.ref f) = true) : MetB K C m qual st ps :=
  ⟨f, _, ⟨a, i, k⟩, c8fun_mk l c, (c8fun_mk l c).binds rfl hb⟩
theorem makB_mk (X : K.In h) (G : h.Ns mainGlobals mg) {x qual : Str} {st : Stmt} {f : Addr} {oc : Value} {od an : Option Addr} {osl : Array (Option Value)} {kV doc pm cdv ct : Value} {ps : List Str} (hb : Hb "__init__" qual st ps) (g : PySem.W.nsIn K mainGlobals x = some (some (.ref C))) (a : PySem.W.findIn K (.ref C) "__init__" = some (some (.ref f)))
    (l : K.lookup f = some ⟨oc, od, .func (PySem.W.fnOf "__init__" qual (C8.fnArgs st) (C8.fnBody st) (C8.fnScope st) .none kV doc pm an cdv ct), osl⟩) (c : PySem.W.codeIn K cdv qual = true) (i : PySem.W.isFn K (.ref f) = true) (m : PySem.W.makesIn K C = true) (k : PySem.W.keepIn K (.ref C) = true) : MakB K mg C x qual st ps :=
  ⟨f, _, ⟨m, a, i, k⟩, PySem.W.mg_of X G g, c8fun_mk l c, (c8fun_mk l c).binds rfl hb⟩
end
theorem hb__law_start : Hb "_law_start" "_law_start" s__law_start ["_law_script"] := fun _ _ _ _ _ _ us hl => match us, hl with | [_], _ => rfl
theorem hb__law_draw : Hb "_law_draw" "_law_draw" s__law_draw ["_law_stream", "_law_many"] := fun _ _ _ _ _ _ us hl => match us, hl with | [_, _], _ => rfl
theorem hb__law_pick : Hb "_law_pick" "_law_pick" s__law_pick ["_law_stream", "_law_some"] := fun _ _ _ _ _ _ us hl => match us, hl with | [_, _], _ => rfl
theorem hb__law_t_words : Hb "_law_t_words" "_law_t_words" s__law_t_words ["_law_stream", "_law_many"] := fun _ _ _ _ _ _ us hl => match us, hl with | [_, _], _ => rfl
theorem hb__law_t_fraction : Hb "_law_t_fraction" "_law_t_fraction" s__law_t_fraction ["_law_stream"] := fun _ _ _ _ _ _ us hl => match us, hl with | [_], _ => rfl
theorem hb__law_mixed : Hb "_law_mixed" "_law_mixed" s__law_mixed ["_law_stream", "_law_some"] := fun _ _ _ _ _ _ us hl => match us, hl with | [_, _], _ => rfl
theorem hb__law_t_leads : Hb "_law_t_leads" "_law_t_leads" s__law_t_leads ["_law_stream", "_law_word", "_law_some"] := fun _ _ _ _ _ _ us hl => match us, hl with | [_, _, _], _ => rfl
theorem hb__law_t_game : Hb "_law_t_game" "_law_t_game" s__law_t_game ["_law_stream", "_law_many", "_law_is_tree"] := fun _ _ _ _ _ _ us hl => match us, hl with | [_, _, _], _ => rfl
theorem hb_is_list : Hb "is_list" "is_list" s_is_list ["thing"] := fun _ _ _ _ _ _ us hl => match us, hl with | [_], _ => rfl
theorem hb_is_name : Hb "is_name" "is_name" s_is_name ["thing"] := fun _ _ _ _ _ _ us hl => match us, hl with | [_], _ => rfl
theorem hb_are_moves : Hb "are_moves" "are_moves" s_are_moves ["thing", "names"] := fun _ _ _ _ _ _ us hl => match us, hl with | [_, _], _ => rfl
theorem hb_is_integer : Hb "is_integer" "is_integer" s_is_integer ["thing"] := fun _ _ _ _ _ _ us hl => match us, hl with | [_], _ => rfl
theorem hb_are_lots : Hb "are_lots" "are_lots" s_are_lots ["thing", "names"] := fun _ _ _ _ _ _ us hl => match us, hl with | [_, _], _ => rfl
theorem hb_is_fraction : Hb "is_fraction" "is_fraction" s_is_fraction ["thing"] := fun _ _ _ _ _ _ us hl => match us, hl with | [_], _ => rfl
theorem hb_is_place : Hb "is_place" "is_place" s_is_place ["thing", "names"] := fun _ _ _ _ _ _ us hl => match us, hl with | [_, _], _ => rfl
theorem hb_lowest : Hb "lowest" "lowest" s_lowest ["top", "bottom"] := fun _ _ _ _ _ _ us hl => match us, hl with | [_, _], _ => rfl
theorem hb_kept_place : Hb "kept_place" "kept_place" s_kept_place ["thing"] := fun _ _ _ _ _ _ us hl => match us, hl with | [_], _ => rfl
theorem hb_init : Hb "__init__" "Game.__init__" s_Game___init__ ["self", "places"] := fun _ _ _ _ _ _ us hl => match us, hl with | [_, _], _ => rfl
theorem hb__law_t_one_plan : Hb "_law_t_one_plan" "_law_t_one_plan" s__law_t_one_plan ["_law_stream", "_law_game", "_law_side"] := fun _ _ _ _ _ _ us hl => match us, hl with | [_, _, _], _ => rfl
theorem hb__law_t_after : Hb "_law_t_after" "_law_t_after" s__law_t_after ["_law_game", "_law_name"] := fun _ _ _ _ _ _ us hl => match us, hl with | [_, _], _ => rfl
theorem hb__law_t_lowest : Hb "_law_t_lowest" "_law_t_lowest" s__law_t_lowest ["_law_top", "_law_bottom"] := fun _ _ _ _ _ _ us hl => match us, hl with | [_, _], _ => rfl
theorem hb__law_t_mean : Hb "_law_t_mean" "_law_t_mean" s__law_t_mean ["_law_rows"] := fun _ _ _ _ _ _ us hl => match us, hl with | [_], _ => rfl
theorem hb__law_t_less : Hb "_law_t_less" "_law_t_less" s__law_t_less ["_law_one", "_law_other"] := fun _ _ _ _ _ _ us hl => match us, hl with | [_, _], _ => rfl
theorem hb__law_t_best : Hb "_law_t_best" "_law_t_best" s__law_t_best ["_law_some", "_law_is_ours"] := fun _ _ _ _ _ _ us hl => match us, hl with | [_, _], _ => rfl
theorem hb__law_t_worths : Hb "_law_t_worths" "_law_t_worths" s__law_t_worths ["_law_game", "_law_plans"] := fun _ _ _ _ _ _ us hl => match us, hl with | [_, _], _ => rfl
theorem hb__law_same : Hb "_law_same" "_law_same" s__law_same ["_law_found", "_law_due"] := fun _ _ _ _ _ _ us hl => match us, hl with | [_, _], _ => rfl
theorem hb_check_side : Hb "check_side" "check_side" s_check_side ["side"] := fun _ _ _ _ _ _ us hl => match us, hl with | [_], _ => rfl
theorem hb_places : Hb "places" "Game.places" s_Game_places ["self"] := fun _ _ _ _ _ _ us hl => match us, hl with | [_], _ => rfl
theorem hb_is_plan : Hb "is_plan" "is_plan" s_is_plan ["game", "side", "thing"] := fun _ _ _ _ _ _ us hl => match us, hl with | [_, _, _], _ => rfl
theorem hb_check_place : Hb "check_place" "Game.check_place" s_Game_check_place ["self", "name"] := fun _ _ _ _ _ _ us hl => match us, hl with | [_, _], _ => rfl
theorem hb_led_from : Hb "led_from" "led_from" s_led_from ["thing"] := fun _ _ _ _ _ _ us hl => match us, hl with | [_], _ => rfl
theorem hb_round_place : Hb "round_place" "Game.round_place" s_Game_round_place ["self"] := fun _ _ _ _ _ _ us hl => match us, hl with | [_], _ => rfl
theorem hb_order_of : Hb "order_of" "order_of" s_order_of ["game"] := fun _ _ _ _ _ _ us hl => match us, hl with | [_], _ => rfl
theorem hb_weighed : Hb "weighed" "weighed" s_weighed ["rows"] := fun _ _ _ _ _ _ us hl => match us, hl with | [_], _ => rfl
theorem hb_is_less : Hb "is_less" "is_less" s_is_less ["one", "other"] := fun _ _ _ _ _ _ us hl => match us, hl with | [_, _], _ => rfl
theorem hb_top_of : Hb "top_of" "top_of" s_top_of ["fractions"] := fun _ _ _ _ _ _ us hl => match us, hl with | [_], _ => rfl
theorem hb_bottom_of : Hb "bottom_of" "bottom_of" s_bottom_of ["fractions"] := fun _ _ _ _ _ _ us hl => match us, hl with | [_], _ => rfl
theorem hb_plan_worths : Hb "plan_worths" "plan_worths" s_plan_worths ["game", "plans"] := fun _ _ _ _ _ _ us hl => match us, hl with | [_, _], _ => rfl
theorem hb_mean : Hb "mean" "mean" s_mean ["game", "ours", "theirs", "name"] := fun _ _ _ _ _ _ us hl => match us, hl with | [_, _, _, _], _ => rfl
theorem hb_answer : Hb "answer" "answer" s_answer ["game", "ours"] := fun _ _ _ _ _ _ us hl => match us, hl with | [_, _], _ => rfl
theorem hb_len : Hb "__len__" "Game.__len__" s_Game___len__ ["self"] := fun _ _ _ _ _ _ us hl => match us, hl with | [_], _ => rfl
theorem hb_is_table : Hb "is_table" "is_table" s_is_table ["game", "thing"] := fun _ _ _ _ _ _ us hl => match us, hl with | [_, _], _ => rfl
theorem hb_due_at : Hb "due_at" "due_at" s_due_at ["game", "side", "plan", "table", "name"] := fun _ _ _ _ _ _ us hl => match us, hl with | [_, _, _, _, _], _ => rfl
theorem hb_is_floor : Hb "is_floor" "is_floor" s_is_floor ["game", "plan", "thing"] := fun _ _ _ _ _ _ us hl => match us, hl with | [_, _, _], _ => rfl
theorem hb__law_t_plans : Hb "_law_t_plans" "_law_t_plans" s__law_t_plans ["_law_game", "_law_side"] := fun _ _ _ _ _ _ us hl => match us, hl with | [_, _], _ => rfl
theorem hb_law : Hb "law" "law" s_law ["_law_script"] := fun _ _ _ _ _ _ us hl => match us, hl with | [_], _ => rfl
theorem all_ok {P : Program} {w : World} {K : PySem.W.Frag} {mg : Str → Option Value} {base : Heap} {C f : Addr} {fd : FuncData} (T : Txt K mg C)
    (D__law_start : DefB K mg "_law_start" s__law_start ["_law_script"])
    (D__law_draw : DefB K mg "_law_draw" s__law_draw ["_law_stream", "_law_many"])
    (D__law_pick : DefB K mg "_law_pick" s__law_pick ["_law_stream", "_law_some"])
    (D__law_t_words : DefB K mg "_law_t_words" s__law_t_words ["_law_stream", "_law_many"])
    (D__law_t_fraction : DefB K mg "_law_t_fraction" s__law_t_fraction ["_law_stream"])
    (D__law_mixed : DefB K mg "_law_mixed" s__law_mixed ["_law_stream", "_law_some"])
    (D__law_t_leads : DefB K mg "_law_t_leads" s__law_t_leads ["_law_stream", "_law_word", "_law_some"])
    (D__law_t_game : DefB K mg "_law_t_game" s__law_t_game ["_law_stream", "_law_many", "_law_is_tree"])
    (D_is_list : DefB K mg "is_list" s_is_list ["thing"])
    (D_is_name : DefB K mg "is_name" s_is_name ["thing"])
    (D_are_moves : DefB K mg "are_moves" s_are_moves ["thing", "names"])
    (D_is_integer : DefB K mg "is_integer" s_is_integer ["thing"])
    (D_are_lots : DefB K mg "are_lots" s_are_lots ["thing", "names"])
    (D_is_fraction : DefB K mg "is_fraction" s_is_fraction ["thing"])
    (D_is_place : DefB K mg "is_place" s_is_place ["thing", "names"])
    (D_lowest : DefB K mg "lowest" s_lowest ["top", "bottom"])
    (D_kept_place : DefB K mg "kept_place" s_kept_place ["thing"])
    (D_init : MakB K mg C "Game" "Game.__init__" s_Game___init__ ["self", "places"])
    (D__law_t_one_plan : DefB K mg "_law_t_one_plan" s__law_t_one_plan ["_law_stream", "_law_game", "_law_side"])
    (D__law_t_after : DefB K mg "_law_t_after" s__law_t_after ["_law_game", "_law_name"])
    (D__law_t_lowest : DefB K mg "_law_t_lowest" s__law_t_lowest ["_law_top", "_law_bottom"])
    (D__law_t_mean : DefB K mg "_law_t_mean" s__law_t_mean ["_law_rows"])
    (D__law_t_less : DefB K mg "_law_t_less" s__law_t_less ["_law_one", "_law_other"])
    (D__law_t_best : DefB K mg "_law_t_best" s__law_t_best ["_law_some", "_law_is_ours"])
    (D__law_t_worths : DefB K mg "_law_t_worths" s__law_t_worths ["_law_game", "_law_plans"])
    (D__law_same : DefB K mg "_law_same" s__law_same ["_law_found", "_law_due"])
    (D_check_side : DefB K mg "check_side" s_check_side ["side"])
    (D_places : MetB K C "places" "Game.places" s_Game_places ["self"])
    (D_is_plan : DefB K mg "is_plan" s_is_plan ["game", "side", "thing"])
    (D_check_place : MetB K C "check_place" "Game.check_place" s_Game_check_place ["self", "name"])
    (D_led_from : DefB K mg "led_from" s_led_from ["thing"])
    (D_round_place : MetB K C "round_place" "Game.round_place" s_Game_round_place ["self"])
    (D_order_of : DefB K mg "order_of" s_order_of ["game"])
    (D_weighed : DefB K mg "weighed" s_weighed ["rows"])
    (D_is_less : DefB K mg "is_less" s_is_less ["one", "other"])
    (D_top_of : DefB K mg "top_of" s_top_of ["fractions"])
    (D_bottom_of : DefB K mg "bottom_of" s_bottom_of ["fractions"])
    (D_plan_worths : DefB K mg "plan_worths" s_plan_worths ["game", "plans"])
    (D_mean : DefB K mg "mean" s_mean ["game", "ours", "theirs", "name"])
    (D_answer : DefB K mg "answer" s_answer ["game", "ours"])
    (D_len : MetB K C "__len__" "Game.__len__" s_Game___len__ ["self"])
    (D_is_table : DefB K mg "is_table" s_is_table ["game", "thing"])
    (D_due_at : DefB K mg "due_at" s_due_at ["game", "side", "plan", "table", "name"])
    (D_is_floor : DefB K mg "is_floor" s_is_floor ["game", "plan", "thing"])
    (D__law_t_plans : DefB K mg "_law_t_plans" s__law_t_plans ["_law_game", "_law_side"])
    (FL : C8.Fun K "law" "law" s_law f fd) : FnOk P w K mg base C8.CX0 6 f fd ["_law_script"] (spLaw K) := by
  have c__law_start : C8.Cal P w K mg base 1 "_law_start" (spStart K) [] := ok__law_start T D__law_start 
  have c__law_draw : C8.Cal P w K mg base 1 "_law_draw" (spG C true preDraw postDraw) [] := ok__law_draw T D__law_draw 
  have c__law_pick : C8.Cal P w K mg base 2 "_law_pick" (spG C true prePick postPick) [] := ok__law_pick T D__law_pick c__law_draw
  have c__law_t_words : C8.Cal P w K mg base 3 "_law_t_words" (spG C true preWords postWords) [] := ok__law_t_words T D__law_t_words c__law_draw c__law_pick
  have c__law_t_fraction : C8.Cal P w K mg base 2 "_law_t_fraction" (spG C true preStrm postFrac) [] := ok__law_t_fraction T D__law_t_fraction c__law_draw
  have c__law_mixed : C8.Cal P w K mg base 2 "_law_mixed" (spG C true preMixed postMixed) [] := ok__law_mixed T D__law_mixed c__law_draw
  have c__law_t_leads : C8.Cal P w K mg base 4 "_law_t_leads" (spG C true preLeads postLeads) [] := ok__law_t_leads T D__law_t_leads c__law_draw c__law_pick c__law_mixed c__law_t_words
  have c__law_t_game : C8.Cal P w K mg base 5 "_law_t_game" (spG C true preGame postGame) [] := ok__law_t_game T D__law_t_game c__law_t_words c__law_pick c__law_t_fraction c__law_t_leads c__law_mixed
  have c_is_list : C8.Cal P w K mg base 1 "is_list" (spG C false preSeq postT) [] := ok_is_list T D_is_list 
  have c_is_name : C8.Cal P w K mg base 1 "is_name" (spG C false preName postT) [] := ok_is_name T D_is_name 
  have c_are_moves : C8.Cal P w K mg base 2 "are_moves" (spG C false preMoves postT) [] := ok_are_moves T D_are_moves c_is_name
  have c_is_integer : C8.Cal P w K mg base 1 "is_integer" (spG C false preInt postT) [] := ok_is_integer T D_is_integer 
  have c_are_lots : C8.Cal P w K mg base 2 "are_lots" (spG C false preLots postT) [] := ok_are_lots T D_are_lots c_is_name c_is_list c_is_integer
  have c_is_fraction : C8.Cal P w K mg base 2 "is_fraction" (spG C false preFr postT) [] := ok_is_fraction T D_is_fraction c_is_list c_is_integer
  have c_is_place : C8.Cal P w K mg base 3 "is_place" (spG C false prePlace postT) [] := ok_is_place T D_is_place c_is_list c_are_moves c_are_lots c_is_fraction
  have c_lowest : C8.Cal P w K mg base 1 "lowest" (spG C false preLow postLow) [] := ok_lowest T D_lowest 
  have c_kept_place : C8.Cal P w K mg base 2 "kept_place" (spG C false preKept postKept) [] := ok_kept_place T D_kept_place c_lowest
  have c_Game : C8.Mak P w K mg base 4 "Game" C (spI C preInit postInit) [] := ok_init T D_init c_is_place c_is_name c_kept_place
  have c__law_t_one_plan : C8.Cal P w K mg base 3 "_law_t_one_plan" (spG C true preOne postOne) [] := ok__law_t_one_plan T D__law_t_one_plan c__law_pick
  have c__law_t_after : C8.Cal P w K mg base 1 "_law_t_after" (spG C false preAft postAft) [] := ok__law_t_after T D__law_t_after 
  have c__law_t_lowest : C8.Cal P w K mg base 1 "_law_t_lowest" (spG C false preLow postLow) [] := ok__law_t_lowest T D__law_t_lowest 
  have c__law_t_mean : C8.Cal P w K mg base 2 "_law_t_mean" (spG C false preRows postMean) [] := ok__law_t_mean T D__law_t_mean c__law_t_lowest
  have c__law_t_less : C8.Cal P w K mg base 1 "_law_t_less" (spG C false preTwoQ postLess) [] := ok__law_t_less T D__law_t_less 
  have c__law_t_best : C8.Cal P w K mg base 2 "_law_t_best" (spG C false preBest postBest) [] := ok__law_t_best T D__law_t_best c__law_t_less
  have c__law_t_worths : C8.Cal P w K mg base 3 "_law_t_worths" (spG C false preLW postLW) [] := ok__law_t_worths T D__law_t_worths c__law_t_after c__law_t_lowest c__law_t_mean c__law_t_best
  have c__law_same1 : C8.Cal P w K mg base 1 "_law_same" (spG C false preSame1 postSame1) [] := ok__law_same1 T D__law_same 
  have c__law_same : C8.Cal P w K mg base 2 "_law_same" (spG C false preSame postSame) [] := ok__law_same T D__law_same c__law_same1
  have c_check_side : C8.Cal P w K mg base 1 "check_side" (spG C false preSide postTrue) [] := ok_check_side T D_check_side 
  have c_places : C8.Met P w K mg base 1 C "places" (spG C false prePlaces postPlaces) [] := ok_places T D_places 
  have c_is_plan : C8.Cal P w K mg base 2 "is_plan" (spG C false prePlan postT) [] := ok_is_plan T D_is_plan c_check_side c_places
  have c_check_place : C8.Met P w K mg base 1 C "check_place" (spG C false preCk postTrue) [] := ok_check_place T D_check_place 
  have c_led_from : C8.Cal P w K mg base 1 "led_from" (spG C false preLed postLed) [] := ok_led_from T D_led_from 
  have c_round_place : C8.Met P w K mg base 2 C "round_place" (spG C false preG postNon) [] := ok_round_place T D_round_place c_led_from
  have c_order_of : C8.Cal P w K mg base 3 "order_of" (spG C false preG postOrd) [] := ok_order_of T D_order_of c_round_place c_places c_led_from
  have c_weighed : C8.Cal P w K mg base 2 "weighed" (spG C false preRows postRows) [] := ok_weighed T D_weighed c_lowest
  have c_is_less : C8.Cal P w K mg base 1 "is_less" (spG C false preTwoQ postLess) [] := ok_is_less T D_is_less 
  have c_top_of : C8.Cal P w K mg base 2 "top_of" (spG C false preQs postTop) [] := ok_top_of T D_top_of c_is_less
  have c_bottom_of : C8.Cal P w K mg base 2 "bottom_of" (spG C false preQs postBot) [] := ok_bottom_of T D_bottom_of c_is_less
  have c_plan_worths : C8.Cal P w K mg base 4 "plan_worths" (spG C false preW postW) [] := ok_plan_worths T D_plan_worths c_order_of c_weighed c_top_of c_bottom_of
  have c_mean : C8.Cal P w K mg base 5 "mean" (spG C false preMean postMeanW) [] := ok_mean T D_mean c_is_plan c_check_place c_plan_worths
  have c_answer : C8.Cal P w K mg base 5 "answer" (spG C false preAns postAns) [] := ok_answer T D_answer c_is_plan c_plan_worths c_places
  have c___len__ : C8.Met P w K mg base 1 C "__len__" (spG C false prePlaces postLen) [] := ok_len T D_len 
  have c_is_table : C8.Cal P w K mg base 3 "is_table" (spG C false preTab postT) [] := ok_is_table T D_is_table c___len__ c_is_fraction c_places
  have c_due_at : C8.Cal P w K mg base 3 "due_at" (spG C false preDue postDue) [] := ok_due_at T D_due_at c_weighed
  have c_is_floor : C8.Cal P w K mg base 4 "is_floor" (spG C false preFloor postT) [] := ok_is_floor T D_is_floor c_is_table c_is_plan c_places c_is_less c_due_at
  have c__law_t_plans : C8.Cal P w K mg base 1 "_law_t_plans" (spG C false prePlans postPlans) [] := ok__law_t_plans T D__law_t_plans 
  exact ok_law T FL c__law_start c__law_t_game c__law_draw c_Game c__law_t_one_plan c__law_t_worths c__law_same c_mean c_answer c_is_plan c_is_floor c__law_t_plans c__law_t_less
theorem txt_mk {K : PySem.W.Frag} {h : Heap} {mg : Str → Option Value} {C : Addr} (X : K.In h) (G : h.Ns mainGlobals mg) {s : Str} {i : Int} {t1 t2 : Tok} (pg : PySem.W.plainGet K C Str.empty = true) (hd : PySem.W.hasDictIn K C = true) (po : PySem.W.plainOver K C = true) (sa : PySem.W.findIn K (.ref C) "__setattr__" = some (some (.builtin "object.__setattr__"))) (nP : PySem.W.findIn K (.ref C) "place_table" = some none)
    (z0 : PySem.W.nsIn K mainGlobals "abs" = some none)
    (z1 : PySem.W.nsIn K mainGlobals "int" = some none)
    (z2 : PySem.W.nsIn K mainGlobals "len" = some none)
    (z3 : PySem.W.nsIn K mainGlobals "list" = some none)
    (z4 : PySem.W.nsIn K mainGlobals "dict" = some none)
    (z5 : PySem.W.nsIn K mainGlobals "tuple" = some none)
    (z6 : PySem.W.nsIn K mainGlobals "str" = some none)
    (z7 : PySem.W.nsIn K mainGlobals "bool" = some none)
    (z8 : PySem.W.nsIn K mainGlobals "all" = some none)
    (z9 : PySem.W.nsIn K mainGlobals "any" = some none)
    (z10 : PySem.W.nsIn K mainGlobals "sum" = some none)
    (z11 : PySem.W.nsIn K mainGlobals "isinstance" = some none)
    (z12 : PySem.W.nsIn K mainGlobals "range" = some none)
    (z13 : PySem.W.nsIn K mainGlobals "enumerate" = some none)
    (z14 : PySem.W.nsIn K mainGlobals "zip" = some none)
    (sg : PySem.W.nsIn K mainGlobals "SIGNS" = some (some (.str s t1))) (es : s = "abcdefghijklmnopqrstuvwxyz0123456789.") (ms : PySem.W.nsIn K mainGlobals "MOST_SIGNS" = some (some (.int i t2))) (em : i = 60) : Txt K mg C := by
  subst es; subst em
  exact ⟨⟨pg, hd, po, sa⟩, nP, PySem.W.mg_none_of X G z0, PySem.W.mg_none_of X G z1, PySem.W.mg_none_of X G z2, PySem.W.mg_none_of X G z3, PySem.W.mg_none_of X G z4, PySem.W.mg_none_of X G z5, PySem.W.mg_none_of X G z6, PySem.W.mg_none_of X G z7, PySem.W.mg_none_of X G z8, PySem.W.mg_none_of X G z9, PySem.W.mg_none_of X G z10, PySem.W.mg_none_of X G z11, PySem.W.mg_none_of X G z12, PySem.W.mg_none_of X G z13, PySem.W.mg_none_of X G z14, ⟨_, PySem.W.mg_of X G sg⟩, ⟨_, PySem.W.mg_of X G ms⟩⟩
theorem walk {l : PySem.W.OpenLaw} {q : Program} {loose : List Str} {XP : (Str → Option Value) → Heap → Prop} {YP : World → Heap → Prop} {d : DefRec} {K : Params → PySem.W.Frag} (hn : l.most = some 63) (hdf : d.params.defaults = [])
    (hY : ∀ (w : World) (h : Heap), YP w h → (K w.params).In h)
    (F : ∀ (w : World) (mg : Str → Option Value) (fa : Addr) (h : Heap), (K w.params).In h → h.Ns mainGlobals mg → mg d.name = some (.ref fa) →
      ∃ fd : FuncData, (∀ (s : Shared) (u : Value), BindsTo s fd ⟨[u], []⟩ [("_law_script", u)]) ∧ ∀ base : Heap, (K w.params).In base → base.Ns mainGlobals mg → FnOk l.prog w (K w.params) mg base C8.CX0 6 fa fd ["_law_script"] (spLaw (K w.params))) :
    PySem.W.WalkO q loose XP YP l.row.toRowW d [] (fun f vs => PySem.call f vs) :=
  L2.walk_of (n := 63) (k := 6) (x := "_law_script") (CX := fun _ => C8.CX0) (sp := fun w => spLaw (K w.params)) hn (by decide) hdf ⟨rfl, by decide, by decide⟩ hY F (fun _ _ a ns hl _ hS => ⟨a, ns, rfl, hS, hl, fun _ => rfl⟩) fun _ _ _ _ _ z => z
/-- the law's own def -/
theorem law_mk {l : PySem.W.OpenLaw} {w : World} {K : PySem.W.Frag} {h : Heap} {mg : Str → Option Value} {fa f : Addr} {oc : Value} {od an : Option Addr} {osl : Array (Option Value)} {kV doc pm cdv ct : Value} (X : K.In h) (G : h.Ns mainGlobals mg) (hfa : mg "law" = some (.ref fa)) (a : PySem.W.nsIn K mainGlobals "law" = some (some (.ref f)))
    (lk : K.lookup f = some ⟨oc, od, .func (PySem.W.fnOf "law" "law" (C8.fnArgs s_law) (C8.fnBody s_law) (C8.fnScope s_law) .none kV doc pm an cdv ct), osl⟩) (c : PySem.W.codeIn K cdv "law" = true)
    (ok : ∀ (base : Heap) (fd : FuncData), C8.Fun K "law" "law" s_law f fd → FnOk l.prog w K mg base C8.CX0 6 f fd ["_law_script"] (spLaw K)) :
    ∃ fd : FuncData, (∀ (s : Shared) (u : Value), BindsTo s fd ⟨[u], []⟩ [("_law_script", u)]) ∧ ∀ base : Heap, K.In base → base.Ns mainGlobals mg → FnOk l.prog w K mg base C8.CX0 6 fa fd ["_law_script"] (spLaw K) := by
  have e := hfa.symm.trans (PySem.W.mg_of X G a)
  cases e
  exact ⟨_, fun s v => .of_eq rfl, fun base _ _ => ok base _ (c8fun_mk lk c)⟩
end Gw
open PySem PySem.W PyProof.Rows
set_option maxRecDepth 100000 in
set_option maxHeartbeats 0 in
theorem PySem.Challenge.cw_gameworths_k07_whole_answers_holds : PySem.Challenge.rw_gameworths_k07_whole_answers.Holds := by
  w_on; o_law; k_head; (case hw => w_witness2)
  k_fill
  refine Gw.walk (l := PySem.Challenge.rw_gameworths_k07_whole_answers) rfl rfl (fun w h Y => PySem.W.kIn_of Y) ?F
  case F =>
    intro w mg fa h KX G hmg
    refine' Gw.law_mk KX G hmg ?a ?l ?c ?ok
    (case a => k_is); (case l => k_is); (case c => k_is)
    case ok =>
      intro base fd FL
      refine' Gw.all_ok ?T ?D__law_start ?D__law_draw ?D__law_pick ?D__law_t_words ?D__law_t_fraction ?D__law_mixed ?D__law_t_leads ?D__law_t_game ?D_is_list ?D_is_name ?D_are_moves ?D_is_integer ?D_are_lots ?D_is_fraction ?D_is_place ?D_lowest ?D_kept_place ?D_init ?D__law_t_one_plan ?D__law_t_after ?D__law_t_lowest ?D__law_t_mean ?D__law_t_less ?D__law_t_best ?D__law_t_worths ?D__law_same ?D_check_side ?D_places ?D_is_plan ?D_check_place ?D_led_from ?D_round_place ?D_order_of ?D_weighed ?D_is_less ?D_top_of ?D_bottom_of ?D_plan_worths ?D_mean ?D_answer ?D_len ?D_is_table ?D_due_at ?D_is_floor ?D__law_t_plans FL
      (case D_init => (refine' Gw.makB_mk KX G Gw.hb_init ?g ?a ?l ?c ?i ?m ?k; (case g => k_is); (case a => k_is); (case l => k_is); (case c => k_is); (case i => k_is); (case m => k_is); (case k => k_is)))
      (case T => (refine' Gw.txt_mk KX G ?pg ?hd ?po ?sa ?nP ?z0 ?z1 ?z2 ?z3 ?z4 ?z5 ?z6 ?z7 ?z8 ?z9 ?z10 ?z11 ?z12 ?z13 ?z14 ?sg ?es ?ms ?em; (case pg => k_is); (case hd => k_is); (case po => k_is); (case sa => k_is); (case nP => k_is); (case z0 => k_is); (case z1 => k_is); (case z2 => k_is); (case z3 => k_is); (case z4 => k_is); (case z5 => k_is); (case z6 => k_is); (case z7 => k_is); (case z8 => k_is); (case z9 => k_is); (case z10 => k_is); (case z11 => k_is); (case z12 => k_is); (case z13 => k_is); (case z14 => k_is); (case sg => k_is); (case es => decide +kernel); (case ms => k_is); (case em => decide +kernel)))
      (case D__law_start => (refine' Gw.defB_mk KX G Gw.hb__law_start ?a ?l ?c ?k; (case a => k_is); (case l => k_is); (case c => k_is); (case k => k_is)))
      (case D__law_draw => (refine' Gw.defB_mk KX G Gw.hb__law_draw ?a ?l ?c ?k; (case a => k_is); (case l => k_is); (case c => k_is); (case k => k_is)))
      (case D__law_pick => (refine' Gw.defB_mk KX G Gw.hb__law_pick ?a ?l ?c ?k; (case a => k_is); (case l => k_is); (case c => k_is); (case k => k_is)))
      (case D__law_t_words => (refine' Gw.defB_mk KX G Gw.hb__law_t_words ?a ?l ?c ?k; (case a => k_is); (case l => k_is); (case c => k_is); (case k => k_is)))
      (case D__law_t_fraction => (refine' Gw.defB_mk KX G Gw.hb__law_t_fraction ?a ?l ?c ?k; (case a => k_is); (case l => k_is); (case c => k_is); (case k => k_is)))
      (case D__law_mixed => (refine' Gw.defB_mk KX G Gw.hb__law_mixed ?a ?l ?c ?k; (case a => k_is); (case l => k_is); (case c => k_is); (case k => k_is)))
      (case D__law_t_leads => (refine' Gw.defB_mk KX G Gw.hb__law_t_leads ?a ?l ?c ?k; (case a => k_is); (case l => k_is); (case c => k_is); (case k => k_is)))
      (case D__law_t_game => (refine' Gw.defB_mk KX G Gw.hb__law_t_game ?a ?l ?c ?k; (case a => k_is); (case l => k_is); (case c => k_is); (case k => k_is)))
      (case D_is_list => (refine' Gw.defB_mk KX G Gw.hb_is_list ?a ?l ?c ?k; (case a => k_is); (case l => k_is); (case c => k_is); (case k => k_is)))
      (case D_is_name => (refine' Gw.defB_mk KX G Gw.hb_is_name ?a ?l ?c ?k; (case a => k_is); (case l => k_is); (case c => k_is); (case k => k_is)))
      (case D_are_moves => (refine' Gw.defB_mk KX G Gw.hb_are_moves ?a ?l ?c ?k; (case a => k_is); (case l => k_is); (case c => k_is); (case k => k_is)))
      (case D_is_integer => (refine' Gw.defB_mk KX G Gw.hb_is_integer ?a ?l ?c ?k; (case a => k_is); (case l => k_is); (case c => k_is); (case k => k_is)))
      (case D_are_lots => (refine' Gw.defB_mk KX G Gw.hb_are_lots ?a ?l ?c ?k; (case a => k_is); (case l => k_is); (case c => k_is); (case k => k_is)))
      (case D_is_fraction => (refine' Gw.defB_mk KX G Gw.hb_is_fraction ?a ?l ?c ?k; (case a => k_is); (case l => k_is); (case c => k_is); (case k => k_is)))
      (case D_is_place => (refine' Gw.defB_mk KX G Gw.hb_is_place ?a ?l ?c ?k; (case a => k_is); (case l => k_is); (case c => k_is); (case k => k_is)))
      (case D_lowest => (refine' Gw.defB_mk KX G Gw.hb_lowest ?a ?l ?c ?k; (case a => k_is); (case l => k_is); (case c => k_is); (case k => k_is)))
      (case D_kept_place => (refine' Gw.defB_mk KX G Gw.hb_kept_place ?a ?l ?c ?k; (case a => k_is); (case l => k_is); (case c => k_is); (case k => k_is)))
      (case D__law_t_one_plan => (refine' Gw.defB_mk KX G Gw.hb__law_t_one_plan ?a ?l ?c ?k; (case a => k_is); (case l => k_is); (case c => k_is); (case k => k_is)))
      (case D__law_t_after => (refine' Gw.defB_mk KX G Gw.hb__law_t_after ?a ?l ?c ?k; (case a => k_is); (case l => k_is); (case c => k_is); (case k => k_is)))
      (case D__law_t_lowest => (refine' Gw.defB_mk KX G Gw.hb__law_t_lowest ?a ?l ?c ?k; (case a => k_is); (case l => k_is); (case c => k_is); (case k => k_is)))
      (case D__law_t_mean => (refine' Gw.defB_mk KX G Gw.hb__law_t_mean ?a ?l ?c ?k; (case a => k_is); (case l => k_is); (case c => k_is); (case k => k_is)))
      (case D__law_t_less => (refine' Gw.defB_mk KX G Gw.hb__law_t_less ?a ?l ?c ?k; (case a => k_is); (case l => k_is); (case c => k_is); (case k => k_is)))
      (case D__law_t_best => (refine' Gw.defB_mk KX G Gw.hb__law_t_best ?a ?l ?c ?k; (case a => k_is); (case l => k_is); (case c => k_is); (case k => k_is)))
      (case D__law_t_worths => (refine' Gw.defB_mk KX G Gw.hb__law_t_worths ?a ?l ?c ?k; (case a => k_is); (case l => k_is); (case c => k_is); (case k => k_is)))
      (case D__law_same => (refine' Gw.defB_mk KX G Gw.hb__law_same ?a ?l ?c ?k; (case a => k_is); (case l => k_is); (case c => k_is); (case k => k_is)))
      (case D_check_side => (refine' Gw.defB_mk KX G Gw.hb_check_side ?a ?l ?c ?k; (case a => k_is); (case l => k_is); (case c => k_is); (case k => k_is)))
      (case D_places => (refine' Gw.metB_mk Gw.hb_places ?a ?l ?c ?i ?k; (case a => k_is); (case l => k_is); (case c => k_is); (case i => k_is); (case k => k_is)))
      (case D_is_plan => (refine' Gw.defB_mk KX G Gw.hb_is_plan ?a ?l ?c ?k; (case a => k_is); (case l => k_is); (case c => k_is); (case k => k_is)))
      (case D_check_place => (refine' Gw.metB_mk Gw.hb_check_place ?a ?l ?c ?i ?k; (case a => k_is); (case l => k_is); (case c => k_is); (case i => k_is); (case k => k_is)))
      (case D_led_from => (refine' Gw.defB_mk KX G Gw.hb_led_from ?a ?l ?c ?k; (case a => k_is); (case l => k_is); (case c => k_is); (case k => k_is)))
      (case D_round_place => (refine' Gw.metB_mk Gw.hb_round_place ?a ?l ?c ?i ?k; (case a => k_is); (case l => k_is); (case c => k_is); (case i => k_is); (case k => k_is)))
      (case D_order_of => (refine' Gw.defB_mk KX G Gw.hb_order_of ?a ?l ?c ?k; (case a => k_is); (case l => k_is); (case c => k_is); (case k => k_is)))
      (case D_weighed => (refine' Gw.defB_mk KX G Gw.hb_weighed ?a ?l ?c ?k; (case a => k_is); (case l => k_is); (case c => k_is); (case k => k_is)))
      (case D_is_less => (refine' Gw.defB_mk KX G Gw.hb_is_less ?a ?l ?c ?k; (case a => k_is); (case l => k_is); (case c => k_is); (case k => k_is)))
      (case D_top_of => (refine' Gw.defB_mk KX G Gw.hb_top_of ?a ?l ?c ?k; (case a => k_is); (case l => k_is); (case c => k_is); (case k => k_is)))
      (case D_bottom_of => (refine' Gw.defB_mk KX G Gw.hb_bottom_of ?a ?l ?c ?k; (case a => k_is); (case l => k_is); (case c => k_is); (case k => k_is)))
      (case D_plan_worths => (refine' Gw.defB_mk KX G Gw.hb_plan_worths ?a ?l ?c ?k; (case a => k_is); (case l => k_is); (case c => k_is); (case k => k_is)))
      (case D_mean => (refine' Gw.defB_mk KX G Gw.hb_mean ?a ?l ?c ?k; (case a => k_is); (case l => k_is); (case c => k_is); (case k => k_is)))
      (case D_answer => (refine' Gw.defB_mk KX G Gw.hb_answer ?a ?l ?c ?k; (case a => k_is); (case l => k_is); (case c => k_is); (case k => k_is)))
      (case D_len => (refine' Gw.metB_mk Gw.hb_len ?a ?l ?c ?i ?k; (case a => k_is); (case l => k_is); (case c => k_is); (case i => k_is); (case k => k_is)))
      (case D_is_table => (refine' Gw.defB_mk KX G Gw.hb_is_table ?a ?l ?c ?k; (case a => k_is); (case l => k_is); (case c => k_is); (case k => k_is)))
      (case D_due_at => (refine' Gw.defB_mk KX G Gw.hb_due_at ?a ?l ?c ?k; (case a => k_is); (case l => k_is); (case c => k_is); (case k => k_is)))
      (case D_is_floor => (refine' Gw.defB_mk KX G Gw.hb_is_floor ?a ?l ?c ?k; (case a => k_is); (case l => k_is); (case c => k_is); (case k => k_is)))
      (case D__law_t_plans => (refine' Gw.defB_mk KX G Gw.hb__law_t_plans ?a ?l ?c ?k; (case a => k_is); (case l => k_is); (case c => k_is); (case k => k_is)))
