import PyProof.Rows.All
import Wide.All
import OpenK.AllK
import Wide.FinOn
import HandS.ForMost
import HandS.Exc
import HandS.TryOnly
import HandS.ExcOwn
import HandS.WordsExc
import HandS.IsInst
import HandS.Wide
import HandS.HeadHook1
import KE.KDictKeyed
import KE.KDictCopyH
import KE.SortKeyHeap
import HandS.Style
import KE.DatumMore
import HandS.SortInts
import HandS.Text
import KE.DataEq
import HandS.More
import HandS.HeadNt
import HandS.Head0
import HandS.Head1
import HandS.Head2
import HandS.HeadEnd
import HandS.HeadHook2
import HandS.Conv
import HandS.ExcIs
import HandS.ExcInit
import HandS.ExcField
import KE.KExcIs
import HandS.SortRule
import HandS.RaiseMore
import PyProof.StrOps2
import HandS.Rev
import HandS.TryMany
import HandS.SetKeys
import HandS.Strs
import HandS.TupSets
import HandS.HotCalls
import HandS.Zip
import PySem.Challenge.RW_crosshall_k19_refusals_apart
set_option Elab.async false
set_option linter.all false
set_option maxRecDepth 100000
set_option maxHeartbeats 4000000
/-! VD: values as data, objects that change as numbered cells; what a text computes, as a function. -/
namespace VD
open PySem PySem.Spec PyProof.Rows L2

inductive D where
  | non | bl (b : Bool) | int (i : Int) | str (x : Str) | lst (xs : List D) | fz (xs : List D) | tup (xs : List D) | cell (n : Nat) | raw (v : V)
  | dct (ks : List Key) (ds : List D) | obj (c : Str) (ks : List Str) (ds : List D) | exv (a dd : Addr) (f : Str) (d : D)

inductive Cell where
  | lst (xs : List D) | dK (kvs : List (Key × D)) | dF (kvs : List (Key × D)) | ins (c : Str) (fs : List (Str × D))
  | dN (w : World) (kvs : List (NestedKey × D))

abbrev VS := List (Option D)
abbrev Hv := List Cell
structure Xn where
  cls : Str
  pay : Option (Str × D)
inductive R (α : Type) where
  | ok (a : α) (h : Hv) | exc (x : Xn) (h : Hv) | stuck
def R.bind {α β : Type} (r : R α) (f : α → Hv → R β) : R β := match r with
  | .ok a h => f a h
  | .exc x h => .exc x h
  | .stuck => .stuck
@[simp] theorem R.bind_ok {α β : Type} (a : α) (h : Hv) (f : α → Hv → R β) : (R.ok a h).bind f = f a h := rfl
@[simp] theorem R.bind_exc {α β : Type} (x : Xn) (h : Hv) (f : α → Hv → R β) : (R.exc x h : R α).bind f = .exc x h := rfl
@[simp] theorem R.bind_stuck {α β : Type} (f : α → Hv → R β) : (R.stuck : R α).bind f = .stuck := rfl
abbrev ES := VS → Hv → R D
abbrev LS := VS → Hv → R (List D)
abbrev CS := VS → Hv → R Bool
inductive RS where
  | next (σ : VS) (h : Hv) | ret (d : D) (h : Hv) | brk (σ : VS) (h : Hv) | cont (σ : VS) (h : Hv) | exc (x : Xn) (σ : VS) (h : Hv) | stuck
abbrev SS := VS → Hv → RS

/-! dicts whose keys are tuples -/
mutual
def nkD : NestedKey → D
  | .none => .non
  | .num i => .int i
  | .text x => .str x
  | .tup ks => .tup (nkDs ks)
def nkDs : List NestedKey → List D
  | [] => []
  | k :: ks => nkD k :: nkDs ks
end
/-- what stands at a: entries with keys, their tuples, values -/
def NDh (w : World) (a : Addr) (xs : List (NestedKey × Addr × V)) (h : Heap) : Prop := (a == sysModules) = false ∧ xs.length ≤ sizeLine ∧ (∀ x ∈ xs, x.1.depth ≤ 8) ∧ (xs.map (·.1)).Nodup ∧
  ∃ ys : List (NestedKey × Addr × Value), Paired (fun (p : NestedKey × Addr × V) (q : NestedKey × Addr × Value) => p.1 = q.1 ∧ p.2.1 = q.2.1 ∧ RelV p.2.2 q.2.2) xs ys ∧
    ∃ o es ep, h.get? a = some o ∧ o.ExactDict ∧ o.data = .dict es ep ∧ es.toList = ys.map fun y => ⟨y.1.hash w, .ref y.2.1, y.2.2⟩
abbrev NDO (w : World) (a : Addr) (xs : List (NestedKey × Addr × V)) : HO := .ext (NDh w a xs)
/-! ### what stands for what -/
section
variable (K : PySem.W.Frag) (φ : List Addr) (S : Hp)
mutual
inductive Rp : V → D → Prop where
  | non : Rp .non .non
  | bl (b : Bool) : Rp (.bl b) (.bl b)
  | int (i : Int) : Rp (.int i) (.int i)
  | str (x : Str) : Rp (.str x) (.str x)
  | lst {a : Addr} {vs : List V} {ds : List D} : S a = some (.lst vs) → RpA vs ds → Rp (.ref a) (.lst ds)
  | fz {a : Addr} {vs : List V} {ds : List D} : SqL K S a vs → RpA vs ds → Rp (.ref a) (.fz ds)
  | tup {a : Addr} {vs : List V} {ds : List D} : SqT K S a vs → RpA vs ds → Rp (.ref a) (.tup ds)
  | cell {a : Addr} {n : Nat} : φ[n]? = some a → Rp (.ref a) (.cell n)
  | raw (v : V) : Rp v (.raw v)
  | dct {a : Addr} {od : Obj} {kv : List (Key × V)} {ks : List Key} {ds : List D} : S a = some (.frz od (.dK kv)) → kv.map (·.1) = ks → RpA (kv.map (·.2)) ds → Rp (.ref a) (.dct ks ds)
  | obj {a dx : Addr} {fv : List (Str × V)} {c : Str} {ks : List Str} {ds : List D} : S a = some (.ins (He.ga K c) dx fv) → fv.map (·.1) = ks → RpA (fv.map (·.2)) ds → Rp (.ref a) (.obj c ks ds)
  | exv {a dd : Addr} {f : Str} {v : V} {d : D} : S dd = some (.xd [(f, v)]) → Rp v d → Rp (.ref a) (.exv a dd f d)
inductive RpA : List V → List D → Prop where
  | nil : RpA [] []
  | cons {v : V} {vs : List V} {d : D} {ds : List D} : Rp v d → RpA vs ds → RpA (v :: vs) (d :: ds)
end
def RpC : Cell → HO → Prop
  | .lst ds, o => ∃ vs, o = .lst vs ∧ RpA K φ S vs ds
  | .dK kvs, o => ∃ kv : List (Key × V), o = .dK kv ∧ kv.map (·.1) = kvs.map (·.1) ∧ RpA K φ S (kv.map (·.2)) (kvs.map (·.2))
  | .dF kvs, o => ∃ (od : Obj) (kv : List (Key × V)), o = .frz od (.dK kv) ∧ kv.map (·.1) = kvs.map (·.1) ∧ RpA K φ S (kv.map (·.2)) (kvs.map (·.2))
  | .ins c fs, o => ∃ dx fv, o = .ins (He.ga K c) dx fv ∧ fv.map (·.1) = fs.map (·.1) ∧ RpA K φ S (fv.map (·.2)) (fs.map (·.2))
  | .dN w kvs, o => ∃ (a : Addr) (xs : List (NestedKey × Addr × V)), o = NDO w a xs ∧ xs.map (·.1) = kvs.map (·.1) ∧ (∀ x ∈ xs, Rp K [] S (.ref x.2.1) (nkD x.1)) ∧ RpA K φ S (xs.map (·.2.2)) (kvs.map (·.2))
end

/-- more is known -/
def Ex (H H' : Hp) : Prop := ∀ a o, H a = some o → H' a = some o
theorem Ex.refl (H : Hp) : Ex H H := fun _ _ h => h
theorem Ex.trans {H H1 H2 : Hp} (a : Ex H H1) (b : Ex H1 H2) : Ex H H2 := fun x o h => b x o (a x o h)
theorem Ex.new {H : Hp} {p : Addr} {o : HO} (h : H p = none) : Ex H (upd H p o) := fun a u e => by
  rw [upd_ne (ne_of_none e h)]
  exact e
theorem Ex.rd {H H' : Hp} {a : Addr} {u : HO} (e : Ex H H') (h : Rd H a u) : Rd H' a u := by
  rcases h with h | ⟨o, h⟩
  · exact .inl (e a _ h)
  · exact .inr ⟨o, e a _ h⟩
theorem Ex.sql {K : PySem.W.Frag} {H H' : Hp} {a : Addr} {xs : List V} (e : Ex H H') (h : SqL K H a xs) : SqL K H' a xs := h.imp (fun z => e.rd z) id
theorem Ex.sqt {K : PySem.W.Frag} {H H' : Hp} {a : Addr} {xs : List V} (e : Ex H H') (h : SqT K H a xs) : SqT K H' a xs := h.imp (fun z => e.rd z) id

/-- the cells' addresses only grow -/
def Pre (φ φ' : List Addr) : Prop := ∃ ψ, φ' = φ ++ ψ
theorem Pre.refl (φ : List Addr) : Pre φ φ := ⟨[], (List.append_nil φ).symm⟩
theorem Pre.at {φ φ' : List Addr} (p : Pre φ φ') {n : Nat} {a : Addr} (h : φ[n]? = some a) : φ'[n]? = some a := by
  obtain ⟨ψ, rfl⟩ := p
  rw [List.getElem?_append_left (List.getElem?_eq_some_iff.mp h).1]
  exact h

section
variable {K : PySem.W.Frag} {φ φ' : List Addr} {S S' : Hp}
mutual
theorem Rp.mono (p : Pre φ φ') (e : Ex S S') : ∀ {v : V} {d : D}, Rp K φ S v d → Rp K φ' S' v d
  | _, _, .non => .non
  | _, _, .bl b => .bl b
  | _, _, .int i => .int i
  | _, _, .str x => .str x
  | _, _, .lst h r => .lst (e _ _ h) (RpA.mono p e r)
  | _, _, .fz h r => .fz (e.sql h) (RpA.mono p e r)
  | _, _, .tup h r => .tup (e.sqt h) (RpA.mono p e r)
  | _, _, .cell h => .cell (p.at h)
  | _, _, .raw v => .raw v
  | _, _, .dct h k r => .dct (e _ _ h) k (RpA.mono p e r)
  | _, _, .obj h k r => .obj (e _ _ h) k (RpA.mono p e r)
  | _, _, .exv h r => .exv (e _ _ h) (Rp.mono p e r)
theorem RpA.mono (p : Pre φ φ') (e : Ex S S') : ∀ {vs : List V} {ds : List D}, RpA K φ S vs ds → RpA K φ' S' vs ds
  | _, _, .nil => .nil
  | _, _, .cons r t => .cons (Rp.mono p e r) (RpA.mono p e t)
end
theorem RpC.mono (p : Pre φ φ') (e : Ex S S') {c : Cell} {o : HO} (h : RpC K φ S c o) : RpC K φ' S' c o := by
  cases c with
  | lst ds => obtain ⟨vs, h1, h2⟩ := h; exact ⟨vs, h1, h2.mono p e⟩
  | dK kvs => obtain ⟨vs, h1, h2, h3⟩ := h; exact ⟨vs, h1, h2, h3.mono p e⟩
  | dF kvs => obtain ⟨od, vs, h1, h2, h3⟩ := h; exact ⟨od, vs, h1, h2, h3.mono p e⟩
  | ins C fs => obtain ⟨dx, vs, h1, h2, h3⟩ := h; exact ⟨dx, vs, h1, h2, h3.mono p e⟩
  | dN w kvs => obtain ⟨a, xs, h1, h2, h3, h4⟩ := h; exact ⟨a, xs, h1, h2, fun x hx => (h3 x hx).mono (Pre.refl []) e, h4.mono p e⟩
theorem RpA.length {vs : List V} {ds : List D} : RpA K φ S vs ds → vs.length = ds.length := by
  intro h
  induction ds generalizing vs with
  | nil => cases h; rfl
  | cons d ds ih =>
    cases h with
    | cons r t => rw [List.length_cons, List.length_cons, ih t]
theorem RpA.at {vs : List V} {ds : List D} (h : RpA K φ S vs ds) {i : Nat} {d : D} (hd : ds[i]? = some d) : ∃ v, vs[i]? = some v ∧ Rp K φ S v d := by
  induction ds generalizing vs i with
  | nil => simp at hd
  | cons d' ds ih =>
    cases h with
    | cons r t =>
      cases i with
      | zero =>
        rw [List.getElem?_cons_zero] at hd ⊢
        cases hd
        exact ⟨_, rfl, r⟩
      | succ i =>
        rw [List.getElem?_cons_succ] at hd ⊢
        exact ih t hd
theorem RpA.append {vs ws : List V} {ds es : List D} (h : RpA K φ S vs ds) (k : RpA K φ S ws es) : RpA K φ S (vs ++ ws) (ds ++ es) := by
  induction ds generalizing vs with
  | nil => cases h; exact k
  | cons d ds ih =>
    cases h with
    | cons r t => exact .cons r (ih t)
theorem RpA.set {vs : List V} {ds : List D} {v : V} {d : D} (h : RpA K φ S vs ds) (r : Rp K φ S v d) (i : Nat) : RpA K φ S (vs.set i v) (ds.set i d) := by
  induction ds generalizing vs i with
  | nil => cases h; exact .nil
  | cons d' ds ih =>
    cases h with
    | cons r' t =>
      cases i with
      | zero => exact .cons r t
      | succ i => exact .cons r' (ih t i)
theorem RpA.take {vs : List V} {ds : List D} (h : RpA K φ S vs ds) (i : Nat) : RpA K φ S (vs.take i) (ds.take i) := by
  induction ds generalizing vs i with
  | nil => cases h; rw [List.take_nil, List.take_nil]; exact .nil
  | cons d' ds ih =>
    cases h with
    | cons r' t =>
      cases i with
      | zero => exact .nil
      | succ i => exact .cons r' (ih t i)
theorem RpA.drop {vs : List V} {ds : List D} (h : RpA K φ S vs ds) (i : Nat) : RpA K φ S (vs.drop i) (ds.drop i) := by
  induction ds generalizing vs i with
  | nil => cases h; rw [List.drop_nil, List.drop_nil]; exact .nil
  | cons d' ds ih =>
    cases h with
    | cons r' t =>
      cases i with
      | zero => exact .cons r' t
      | succ i => exact ih t i
theorem RpA.eraseIdx {vs : List V} {ds : List D} (h : RpA K φ S vs ds) (i : Nat) : RpA K φ S (vs.eraseIdx i) (ds.eraseIdx i) := by
  induction ds generalizing vs i with
  | nil => cases h; exact .nil
  | cons d' ds ih =>
    cases h with
    | cons r' t =>
      cases i with
      | zero => exact t
      | succ i => exact .cons r' (ih t i)
theorem RpA.reverse {vs : List V} {ds : List D} (h : RpA K φ S vs ds) : RpA K φ S vs.reverse ds.reverse := by
  induction ds generalizing vs with
  | nil => cases h; exact .nil
  | cons d ds ih =>
    cases h with
    | cons r t =>
      rw [List.reverse_cons, List.reverse_cons]
      exact (ih t).append (.cons r .nil)
theorem RpA.ints {vs : List V} {ns : List Int} (h : RpA K φ S vs (ns.map .int)) : vs = ns.map .int := by
  induction ns generalizing vs with
  | nil => cases h; rfl
  | cons n ns ih =>
    cases h with
    | cons r t =>
      cases r
      rw [ih t]
      rfl
theorem RpA.of_ints (ns : List Int) : RpA K φ S (ns.map .int) (ns.map .int) := by
  induction ns with
  | nil => exact .nil
  | cons n ns ih => exact .cons (.int n) ih
end

/-! ### the whole heap -/
structure Rel (K : PySem.W.Frag) (φ : List Addr) (S H : Hp) (h : Hv) : Prop where
  len : φ.length = h.length
  sub : Ex S H
  nd : φ.Nodup
  cel : ∀ (n : Nat) (a : Addr) (c : Cell), φ[n]? = some a → h[n]? = some c → S a = none ∧ ∃ o, H a = some o ∧ RpC K φ S c o
structure Step (φ : List Addr) (S H : Hp) (φ' : List Addr) (S' H' : Hp) : Prop where
  pre : ∃ ψ, φ' = φ ++ ψ ∧ ∀ a ∈ ψ, H a = none
  sub : Ex S S'
  old : ∀ a, H a ≠ none → S' a = S a
  keep : ∀ a o, H a = some o → a ∉ φ → H' a = some o
  there : ∀ a, H a ≠ none → H' a ≠ none
theorem Step.refl (φ : List Addr) (S H : Hp) : Step φ S H φ S H := ⟨⟨[], (List.append_nil φ).symm, fun _ z => nomatch z⟩, Ex.refl S, fun _ _ => rfl, fun _ _ e _ => e, fun _ z => z⟩
theorem Step.prefix {φ φ' : List Addr} {S H S' H' : Hp} (s : Step φ S H φ' S' H') : Pre φ φ' := let ⟨ψ, e, _⟩ := s.pre; ⟨ψ, e⟩
theorem Step.trans {φ φ1 φ2 : List Addr} {S H S1 H1 S2 H2 : Hp} (a : Step φ S H φ1 S1 H1) (b : Step φ1 S1 H1 φ2 S2 H2) : Step φ S H φ2 S2 H2 := by
  obtain ⟨⟨ψ, e, hn⟩, a2, a3, a4, a5⟩ := a
  obtain ⟨⟨ψ', e', hn'⟩, b2, b3, b4, b5⟩ := b
  have nil : ∀ a, H1 a = none → H a = none := fun a z => by
    cases q : H a with
    | none => rfl
    | some o => exact absurd z (a5 a (by rw [q]; exact fun y => nomatch y))
  refine ⟨⟨ψ ++ ψ', by rw [e', e, List.append_assoc], fun x hx => ?_⟩, a2.trans b2, fun x hx => (b3 x (a5 x hx)).trans (a3 x hx), fun x o hx hn2 => ?_, fun x hx => b5 x (a5 x hx)⟩
  · rcases List.mem_append.mp hx with z | z
    · exact hn x z
    · exact nil x (hn' x z)
  · refine b4 x o (a4 x o hx hn2) fun z => ?_
    rw [e] at z
    rcases List.mem_append.mp z with z | z
    · exact hn2 z
    · have := hn x z
      rw [this] at hx
      cases hx
theorem Step.fresh {φ φ' : List Addr} {S H S' H' : Hp} (s : Step φ S H φ' S' H') {a : Addr} (h : H' a = none) : H a = none := by
  cases q : H a with
  | none => rfl
  | some o => exact absurd h (s.there a (by rw [q]; exact fun y => nomatch y))
theorem Rel.at {K : PySem.W.Frag} {φ : List Addr} {S H : Hp} {h : Hv} (r : Rel K φ S H h) {n : Nat} {a : Addr} (e : φ[n]? = some a) : ∃ c, h[n]? = some c := by
  have h1 := (List.getElem?_eq_some_iff.mp e).1
  rw [r.len] at h1
  exact ⟨_, List.getElem?_eq_getElem h1⟩
theorem Rel.mem {K : PySem.W.Frag} {φ : List Addr} {S H : Hp} {h : Hv} (r : Rel K φ S H h) {a : Addr} (e : a ∈ φ) : S a = none ∧ H a ≠ none := by
  obtain ⟨n, hn⟩ := List.getElem?_of_mem e
  obtain ⟨c, hc⟩ := r.at hn
  obtain ⟨h1, o, h2, _⟩ := r.cel n a c hn hc
  exact ⟨h1, by rw [h2]; exact fun z => nomatch z⟩
theorem Rel.snone {K : PySem.W.Frag} {φ : List Addr} {S H : Hp} {h : Hv} (r : Rel K φ S H h) {a : Addr} (e : H a = none) : S a = none := by
  cases q : S a with
  | none => rfl
  | some o =>
    rw [r.sub a o q] at e
    cases e
theorem Rel.notin {K : PySem.W.Frag} {φ : List Addr} {S H : Hp} {h : Hv} (r : Rel K φ S H h) {a : Addr} (e : H a = none) : a ∉ φ := fun z => (r.mem z).2 e
/-- a new thing that never changes -/
theorem Rel.lay {K : PySem.W.Frag} {φ : List Addr} {S H : Hp} {h : Hv} (r : Rel K φ S H h) {p : Addr} {o : HO} (hp : H p = none) : Rel K φ (upd S p o) (upd H p o) h ∧ Step φ S H φ (upd S p o) (upd H p o) := by
  have sp := r.snone hp
  refine ⟨⟨r.len, fun a u e => ?_, r.nd, fun n a c e1 e2 => ?_⟩, ⟨⟨[], (List.append_nil φ).symm, fun _ z => nomatch z⟩, Ex.new sp, fun a ha => ?_, fun a u e _ => ?_, fun a ha => ?_⟩⟩
  · by_cases q : a = p
    · subst q
      rw [upd_same] at e ⊢
      exact e
    · rw [upd_ne q] at e ⊢
      exact r.sub a u e
  · obtain ⟨h1, o', h2, h3⟩ := r.cel n a c e1 e2
    have q : a ≠ p := ne_of_none h2 hp
    exact ⟨by rw [upd_ne q]; exact h1, o', by rw [upd_ne q]; exact h2, h3.mono (Pre.refl φ) (Ex.new sp)⟩
  · have q : a ≠ p := fun z => ha (by rw [z]; exact hp)
    rw [upd_ne q]
  · rw [upd_ne (ne_of_none e hp)]
    exact e
  · have q : a ≠ p := fun z => ha (by rw [z]; exact hp)
    rw [upd_ne q]
    exact ha
/-- a new thing, known to the heap alone -/
theorem Rel.hold {K : PySem.W.Frag} {φ : List Addr} {S H : Hp} {h : Hv} (r : Rel K φ S H h) {p : Addr} {o : HO} (hp : H p = none) : Rel K φ S (upd H p o) h ∧ Step φ S H φ S (upd H p o) := by
  refine ⟨⟨r.len, r.sub.trans (Ex.new hp), r.nd, fun n a c e1 e2 => ?_⟩, ⟨⟨[], (List.append_nil φ).symm, fun _ z => nomatch z⟩, Ex.refl S, fun a ha => rfl, fun a u e _ => ?_, fun a ha => ?_⟩⟩
  · obtain ⟨h1, o', h2, h3⟩ := r.cel n a c e1 e2
    have q : a ≠ p := ne_of_none h2 hp
    exact ⟨h1, o', by rw [upd_ne q]; exact h2, h3⟩
  · rw [upd_ne (ne_of_none e hp)]
    exact e
  · have q : a ≠ p := fun z => ha (by rw [z]; exact hp)
    rw [upd_ne q]
    exact ha
/-- what is held becomes what never changes -/
theorem Rel.still {K : PySem.W.Frag} {φ : List Addr} {S H : Hp} {h : Hv} (r : Rel K φ S H h) {p : Addr} {o : HO} (hp : H p = some o) (hs : S p = none) (hn : p ∉ φ) : Rel K φ (upd S p o) H h := by
  refine ⟨r.len, fun a u e => ?_, r.nd, fun n a c e1 e2 => ?_⟩
  · by_cases q : a = p
    · subst q
      rw [upd_same] at e
      rw [hp]
      exact e
    · rw [upd_ne q] at e
      exact r.sub a u e
  · obtain ⟨h1, o', h2, h3⟩ := r.cel n a c e1 e2
    have q : a ≠ p := fun z => hn (by rw [← z]; exact List.mem_of_getElem? e1)
    exact ⟨by rw [upd_ne q]; exact h1, o', h2, h3.mono (Pre.refl φ) (Ex.new hs)⟩
/-- what is held becomes a cell -/
theorem Rel.celled {K : PySem.W.Frag} {φ : List Addr} {S H : Hp} {h : Hv} (r : Rel K φ S H h) {p : Addr} {o : HO} {c : Cell} (hp : H p = some o) (hs : S p = none) (hn : p ∉ φ) (hc : RpC K φ S c o) : Rel K (φ ++ [p]) S H (h ++ [c]) := by
  have pr : Pre φ (φ ++ [p]) := ⟨[p], rfl⟩
  refine ⟨by rw [List.length_append, List.length_append, r.len]; rfl, r.sub, List.nodup_append.mpr ⟨r.nd, List.nodup_cons.mpr ⟨List.not_mem_nil, List.nodup_nil⟩, fun a ha b hb => ?_⟩, fun n a c' e1 e2 => ?_⟩
  · rw [List.mem_singleton] at hb
    subst hb
    exact fun z => hn (by rw [← z]; exact ha)
  · by_cases hl : n < φ.length
    · rw [List.getElem?_append_left hl] at e1
      rw [List.getElem?_append_left (by rw [← r.len]; exact hl)] at e2
      obtain ⟨h1, o', h2, h3⟩ := r.cel n a c' e1 e2
      exact ⟨h1, o', h2, h3.mono pr (Ex.refl S)⟩
    · have hl2 := (List.getElem?_eq_some_iff.mp e1).1
      rw [List.length_append, List.length_singleton] at hl2
      have en : n = φ.length := by omega
      subst en
      rw [List.getElem?_append_right (Nat.le_refl _), Nat.sub_self] at e1
      rw [r.len, List.getElem?_append_right (Nat.le_refl _), Nat.sub_self] at e2
      cases e1
      cases e2
      exact ⟨hs, o, hp, hc.mono pr (Ex.refl S)⟩
/-- a cell is written -/
theorem Rel.put {K : PySem.W.Frag} {φ : List Addr} {S H : Hp} {h : Hv} (r : Rel K φ S H h) {n : Nat} {a : Addr} {o : HO} {c : Cell} (hn : φ[n]? = some a) (hc : RpC K φ S c o) : Rel K φ S (upd H a o) (h.set n c) ∧ Step φ S H φ S (upd H a o) := by
  obtain ⟨c0, hc0⟩ := r.at hn
  obtain ⟨sa, o0, ho0, _⟩ := r.cel n a c0 hn hc0
  refine ⟨⟨by rw [List.length_set]; exact r.len, fun b u e => ?_, r.nd, fun m b c' e1 e2 => ?_⟩, ⟨⟨[], (List.append_nil φ).symm, fun _ z => nomatch z⟩, Ex.refl S, fun b hb => rfl, fun b u e hb => ?_, fun b hb => ?_⟩⟩
  · have q : b ≠ a := ne_of_none e sa
    rw [upd_ne q]
    exact r.sub b u e
  · by_cases q : m = n
    · subst q
      rw [hn] at e1
      cases e1
      rw [List.getElem?_set_self (List.getElem?_eq_some_iff.mp hc0).1] at e2
      cases e2
      exact ⟨sa, o, upd_same, hc⟩
    · rw [List.getElem?_set_ne (Ne.symm q)] at e2
      obtain ⟨h1, o', h2, h3⟩ := r.cel m b c' e1 e2
      have ne : b ≠ a := fun z => by
        subst z
        exact q (nd_ix r.nd e1 hn)
      exact ⟨h1, o', by rw [upd_ne ne]; exact h2, h3⟩
  · have ne : b ≠ a := fun z => hb (by rw [z]; exact List.mem_of_getElem? hn)
    rw [upd_ne ne]
    exact e
  · by_cases ne : b = a
    · subst ne
      rw [upd_same]
      exact fun z => nomatch z
    · rw [upd_ne ne]
      exact hb

/-! ### slots -/
structure RelS (K : PySem.W.Frag) (φ : List Addr) (S : Hp) (σv : VS) (σ : L2.St) : Prop where
  len : σ.length = σv.length
  at_ : ∀ (i : Nat) (d : D), σv[i]? = some (some d) → ∃ v, σ[i]? = some (some v) ∧ Rp K φ S v d
section
variable {K : PySem.W.Frag} {φ φ' : List Addr} {S S' : Hp} {σv : VS} {σ : L2.St}
theorem RelS.mono (r : RelS K φ S σv σ) (p : Pre φ φ') (e : Ex S S') : RelS K φ' S' σv σ := ⟨r.len, fun i d hd => let ⟨v, h1, h2⟩ := r.at_ i d hd; ⟨v, h1, h2.mono p e⟩⟩
theorem RelS.step (r : RelS K φ S σv σ) {H H' : Hp} (s : Step φ S H φ' S' H') : RelS K φ' S' σv σ := r.mono s.prefix s.sub
theorem RelS.set (r : RelS K φ S σv σ) {v : V} {d : D} (h : Rp K φ S v d) (i : Nat) : RelS K φ S (σv.set i (some d)) (σ.set i (some v)) := by
  refine ⟨by rw [List.length_set, List.length_set]; exact r.len, fun j e he => ?_⟩
  by_cases q : j = i
  · subst q
    have hl := (List.getElem?_eq_some_iff.mp he).1
    rw [List.length_set] at hl
    rw [List.getElem?_set_self hl] at he
    cases he
    exact ⟨v, List.getElem?_set_self (by rw [r.len]; exact hl), h⟩
  · rw [List.getElem?_set_ne (Ne.symm q)] at he ⊢
    exact r.at_ j e he
theorem RelS.unset (r : RelS K φ S σv σ) (i : Nat) (o : Option V) : RelS K φ S (σv.set i none) (σ.set i o) := by
  refine ⟨by rw [List.length_set, List.length_set]; exact r.len, fun j e he => ?_⟩
  by_cases q : j = i
  · subst q
    have hl := (List.getElem?_eq_some_iff.mp he).1
    rw [List.length_set] at hl
    rw [List.getElem?_set_self hl] at he
    cases he
  · rw [List.getElem?_set_ne (Ne.symm q)] at he ⊢
    exact r.at_ j e he
end
end VD

set_option Elab.async false
set_option linter.all false
set_option maxRecDepth 100000
set_option maxHeartbeats 4000000
namespace VD
open PySem PySem.Spec PyProof.Rows L2

/-! ### readings and what they compute -/
def RpX (K : PySem.W.Frag) (φ : List Addr) (S H : Hp) (x : Xn) (cls : Value) (dd : Option Addr) : Prop :=
  cls = .ref (He.ga K x.cls) ∧ match x.pay with
    | none => dd = none
    | some (f, d) => ∃ dx v, dd = some dx ∧ S dx = some (.xd [(f, v)]) ∧ Rp K φ S v d
/-- how a result stands: the heap ahead, then cells, what is still, the heap behind -/
abbrev Rep (α β : Type) := Hp → List Addr → Hp → Hp → β → α → Prop
class Rep.Up {α β : Type} (rep : Rep α β) : Prop where
  up : ∀ {φ S H φ1 S1 H1 φ' S' H' b a}, Step φ S H φ1 S1 H1 → rep H1 φ' S' H' b a → rep H φ' S' H' b a
def repV (K : PySem.W.Frag) : Rep D V := fun _ φ' S' _ v d => Rp K φ' S' v d
def repA (K : PySem.W.Frag) : Rep (List D) (List V) := fun _ φ' S' _ v d => RpA K φ' S' v d
def repB : Rep Bool Bool := fun _ _ _ _ b a => b = a
/-- a new list -/
def repL (K : PySem.W.Frag) : Rep (List D) V := fun H φ' S' H' v ds => ∃ p vs, v = .ref p ∧ H p = none ∧ H' p = some (.lst vs) ∧ S' p = none ∧ p ∉ φ' ∧ RpA K φ' S' vs ds
instance {K : PySem.W.Frag} : Rep.Up (repV K) := ⟨fun _ h => h⟩
instance {K : PySem.W.Frag} : Rep.Up (repA K) := ⟨fun _ h => h⟩
instance : Rep.Up repB := ⟨fun _ h => h⟩
instance {K : PySem.W.Frag} : Rep.Up (repL K) := ⟨fun s ⟨p, vs, h1, h2, h3⟩ => ⟨p, vs, h1, s.fresh h2, h3⟩⟩

def Post {α β : Type} (K : PySem.W.Frag) (rep : Rep α β) (φ : List Addr) (S H : Hp) (r : R α) (Q : β → Hp → Prop) (E : XK) : Prop := match r with
  | .ok a h' => ∀ b φ' S' H', Rel K φ' S' H' h' → Step φ S H φ' S' H' → rep H φ' S' H' b a → Q b H'
  | .exc x h' => ∀ cls dd φ' S' H', Rel K φ' S' H' h' → Step φ S H φ' S' H' → RpX K φ' S' H' x cls dd → E cls dd H'
  | .stuck => False
theorem Post.up {α β : Type} {K : PySem.W.Frag} {rep : Rep α β} [Rep.Up rep] {φ φ1 : List Addr} {S H S1 H1 : Hp} {r : R α} {Q : β → Hp → Prop} {E : XK} (s : Step φ S H φ1 S1 H1) (p : Post K rep φ S H r Q E) : Post K rep φ1 S1 H1 r Q E := by
  cases r with
  | ok a h' => exact fun b φ' S' H' rl st rp => p b φ' S' H' rl (s.trans st) (Rep.Up.up s rp)
  | exc x h' => exact fun cls dd φ' S' H' rl st rp => p cls dd φ' S' H' rl (s.trans st) rp
  | stuck => exact p
theorem Post.imp {α β : Type} {K : PySem.W.Frag} {rep : Rep α β} {φ : List Addr} {S H : Hp} {r : R α} {Q Q' : β → Hp → Prop} {E E' : XK} (p : Post K rep φ S H r Q E) (h : ∀ b H', Q b H' → Q' b H') (he : ∀ c d H', E c d H' → E' c d H') : Post K rep φ S H r Q' E' := by
  cases r with
  | ok a h' => exact fun b φ' S' H' rl st rp => h _ _ (p b φ' S' H' rl st rp)
  | exc x h' => exact fun cls dd φ' S' H' rl st rp => he _ _ _ (p cls dd φ' S' H' rl st rp)
  | stuck => exact p
/-- the reading t is kept by es: in every state, what es tells comes -/
structure Sn {α β : Type} (K : PySem.W.Frag) (rep : Rep α β) (W : WX) (t : L2.St → Hp → (β → Hp → Prop) → Prop) (es : VS → Hv → R α) : Prop where
  run : ∀ {φ : List Addr} {S H : Hp} {h : Hv} {σv : VS} {σ : L2.St} {Q : β → Hp → Prop}, Rel K φ S H h → RelS K φ S σv σ → Post K rep φ S H (es σv h) Q (fun c d H' => W c d σ H') → t σ H Q
theorem Sn.bind {α β γ δ : Type} {K : PySem.W.Frag} {rep : Rep α β} {rep2 : Rep γ δ} [Rep.Up rep2] {W : WX} {t : L2.St → Hp → (β → Hp → Prop) → Prop} {ea : VS → Hv → R α} {f : α → Hv → R γ}
    {φ : List Addr} {S H : Hp} {h : Hv} {σv : VS} {σ : L2.St} {Q : δ → Hp → Prop} {Q1 : β → Hp → Prop}
    (ha : Sn K rep W t ea) (rl : Rel K φ S H h) (rs : RelS K φ S σv σ) (post : Post K rep2 φ S H ((ea σv h).bind f) Q (fun c d H' => W c d σ H'))
    (k : ∀ a h1 b φ1 S1 H1, Rel K φ1 S1 H1 h1 → RelS K φ1 S1 σv σ → Step φ S H φ1 S1 H1 → rep H φ1 S1 H1 b a → Post K rep2 φ1 S1 H1 (f a h1) Q (fun c d H' => W c d σ H') → Q1 b H1) : t σ H Q1 := by
  refine ha.run rl rs ?_
  cases q : ea σv h with
  | ok a h1 =>
    rw [q] at post
    exact fun b φ1 S1 H1 rl1 st rp => k a h1 b φ1 S1 H1 rl1 (rs.step st) st rp (Post.up st post)
  | exc x h1 =>
    rw [q] at post
    exact post
  | stuck =>
    rw [q] at post
    exact post

def SE (X : Cx) (W : WX) (e : Expr) (es : ES) : Prop := ∃ te, PE X e te ∧ Sn X.K (repV X.K) W te es
def SL (X : Cx) (W : WX) (e : Expr) (es : LS) : Prop := ∃ te, PE X e te ∧ Sn X.K (repL X.K) W te es
def ST (X : Cx) (W : WX) (e : Expr) (es : CS) : Prop := ∃ te, PT X e te ∧ Sn X.K repB W te es
def SW (X : Cx) (W : WX) (e : Expr) (es : CS) : Prop := ∃ te, PW X e te ∧ Sn X.K repB W te es
def SA (X : Cx) (W : WX) (es : List Expr) (as : LS) : Prop := ∃ te, PA X es te ∧ Sn X.K (repA X.K) W te as

theorem Step.still {φ φ1 : List Addr} {S H S1 H1 : Hp} (s : Step φ S H φ1 S1 H1) {p : Addr} {o : HO} (hp : H p = none) (hs : S1 p = none) : Step φ S H φ1 (upd S1 p o) H1 :=
  ⟨s.pre, s.sub.trans (Ex.new hs), fun a ha => by
    have q : a ≠ p := fun z => ha (by rw [z]; exact hp)
    rw [upd_ne q]
    exact s.old a ha, s.keep, s.there⟩
theorem Step.celled {φ φ1 : List Addr} {S H S1 H1 : Hp} (s : Step φ S H φ1 S1 H1) {p : Addr} (hp : H p = none) : Step φ S H (φ1 ++ [p]) S1 H1 := by
  obtain ⟨⟨ψ, e, hn⟩, s2, s3, s4, s5⟩ := s
  refine ⟨⟨ψ ++ [p], by rw [e, List.append_assoc], fun a ha => ?_⟩, s2, s3, s4, s5⟩
  rcases List.mem_append.mp ha with z | z
  · exact hn a z
  · rw [List.mem_singleton.mp z]
    exact hp
/-- from one result to the next -/
theorem Post.map {α β γ δ : Type} {K : PySem.W.Frag} {rep : Rep α β} {rep2 : Rep γ δ} {φ : List Addr} {S H : Hp} {r : R α} {f : α → Hv → R γ} {Q1 : β → Hp → Prop} {Q : δ → Hp → Prop} {E : XK} (post : Post K rep2 φ S H (r.bind f) Q E)
    (k : ∀ a h1 b φ1 S1 H1, Rel K φ1 S1 H1 h1 → Step φ S H φ1 S1 H1 → rep H φ1 S1 H1 b a → Post K rep2 φ S H (f a h1) Q E → Q1 b H1) : Post K rep φ S H r Q1 E := by
  cases r with
  | ok a h1 => exact fun b φ1 S1 H1 rl st rp => k a h1 b φ1 S1 H1 rl st rp post
  | exc x h1 => exact post
  | stuck => exact post

section
variable {X : Cx} {W : WX} {e a b c : Expr} {es : List Expr} {pos : Pos} {fa fb fc : ES} {la lb : LS} {ca cb : CS}
/-- a list that is new stays as it is -/
def eV (f : LS) : ES := fun σ h => (f σ h).bind fun ds h' => .ok (.lst ds) h'
theorem se_V (h : SL X W e la) : SE X W e (eV la) := by
  obtain ⟨te, h1, h2⟩ := h
  refine ⟨te, h1, ⟨fun rl rs post => h2.run rl rs (post.map fun ds h1 v φ1 S1 H1 rl1 st rp post => ?_)⟩⟩
  obtain ⟨p, vs, rfl, hp, hp1, hs1, hn1, ra⟩ := rp
  exact post (.ref p) φ1 _ H1 (rl1.still hp1 hs1 hn1) (st.still hp hs1) (.lst upd_same (ra.mono (Pre.refl _) (Ex.new hs1)))
/-- .. or is a cell -/
def eC (f : LS) : ES := fun σ h => (f σ h).bind fun ds h' => .ok (.cell h'.length) (h' ++ [.lst ds])
theorem se_C (h : SL X W e la) : SE X W e (eC la) := by
  obtain ⟨te, h1, h2⟩ := h
  refine ⟨te, h1, ⟨fun rl rs post => h2.run rl rs (post.map fun ds h1 v φ1 S1 H1 rl1 st rp post => ?_)⟩⟩
  obtain ⟨p, vs, rfl, hp, hp1, hs1, hn1, ra⟩ := rp
  refine post (.ref p) (φ1 ++ [p]) S1 H1 (rl1.celled hp1 hs1 hn1 ⟨vs, rfl, ra⟩) (st.celled hp) (.cell ?_)
  rw [← rl1.len, List.getElem?_append_right (Nat.le_refl _), Nat.sub_self]
  rfl

/-! ### names and constants -/
def eVar (i : Nat) : ES := fun σ h => match σ[i]? with
  | some (some d) => .ok d h
  | _ => .stuck
theorem se_var {i : Nat} {x : Str} (hN : X.N[i]? = some x := by rfl) (hv : Vis X.env.scope x := by first | exact Or.inl rfl | exact Or.inr (Or.inl rfl) | exact Or.inr (Or.inr rfl)) (hd : (x == ("__debug__" : Str)) = false := by decide)
    (hcd : (x == ("__classdict__" : Str)) = false := by decide) : SE X W (.Name x pos) (eVar i) := by
  refine ⟨_, pe_var hN hv hd hcd, ⟨fun {φ S H h σv σ Q} rl rs post => ?_⟩⟩
  unfold eVar at post
  cases q : σv[i]? with
  | none => rw [q] at post; exact post.elim
  | some o =>
    cases o with
    | none => rw [q] at post; exact post.elim
    | some d =>
      rw [q] at post
      obtain ⟨v, h1, h2⟩ := rs.at_ i d q
      exact ⟨v, h1, post v φ S H rl (Step.refl _ _ _) h2⟩
def eK (d : D) : ES := fun _ h => .ok d h
theorem se_k {v : V} {d : D} (h : PE X e (tC v)) (r : ∀ K φ S, Rp K φ S v d) : SE X W e (eK d) := ⟨_, h, ⟨fun {φ S H h σv σ Q} rl rs post => post v φ S H rl (Step.refl _ _ _) (r _ _ _)⟩⟩
theorem se_int {i j} : SE X W (.Constant (.int i) j pos) (eK (.int i)) := se_k pe_int fun _ _ _ => .int i
theorem se_bl {i j} : SE X W (.Constant (.bool i) j pos) (eK (.bl i)) := se_k pe_bl fun _ _ _ => .bl i
theorem se_non {j} : SE X W (.Constant .none j pos) (eK .non) := se_k pe_non fun _ _ _ => .non
theorem se_str {i j} : SE X W (.Constant (.str i) j pos) (eK (.str i)) := se_k pe_str fun _ _ _ => .str i
/-- a constant of the module -/
theorem se_glob {x : Str} {v : V} {u : Value} {d : D} (hm : X.mg x = some u) (r : RelV v u) (rd : ∀ φ S, Rp X.K φ S v d) (hg : Gl X x := by rfl) (hd : (x == ("__debug__" : Str)) = false := by decide) : SE X W (.Name x pos) (eK d) :=
  ⟨_, pe_glob hg hm r hd, ⟨fun {φ S H h σv σ Q} rl rs post => post v φ S H rl (Step.refl _ _ _) (rd _ _)⟩⟩
theorem se_globI {x : Str} {i : Int} {t : Tok} (hm : X.mg x = some (.int i t)) (hg : Gl X x := by rfl) (hd : (x == ("__debug__" : Str)) = false := by decide) : SE X W (.Name x pos) (eK (.int i)) := se_glob (v := .int i) hm ⟨t, rfl⟩ (fun _ _ => .int _) hg hd
theorem se_globS {x z : Str} {t : Tok} (hm : X.mg x = some (.str z t)) (hg : Gl X x := by rfl) (hd : (x == ("__debug__" : Str)) = false := by decide) : SE X W (.Name x pos) (eK (.str z)) := se_glob (v := .str z) hm ⟨t, rfl⟩ (fun _ _ => .str _) hg hd
/-! ### operators -/
def OpS (K : PySem.W.Frag) (r : R2) (ro : D → D → Hv → R D) : Prop := ∀ {φ : List Addr} {S H : Hp} {h : Hv} {x y : D} {v u : V} {Q : VK} {E : XK}, Rel K φ S H h → Rp K φ S v x → Rp K φ S u y → Post K (repV K) φ S H (ro x y h) Q E → r v u H Q
def OpL (K : PySem.W.Frag) (r : R2) (ro : D → D → Hv → R (List D)) : Prop := ∀ {φ : List Addr} {S H : Hp} {h : Hv} {x y : D} {v u : V} {Q : VK} {E : XK}, Rel K φ S H h → Rp K φ S v x → Rp K φ S u y → Post K (repL K) φ S H (ro x y h) Q E → r v u H Q
def UnS (K : PySem.W.Frag) (r : V → Hp → VK → Prop) (ro : D → Hv → R D) : Prop := ∀ {φ : List Addr} {S H : Hp} {h : Hv} {x : D} {v : V} {Q : VK} {E : XK}, Rel K φ S H h → Rp K φ S v x → Post K (repV K) φ S H (ro x h) Q E → r v H Q
def eOp {α : Type} (ro : D → D → Hv → R α) (fa fb : ES) : VS → Hv → R α := fun σ h => (fa σ h).bind fun x h1 => (fb σ h1).bind fun y h2 => ro x y h2
def eUn (ro : D → Hv → R D) (fa : ES) : ES := fun σ h => (fa σ h).bind fun x h1 => ro x h1
theorem sn_op {ta tb : TE} {r : R2} {ro : D → D → Hv → R D} (hr : OpS X.K r ro) (h2 : Sn X.K (repV X.K) W ta fa) (k2 : Sn X.K (repV X.K) W tb fb) : Sn X.K (repV X.K) W (tOp r ta tb) (eOp ro fa fb) := ⟨fun rl rs post =>
  h2.bind rl rs post fun x h1 v φ1 S1 H1 rl1 rs1 st rp post =>
  k2.bind rl1 rs1 post fun y h2 u φ2 S2 H2 rl2 rs2 st2 rp2 post =>
  hr rl2 (Rp.mono st2.prefix st2.sub rp) rp2 post⟩
theorem sn_opL {ta tb : TE} {r : R2} {ro : D → D → Hv → R (List D)} (hr : OpL X.K r ro) (h2 : Sn X.K (repV X.K) W ta fa) (k2 : Sn X.K (repV X.K) W tb fb) : Sn X.K (repL X.K) W (tOp r ta tb) (eOp ro fa fb) := ⟨fun rl rs post =>
  h2.bind rl rs post fun x h1 v φ1 S1 H1 rl1 rs1 st rp post =>
  k2.bind rl1 rs1 post fun y h2 u φ2 S2 H2 rl2 rs2 st2 rp2 post =>
  hr rl2 (Rp.mono st2.prefix st2.sub rp) rp2 post⟩
theorem se_op {op : Operator} {r : R2} {ro : D → D → Hv → R D} (ho : OpR X (binaryOp op) r) (hr : OpS X.K r ro) (ha : SE X W a fa) (hb : SE X W b fb) : SE X W (.BinOp a op b pos) (eOp ro fa fb) := by
  obtain ⟨ta, h1, h2⟩ := ha
  obtain ⟨tb, k1, k2⟩ := hb
  exact ⟨_, pe_op ho h1 k1, sn_op hr h2 k2⟩
theorem sl_op {op : Operator} {r : R2} {ro : D → D → Hv → R (List D)} (ho : OpR X (binaryOp op) r) (hr : OpL X.K r ro) (ha : SE X W a fa) (hb : SE X W b fb) : SL X W (.BinOp a op b pos) (eOp ro fa fb) := by
  obtain ⟨ta, h1, h2⟩ := ha
  obtain ⟨tb, k1, k2⟩ := hb
  exact ⟨_, pe_op ho h1 k1, sn_opL hr h2 k2⟩
theorem se_cmp {op : CmpOp} {r : R2} {ro : D → D → Hv → R D} (ho : OpR X (compareOp op) r) (hr : OpS X.K r ro) (ha : SE X W a fa) (hb : SE X W b fb) (hm : behindInMarks op b = false) : SE X W (.Compare a [op] [b] pos) (eOp ro fa fb) := by
  obtain ⟨ta, h1, h2⟩ := ha
  obtain ⟨tb, k1, k2⟩ := hb
  exact ⟨_, pe_cmpR ho h1 k1 hm, sn_op hr h2 k2⟩
theorem sn_un {ta : TE} {r : V → Hp → VK → Prop} {ro : D → Hv → R D} (hr : UnS X.K r ro) (h2 : Sn X.K (repV X.K) W ta fa) : Sn X.K (repV X.K) W (tUn r ta) (eUn ro fa) := ⟨fun rl rs post =>
  h2.bind rl rs post fun x h1 v φ1 S1 H1 rl1 rs1 st rp post => hr rl1 rp post⟩
theorem se_un {op : UnaryOp} {r : V → Hp → VK → Prop} {ro : D → Hv → R D} (ho : UnR X (unaryOp op) r) (hr : UnS X.K r ro) (ha : SE X W a fa) : SE X W (.UnaryOp op a pos) (eUn ro fa) := by
  obtain ⟨ta, h1, h2⟩ := ha
  exact ⟨_, pe_un ho h1, sn_un hr h2⟩
/-- a bool of a value -/
def toB (f : ES) : CS := fun σ h => (f σ h).bind fun d h1 => match d with
  | .bl b => .ok b h1
  | _ => .stuck
theorem sn_B {te : TE} (h2 : Sn X.K (repV X.K) W te fa) : Sn X.K repB W (tTest te) (toB fa) := ⟨fun rl rs post =>
  h2.bind rl rs post fun x h1 v φ1 S1 H1 rl1 rs1 st rp post => by
    cases x with
    | bl b =>
      cases (show Rp _ _ _ _ _ from rp)
      exact ⟨b, rfl, post b φ1 S1 H1 rl1 (Step.refl _ _ _) rfl⟩
    | _ => exact post.elim⟩
theorem st_cmp {op : CmpOp} {r : R2} {ro : D → D → Hv → R D} (ho : OpR X (compareOp op) r) (hr : OpS X.K r ro) (ha : SE X W a fa) (hb : SE X W b fb) (hm : behindInMarks op b = false) : ST X W (.Compare a [op] [b] pos) (toB (eOp ro fa fb)) := by
  obtain ⟨ta, h1, h2⟩ := ha
  obtain ⟨tb, k1, k2⟩ := hb
  exact ⟨_, pt_cmpR ho h1 k1 hm, sn_B (sn_op hr h2 k2)⟩
/-- an expression that gives a bool, as a test -/
theorem st_val (ha : SE X W e fa) (he : ∀ whole, isTrue e X.env whole = (do let v ← whole; standAt e.pos; holding [v] (truthy v)) := by intro _; rfl) : ST X W e (toB fa) := by
  obtain ⟨ta, h1, h2⟩ := ha
  exact ⟨_, pt_val h1 he, sn_B h2⟩
end
end VD

set_option Elab.async false
set_option linter.all false
set_option maxRecDepth 100000
set_option maxHeartbeats 4000000
namespace VD
open PySem PySem.Spec PyProof.Rows L2
theorem line_eq : sizeLine = 16777216 := sizeLine_eq

section
variable {X : Cx} {W : WX} {e a b c : Expr} {es rest : List Expr} {pos : Pos} {fa fb fc : ES} {la lb : LS} {ca cb : CS}
/-! ### and, or, not, if -/
def cAnd (f g : CS) : CS := fun σ h => (f σ h).bind fun k h1 => if k then g σ h1 else .ok false h1
def cOr (f g : CS) : CS := fun σ h => (f σ h).bind fun k h1 => if k then .ok true h1 else g σ h1
def cNot (f : CS) : CS := fun σ h => (f σ h).bind fun k h1 => .ok (!k) h1
def eIf {α : Type} (c : CS) (f g : VS → Hv → R α) : VS → Hv → R α := fun σ h => (c σ h).bind fun k h1 => if k then f σ h1 else g σ h1
theorem sw_and1 (ha : ST X W a ca) : SW X W (.BoolOp .And [a] pos) ca := by
  obtain ⟨ta, h1, h2⟩ := ha
  exact ⟨_, pw_and1 h1, h2⟩
theorem sw_or1 (ha : ST X W a ca) : SW X W (.BoolOp .Or [a] pos) ca := by
  obtain ⟨ta, h1, h2⟩ := ha
  exact ⟨_, pw_or1 h1, h2⟩
theorem sw_and (ha : ST X W a ca) (hb : SW X W (.BoolOp .And (b :: rest) pos) cb) : SW X W (.BoolOp .And (a :: b :: rest) pos) (cAnd ca cb) := by
  obtain ⟨ta, h1, h2⟩ := ha
  obtain ⟨tb, k1, k2⟩ := hb
  refine ⟨_, pw_and h1 k1, ⟨fun rl rs post => h2.bind rl rs post fun x h1 v φ1 S1 H1 rl1 rs1 st rp post => ?_⟩⟩
  cases (show v = x from rp)
  cases x with
  | true => exact k2.run rl1 rs1 post
  | false => exact post false φ1 S1 H1 rl1 (Step.refl _ _ _) rfl
theorem sw_or (ha : ST X W a ca) (hb : SW X W (.BoolOp .Or (b :: rest) pos) cb) : SW X W (.BoolOp .Or (a :: b :: rest) pos) (cOr ca cb) := by
  obtain ⟨ta, h1, h2⟩ := ha
  obtain ⟨tb, k1, k2⟩ := hb
  refine ⟨_, pw_or h1 k1, ⟨fun rl rs post => h2.bind rl rs post fun x h1 v φ1 S1 H1 rl1 rs1 st rp post => ?_⟩⟩
  cases (show v = x from rp)
  cases x with
  | false => exact k2.run rl1 rs1 post
  | true => exact post true φ1 S1 H1 rl1 (Step.refl _ _ _) rfl
theorem st_w (h : SW X W e ca) : ST X W e ca := let ⟨t, h1, h2⟩ := h; ⟨t, h1.pt, h2⟩
theorem st_not (ha : ST X W a ca) : ST X W (.UnaryOp .Not a pos) (cNot ca) := by
  obtain ⟨ta, h1, h2⟩ := ha
  refine ⟨_, pt_not h1, ⟨fun rl rs post => h2.bind rl rs post fun x h1 v φ1 S1 H1 rl1 rs1 st rp post => ?_⟩⟩
  cases (show v = x from rp)
  exact post _ φ1 S1 H1 rl1 (Step.refl _ _ _) rfl
theorem se_if (hc : ST X W c ca) (ha : SE X W a fa) (hb : SE X W b fb) : SE X W (.IfExp c a b pos) (eIf ca fa fb) := by
  obtain ⟨tc, h1, h2⟩ := hc
  obtain ⟨ta, k1, k2⟩ := ha
  obtain ⟨tb, l1, l2⟩ := hb
  refine ⟨_, pe_ifExp h1 k1 l1, ⟨fun rl rs post => h2.bind rl rs post fun x h1 v φ1 S1 H1 rl1 rs1 st rp post => ?_⟩⟩
  cases (show v = x from rp)
  cases x with
  | true => exact k2.run rl1 rs1 post
  | false => exact l2.run rl1 rs1 post
/-- a value's truth -/
def dTru (h : Hv) : D → Option Bool
  | .non => some false
  | .bl b => some b
  | .int i => some (i != 0)
  | .lst xs => some (!xs.isEmpty)
  | .fz xs => some (!xs.isEmpty)
  | .tup xs => some (!xs.isEmpty)
  | .str x => if x.length ≤ 16777216 then some (x.length != 0) else none
  | .cell n => match h[n]? with
    | some (.lst xs) => some (!xs.isEmpty)
    | some (.dK kvs) => some (!kvs.isEmpty)
    | _ => none
  | .raw _ => none
  | .dct _ _ => none
  | .obj _ _ _ => none
  | .exv _ _ _ _ => none
theorem RpA.isEmpty {K : PySem.W.Frag} {φ : List Addr} {S : Hp} {vs : List V} {ds : List D} (h : RpA K φ S vs ds) : vs.isEmpty = ds.isEmpty := by
  cases h <;> rfl
theorem dTru_ok {K : PySem.W.Frag} {φ : List Addr} {S H : Hp} {h : Hv} {d : D} {v : V} {k : Bool} (rl : Rel K φ S H h) (rp : Rp K φ S v d) (e : dTru h d = some k) : TruV K v H k := by
  cases rp with
  | non => exact (Option.some.inj e).symm
  | bl b => exact (Option.some.inj e).symm
  | int i => exact (Option.some.inj e).symm
  | str x =>
    simp only [dTru] at e
    split at e
    · next q =>
      refine ⟨by rw [line_eq]; exact q, ?_⟩
      have e' := (Option.some.inj e).symm
      rw [e']
      cases x.length <;> rfl
    · cases e
  | lst h1 h2 => exact .inl ⟨_, .inl (.inl (rl.sub _ _ h1)), by rw [h2.isEmpty]; exact (Option.some.inj e).symm⟩
  | fz h1 h2 => exact .inl ⟨_, rl.sub.sql h1, by rw [h2.isEmpty]; exact (Option.some.inj e).symm⟩
  | tup h1 h2 => exact .inr (.inl ⟨_, rl.sub.sqt h1, by rw [h2.isEmpty]; exact (Option.some.inj e).symm⟩)
  | @cell a n h1 =>
    obtain ⟨c, hc⟩ := rl.at h1
    obtain ⟨_, o, ho, rc⟩ := rl.cel _ _ _ h1 hc
    simp only [dTru] at e
    rw [hc] at e
    cases c with
    | lst ds =>
      obtain ⟨vs, rfl, ra⟩ := rc
      exact .inl ⟨vs, .inl (.inl ho), by rw [ra.isEmpty]; exact (Option.some.inj e).symm⟩
    | dK kvs =>
      obtain ⟨kv, rfl, ek, ra⟩ := rc
      refine .inr (.inr ⟨kv, ho, ?_⟩)
      have : kv.isEmpty = kvs.isEmpty := by
        have h1 := congrArg List.length ek
        rw [List.length_map, List.length_map] at h1
        cases kv <;> cases kvs <;> simp_all
      rw [this]
      exact (Option.some.inj e).symm
    | dF kvs => cases e
    | ins C fs => cases e
    | dN w kvs => cases e
  | raw v => cases e
  | dct h1 h2 h3 => cases e
  | obj h1 h2 h3 => cases e
  | exv h1 h2 => cases e
def cTru (f : ES) : CS := fun σ h => (f σ h).bind fun d h1 => match dTru h1 d with
  | some b => .ok b h1
  | none => .stuck
theorem st_tru (ha : SE X W e fa) (he : ∀ whole, isTrue e X.env whole = (do let v ← whole; standAt e.pos; holding [v] (truthy v)) := by intro _; rfl) : ST X W e (cTru fa) := by
  obtain ⟨ta, h1, h2⟩ := ha
  refine ⟨_, pt_truth h1 he, ⟨fun rl rs post => h2.bind rl rs post fun x h1 v φ1 S1 H1 rl1 rs1 st rp post => ?_⟩⟩
  cases q : dTru h1 x with
  | none => rw [q] at post; exact post.elim
  | some k =>
    rw [q] at post
    exact ⟨k, dTru_ok rl1 rp q, post k φ1 S1 H1 rl1 (Step.refl _ _ _) rfl⟩

/-! ### arguments, displays -/
def aNil : LS := fun _ h => .ok [] h
def aCons (f : ES) (g : LS) : LS := fun σ h => (f σ h).bind fun d h1 => (g σ h1).bind fun ds h2 => .ok (d :: ds) h2
theorem sa_nil : SA X W [] aNil := ⟨_, pa_nil, ⟨fun {φ S H h σv σ Q} rl rs post => post [] φ S H rl (Step.refl _ _ _) .nil⟩⟩
theorem sa_cons (ha : SE X W e fa) (hr : SA X W es la) (hs : starEach (e :: es) X.env = (false, eval e X.env) :: starEach es X.env := by rfl) : SA X W (e :: es) (aCons fa la) := by
  obtain ⟨ta, h1, h2⟩ := ha
  obtain ⟨tr, k1, k2⟩ := hr
  exact ⟨_, pa_cons h1 k1 hs, ⟨fun rl rs post => h2.bind rl rs post fun x h1 v φ1 S1 H1 rl1 rs1 st rp post =>
    k2.bind rl1 rs1 post fun ds h2 vs φ2 S2 H2 rl2 rs2 st2 rp2 post => post (v :: vs) φ2 S2 H2 rl2 (Step.refl _ _ _) (.cons (Rp.mono st2.prefix st2.sub rp) rp2)⟩⟩
def eTup (g : LS) : ES := fun σ h => (g σ h).bind fun ds h1 => if ds.length ≤ 16777216 then .ok (.tup ds) h1 else .stuck
theorem se_tup {x1} (ha : SA X W es la) : SE X W (.Tuple es x1 pos) (eTup la) := by
  obtain ⟨ta, h1, h2⟩ := ha
  refine ⟨_, pe_tup h1, ⟨fun rl rs post => h2.bind rl rs post fun ds h1 vs φ1 S1 H1 rl1 rs1 st rp post => ?_⟩⟩
  have ra : RpA X.K φ1 S1 vs ds := rp
  by_cases q : ds.length ≤ 16777216
  · rw [if_pos q] at post
    refine ⟨by rw [ra.length, line_eq]; exact q, fun p hp => ?_⟩
    obtain ⟨r2, s2⟩ := rl1.lay (o := .tup vs) hp
    exact post (.ref p) φ1 _ _ r2 s2 (.tup (.inl (.inl upd_same)) (ra.mono (Pre.refl _) s2.sub))
  · rw [if_neg q] at post
    exact post.elim
def lLst (g : LS) : LS := fun σ h => (g σ h).bind fun ds h1 => if ds.length ≤ 16777216 then .ok ds h1 else .stuck
theorem sl_lst (ha : SA X W es la) : SL X W (.List es pos) (lLst la) := by
  obtain ⟨ta, h1, h2⟩ := ha
  refine ⟨_, pe_lst h1, ⟨fun rl rs post => h2.bind rl rs post fun ds h1 vs φ1 S1 H1 rl1 rs1 st rp post => ?_⟩⟩
  have ra : RpA X.K φ1 S1 vs ds := rp
  by_cases q : ds.length ≤ 16777216
  · rw [if_pos q] at post
    refine ⟨by rw [ra.length, line_eq]; exact q, fun p hp => ?_⟩
    obtain ⟨r2, s2⟩ := rl1.hold (o := .lst vs) hp
    exact post (.ref p) φ1 _ _ r2 s2 ⟨p, vs, rfl, hp, upd_same, rl1.snone hp, rl1.notin hp, ra⟩
  · rw [if_neg q] at post
    exact post.elim

/-! ### value or, and: of bools -/
def eAndV (f g : ES) : ES := fun σ h => (f σ h).bind fun d h1 => match d with
  | .bl true => g σ h1
  | .bl false => .ok (.bl false) h1
  | _ => .stuck
def eOrV (f g : ES) : ES := fun σ h => (f σ h).bind fun d h1 => match d with
  | .bl false => g σ h1
  | .bl true => .ok (.bl true) h1
  | _ => .stuck
def eNotV (f : ES) : ES := fun σ h => (f σ h).bind fun d h1 => match d with
  | .bl b => .ok (.bl (!b)) h1
  | _ => .stuck
theorem se_one {op} (h : SE X W a fa) : SE X W (.BoolOp op [a] pos) fa := let ⟨t, h1, h2⟩ := h; ⟨t, pe_one h1, h2⟩
theorem se_and (ha : SE X W a fa) (hb : SE X W (.BoolOp .And (b :: rest) pos) fb) : SE X W (.BoolOp .And (a :: b :: rest) pos) (eAndV fa fb) := by
  obtain ⟨ta, h1, h2⟩ := ha
  obtain ⟨tb, k1, k2⟩ := hb
  refine ⟨_, pe_and h1 k1, ⟨fun rl rs post => h2.bind rl rs post fun x h1 v φ1 S1 H1 rl1 rs1 st rp post => ?_⟩⟩
  cases x with
  | bl q =>
    cases (show Rp _ _ _ _ _ from rp)
    cases q with
    | true => exact ⟨true, rfl, k2.run rl1 rs1 post⟩
    | false => exact ⟨false, rfl, post _ φ1 S1 H1 rl1 (Step.refl _ _ _) (.bl false)⟩
  | _ => exact post.elim
theorem se_or (ha : SE X W a fa) (hb : SE X W (.BoolOp .Or (b :: rest) pos) fb) : SE X W (.BoolOp .Or (a :: b :: rest) pos) (eOrV fa fb) := by
  obtain ⟨ta, h1, h2⟩ := ha
  obtain ⟨tb, k1, k2⟩ := hb
  refine ⟨_, pe_or h1 k1, ⟨fun rl rs post => h2.bind rl rs post fun x h1 v φ1 S1 H1 rl1 rs1 st rp post => ?_⟩⟩
  cases x with
  | bl q =>
    cases (show Rp _ _ _ _ _ from rp)
    cases q with
    | false => exact ⟨false, rfl, k2.run rl1 rs1 post⟩
    | true => exact ⟨true, rfl, post _ φ1 S1 H1 rl1 (Step.refl _ _ _) (.bl true)⟩
  | _ => exact post.elim
theorem se_not (ha : SE X W a fa) : SE X W (.UnaryOp .Not a pos) (eNotV fa) := by
  obtain ⟨ta, h1, h2⟩ := ha
  refine ⟨_, pe_not h1, ⟨fun rl rs post => h2.bind rl rs post fun x h1 v φ1 S1 H1 rl1 rs1 st rp post => ?_⟩⟩
  cases x with
  | bl q =>
    cases (show Rp _ _ _ _ _ from rp)
    exact ⟨q, rfl, post _ φ1 S1 H1 rl1 (Step.refl _ _ _) (.bl _)⟩
  | _ => exact post.elim
end
end VD

set_option Elab.async false
set_option linter.all false
set_option maxRecDepth 100000
set_option maxHeartbeats 4000000
namespace VD
open PySem PySem.Spec PyProof.Rows L2
noncomputable section

/-! ### data as the library's -/
def optAll {α β : Type} (g : β → Option α) : List β → Option (List α)
  | [] => some []
  | d :: ds => match g d with
    | some a => (match optAll g ds with
      | some as => some (a :: as)
      | none => none)
    | none => none
def toPy (h : Hv) : Nat → D → Option PyData
  | 0, _ => none
  | _ + 1, .non => some .none
  | _ + 1, .bl b => some (.bool b)
  | _ + 1, .int i => some (.int i)
  | _ + 1, .str x => some (.str x)
  | f + 1, .lst ds => (optAll (toPy h f) ds).map .list
  | f + 1, .fz ds => (optAll (toPy h f) ds).map .list
  | f + 1, .tup ds => (optAll (toPy h f) ds).map .tuple
  | f + 1, .cell n => match h[n]? with
    | some (.lst ds) => (optAll (toPy h f) ds).map .list
    | _ => none
  | _ + 1, .raw _ => none
  | _ + 1, .dct _ _ => none
  | _ + 1, .obj _ _ _ => none
  | _ + 1, .exv _ _ _ _ => none
section
variable {K : PySem.W.Frag} {φ : List Addr} {S H : Hp} {h : Hv}
theorem dp_of (rl : Rel K φ S H h) : ∀ (f : Nat) (d : D) (v : V) (p : PyData), Rp K φ S v d → toPy h f d = some p → Dp K H v p := by
  intro f
  induction f with
  | zero => intro d v p _ e; cases e
  | succ f ih =>
    have all : ∀ (ds : List D) (vs : List V) (ps : List PyData), RpA K φ S vs ds → optAll (toPy h f) ds = some ps → DpAll K H vs ps := by
      intro ds
      induction ds with
      | nil => intro vs ps r e; cases r; cases e; exact .nil
      | cons d ds ih2 =>
        intro vs ps r e
        cases r with
        | cons r t =>
          simp only [optAll] at e
          cases q : toPy h f d with
          | none => rw [q] at e; cases e
          | some p0 =>
            rw [q] at e
            cases q2 : optAll (toPy h f) ds with
            | none => simp only [q2] at e; cases e
            | some p1 =>
              simp only [q2] at e
              cases e
              exact .cons (ih d _ p0 r q) (ih2 _ p1 t q2)
    intro d v p r e
    cases r with
    | non => cases e; exact .non
    | bl b => cases e; exact .bl b
    | int i => cases e; exact .int i
    | str x => cases e; exact .str x
    | @lst a vs ds h1 h2 =>
      obtain ⟨ps, q, rfl⟩ := Option.map_eq_some_iff.mp (show (optAll (toPy h f) ds).map .list = some p from e)
      exact .lst (.inl (.inl (rl.sub _ _ h1))) (all ds vs ps h2 q)
    | @fz a vs ds h1 h2 =>
      obtain ⟨ps, q, rfl⟩ := Option.map_eq_some_iff.mp (show (optAll (toPy h f) ds).map .list = some p from e)
      exact .lst (rl.sub.sql h1) (all ds vs ps h2 q)
    | @tup a vs ds h1 h2 =>
      obtain ⟨ps, q, rfl⟩ := Option.map_eq_some_iff.mp (show (optAll (toPy h f) ds).map .tuple = some p from e)
      exact .tup (rl.sub.sqt h1) (all ds vs ps h2 q)
    | @cell a n h1 =>
      obtain ⟨c, hc⟩ := rl.at h1
      obtain ⟨_, o, ho, rc⟩ := rl.cel _ _ _ h1 hc
      simp only [toPy] at e
      rw [hc] at e
      cases c with
      | lst ds =>
        obtain ⟨vs, rfl, ra⟩ := rc
        obtain ⟨ps, q, rfl⟩ := Option.map_eq_some_iff.mp (show (optAll (toPy h f) ds).map .list = some p from e)
        exact .lst (.inl (.inl ho)) (all ds vs ps ra q)
      | dK kvs => cases e
      | dF kvs => cases e
      | ins C fs => cases e
      | dN w kvs => cases e
    | raw v => cases e
    | dct h1 h2 h3 => cases e
    | obj h1 h2 h3 => cases e
    | exv h1 h2 => cases e
/-- a list to be read, a tuple -/
def lOf (h : Hv) : D → Option (List D)
  | .lst xs => some xs
  | .fz xs => some xs
  | .cell n => match h[n]? with
    | some (.lst xs) => some xs
    | _ => none
  | _ => none
def tOf : D → Option (List D)
  | .tup xs => some xs
  | _ => none
theorem lOf_ok (rl : Rel K φ S H h) {d : D} {v : V} {ds : List D} (r : Rp K φ S v d) (e : lOf h d = some ds) : ∃ a vs, v = .ref a ∧ SqL K H a vs ∧ RpA K φ S vs ds := by
  cases r with
  | lst h1 h2 => cases e; exact ⟨_, _, rfl, .inl (.inl (rl.sub _ _ h1)), h2⟩
  | fz h1 h2 => cases e; exact ⟨_, _, rfl, rl.sub.sql h1, h2⟩
  | @cell a n h1 =>
    obtain ⟨c, hc⟩ := rl.at h1
    obtain ⟨_, o, ho, rc⟩ := rl.cel _ _ _ h1 hc
    simp only [lOf] at e
    rw [hc] at e
    cases c with
    | lst xs =>
      obtain ⟨vs, rfl, ra⟩ := rc
      cases e
      exact ⟨a, vs, rfl, .inl (.inl ho), ra⟩
    | dK kvs => cases e
    | dF kvs => cases e
    | ins C fs => cases e
    | dN w kvs => cases e
  | _ => cases e
theorem tOf_ok (rl : Rel K φ S H h) {d : D} {v : V} {ds : List D} (r : Rp K φ S v d) (e : tOf d = some ds) : ∃ a vs, v = .ref a ∧ SqT K H a vs ∧ RpA K φ S vs ds := by
  cases r with
  | tup h1 h2 => cases e; exact ⟨_, _, rfl, rl.sub.sqt h1, h2⟩
  | _ => cases e
/-- a list that is tracked as it stands -/
def kOf (h : Hv) : D → Option (List D)
  | .lst xs => some xs
  | .cell n => match h[n]? with
    | some (.lst xs) => some xs
    | _ => none
  | _ => none
theorem kOf_ok (rl : Rel K φ S H h) {d : D} {v : V} {ds : List D} (r : Rp K φ S v d) (e : kOf h d = some ds) : ∃ a vs, v = .ref a ∧ H a = some (.lst vs) ∧ RpA K φ S vs ds := by
  cases r with
  | lst h1 h2 => cases e; exact ⟨_, _, rfl, rl.sub _ _ h1, h2⟩
  | @cell a n h1 =>
    obtain ⟨c, hc⟩ := rl.at h1
    obtain ⟨_, o, ho, rc⟩ := rl.cel _ _ _ h1 hc
    simp only [kOf] at e
    rw [hc] at e
    cases c with
    | lst xs =>
      obtain ⟨vs, rfl, ra⟩ := rc
      cases e
      exact ⟨a, vs, rfl, ho, ra⟩
    | dK kvs => cases e
    | dF kvs => cases e
    | ins C fs => cases e
    | dN w kvs => cases e
  | _ => cases e
/-- flat values -/
def toV : D → Option V
  | .non => some .non
  | .bl b => some (.bl b)
  | .int i => some (.int i)
  | .str x => some (.str x)
  | _ => none
theorem toV_ok {d : D} {v w : V} (r : Rp K φ S v d) (e : toV d = some w) : v = w ∧ flatV v = true := by
  cases r <;> cases e <;> exact ⟨rfl, rfl⟩
theorem toVs_ok {ds : List D} {vs ws : List V} (r : RpA K φ S vs ds) (e : optAll toV ds = some ws) : vs = ws ∧ vs.all flatV = true := by
  induction ds generalizing vs ws with
  | nil => cases r; cases e; exact ⟨rfl, rfl⟩
  | cons d ds ih =>
    cases r with
    | cons r t =>
      simp only [optAll] at e
      cases q : toV d with
      | none => rw [q] at e; cases e
      | some w0 =>
        rw [q] at e
        cases q2 : optAll toV ds with
        | none => simp only [q2] at e; cases e
        | some w1 =>
          simp only [q2] at e
          cases e
          obtain ⟨e1, f1⟩ := toV_ok r q
          obtain ⟨e2, f2⟩ := ih t q2
          exact ⟨by rw [e1, e2], by rw [List.all_cons, f1, f2]; rfl⟩
def toI : D → Option Int
  | .int i => some i
  | _ => none
theorem toIs_ok {ds : List D} {vs : List V} {ns : List Int} (r : RpA K φ S vs ds) (e : optAll toI ds = some ns) : vs = ns.map V.int := by
  induction ds generalizing vs ns with
  | nil => cases r; cases e; rfl
  | cons d ds ih =>
    cases r with
    | cons r t =>
      simp only [optAll] at e
      cases q : toI d with
      | none => rw [q] at e; cases e
      | some w0 =>
        rw [q] at e
        cases q2 : optAll toI ds with
        | none => simp only [q2] at e; cases e
        | some w1 =>
          simp only [q2] at e
          cases e
          cases d with
          | int i => cases q; cases r; rw [ih t q2]; rfl
          | _ => cases q
def toBl : D → Option Bool
  | .bl i => some i
  | _ => none
theorem toBls_ok {ds : List D} {vs : List V} {ns : List Bool} (r : RpA K φ S vs ds) (e : optAll toBl ds = some ns) : vs = ns.map V.bl := by
  induction ds generalizing vs ns with
  | nil => cases r; cases e; rfl
  | cons d ds ih =>
    cases r with
    | cons r t =>
      simp only [optAll] at e
      cases q : toBl d with
      | none => rw [q] at e; cases e
      | some w0 =>
        rw [q] at e
        cases q2 : optAll toBl ds with
        | none => simp only [q2] at e; cases e
        | some w1 =>
          simp only [q2] at e
          cases e
          cases d with
          | bl i => cases q; cases r; rw [ih t q2]; rfl
          | _ => cases q
def toS : D → Option Str
  | .str i => some i
  | _ => none
theorem toSs_ok {ds : List D} {vs : List V} {ns : List Str} (r : RpA K φ S vs ds) (e : optAll toS ds = some ns) : vs = ns.map V.str := by
  induction ds generalizing vs ns with
  | nil => cases r; cases e; rfl
  | cons d ds ih =>
    cases r with
    | cons r t =>
      simp only [optAll] at e
      cases q : toS d with
      | none => rw [q] at e; cases e
      | some w0 =>
        rw [q] at e
        cases q2 : optAll toS ds with
        | none => simp only [q2] at e; cases e
        | some w1 =>
          simp only [q2] at e
          cases e
          cases d with
          | str i => cases q; cases r; rw [ih t q2]; rfl
          | _ => cases q
end

/-! ### operators by their operands -/
section
variable {X : Cx} {K : PySem.W.Frag}
def oSub : D → D → Hv → R D
  | .int i, .int j, h => .ok (.int (i - j)) h
  | _, _, _ => .stuck
theorem os_sub : OpS K (rI0 fun i j => .int (i - j)) oSub := by
  intro φ S H h x y v u Q E rl rx ry post
  cases rx <;> cases ry <;> first
    | exact post.elim
    | exact ⟨_, _, rfl, rfl, post _ φ S H rl (Step.refl _ _ _) (.int _)⟩
def mulOk (i j : Int) : Bool := decide (i.natAbs.log2 + j.natAbs.log2 < 1000000)
def oMul : D → D → Hv → R D
  | .int i, .int j, h => if mulOk i j then .ok (.int (i * j)) h else .stuck
  | _, _, _ => .stuck
theorem os_mul : OpS K (rI CMulW fun i j => .int (i * j)) oMul := by
  intro φ S H h x y v u Q E rl rx ry post
  cases rx <;> cases ry <;> first
    | exact post.elim
    | skip
  next i j =>
    simp only [oMul] at post
    by_cases q : mulOk i j = true
    · rw [if_pos q] at post
      exact ⟨_, _, rfl, rfl, (show CMulW _ _ by unfold mulOk at q; exact of_decide_eq_true (p := _ < _) q), post _ φ S H rl (Step.refl _ _ _) (.int _)⟩
    · rw [if_neg q] at post
      exact post.elim
def oMod : D → D → Hv → R D
  | .int i, .int j, h => if 0 < j then .ok (.int (i % j)) h else .stuck
  | _, _, _ => .stuck
theorem os_mod : OpS K (rI (fun _ j => 0 < j) fun i j => .int (i % j)) oMod := by
  intro φ S H h x y v u Q E rl rx ry post
  cases rx <;> cases ry <;> first
    | exact post.elim
    | skip
  next i j =>
    simp only [oMod] at post
    by_cases q : 0 < j
    · rw [if_pos q] at post
      exact ⟨_, _, rfl, rfl, q, post _ φ S H rl (Step.refl _ _ _) (.int _)⟩
    · rw [if_neg q] at post
      exact post.elim
def divOk (j : Int) : Bool := decide (0 < j ∧ j.natAbs.log2 < 9000)
def oFdiv : D → D → Hv → R D
  | .int i, .int j, h => if divOk j then .ok (.int (i / j)) h else .stuck
  | _, _, _ => .stuck
theorem os_fdiv : OpS K (rI CDivW fun i j => .int (i / j)) oFdiv := by
  intro φ S H h x y v u Q E rl rx ry post
  cases rx <;> cases ry <;> first
    | exact post.elim
    | skip
  next i j =>
    simp only [oFdiv] at post
    by_cases q : divOk j = true
    · rw [if_pos q] at post
      exact ⟨_, _, rfl, rfl, (show CDivW _ _ by unfold divOk at q; exact of_decide_eq_true (p := _ ∧ _) q), post _ φ S H rl (Step.refl _ _ _) (.int _)⟩
    · rw [if_neg q] at post
      exact post.elim
def powOk (i j : Int) : Bool := decide (0 ≤ j ∧ j ≤ 1000000 ∧ i.natAbs < 2 ^ 64)
def oPow : D → D → Hv → R D
  | .int i, .int j, h => if powOk i j then .ok (.int (i ^ j.toNat)) h else .stuck
  | _, _, _ => .stuck
theorem os_pow : OpS K (rI CPow fun i j => .int (i ^ j.toNat)) oPow := by
  intro φ S H h x y v u Q E rl rx ry post
  cases rx <;> cases ry <;> first
    | exact post.elim
    | skip
  next i j =>
    simp only [oPow] at post
    by_cases q : powOk i j = true
    · rw [if_pos q] at post
      exact ⟨_, _, rfl, rfl, (show CPow _ _ by unfold powOk at q; exact of_decide_eq_true (p := _ ∧ _) q), post _ φ S H rl (Step.refl _ _ _) (.int _)⟩
    · rw [if_neg q] at post
      exact post.elim
def uNeg : D → Hv → R D
  | .int i, h => .ok (.int (-i)) h
  | _, _ => .stuck
theorem us_neg : UnS K (rU fun i => .int (-i)) uNeg := by
  intro φ S H h x v Q E rl rx post
  cases rx <;> first
    | exact post.elim
    | exact ⟨_, rfl, post _ φ S H rl (Step.refl _ _ _) (.int _)⟩
/-- + of ints, texts, tuples -/
def rAddA (K : PySem.W.Frag) : R2 := fun x y H Q => rI0 (fun i j => .int (i + j)) x y H Q ∨ (∃ i j, x = .str i ∧ y = .str j ∧ i.length + j.length ≤ sizeLine ∧ Q (.str (i ++ j)) H) ∨ rCatT K x y H Q
theorem op_addA : OpR X (binaryOp .Add) (rAddA X.K) := op_add.or (op_add_str.or op_catT)
def oAdd : D → D → Hv → R D
  | .int i, .int j, h => .ok (.int (i + j)) h
  | .str i, .str j, h => if i.length + j.length ≤ 16777216 then .ok (.str (i ++ j)) h else .stuck
  | .tup (x :: xs), .tup ys, h => if (x :: xs).length + ys.length ≤ 16777216 then .ok (.tup (x :: xs ++ ys)) h else .stuck
  | _, _, _ => .stuck
theorem os_add : OpS K (rAddA K) oAdd := by
  intro φ S H h x y v u Q E rl rx ry post
  cases rx with
  | int i =>
    cases ry with
    | int j => exact .inl ⟨_, _, rfl, rfl, post _ φ S H rl (Step.refl _ _ _) (.int _)⟩
    | _ => exact post.elim
  | str i =>
    cases ry with
    | str j =>
      simp only [oAdd] at post
      by_cases q : i.length + j.length ≤ 16777216
      · rw [if_pos q] at post
        exact .inr (.inl ⟨_, _, rfl, rfl, by rw [line_eq]; exact q, post _ φ S H rl (Step.refl _ _ _) (.str _)⟩)
      · rw [if_neg q] at post
        exact post.elim
    | _ => exact post.elim
  | tup h1 h2 =>
    cases h2 with
    | nil => cases ry <;> exact post.elim
    | @cons v0 vs d0 ds r0 rr =>
      cases ry with
      | @tup b ws es k1 k2 =>
        simp only [oAdd] at post
        by_cases q : (d0 :: ds).length + es.length ≤ 16777216
        · rw [if_pos q] at post
          refine .inr (.inr ⟨_, _, v0 :: vs, ws, rfl, rfl, rl.sub.sqt h1, rl.sub.sqt k1, List.cons_ne_nil _ _, ?_, fun e => ?_, fun e p hp => ?_⟩)
          · rw [line_eq, k2.length, List.length_cons, rr.length, ← List.length_cons (a := d0)]
            exact q
          · subst e
            cases k2
            rw [List.append_nil] at post
            exact post _ φ S H rl (Step.refl _ _ _) (.tup h1 (.cons r0 rr))
          · obtain ⟨r2, s2⟩ := rl.lay (o := .tup (v0 :: vs ++ ws)) hp
            exact post _ φ _ _ r2 s2 (.tup (.inl (.inl upd_same)) (((RpA.cons r0 rr).append k2).mono (Pre.refl _) s2.sub))
        · rw [if_neg q] at post
          exact post.elim
      | _ => exact post.elim
  | _ => exact post.elim
/-- + of lists -/
def oCat : D → D → Hv → R (List D) := fun x y h => match kOf h x, kOf h y with
  | some xs, some ys => if xs.length + ys.length ≤ 16777216 then .ok (xs ++ ys) h else .stuck
  | _, _ => .stuck
theorem ol_cat : OpL K rCat oCat := by
  intro φ S H h x y v u Q E rl rx ry post
  simp only [oCat] at post
  cases e1 : kOf h x with
  | none => simp only [e1] at post; exact post.elim
  | some xs =>
    cases e2 : kOf h y with
    | none => simp only [e1, e2] at post; exact post.elim
    | some ys =>
      simp only [e1, e2] at post
      by_cases q : xs.length + ys.length ≤ 16777216
      · rw [if_pos q] at post
        obtain ⟨a, vs, rfl, ha, ra⟩ := kOf_ok rl rx e1
        obtain ⟨b, ws, rfl, hb, rb⟩ := kOf_ok rl ry e2
        refine ⟨a, b, vs, ws, rfl, rfl, ha, hb, by rw [line_eq, ra.length, rb.length]; exact q, fun p hp => ?_⟩
        obtain ⟨r2, s2⟩ := rl.hold (o := .lst (vs ++ ws)) hp
        exact post _ φ _ _ r2 s2 ⟨p, _, rfl, hp, upd_same, rl.snone hp, rl.notin hp, ra.append rb⟩
      · rw [if_neg q] at post
        exact post.elim
/-- list * int -/
def oRep : D → D → Hv → R (List D) := fun x y h => match kOf h x, toI y with
  | some xs, some k => @ite _ (xs.length * k.toNat ≤ 16777216 ∧ -(2 ^ 63) ≤ k ∧ k < 2 ^ 63) (Classical.propDecidable _) (.ok (List.replicate k.toNat xs).flatten h) .stuck
  | _, _ => .stuck
theorem RpA.rep {φ : List Addr} {S : Hp} {vs : List V} {ds : List D} (h : RpA K φ S vs ds) : ∀ k : Nat, RpA K φ S (List.replicate k vs).flatten (List.replicate k ds).flatten
  | 0 => .nil
  | k + 1 => by
    rw [List.replicate_succ, List.replicate_succ, List.flatten_cons, List.flatten_cons]
    exact h.append (RpA.rep h k)
theorem ol_rep : OpL K rRep oRep := by
  intro φ S H h x y v u Q E rl rx ry post
  simp only [oRep] at post
  cases e1 : kOf h x with
  | none => simp only [e1] at post; exact post.elim
  | some xs =>
    cases e2 : toI y with
    | none => simp only [e1, e2] at post; exact post.elim
    | some k =>
      simp only [e1, e2] at post
      split at post
      · next q =>
        obtain ⟨a, vs, rfl, ha, ra⟩ := kOf_ok rl rx e1
        cases y with
        | int i =>
          cases e2
          cases ry
          refine ⟨a, _, vs, rfl, rfl, ha, q.2.1, q.2.2, by rw [line_eq, ra.length]; exact q.1, fun p hp => ?_⟩
          obtain ⟨r2, s2⟩ := rl.hold (o := .lst (List.replicate k.toNat vs).flatten) hp
          exact post _ φ _ _ r2 s2 ⟨p, _, rfl, hp, upd_same, rl.snone hp, rl.notin hp, ra.rep _⟩
        | _ => cases e2
      · exact post.elim
end
end
end VD

set_option Elab.async false
set_option linter.all false
set_option maxRecDepth 100000
set_option maxHeartbeats 4000000
namespace VD
open PySem PySem.Spec PyProof.Rows L2
noncomputable section
section
variable {X : Cx} {K : PySem.W.Frag}
/-! ### comparisons -/
def rLtA : R2 := fun x y H Q => rI0 (fun i j => .bl (decide (i < j))) x y H Q ∨ ∃ i j, x = .str i ∧ y = .str j ∧ Q (.bl (decide (i.cps.toList < j.cps.toList))) H
def rGtA : R2 := fun x y H Q => rI0 (fun i j => .bl (decide (j < i))) x y H Q ∨ ∃ i j, x = .str i ∧ y = .str j ∧ Q (.bl (decide (j.cps.toList < i.cps.toList))) H
theorem op_ltA : OpR X (compareOp .Lt) rLtA := op_lt.or op_lt_str
theorem op_gtA : OpR X (compareOp .Gt) rGtA := op_gt.or op_gt_str
def oLt : D → D → Hv → R D
  | .int i, .int j, h => .ok (.bl (decide (i < j))) h
  | .str i, .str j, h => .ok (.bl (decide (i.cps.toList < j.cps.toList))) h
  | _, _, _ => .stuck
def oGt : D → D → Hv → R D
  | .int i, .int j, h => .ok (.bl (decide (j < i))) h
  | .str i, .str j, h => .ok (.bl (decide (j.cps.toList < i.cps.toList))) h
  | _, _, _ => .stuck
def oLe : D → D → Hv → R D
  | .int i, .int j, h => .ok (.bl (decide (i ≤ j))) h
  | _, _, _ => .stuck
def oGe : D → D → Hv → R D
  | .int i, .int j, h => .ok (.bl (decide (j ≤ i))) h
  | _, _, _ => .stuck
theorem os_lt : OpS K rLtA oLt := by
  intro φ S H h x y v u Q E rl rx ry post
  cases rx <;> cases ry <;> first
    | exact post.elim
    | exact .inl ⟨_, _, rfl, rfl, post _ φ S H rl (Step.refl _ _ _) (.bl _)⟩
    | exact .inr ⟨_, _, rfl, rfl, post _ φ S H rl (Step.refl _ _ _) (.bl _)⟩
theorem os_gt : OpS K rGtA oGt := by
  intro φ S H h x y v u Q E rl rx ry post
  cases rx <;> cases ry <;> first
    | exact post.elim
    | exact .inl ⟨_, _, rfl, rfl, post _ φ S H rl (Step.refl _ _ _) (.bl _)⟩
    | exact .inr ⟨_, _, rfl, rfl, post _ φ S H rl (Step.refl _ _ _) (.bl _)⟩
theorem os_le : OpS K (rI0 fun i j => .bl (decide (i ≤ j))) oLe := by
  intro φ S H h x y v u Q E rl rx ry post
  cases rx <;> cases ry <;> first
    | exact post.elim
    | exact ⟨_, _, rfl, rfl, post _ φ S H rl (Step.refl _ _ _) (.bl _)⟩
theorem os_ge : OpS K (rI0 fun i j => .bl (decide (j ≤ i))) oGe := by
  intro φ S H h x y v u Q E rl rx ry post
  cases rx <;> cases ry <;> first
    | exact post.elim
    | exact ⟨_, _, rfl, rfl, post _ φ S H rl (Step.refl _ _ _) (.bl _)⟩
/-- == of data -/
def rEqP (K : PySem.W.Frag) : R2 := fun x y H Q => ∃ d e, Dp K H x d ∧ Dp K H y e ∧ (d.plain = true ∧ e.plain = true ∧ d.depth ≤ 63) ∧ Q (.bl (PyData.eqv d e)) H
def rNeP (K : PySem.W.Frag) : R2 := fun x y H Q => ∃ d e, Dp K H x d ∧ Dp K H y e ∧ (d.plain = true ∧ e.plain = true ∧ d.depth ≤ 63) ∧ Q (.bl (!PyData.eqv d e)) H
theorem op_eqP (hu : X.A.units + 64 < cLine) : OpR X (compareOp .Eq) (rEqP X.K) := by
  intro pins s σ H x y v u Q I rx ry h
  obtain ⟨d, e, hd, he, ⟨pd, pe, dd⟩, q⟩ := h
  obtain ⟨as, r1⟩ := Dp.reads I d x v hd rx
  obtain ⟨bs, r2⟩ := Dp.reads I e y u he ry
  exact PySem.SeqAt.eq_plain r1 r2 pd pe (Nat.lt_of_le_of_lt (Nat.add_le_add_left (Nat.le_trans (Nat.min_le_left _ _) dd) _) (by omega)) ⟨.bl _, H, I, rfl, q⟩
theorem op_neP (hu : X.A.units + 64 < cLine) : OpR X (compareOp .NotEq) (rNeP X.K) := by
  intro pins s σ H x y v u Q I rx ry h
  obtain ⟨d, e, hd, he, ⟨pd, pe, dd⟩, q⟩ := h
  obtain ⟨as, r1⟩ := Dp.reads I d x v hd rx
  obtain ⟨bs, r2⟩ := Dp.reads I e y u he ry
  exact PySem.SeqAt.ne_plain r1 r2 pd pe (Nat.lt_of_le_of_lt (Nat.add_le_add_left (Nat.le_trans (Nat.min_le_left _ _) dd) _) (by omega)) ⟨.bl _, H, I, rfl, q⟩
def eqD (h : Hv) (x y : D) : Option Bool := match toPy h 12 x, toPy h 12 y with
  | some d, some e => some (PyData.eqv d e)
  | _, _ => none
def oEq : D → D → Hv → R D := fun x y h => match eqD h x y with
  | some b => .ok (.bl b) h
  | none => .stuck
def oNe : D → D → Hv → R D := fun x y h => match eqD h x y with
  | some b => .ok (.bl (!b)) h
  | none => .stuck
theorem toPy_plain {h : Hv} : ∀ (f : Nat) (d : D) (p : PyData), toPy h f d = some p → p.plain = true ∧ p.depth ≤ f := by
  intro f
  induction f with
  | zero => intro d p e; cases e
  | succ f ih =>
    have all : ∀ (ds : List D) (ps : List PyData), optAll (toPy h f) ds = some ps → PyData.plainAll ps = true ∧ PyData.depthAll ps ≤ f := by
      intro ds
      induction ds with
      | nil => intro ps e; cases e; exact ⟨by simp only [PyData.plainAll], by simp only [PyData.depthAll]; exact Nat.zero_le _⟩
      | cons d ds ih2 =>
        intro ps e
        simp only [optAll] at e
        cases q : toPy h f d with
        | none => rw [q] at e; cases e
        | some p0 =>
          rw [q] at e
          cases q2 : optAll (toPy h f) ds with
          | none => simp only [q2] at e; cases e
          | some p1 =>
            simp only [q2] at e
            cases e
            obtain ⟨a1, a2⟩ := ih d p0 q
            obtain ⟨b1, b2⟩ := ih2 p1 q2
            exact ⟨by simp only [PyData.plainAll, a1, b1, Bool.and_self], by simp only [PyData.depthAll]; exact Nat.max_le.mpr ⟨a2, b2⟩⟩
    have lst : ∀ ds p, (optAll (toPy h f) ds).map PyData.list = some p → p.plain = true ∧ p.depth ≤ f + 1 := fun ds p e => by
      obtain ⟨ps, q, rfl⟩ := Option.map_eq_some_iff.mp e
      obtain ⟨a, b⟩ := all ds ps q
      exact ⟨by simp only [PyData.plain, a], by simp only [PyData.depth]; omega⟩
    have tup : ∀ ds p, (optAll (toPy h f) ds).map PyData.tuple = some p → p.plain = true ∧ p.depth ≤ f + 1 := fun ds p e => by
      obtain ⟨ps, q, rfl⟩ := Option.map_eq_some_iff.mp e
      obtain ⟨a, b⟩ := all ds ps q
      exact ⟨by simp only [PyData.plain, a], by simp only [PyData.depth]; omega⟩
    intro d p e
    cases d with
    | non => cases e; exact ⟨by simp only [PyData.plain], by simp only [PyData.depth]; exact Nat.zero_le _⟩
    | bl b => cases e; exact ⟨by simp only [PyData.plain], by simp only [PyData.depth]; exact Nat.zero_le _⟩
    | int b => cases e; exact ⟨by simp only [PyData.plain], by simp only [PyData.depth]; exact Nat.zero_le _⟩
    | str b => cases e; exact ⟨by simp only [PyData.plain], by simp only [PyData.depth]; exact Nat.zero_le _⟩
    | lst ds => exact lst ds p e
    | fz ds => exact lst ds p e
    | tup ds => exact tup ds p e
    | cell n =>
      simp only [toPy] at e
      split at e
      · exact lst _ p e
      · cases e
    | dct _ _ => cases e
    | obj _ _ _ => cases e
    | exv _ _ _ _ => cases e
    | raw v => cases e
theorem eqD_ok {φ : List Addr} {S H : Hp} {h : Hv} {x y : D} {v u : V} {b : Bool} (rl : Rel K φ S H h) (rx : Rp K φ S v x) (ry : Rp K φ S u y) (e : eqD h x y = some b) :
    ∃ d e, Dp K H v d ∧ Dp K H u e ∧ (d.plain = true ∧ e.plain = true ∧ d.depth ≤ 63) ∧ PyData.eqv d e = b := by
  unfold eqD at e
  cases e1 : toPy h 12 x with
  | none => simp only [e1] at e; cases e
  | some d =>
    cases e2 : toPy h 12 y with
    | none => simp only [e1, e2] at e; cases e
    | some d2 =>
      simp only [e1, e2] at e
      obtain ⟨p1, q1⟩ := toPy_plain _ _ _ e1
      obtain ⟨p2, q2⟩ := toPy_plain _ _ _ e2
      exact ⟨d, d2, dp_of rl _ _ _ _ rx e1, dp_of rl _ _ _ _ ry e2, ⟨p1, p2, by omega⟩, Option.some.inj e⟩
theorem os_eq : OpS K (rEqP K) oEq := by
  intro φ S H h x y v u Q E rl rx ry post
  simp only [oEq] at post
  cases e : eqD h x y with
  | none => simp only [e] at post; exact post.elim
  | some b =>
    simp only [e] at post
    obtain ⟨d, d2, h1, h2, h3, h5⟩ := eqD_ok rl rx ry e
    exact ⟨d, d2, h1, h2, h3, by rw [h5]; exact post _ φ S H rl (Step.refl _ _ _) (.bl _)⟩
theorem os_ne : OpS K (rNeP K) oNe := by
  intro φ S H h x y v u Q E rl rx ry post
  simp only [oNe] at post
  cases e : eqD h x y with
  | none => simp only [e] at post; exact post.elim
  | some b =>
    simp only [e] at post
    obtain ⟨d, d2, h1, h2, h3, h5⟩ := eqD_ok rl rx ry e
    exact ⟨d, d2, h1, h2, h3, by rw [h5]; exact post _ φ S H rl (Step.refl _ _ _) (.bl _)⟩
/-- is None, is True -/
def rIsA : R2 := fun x y H Q => (y = .non ∧ Q (.bl (decide (x = .non))) H) ∨ rIsB x y H Q
def rNotA : R2 := fun x y H Q => (y = .non ∧ Q (.bl (!decide (x = .non))) H) ∨ rNotB x y H Q
theorem op_isA : OpR X (compareOp .Is) rIsA := op_isN.or op_isBl
theorem op_notA : OpR X (compareOp .IsNot) rNotA := op_notN.or op_notBl
def isD : D → D → Option Bool
  | .non, .non => some true
  | .raw _, .non => none
  | _, .non => some false
  | .bl a, .bl b => some (decide (a = b))
  | _, _ => none
def oIs : D → D → Hv → R D := fun x y h => match isD x y with
  | some b => .ok (.bl b) h
  | none => .stuck
def oIsNot : D → D → Hv → R D := fun x y h => match isD x y with
  | some b => .ok (.bl (!b)) h
  | none => .stuck
theorem isD_ok {φ : List Addr} {S : Hp} {x y : D} {v u : V} {b : Bool} (rx : Rp K φ S v x) (ry : Rp K φ S u y) (e : isD x y = some b) :
    (u = .non ∧ decide (v = .non) = b) ∨ ∃ p q, v = .bl p ∧ u = .bl q ∧ decide (p = q) = b := by
  cases ry with
  | non => refine .inl ⟨rfl, ?_⟩; cases rx <;> first | (cases e; done) | (cases e; rfl) | (cases e; exact decide_eq_false (fun z => nomatch z))
  | bl q => cases rx <;> first | (cases e; done) | (exact .inr ⟨_, _, rfl, rfl, Option.some.inj e⟩)
  | _ => cases rx <;> cases e
theorem os_is : OpS K rIsA oIs := by
  intro φ S H h x y v u Q E rl rx ry post
  simp only [oIs] at post
  cases e : isD x y with
  | none => simp only [e] at post; exact post.elim
  | some b =>
    simp only [e] at post
    have fin := post _ φ S H rl (Step.refl _ _ _) (.bl b)
    rcases isD_ok rx ry e with ⟨h1, h2⟩ | ⟨p, q, h1, h2, h3⟩
    · exact .inl ⟨h1, by rw [h2]; exact fin⟩
    · exact .inr ⟨p, q, h1, h2, by rw [h3]; exact fin⟩
theorem os_isNot : OpS K rNotA oIsNot := by
  intro φ S H h x y v u Q E rl rx ry post
  simp only [oIsNot] at post
  cases e : isD x y with
  | none => simp only [e] at post; exact post.elim
  | some b =>
    simp only [e] at post
    have fin := post _ φ S H rl (Step.refl _ _ _) (.bl (!b))
    rcases isD_ok rx ry e with ⟨h1, h2⟩ | ⟨p, q, h1, h2, h3⟩
    · exact .inl ⟨h1, by rw [h2]; exact fin⟩
    · exact .inr ⟨p, q, h1, h2, by rw [h3]; exact fin⟩
/-- one sign in a text, a flat value in a list or tuple -/
def rInA (K : PySem.W.Frag) : R2 := fun x y H Q => (∃ (c : Nat) (z : Str), x = .str ⟨#[c]⟩ ∧ y = .str z ∧ Q (.bl (decide (c ∈ z.cps.toList))) H) ∨ rIn K false x y H Q
def rNotInA (K : PySem.W.Frag) : R2 := fun x y H Q => (∃ (c : Nat) (z : Str), x = .str ⟨#[c]⟩ ∧ y = .str z ∧ Q (.bl (!decide (c ∈ z.cps.toList))) H) ∨ rIn K true x y H Q
theorem op_inA : OpR X (compareOp .In) (rInA X.K) := op_in_sign.or op_in_seq
theorem op_notInA : OpR X (compareOp .NotIn) (rNotInA X.K) := op_notIn_sign.or op_notIn_seq
def sqOf (h : Hv) (d : D) : Option (List D) := match lOf h d with
  | some xs => some xs
  | none => tOf d
def inD (h : Hv) (x y : D) : Option Bool := match x, y with
  | .str s, .str z => match s.cps.toList with
    | [c] => some (decide (c ∈ z.cps.toList))
    | _ => none
  | x, y => match toV x, (sqOf h y).bind (optAll toV) with
    | some v, some vs => some (inV v vs)
    | _, _ => none
def oIn : D → D → Hv → R D := fun x y h => match inD h x y with
  | some b => .ok (.bl b) h
  | none => .stuck
def oNotIn : D → D → Hv → R D := fun x y h => match inD h x y with
  | some b => .ok (.bl (!b)) h
  | none => .stuck
theorem sqOf_ok {φ : List Addr} {S H : Hp} {h : Hv} {d : D} {v : V} {ds : List D} (rl : Rel K φ S H h) (r : Rp K φ S v d) (e : sqOf h d = some ds) : ∃ a vs, v = .ref a ∧ (SqL K H a vs ∨ SqT K H a vs) ∧ RpA K φ S vs ds := by
  unfold sqOf at e
  cases q : lOf h d with
  | some xs =>
    simp only [q] at e
    cases e
    obtain ⟨a, vs, h1, h2, h3⟩ := lOf_ok rl r q
    exact ⟨a, vs, h1, .inl h2, h3⟩
  | none =>
    simp only [q] at e
    obtain ⟨a, vs, h1, h2, h3⟩ := tOf_ok rl r e
    exact ⟨a, vs, h1, .inr h2, h3⟩
theorem inD_ok {φ : List Addr} {S H : Hp} {h : Hv} {x y : D} {v u : V} {b : Bool} (rl : Rel K φ S H h) (rx : Rp K φ S v x) (ry : Rp K φ S u y) (e : inD h x y = some b) :
    (∃ (c : Nat) (z : Str), v = .str ⟨#[c]⟩ ∧ u = .str z ∧ decide (c ∈ z.cps.toList) = b) ∨ ∃ p xs, u = .ref p ∧ (SqL K H p xs ∨ SqT K H p xs) ∧ flatV v = true ∧ xs.all flatV = true ∧ inV v xs = b := by
  have gen : (match toV x, (sqOf h y).bind (optAll toV) with
    | some v, some vs => some (inV v vs)
    | _, _ => none) = some b → ∃ p xs, u = .ref p ∧ (SqL K H p xs ∨ SqT K H p xs) ∧ flatV v = true ∧ xs.all flatV = true ∧ inV v xs = b := by
    intro e
    cases q1 : toV x with
    | none => simp only [q1] at e; cases e
    | some w =>
      cases q2 : sqOf h y with
      | none => simp only [q1, q2, Option.bind_none] at e; cases e
      | some ds =>
        cases q3 : optAll toV ds with
        | none => simp only [q1, q2, Option.bind_some, q3] at e; cases e
        | some ws =>
          simp only [q1, q2, Option.bind_some, q3] at e
          obtain ⟨e1, f1⟩ := toV_ok rx q1
          obtain ⟨a, vs, rfl, h2, h3⟩ := sqOf_ok rl ry q2
          obtain ⟨e2, f2⟩ := toVs_ok h3 q3
          exact ⟨a, vs, rfl, h2, f1, f2, by rw [e1, e2]; exact Option.some.inj e⟩
  unfold inD at e
  split at e
  · next s z =>
    split at e
    · next c hc =>
      cases rx
      cases ry
      refine .inl ⟨c, z, ?_, rfl, Option.some.inj e⟩
      have : s = ⟨#[c]⟩ := Str.ext' (Array.toList_inj.mp (by rw [hc]))
      rw [this]
    · cases e
  · exact .inr (gen e)
theorem os_in : OpS K (rInA K) oIn := by
  intro φ S H h x y v u Q E rl rx ry post
  simp only [oIn] at post
  cases e : inD h x y with
  | none => simp only [e] at post; exact post.elim
  | some b =>
    simp only [e] at post
    have fin := post _ φ S H rl (Step.refl _ _ _) (.bl b)
    rcases inD_ok rl rx ry e with ⟨c, z, h1, h2, h3⟩ | ⟨p, xs, h1, h2, h3, h4, h5⟩
    · exact .inl ⟨c, z, h1, h2, by rw [h3]; exact fin⟩
    · exact .inr ⟨p, xs, h1, h2, h3, h4, by rw [if_neg Bool.false_ne_true, h5]; exact fin⟩
theorem os_notIn : OpS K (rNotInA K) oNotIn := by
  intro φ S H h x y v u Q E rl rx ry post
  simp only [oNotIn] at post
  cases e : inD h x y with
  | none => simp only [e] at post; exact post.elim
  | some b =>
    simp only [e] at post
    have fin := post _ φ S H rl (Step.refl _ _ _) (.bl (!b))
    rcases inD_ok rl rx ry e with ⟨c, z, h1, h2, h3⟩ | ⟨p, xs, h1, h2, h3, h4, h5⟩
    · exact .inl ⟨c, z, h1, h2, by rw [h3]; exact fin⟩
    · exact .inr ⟨p, xs, h1, h2, h3, h4, by rw [if_pos rfl, h5]; exact fin⟩

/-! ### subscripts, slices -/
def ixD (h : Hv) (x : D) (i : Int) : Option D := match x with
  | .str z => if z.length ≤ 16777216 then (match atI z.cps.toList i with
    | some c => some (.str ⟨#[c]⟩)
    | none => none) else none
  | x => match sqOf h x with
    | some ds => atI ds i
    | none => none
def oIx : D → D → Hv → R D := fun x y h => match y with
  | .int i => match ixD h x i with
    | some d => .ok d h
    | none => .stuck
  | _ => .stuck
theorem RpA.atI {φ : List Addr} {S : Hp} {vs : List V} {ds : List D} (r : RpA K φ S vs ds) {i : Int} {d : D} (e : L2.atI ds i = some d) : ∃ v, L2.atI vs i = some v ∧ Rp K φ S v d := by
  unfold L2.atI at e ⊢
  rw [r.length]
  cases q : ixN ds.length i with
  | none => rw [q] at e; cases e
  | some j =>
    rw [q] at e
    exact r.at e
theorem os_ix : OpS K (rIx K) oIx := by
  intro φ S H h x y v u Q E rl rx ry post
  simp only [oIx] at post
  cases y with
  | int i =>
    cases ry
    cases e : ixD h x i with
    | none => simp only [e] at post; exact post.elim
    | some d =>
      simp only [e] at post
      unfold ixD at e
      split at e
      · next z =>
        cases rx
        split at e
        · next hz =>
          split at e
          · next c hc =>
            cases e
            exact .inr (.inr ⟨z, i, c, rfl, rfl, by rw [line_eq]; exact hz, hc, post _ φ S H rl (Step.refl _ _ _) (.str _)⟩)
          · cases e
        · cases e
      · split at e
        · next ds hd =>
          obtain ⟨a, vs, rfl, h2, h3⟩ := sqOf_ok rl rx hd
          obtain ⟨w, hw, rw_⟩ := h3.atI e
          have fin := post _ φ S H rl (Step.refl _ _ _) rw_
          rcases h2 with h2 | h2
          · exact .inl ⟨a, vs, i, w, rfl, rfl, h2, hw, fin⟩
          · exact .inr (.inl ⟨a, vs, i, w, rfl, rfl, h2, hw, fin⟩)
        · cases e
  | _ => exact post.elim
variable {W : WX} {e a b : Expr} {pos p2 : Pos} {fa fb fl fh : ES}
theorem se_ix (ha : SE X W a fa) (hb : SE X W b fb) (hs : PlainIx b := by exact fun _ _ => rfl) : SE X W (.Subscript a b pos) (eOp oIx fa fb) := by
  obtain ⟨ta, h1, h2⟩ := ha
  obtain ⟨tb, k1, k2⟩ := hb
  exact ⟨_, pe_ix ix_seq h1 k1 hs, sn_op os_ix h2 k2⟩
def cutD (xs : List D) (lo hi : Option Int) : List D := (xs.drop (HT.sIx xs.length 0 lo)).take (HT.sIx xs.length xs.length hi - HT.sIx xs.length 0 lo)
/-- a part of a slice -/
abbrev OS := VS → Hv → R (Option Int)
def repO : Rep (Option Int) (Option Int) := fun _ _ _ _ b a => b = a
instance : Rep.Up repO := ⟨fun _ h => h⟩
def SO (X : Cx) (W : WX) (e : Option Expr) (es : OS) : Prop := ∃ te, PO X e te ∧ Sn X.K repO W te es
def pNo : OS := fun _ h => .ok none h
def pAt (f : ES) : OS := fun σ h => (f σ h).bind fun d h1 => match d with
  | .int i => .ok (some i) h1
  | _ => .stuck
theorem so_no : SO X W none pNo := ⟨_, po_none, ⟨fun {φ S H h σv σ Q} rl rs post => post none φ S H rl (Step.refl _ _ _) rfl⟩⟩
theorem so_at (ha : SE X W e fa) : SO X W (some e) (pAt fa) := by
  obtain ⟨ta, h1, h2⟩ := ha
  refine ⟨_, po_some h1, ⟨fun rl rs post => h2.bind rl rs post fun x h1 v φ1 S1 H1 rl1 rs1 st rp post => ?_⟩⟩
  cases x with
  | int i =>
    cases (show Rp _ _ _ _ _ from rp)
    exact ⟨i, rfl, post _ φ1 S1 H1 rl1 (Step.refl _ _ _) rfl⟩
  | _ => exact post.elim
/-- a list's slice: new -/
def lSl (f : ES) (lo hi : OS) : LS := fun σ h => (f σ h).bind fun d h1 => (lo σ h1).bind fun l h2 => (hi σ h2).bind fun u h3 => match lOf h3 d with
  | some xs => .ok (cutD xs l u) h3
  | none => .stuck
theorem RpA.cut {φ : List Addr} {S : Hp} {vs : List V} {ds : List D} (r : RpA K φ S vs ds) (lo hi : Option Int) : RpA K φ S (cutV vs lo hi) (cutD ds lo hi) := by
  unfold cutV cutD
  rw [r.length]
  exact (r.drop _).take _
theorem sl_sl {lo hi : Option Expr} {pl ph : OS} (ha : SE X W a fa) (hl : SO X W lo pl) (hh : SO X W hi ph) : SL X W (.Subscript a (.Slice lo hi none p2) pos) (lSl fa pl ph) := by
  obtain ⟨ta, h1, h2⟩ := ha
  obtain ⟨tl, k1, k2⟩ := hl
  obtain ⟨th, l1, l2⟩ := hh
  refine ⟨_, pe_slice sl_list h1 k1 l1, ⟨fun rl rs post => h2.bind rl rs post fun x h1 v φ1 S1 H1 rl1 rs1 st rp post =>
    k2.bind rl1 rs1 post fun l h2 l' φ2 S2 H2 rl2 rs2 st2 rp2 post => l2.bind rl2 rs2 post fun u h3 u' φ3 S3 H3 rl3 rs3 st3 rp3 post => ?_⟩⟩
  cases (show l' = l from rp2)
  cases (show u' = u from rp3)
  have r3 : Rp X.K φ3 S3 v x := Rp.mono (st2.trans st3).prefix (st2.trans st3).sub rp
  cases q : lOf h3 x with
  | none => rw [q] at post; exact post.elim
  | some xs =>
    rw [q] at post
    obtain ⟨a, vs, rfl, h2, ra⟩ := lOf_ok rl3 r3 q
    refine ⟨a, vs, rfl, h2, fun p hp => ?_⟩
    obtain ⟨r2, s2⟩ := rl3.hold (o := .lst (cutV vs l u)) hp
    exact post _ φ3 _ _ r2 s2 ⟨p, _, rfl, hp, upd_same, rl3.snone hp, rl3.notin hp, ra.cut _ _⟩
/-- t[lo:hi], the whole of t: t itself -/
theorem tup_whole {P : Program} {w : World} {A : Around} {E : Value → Shared → Prop} {s : Shared} {t sl : Addr} {items : Array Value} {vl vu : Value} {lo hi : Option Int} {Q : Value → Shared → Prop} (ht : IsTup s.heap t items) (hs : s.heap.IsSliceOf sl vl vu .none) (pl : IsPart vl lo) (pu : IsPart vu hi)
    (hw : HT.sIx items.size 0 lo = 0 ∧ HT.sIx items.size items.size hi = items.size) (h : Q (.ref t) s) : wpAny (model P w) A (getItem (.ref t) (.ref sl)) Q E s := by
  obtain ⟨os, hos, hcs, hds⟩ := id hs
  have ty : s.TypeIs (.ref sl) "slice" := ⟨os, hos, hcs⟩
  unfold getItem
  (try with_reducible refine wpAny_holding ?_); (first | refine wpAny_bind (wpAny_pure ?_) | skip)
  refine wpAny_bind (wpAny_sequenceKey ht.typeIs (by decide) ?_); refine wpAny_bind (wpAny_callSpecial?_slot (name := Str.ofString "__getitem__") ht.typeIs PyProof.Rows.slot_tuple_getitem (wpAny_call_entry PyProof.Rows.slot_tuple_getitem ht.typeIs PyProof.Rows.entry_tuple_getitem ?_ (PyProof.Rows.args_tuple_getitem _ _)))
  show wpAny _ _ (Builtin.Tuple.tupleItemsOf (.ref t) >>= _) _ _ s; refine wpAny_bind (tupleItemsOf_ ht ?_)
  refine wpAny_bind (wpAny_typeOf ty ?_); rw [if_pos (by decide)]; refine wpAny_bind (HT.sliceApplied_gen hs pl pu ?_)
  have yes : (((HT.sIx items.size 0 lo : Nat) : Int) == 0 && (1 : Int) == 1 && (HT.sIx items.size items.size hi - HT.sIx items.size 0 lo) == items.size) = true := by rw [hw.1, hw.2]; simp
  show wpAny _ _ (if (((HT.sIx items.size 0 lo : Nat) : Int) == 0 && (1 : Int) == 1 && (HT.sIx items.size items.size hi - HT.sIx items.size 0 lo) == items.size) = true then _ else _) _ _ s
  rw [if_pos yes]
  unfold Builtin.Tuple.tupleIsExact
  refine wpAny_bind (wpAny_bind (wpAny_typeOf ht.typeIs (wpAny_pure ?_)))
  rw [if_pos (by decide)]
  exact wpAny_bind (wpAny_rule (wpAny_pure ⟨_, rfl, wpAny_pure h⟩))
def rSlW (K : PySem.W.Frag) : V → Option Int → Option Int → Hp → VK → Prop := fun x lo hi H Q => ∃ a xs, x = .ref a ∧ SqT K H a xs ∧ (HT.sIx xs.length 0 lo = 0 ∧ HT.sIx xs.length xs.length hi = xs.length) ∧ Q (.ref a) H
theorem sl_tupW : SlR X (rSlW X.K) := by
  intro pins s σ H x v vl vu lo hi sl Q I rx hs pl pu ⟨a, xs, ex, hx, hw, q⟩
  subst ex
  cases rx
  obtain ⟨its, r, ht, hz⟩ := I.tuple hx
  have el : its.toArray.size = xs.length := by rw [List.size_toArray]; exact r.length.symm
  exact ⟨"tuple", _, PyProof.Rows.slot_tuple_getitem.lookup, ht.typeIs, tup_whole ht hs pl pu (by rw [el]; exact hw) ⟨.ref a, H, I, rfl, q⟩⟩
theorem tup_of {K : PySem.W.Frag} {φ : List Addr} {S : Hp} {v : V} {ds : List D} (r : Rp K φ S v (.tup ds)) : ∃ a vs, v = .ref a ∧ SqT K S a vs ∧ RpA K φ S vs ds := by
  cases r with
  | tup g1 g2 => exact ⟨_, _, rfl, g1, g2⟩
/-- a text's, a tuple's slice -/
def slD (d : D) (l u : Option Int) : Option D := match d with
  | .str z => if z.length ≤ 16777216 then some (.str (cutS z l u)) else none
  | .tup xs => some (.tup (cutD xs l u))
  | _ => none
def eSl (f : ES) (lo hi : OS) : ES := fun σ h => (f σ h).bind fun d h1 => (lo σ h1).bind fun l h2 => (hi σ h2).bind fun u h3 => match slD d l u with
  | some d' => .ok d' h3
  | none => .stuck
def rSlA (K : PySem.W.Frag) : V → Option Int → Option Int → Hp → VK → Prop := fun x lo hi H Q => rSlS x lo hi H Q ∨ rSlT K x lo hi H Q
theorem se_sl {lo hi : Option Expr} {pl ph : OS} (ha : SE X W a fa) (hl : SO X W lo pl) (hh : SO X W hi ph) : SE X W (.Subscript a (.Slice lo hi none p2) pos) (eSl fa pl ph) := by
  obtain ⟨ta, h1, h2⟩ := ha
  obtain ⟨tl, k1, k2⟩ := hl
  obtain ⟨th, l1, l2⟩ := hh
  refine ⟨_, pe_slice (SlR.or sl_str (SlR.or sl_tup sl_tupW)) h1 k1 l1, ⟨fun rl rs post => h2.bind rl rs post fun x h1 v φ1 S1 H1 rl1 rs1 st rp post =>
    k2.bind rl1 rs1 post fun l h2 l' φ2 S2 H2 rl2 rs2 st2 rp2 post => l2.bind rl2 rs2 post fun u h3 u' φ3 S3 H3 rl3 rs3 st3 rp3 post => ?_⟩⟩
  cases (show l' = l from rp2)
  cases (show u' = u from rp3)
  have r3 : Rp X.K φ3 S3 v x := Rp.mono (st2.trans st3).prefix (st2.trans st3).sub rp
  cases q : slD x l u with
  | none => rw [q] at post; exact post.elim
  | some d' =>
    rw [q] at post
    unfold slD at q
    split at q
    · next z =>
      split at q
      · next hz =>
        cases q
        cases r3
        exact .inl ⟨_, rfl, by rw [line_eq]; exact hz, post _ φ3 S3 H3 rl3 (Step.refl _ _ _) (.str _)⟩
      · cases q
    · cases q
      obtain ⟨a, vs, rfl, g1, g2⟩ := tup_of r3
      · by_cases hz : HT.sIx vs.length 0 l = 0 ∧ HT.sIx vs.length vs.length u = vs.length
        · have e : ∀ ds : List D, vs.length = ds.length → cutD ds l u = ds := fun ds g2 => by
            unfold cutD
            rw [← g2, hz.1, hz.2, g2, List.drop_zero, Nat.sub_zero, List.take_length]
          rw [e _ g2.length] at post
          exact .inr (.inr ⟨a, vs, rfl, rl3.sub.sqt g1, hz, post _ φ3 S3 H3 rl3 (Step.refl _ _ _) (.tup g1 g2)⟩)
        · refine .inr (.inl ⟨a, vs, rfl, rl3.sub.sqt g1, hz, fun p hp => ?_⟩)
          obtain ⟨r2, s2⟩ := rl3.lay (o := .tup (cutV vs l u)) hp
          exact post _ φ3 _ _ r2 s2 (.tup (.inl (.inl upd_same)) ((g2.cut _ _).mono (Pre.refl _) s2.sub))
    · cases q
end
end
end VD

set_option Elab.async false
set_option linter.all false
set_option maxRecDepth 100000
set_option maxHeartbeats 4000000
namespace VD
open PySem PySem.Spec PyProof.Rows L2
noncomputable section
/-! ### calls of what is built in -/
def CaS (K : PySem.W.Frag) (r : List V → Hp → VK → Prop) (ro : List D → Hv → R D) : Prop := ∀ {φ : List Addr} {S H : Hp} {h : Hv} {ds : List D} {vs : List V} {Q : VK} {E : XK}, Rel K φ S H h → RpA K φ S vs ds → Post K (repV K) φ S H (ro ds h) Q E → r vs H Q
def CaL (K : PySem.W.Frag) (r : List V → Hp → VK → Prop) (ro : List D → Hv → R (List D)) : Prop := ∀ {φ : List Addr} {S H : Hp} {h : Hv} {ds : List D} {vs : List V} {Q : VK} {E : XK}, Rel K φ S H h → RpA K φ S vs ds → Post K (repL K) φ S H (ro ds h) Q E → r vs H Q
def eCa {α : Type} (ro : List D → Hv → R α) (g : LS) : VS → Hv → R α := fun σ h => (g σ h).bind fun ds h1 => ro ds h1
section
variable {X : Cx} {W : WX} {e : Expr} {es : List Expr} {p pos : Pos} {la : LS} {x : Str} {id T : String} {r : List V → Hp → VK → Prop}
theorem sn_ca {t : TA} {ro : List D → Hv → R D} (hr : CaS X.K r ro) (h2 : Sn X.K (repA X.K) W t la) : Sn X.K (repV X.K) W (tCB r t) (eCa ro la) := ⟨fun rl rs post => h2.bind rl rs post fun x h1 v φ1 S1 H1 rl1 rs1 st rp post => hr rl1 rp post⟩
theorem sn_caL {t : TA} {ro : List D → Hv → R (List D)} (hr : CaL X.K r ro) (h2 : Sn X.K (repA X.K) W t la) : Sn X.K (repL X.K) W (tCB r t) (eCa ro la) := ⟨fun rl rs post => h2.bind rl rs post fun x h1 v φ1 S1 H1 rl1 rs1 st rp post => hr rl1 rp post⟩
theorem se_callB {ro : List D → Hv → R D} (hc : CallR X (.builtin id) r) (hr : CaS X.K r ro) (hm : X.mg x = none) (hv : bootBuiltins x = some (.builtin id)) (ha : SA X W (e :: es) la) (hg : Gl X x := by rfl) (hn : x ≠ "__name__" := by decide) (hdb : (x == ("__debug__" : Str)) = false := by decide)
    (he : starEach (e :: es) X.env = (false, eval e X.env) :: starEach es X.env := by rfl) (hpl : (backTo pos (starEach es X.env)).any (·.1) = false := by rfl) : SE X W (.Call (.Name x p) (e :: es) [] pos) (eCa ro la) := by
  obtain ⟨ta, h1, h2⟩ := ha
  exact ⟨_, pe_callB hc hg hm hv h1 hn hdb he hpl, sn_ca hr h2⟩
theorem se_callT {ro : List D → Hv → R D} (hc : CallR X (.type T) r) (hr : CaS X.K r ro) (hm : X.mg x = none) (hv : bootBuiltins x = some (.type T)) (ha : SA X W (e :: es) la) (hg : Gl X x := by rfl) (hn : x ≠ "__name__" := by decide) (hdb : (x == ("__debug__" : Str)) = false := by decide)
    (he : starEach (e :: es) X.env = (false, eval e X.env) :: starEach es X.env := by rfl) (hpl : (backTo pos (starEach es X.env)).any (·.1) = false := by rfl) : SE X W (.Call (.Name x p) (e :: es) [] pos) (eCa ro la) := by
  obtain ⟨ta, h1, h2⟩ := ha
  exact ⟨_, pe_callTy hc hg hm hv h1 hn hdb he hpl, sn_ca hr h2⟩
theorem sl_callB {ro : List D → Hv → R (List D)} (hc : CallR X (.builtin id) r) (hr : CaL X.K r ro) (hm : X.mg x = none) (hv : bootBuiltins x = some (.builtin id)) (ha : SA X W (e :: es) la) (hg : Gl X x := by rfl) (hn : x ≠ "__name__" := by decide) (hdb : (x == ("__debug__" : Str)) = false := by decide)
    (he : starEach (e :: es) X.env = (false, eval e X.env) :: starEach es X.env := by rfl) (hpl : (backTo pos (starEach es X.env)).any (·.1) = false := by rfl) : SL X W (.Call (.Name x p) (e :: es) [] pos) (eCa ro la) := by
  obtain ⟨ta, h1, h2⟩ := ha
  exact ⟨_, pe_callB hc hg hm hv h1 hn hdb he hpl, sn_caL hr h2⟩
theorem sl_callT {ro : List D → Hv → R (List D)} (hc : CallR X (.type T) r) (hr : CaL X.K r ro) (hm : X.mg x = none) (hv : bootBuiltins x = some (.type T)) (ha : SA X W (e :: es) la) (hg : Gl X x := by rfl) (hn : x ≠ "__name__" := by decide) (hdb : (x == ("__debug__" : Str)) = false := by decide)
    (he : starEach (e :: es) X.env = (false, eval e X.env) :: starEach es X.env := by rfl) (hpl : (backTo pos (starEach es X.env)).any (·.1) = false := by rfl) : SL X W (.Call (.Name x p) (e :: es) [] pos) (eCa ro la) := by
  obtain ⟨ta, h1, h2⟩ := ha
  exact ⟨_, pe_callTy hc hg hm hv h1 hn hdb he hpl, sn_caL hr h2⟩
end
section
variable {X : Cx} {K : PySem.W.Frag}
theorem RpA.one {φ : List Addr} {S : Hp} {vs : List V} {d : D} (r : RpA K φ S vs [d]) : ∃ v, vs = [v] ∧ Rp K φ S v d := by
  cases r with
  | cons r t => cases t; exact ⟨_, rfl, r⟩
theorem RpA.two {φ : List Addr} {S : Hp} {vs : List V} {d e : D} (r : RpA K φ S vs [d, e]) : ∃ v w, vs = [v, w] ∧ Rp K φ S v d ∧ Rp K φ S w e := by
  cases r with
  | cons r t =>
    obtain ⟨w, rfl, r2⟩ := t.one
    exact ⟨_, w, rfl, r, r2⟩
/-- len -/
def lenD (h : Hv) (d : D) : Option Int := match d with
  | .str z => if z.length ≤ 16777216 then some (z.length : Int) else none
  | d => (sqOf h d).map fun xs => (xs.length : Int)
def bLen : List D → Hv → R D := fun ds h => match ds with
  | [d] => (match lenD h d with
    | some n => .ok (.int n) h
    | none => .stuck)
  | _ => .stuck
def rLenA (K : PySem.W.Frag) : List V → Hp → VK → Prop := fun xs H Q => ∃ x n, xs = [x] ∧ LenV K x H n ∧ Q (.int n) H
theorem cs_len : CaS K (rLenA K) bLen := by
  intro φ S H h ds vs Q E rl ra post
  unfold bLen at post
  split at post
  · next d =>
    obtain ⟨v, rfl, r⟩ := ra.one
    cases q : lenD h d with
    | none => simp only [q] at post; exact post.elim
    | some n =>
      simp only [q] at post
      unfold lenD at q
      split at q
      · next z =>
        split at q
        · next hz =>
          cases q
          cases r
          exact ⟨.str z, z.length, rfl, ⟨by rw [line_eq]; exact hz, rfl⟩, post _ φ S H rl (Step.refl _ _ _) (.int _)⟩
        · cases q
      · obtain ⟨xs, q1, q2⟩ := Option.map_eq_some_iff.mp q
        subst q2
        obtain ⟨a, vs, rfl, h2, h3⟩ := sqOf_ok rl r q1
        refine ⟨.ref a, vs.length, rfl, ?_, by rw [h3.length]; exact post _ φ S H rl (Step.refl _ _ _) (.int _)⟩
        rcases h2 with h2 | h2
        · exact .inl ⟨vs, h2, rfl⟩
        · exact .inr ⟨vs, h2, rfl⟩
  · exact post.elim
/-- int -> int -/
def bAbs : List D → Hv → R D := fun ds h => match ds with
  | [.int i] => .ok (.int (if i < 0 then -i else i)) h
  | _ => .stuck
theorem cs_abs : CaS K (fun xs H Q => ∃ i, xs = [.int i] ∧ Q (.int (if i < 0 then -i else i)) H) bAbs := by
  intro φ S H h ds vs Q E rl ra post
  unfold bAbs at post
  split at post
  · obtain ⟨v, rfl, r⟩ := ra.one
    cases r
    exact ⟨_, rfl, post _ φ S H rl (Step.refl _ _ _) (.int _)⟩
  · exact post.elim
def bMax2 : List D → Hv → R D := fun ds h => match ds with
  | [.int i, .int j] => .ok (.int (if j > i then j else i)) h
  | _ => .stuck
theorem cs_max2 : CaS K (fun xs H Q => ∃ i j, xs = [.int i, .int j] ∧ Q (.int (if j > i then j else i)) H) bMax2 := by
  intro φ S H h ds vs Q E rl ra post
  unfold bMax2 at post
  split at post
  · obtain ⟨v, w, rfl, r, r2⟩ := ra.two
    cases r
    cases r2
    exact ⟨_, _, rfl, post _ φ S H rl (Step.refl _ _ _) (.int _)⟩
  · exact post.elim
def bMin2 : List D → Hv → R D := fun ds h => match ds with
  | [.int i, .int j] => .ok (.int (if j < i then j else i)) h
  | _ => .stuck
theorem cs_min2 : CaS K (fun xs H Q => ∃ i j, xs = [.int i, .int j] ∧ Q (.int (if j < i then j else i)) H) bMin2 := by
  intro φ S H h ds vs Q E rl ra post
  unfold bMin2 at post
  split at post
  · obtain ⟨v, w, rfl, r, r2⟩ := ra.two
    cases r
    cases r2
    exact ⟨_, _, rfl, post _ φ S H rl (Step.refl _ _ _) (.int _)⟩
  · exact post.elim
/-- sum, max, min of ints; any, all of bools -/
def bInts (f : List Int → Option D) : List D → Hv → R D := fun ds h => match ds with
  | [d] => (match (lOf h d).bind (optAll toI) with
    | some ns => (match f ns with
      | some z => .ok z h
      | none => .stuck)
    | none => .stuck)
  | _ => .stuck
theorem bInts_ok {f : List Int → Option D} {φ : List Addr} {S H : Hp} {h : Hv} {ds : List D} {vs : List V} {Q : VK} {E : XK} (rl : Rel K φ S H h) (ra : RpA K φ S vs ds) (post : Post K (repV K) φ S H (bInts f ds h) Q E) :
    ∃ a ns z, vs = [.ref a] ∧ SqL K H a (ns.map V.int) ∧ f ns = some z ∧ ∀ v, Rp K φ S v z → Q v H := by
  unfold bInts at post
  split at post
  · next d =>
    obtain ⟨v, rfl, r⟩ := ra.one
    split at post
    · next ns hn =>
      split at post
      · next z hz =>
        obtain ⟨xs, q1, q2⟩ := Option.bind_eq_some_iff.mp hn
        obtain ⟨a, vs, rfl, h2, h3⟩ := lOf_ok rl r q1
        rw [toIs_ok h3 q2] at h2
        exact ⟨a, ns, z, rfl, h2, hz, fun v rv => post v φ S H rl (Step.refl _ _ _) rv⟩
      · exact post.elim
    · exact post.elim
  · exact post.elim
def bSum := bInts fun ns => some (.int ns.sum)
theorem cs_sum : CaS K (rSum K) bSum := by
  intro φ S H h ds vs Q E rl ra post
  obtain ⟨a, ns, z, rfl, h1, h2, h3⟩ := bInts_ok rl ra post
  cases h2
  exact ⟨a, ns, rfl, h1, h3 _ (.int _)⟩
def maxI : List Int → Option Int
  | [] => none
  | x :: xs => some (xs.foldl max x)
def minI : List Int → Option Int
  | [] => none
  | x :: xs => some (xs.foldl min x)
theorem foldl_max_le : ∀ (xs : List Int) (x : Int), x ≤ xs.foldl max x ∧ (∀ y ∈ xs, y ≤ xs.foldl max x) ∧ (xs.foldl max x = x ∨ xs.foldl max x ∈ xs)
  | [], x => ⟨Int.le_refl _, fun _ z => (nomatch z), .inl rfl⟩
  | y :: ys, x => by
    obtain ⟨h1, h2, h3⟩ := foldl_max_le ys (max x y)
    rw [List.foldl_cons]
    refine ⟨by omega, fun z hz => ?_, ?_⟩
    · rcases List.mem_cons.mp hz with rfl | hz
      · omega
      · exact h2 z hz
    · rcases h3 with h3 | h3
      · rw [h3]
        rcases Int.le_total x y with q | q
        · rw [Int.max_eq_right q]; exact .inr List.mem_cons_self
        · rw [Int.max_eq_left q]; exact .inl rfl
      · exact .inr (List.mem_cons_of_mem _ h3)
theorem foldl_min_le : ∀ (xs : List Int) (x : Int), xs.foldl min x ≤ x ∧ (∀ y ∈ xs, xs.foldl min x ≤ y) ∧ (xs.foldl min x = x ∨ xs.foldl min x ∈ xs)
  | [], x => ⟨Int.le_refl _, fun _ z => (nomatch z), .inl rfl⟩
  | y :: ys, x => by
    obtain ⟨h1, h2, h3⟩ := foldl_min_le ys (min x y)
    rw [List.foldl_cons]
    refine ⟨by omega, fun z hz => ?_, ?_⟩
    · rcases List.mem_cons.mp hz with rfl | hz
      · omega
      · exact h2 z hz
    · rcases h3 with h3 | h3
      · rw [h3]
        rcases Int.le_total x y with q | q
        · rw [Int.min_eq_left q]; exact .inl rfl
        · rw [Int.min_eq_right q]; exact .inr List.mem_cons_self
      · exact .inr (List.mem_cons_of_mem _ h3)
theorem maxI_ok {ns : List Int} {m : Int} (h : maxI ns = some m) : m ∈ ns ∧ ∀ y ∈ ns, y ≤ m := by
  cases ns with
  | nil => cases h
  | cons x xs =>
    cases h
    obtain ⟨h1, h2, h3⟩ := foldl_max_le xs x
    refine ⟨?_, fun y hy => ?_⟩
    · rcases h3 with h3 | h3
      · rw [h3]; exact List.mem_cons_self
      · exact List.mem_cons_of_mem _ h3
    · rcases List.mem_cons.mp hy with rfl | hy
      · exact h1
      · exact h2 y hy
theorem minI_ok {ns : List Int} {m : Int} (h : minI ns = some m) : m ∈ ns ∧ ∀ y ∈ ns, m ≤ y := by
  cases ns with
  | nil => cases h
  | cons x xs =>
    cases h
    obtain ⟨h1, h2, h3⟩ := foldl_min_le xs x
    refine ⟨?_, fun y hy => ?_⟩
    · rcases h3 with h3 | h3
      · rw [h3]; exact List.mem_cons_self
      · exact List.mem_cons_of_mem _ h3
    · rcases List.mem_cons.mp hy with rfl | hy
      · exact h1
      · exact h2 y hy
def bMax := bInts fun ns => (maxI ns).map D.int
def bMin := bInts fun ns => (minI ns).map D.int
theorem cs_max : CaS K (rMax K) bMax := by
  intro φ S H h ds vs Q E rl ra post
  obtain ⟨a, ns, z, rfl, h1, h2, h3⟩ := bInts_ok rl ra post
  obtain ⟨m, hm, rfl⟩ := Option.map_eq_some_iff.mp h2
  obtain ⟨m1, m2⟩ := maxI_ok hm
  refine ⟨a, ns, rfl, h1, List.length_pos_of_mem m1, fun k k1 k2 => ?_⟩
  have e : k = m := Int.le_antisymm (m2 k k1) (k2 m m1)
  rw [e]
  exact h3 _ (.int _)
theorem cs_min : CaS K (rMin K) bMin := by
  intro φ S H h ds vs Q E rl ra post
  obtain ⟨a, ns, z, rfl, h1, h2, h3⟩ := bInts_ok rl ra post
  obtain ⟨m, hm, rfl⟩ := Option.map_eq_some_iff.mp h2
  obtain ⟨m1, m2⟩ := minI_ok hm
  refine ⟨a, ns, rfl, h1, List.length_pos_of_mem m1, fun k k1 k2 => ?_⟩
  have e : k = m := Int.le_antisymm (k2 m m1) (m2 k k1)
  rw [e]
  exact h3 _ (.int _)
def bBools (f : List Bool → Bool) : List D → Hv → R D := fun ds h => match ds with
  | [d] => (match (lOf h d).bind (optAll toBl) with
    | some ns => .ok (.bl (f ns)) h
    | none => .stuck)
  | _ => .stuck
theorem bBools_ok {f : List Bool → Bool} {φ : List Addr} {S H : Hp} {h : Hv} {ds : List D} {vs : List V} {Q : VK} {E : XK} (rl : Rel K φ S H h) (ra : RpA K φ S vs ds) (post : Post K (repV K) φ S H (bBools f ds h) Q E) :
    ∃ a ns, vs = [.ref a] ∧ SqL K H a (ns.map V.bl) ∧ Q (.bl (f ns)) H := by
  unfold bBools at post
  split at post
  · next d =>
    obtain ⟨v, rfl, r⟩ := ra.one
    split at post
    · next ns hn =>
      obtain ⟨xs, q1, q2⟩ := Option.bind_eq_some_iff.mp hn
      obtain ⟨a, vs, rfl, h2, h3⟩ := lOf_ok rl r q1
      rw [toBls_ok h3 q2] at h2
      exact ⟨a, ns, rfl, h2, post _ φ S H rl (Step.refl _ _ _) (.bl _)⟩
    · exact post.elim
  · exact post.elim
def bAll := bBools fun bs => bs.all id
def bAny := bBools fun bs => bs.any id
theorem cs_all : CaS K (rAll K) bAll := by
  intro φ S H h ds vs Q E rl ra post
  obtain ⟨a, ns, rfl, h1, h2⟩ := bBools_ok rl ra post
  exact ⟨a, ns, rfl, h1, h2⟩
theorem cs_any : CaS K (rAny K) bAny := by
  intro φ S H h ds vs Q E rl ra post
  obtain ⟨a, ns, rfl, h1, h2⟩ := bBools_ok rl ra post
  exact ⟨a, ns, rfl, h1, h2⟩
/-- list(xs): new -/
def bList : List D → Hv → R (List D) := fun ds h => match ds with
  | [d] => (match sqOf h d with
    | some xs => .ok xs h
    | none => .stuck)
  | _ => .stuck
theorem cl_list : CaL K (fun xs H Q => ∃ p ys, xs = [.ref p] ∧ (SqL K H p ys ∨ SqT K H p ys) ∧ ∀ l, H l = none → Q (.ref l) (upd H l (.lst ys))) bList := by
  intro φ S H h ds vs Q E rl ra post
  unfold bList at post
  split at post
  · next d =>
    obtain ⟨v, rfl, r⟩ := ra.one
    split at post
    · next xs hx =>
      obtain ⟨a, vs, rfl, h2, h3⟩ := sqOf_ok rl r hx
      refine ⟨a, vs, rfl, h2, fun p hp => ?_⟩
      obtain ⟨r2, s2⟩ := rl.hold (o := .lst vs) hp
      exact post _ φ _ _ r2 s2 ⟨p, _, rfl, hp, upd_same, rl.snone hp, rl.notin hp, h3⟩
    · exact post.elim
  · exact post.elim
/-- tuple(xs) of a list -/
def bTuple : List D → Hv → R D := fun ds h => match ds with
  | [d] => (match lOf h d with
    | some xs => .ok (.tup xs) h
    | none => (match tOf d with
      | some xs => .ok (.tup xs) h
      | none => .stuck))
  | _ => .stuck
theorem cs_tuple : CaS K (fun xs H Q => ∃ p ys, xs = [.ref p] ∧ ((SqL K H p ys ∧ ∀ l, H l = none → Q (.ref l) (upd H l (.tup ys))) ∨ (SqT K H p ys ∧ Q (.ref p) H))) bTuple := by
  intro φ S H h ds vs Q E rl ra post
  unfold bTuple at post
  split at post
  · next d =>
    obtain ⟨v, rfl, r⟩ := ra.one
    split at post
    · next xs hx =>
      obtain ⟨a, vs, rfl, h2, h3⟩ := lOf_ok rl r hx
      refine ⟨a, vs, rfl, .inl ⟨h2, fun p hp => ?_⟩⟩
      obtain ⟨r2, s2⟩ := rl.lay (o := .tup vs) hp
      exact post _ φ _ _ r2 s2 (.tup (.inl (.inl upd_same)) (h3.mono (Pre.refl _) s2.sub))
    · split at post
      · next xs hx =>
        cases r with
        | tup g1 g2 =>
          cases hx
          exact ⟨_, _, rfl, .inr ⟨rl.sub.sqt g1, post _ φ S H rl (Step.refl _ _ _) (.tup g1 g2)⟩⟩
        | _ => cases hx
      · exact post.elim
  · exact post.elim
/-- sorted(ints): new -/
def sortI (ns : List Int) : List Int := ns.mergeSort fun a b => decide (a ≤ b)
theorem sortI_perm (ns : List Int) : (sortI ns).Perm ns := List.mergeSort_perm _ _
theorem sortI_rises (ns : List Int) : (sortI ns).Pairwise (· ≤ ·) := by
  have h := List.pairwise_mergeSort (le := fun (a b : Int) => decide (a ≤ b)) (fun a b c h1 h2 => by
    have := of_decide_eq_true h1
    have := of_decide_eq_true h2
    exact decide_eq_true (by omega)) (fun a b => by
    rcases Int.le_total a b with q | q
    · rw [decide_eq_true q]; rfl
    · rw [decide_eq_true q, Bool.or_true]) ns
  exact h.imp fun h => of_decide_eq_true h
theorem sort_one {xs ys : List Int} (hp : xs.Perm ys) (h1 : xs.Pairwise (· ≤ ·)) (h2 : ys.Pairwise (· ≤ ·)) : xs = ys := hp.eq_of_pairwise (le := (· ≤ ·)) (fun a b _ _ x y => Int.le_antisymm x y) h1 h2
def bSorted : List D → Hv → R (List D) := fun ds h => match ds with
  | [d] => (match (lOf h d).bind (optAll toI) with
    | some ns => .ok ((sortI ns).map D.int) h
    | none => .stuck)
  | _ => .stuck
theorem cl_sorted : CaL K (rSortedI K) bSorted := by
  intro φ S H h ds vs Q E rl ra post
  unfold bSorted at post
  split at post
  · next d =>
    obtain ⟨v, rfl, r⟩ := ra.one
    split at post
    · next ns hn =>
      obtain ⟨xs, q1, q2⟩ := Option.bind_eq_some_iff.mp hn
      obtain ⟨a, vs, rfl, h2, h3⟩ := lOf_ok rl r q1
      rw [toIs_ok h3 q2] at h2
      refine ⟨a, ns, rfl, h2, fun ns' p hperm hs hp => ?_⟩
      have e : ns' = sortI ns := sort_one (hperm.trans (sortI_perm ns).symm) hs (sortI_rises ns)
      rw [e]
      obtain ⟨r2, s2⟩ := rl.hold (o := .lst ((sortI ns).map V.int)) hp
      exact post _ φ _ _ r2 s2 ⟨p, _, rfl, hp, upd_same, rl.snone hp, rl.notin hp, .of_ints _⟩
    · exact post.elim
  · exact post.elim
/-- str(int), int(int), bool(int) -/
def bStr : List D → Hv → R D := fun ds h => match ds with
  | [.int i] => if i.natAbs.log2 < 1920 then .ok (.str (toString i)) h else .stuck
  | _ => .stuck
theorem cs_str : CaS K (fun xs H Q => ∃ i, xs = [.int i] ∧ i.natAbs.log2 < 1920 ∧ Q (.str (toString i)) H) bStr := by
  intro φ S H h ds vs Q E rl ra post
  unfold bStr at post
  split at post
  · next i =>
    obtain ⟨v, rfl, r⟩ := ra.one
    cases r
    split at post
    · next q => exact ⟨_, rfl, q, post _ φ S H rl (Step.refl _ _ _) (.str _)⟩
    · exact post.elim
  · exact post.elim
def bInt : List D → Hv → R D := fun ds h => match ds with
  | [.int i] => .ok (.int i) h
  | [.bl b] => .ok (.int (if b then 1 else 0)) h
  | _ => .stuck
theorem cs_int : CaS K (fun xs H Q => (∃ i, xs = [.int i] ∧ Q (.int i) H) ∨ ∃ k, xs = [.bl k] ∧ Q (.int (if k then 1 else 0)) H) bInt := by
  intro φ S H h ds vs Q E rl ra post
  unfold bInt at post
  split at post
  · obtain ⟨v, rfl, r⟩ := ra.one
    cases r
    exact .inl ⟨_, rfl, post _ φ S H rl (Step.refl _ _ _) (.int _)⟩
  · obtain ⟨v, rfl, r⟩ := ra.one
    cases r
    exact .inr ⟨_, rfl, post _ φ S H rl (Step.refl _ _ _) (.int _)⟩
  · exact post.elim
end
end
end VD

set_option Elab.async false
set_option linter.all false
set_option maxRecDepth 100000
set_option maxHeartbeats 4000000
namespace VD
open PySem PySem.Spec PyProof.Rows L2
noncomputable section
/-! ### statements -/
def PostS (K : PySem.W.Frag) (φ : List Addr) (S H : Hp) (r : RS) (D : Ends) (W : WX) : Prop := match r with
  | .next σv h' => ∀ σ φ' S' H', Rel K φ' S' H' h' → RelS K φ' S' σv σ → Step φ S H φ' S' H' → D.nx σ H'
  | .brk σv h' => ∀ σ φ' S' H', Rel K φ' S' H' h' → RelS K φ' S' σv σ → Step φ S H φ' S' H' → D.bk σ H'
  | .cont σv h' => ∀ σ φ' S' H', Rel K φ' S' H' h' → RelS K φ' S' σv σ → Step φ S H φ' S' H' → D.ct σ H'
  | .ret d h' => ∀ v φ' S' H', Rel K φ' S' H' h' → Step φ S H φ' S' H' → Rp K φ' S' v d → D.rt v H'
  | .exc x σv h' => ∀ σ cls dd φ' S' H', Rel K φ' S' H' h' → RelS K φ' S' σv σ → Step φ S H φ' S' H' → RpX K φ' S' H' x cls dd → W cls dd σ H'
  | .stuck => False
theorem PostS.up {K : PySem.W.Frag} {φ φ1 : List Addr} {S H S1 H1 : Hp} {r : RS} {D : Ends} {W : WX} (s : Step φ S H φ1 S1 H1) (p : PostS K φ S H r D W) : PostS K φ1 S1 H1 r D W := by
  cases r with
  | next σv h' => exact fun σ φ' S' H' a b c => p σ φ' S' H' a b (s.trans c)
  | brk σv h' => exact fun σ φ' S' H' a b c => p σ φ' S' H' a b (s.trans c)
  | cont σv h' => exact fun σ φ' S' H' a b c => p σ φ' S' H' a b (s.trans c)
  | ret d h' => exact fun v φ' S' H' a b c => p v φ' S' H' a (s.trans b) c
  | exc x σv h' => exact fun σ cls dd φ' S' H' a b c d => p σ cls dd φ' S' H' a b (s.trans c) d
  | stuck => exact p
structure SnS (K : PySem.W.Frag) (W : WX) (ts : TS) (ss : SS) : Prop where
  run : ∀ {φ : List Addr} {S H : Hp} {h : Hv} {σv : VS} {σ : L2.St} {D : Ends}, Rel K φ S H h → RelS K φ S σv σ → PostS K φ S H (ss σv h) D W → ts D σ H
/-- a value, then a statement's end -/
def R.then {α : Type} (r : R α) (σ : VS) (f : α → Hv → RS) : RS := match r with
  | .ok a h => f a h
  | .exc x h => .exc x σ h
  | .stuck => .stuck
@[simp] theorem R.then_ok {α : Type} (a : α) (h : Hv) (σ : VS) (f : α → Hv → RS) : (R.ok a h).then σ f = f a h := rfl
@[simp] theorem R.then_exc {α : Type} (x : Xn) (h : Hv) (σ : VS) (f : α → Hv → RS) : (R.exc x h : R α).then σ f = .exc x σ h := rfl
@[simp] theorem R.then_stuck {α : Type} (σ : VS) (f : α → Hv → RS) : (R.stuck : R α).then σ f = .stuck := rfl
theorem Sn.thenS {α β : Type} {K : PySem.W.Frag} {rep : Rep α β} {W : WX} {t : L2.St → Hp → (β → Hp → Prop) → Prop} {ea : VS → Hv → R α} {f : α → Hv → RS}
    {φ : List Addr} {S H : Hp} {h : Hv} {σv : VS} {σ : L2.St} {D : Ends} {Q1 : β → Hp → Prop}
    (ha : Sn K rep W t ea) (rl : Rel K φ S H h) (rs : RelS K φ S σv σ) (post : PostS K φ S H ((ea σv h).then σv f) D W)
    (k : ∀ a h1 b φ1 S1 H1, Rel K φ1 S1 H1 h1 → RelS K φ1 S1 σv σ → Step φ S H φ1 S1 H1 → rep H φ1 S1 H1 b a → PostS K φ1 S1 H1 (f a h1) D W → Q1 b H1) : t σ H Q1 := by
  refine ha.run rl rs ?_
  cases q : ea σv h with
  | ok a h1 =>
    rw [q] at post
    exact fun b φ1 S1 H1 rl1 st rp => k a h1 b φ1 S1 H1 rl1 (rs.step st) st rp (PostS.up st post)
  | exc x h1 =>
    rw [q] at post
    exact fun cls dd φ' S' H' a b c => post σ cls dd φ' S' H' a (rs.step b) b c
  | stuck =>
    rw [q] at post
    exact post.elim

def QS (X : Cx) (W : WX) (st : Stmt) (ss : SS) : Prop := ∃ t, PS X st t ∧ SnS X.K W t ss
def QB (X : Cx) (W : WX) (st : List Stmt) (ss : SS) : Prop := ∃ t, PSs X st t ∧ SnS X.K W t ss
def sNext : SS := fun σ h => .next σ h
def sSeq (f g : SS) : SS := fun σ h => match f σ h with
  | .next σ' h' => g σ' h'
  | r => r
section
variable {X : Cx} {W : WX} {e a b c : Expr} {st : Stmt} {rest : List Stmt} {pos pos' : Pos} {fa fb fc : ES} {la lb : LS} {ca cb : CS} {s1 s2 s3 : SS}
theorem qb_nil : QB X W [] sNext := ⟨_, pss_nil, ⟨fun {φ S H h σv σ D} rl rs post => post σ φ S H rl rs (Step.refl _ _ _)⟩⟩
theorem qb_cons (h1 : QS X W st s1) (h2 : QB X W rest s2) : QB X W (st :: rest) (sSeq s1 s2) := by
  obtain ⟨t1, a1, b1⟩ := h1
  obtain ⟨t2, a2, b2⟩ := h2
  refine ⟨_, pss_cons a1 a2, ⟨fun {φ S H h σv σ D} rl rs post => b1.run rl rs ?_⟩⟩
  unfold sSeq at post
  cases q : s1 σv h with
  | next σ' h' =>
    rw [q] at post
    exact fun σ1 φ1 S1 H1 rl1 rs1 st1 => b2.run rl1 rs1 (PostS.up st1 post)
  | _ => rw [q] at post; exact post
theorem qb_one (h1 : QS X W st s1) : QB X W [st] s1 := by
  obtain ⟨t1, a1, b1⟩ := h1
  exact ⟨_, pss_one a1, b1⟩
def sBrk : SS := fun σ h => .brk σ h
def sCont : SS := fun σ h => .cont σ h
theorem qs_pass : QS X W (.Pass pos) sNext := ⟨_, ps_pass, ⟨fun {φ S H h σv σ D} rl rs post => post σ φ S H rl rs (Step.refl _ _ _)⟩⟩
theorem qs_break : QS X W (.Break pos) sBrk := ⟨_, ps_break, ⟨fun {φ S H h σv σ D} rl rs post => post σ φ S H rl rs (Step.refl _ _ _)⟩⟩
theorem qs_continue : QS X W (.Continue pos) sCont := ⟨_, ps_continue, ⟨fun {φ S H h σv σ D} rl rs post => post σ φ S H rl rs (Step.refl _ _ _)⟩⟩
theorem qs_doc {x j} : QS X W (.Expr (.Constant (.str x) j pos) pos') sNext := ⟨_, ps_doc, ⟨fun {φ S H h σv σ D} rl rs post => post σ φ S H rl rs (Step.refl _ _ _)⟩⟩
/-- what the proof never comes to -/
def sNever : SS := fun _ _ => .stuck
theorem qs_never : QS X W st sNever := ⟨_, ps_never, ⟨fun rl rs post => post.elim⟩⟩
theorem qb_never : QB X W rest sNever := ⟨_, pss_never, ⟨fun rl rs post => post.elim⟩⟩
def sDrop (f : ES) : SS := fun σ h => (f σ h).then σ fun _ h' => .next σ h'
theorem qs_expr (he : SE X W e fa) (hs : swapsWith e none pos.line X.env = pure false := by rfl) : QS X W (.Expr e pos) (sDrop fa) := by
  obtain ⟨ta, h1, h2⟩ := he
  exact ⟨_, ps_expr h1 hs, ⟨fun rl rs post => h2.thenS rl rs post fun x h1 v φ1 S1 H1 rl1 rs1 st rp post => post _ φ1 S1 H1 rl1 rs1 (Step.refl _ _ _)⟩⟩
def sRet (f : ES) : SS := fun σ h => (f σ h).then σ fun d h' => .ret d h'
theorem qs_ret (he : SE X W e fa) : QS X W (.Return (some e) pos) (sRet fa) := by
  obtain ⟨ta, h1, h2⟩ := he
  exact ⟨_, ps_ret h1, ⟨fun rl rs post => h2.thenS rl rs post fun x h1 v φ1 S1 H1 rl1 rs1 st rp post => post v φ1 S1 H1 rl1 (Step.refl _ _ _) rp⟩⟩
theorem qs_retN : QS X W (.Return none pos) (fun _ h => .ret .non h) := ⟨_, ps_retN, ⟨fun {φ S H h σv σ D} rl rs post => post .non φ S H rl (Step.refl _ _ _) .non⟩⟩
def sIf (c : CS) (f g : SS) : SS := fun σ h => (c σ h).then σ fun k h' => if k then f σ h' else g σ h'
theorem qs_if {x y : List Stmt} (hc : ST X W c ca) (ha : QB X W x s1) (hb : QB X W y s2) : QS X W (.If c x y pos) (sIf ca s1 s2) := by
  obtain ⟨tc, h1, h2⟩ := hc
  obtain ⟨ta, k1, k2⟩ := ha
  obtain ⟨tb, l1, l2⟩ := hb
  refine ⟨_, ps_if h1 k1 l1, ⟨fun rl rs post => h2.thenS rl rs post fun x h1 v φ1 S1 H1 rl1 rs1 st rp post => ?_⟩⟩
  cases (show v = x from rp)
  cases x with
  | true => exact k2.run rl1 rs1 post
  | false => exact l2.run rl1 rs1 post
def sSet (i : Nat) (f : ES) : SS := fun σ h => (f σ h).then σ fun d h' => .next (σ.set i (some d)) h'
theorem qs_set {i : Nat} {x : Str} (nd : X.N.Nodup) (he : SE X W e fa) (hi : X.N[i]? = some x := by rfl) (hx : Loc X.env.scope x := by first | exact Or.inl rfl | exact Or.inr rfl) (hs : swapsWith e (some (.Name x pos')) pos.line X.env = pure false := by rfl)
    (hf : X.fn x = true ∨ X.env.scope.names.lookup x = some .local := by first | exact .inl rfl | exact .inr rfl | assumption) : QS X W (.Assign [.Name x pos'] e pos) (sSet i fa) := by
  obtain ⟨ta, h1, h2⟩ := he
  exact ⟨_, ps_set nd hi hx h1 hs hf, ⟨fun rl rs post => h2.thenS rl rs post fun d h1 v φ1 S1 H1 rl1 rs1 st rp post => post _ φ1 S1 H1 rl1 (rs1.set rp i) (Step.refl _ _ _)⟩⟩
/-- a, b = x, y -/
def sPar (i j : Nat) (g : LS) : SS := fun σ h => (g σ h).then σ fun ds h' => match ds with
  | [x, y] => .next ((σ.set i (some x)).set j (some y)) h'
  | _ => .stuck
theorem qs_par {i j : Nat} {x y : Str} {px py pt pt2 : Pos} {kt k2} (nd : X.N.Nodup) (ha : SA X W [a, b] la) (hij : i ≠ j := by decide) (hc : X.calm = true := by rfl) (hi : X.N[i]? = some x := by rfl) (hj : X.N[j]? = some y := by rfl)
    (hx : X.env.scope.names.lookup x = some .local := by rfl) (hy : X.env.scope.names.lookup y = some .local := by rfl)
    (hw : swappedStores [.Tuple [.Name x px, .Name y py] kt pt] (.Tuple [a, b] k2 pt2) X.env = pure (some [x, y]) := by rfl)
    (hs : swapsWithSole [.Tuple [.Name x px, .Name y py] kt pt] (.Tuple [a, b] k2 pt2) pos.line X.env = pure false := by rfl) : QS X W (.Assign [.Tuple [.Name x px, .Name y py] kt pt] (.Tuple [a, b] k2 pt2) pos) (sPar i j la) := by
  obtain ⟨ta, h1, h2⟩ := ha
  refine ⟨_, ps_par hc nd hi hj hij hx hy h1 hw hs, ⟨fun rl rs post => h2.thenS rl rs post fun ds h1 vs φ1 S1 H1 rl1 rs1 st rp post => ?_⟩⟩
  have ra : RpA X.K φ1 S1 vs ds := rp
  split at post
  · obtain ⟨v, w, rfl, r1, r2⟩ := ra.two
    exact ⟨v, w, rfl, post _ φ1 S1 H1 rl1 ((rs1.set r1 i).set r2 j) (Step.refl _ _ _)⟩
  · exact post.elim
/-- x op= e, ints -/
def sAug (i : Nat) (g : Int → Int → Int) (f : ES) : SS := fun σ h => match σ[i]? with
  | some (some (.int a)) => (f σ h).then σ fun d h' => match d with
    | .int b => .next (σ.set i (some (.int (g a b)))) h'
    | _ => .stuck
  | _ => .stuck
theorem qs_aug {i : Nat} {x : Str} {op : Operator} {g : Int → Int → Int} (nd : X.N.Nodup) (he : SE X W e fa) (ho : PIp X op (ipI g)) (hi : X.N[i]? = some x := by rfl) (hx : Loc X.env.scope x := by first | exact Or.inl rfl | exact Or.inr rfl)
    (hf : X.fn x = true ∨ X.env.scope.names.lookup x = some .local := by first | exact .inl rfl | exact .inr rfl | assumption) : QS X W (.AugAssign (.Name x pos') op e pos) (sAug i g fa) := by
  obtain ⟨ta, h1, h2⟩ := he
  refine ⟨_, ps_aug nd hi hx h1 ho hf, ⟨fun {φ S H h σv σ D} rl rs post => ?_⟩⟩
  unfold sAug at post
  split at post
  · next z hz =>
    obtain ⟨v, hv, rv⟩ := rs.at_ i _ hz
    cases rv
    refine ⟨_, hv, h2.thenS rl rs post fun d h1 u φ1 S1 H1 rl1 rs1 st rp post => ?_⟩
    cases d with
    | int b =>
      cases (show Rp _ _ _ _ _ from rp)
      exact ⟨_, _, rfl, rfl, post _ φ1 S1 H1 rl1 (rs1.set (.int _) i) (Step.refl _ _ _)⟩
    | _ => exact post.elim
  · exact post.elim
end

/-! ### targets -/
abbrev GD := D → VS → Option VS
abbrev GDs := List D → VS → Option VS
structure SnG (K : PySem.W.Frag) (g : TG) (gs : GD) (own : List Nat) : Prop where
  run : ∀ {φ : List Addr} {S H : Hp} {d : D} {v : V} {σv σv' : VS} {σ : L2.St} {Q : L2.St → Hp → Prop}, Ex S H → RelS K φ S σv σ → Rp K φ S v d → gs d σv = some σv' →
    (∀ σ', RelS K φ S σv' σ' → σ'.length = σ.length → (∀ j, j ∉ own → σ'[j]? = σ[j]?) → Q σ' H) → g v σ H Q
structure SnGs (K : PySem.W.Frag) (g : TGs) (gs : GDs) (own : List Nat) : Prop where
  run : ∀ {φ : List Addr} {S H : Hp} {d : List D} {v : List V} {σv σv' : VS} {σ : L2.St} {Q : L2.St → Hp → Prop}, Ex S H → RelS K φ S σv σ → RpA K φ S v d → gs d σv = some σv' →
    (∀ σ', RelS K φ S σv' σ' → σ'.length = σ.length → (∀ j, j ∉ own → σ'[j]? = σ[j]?) → Q σ' H) → g v σ H Q
def QG (X : Cx) (tg : Expr) (gs : GD) (own : List Nat) : Prop := ∃ g, PG X tg g ∧ SnG X.K g gs own
def QGs (X : Cx) (ts : List Expr) (gs : GDs) (own : List Nat) : Prop := ∃ g, PGs X ts g ∧ SnGs X.K g gs own
def gN (i : Nat) : GD := fun d σ => some (σ.set i (some d))
def gsNil : GDs := fun ds σ => match ds with
  | [] => some σ
  | _ => none
def gsCons (g : GD) (gs : GDs) : GDs := fun ds σ => match ds with
  | d :: r => (match g d σ with
    | some σ' => gs r σ'
    | none => none)
  | _ => none
def gT (n : Nat) (gs : GDs) : GD := fun d σ => match d with
  | .tup ds => if ds.length = n then gs ds σ else none
  | _ => none
section
variable {X : Cx} {pos : Pos} {e : Expr} {es : List Expr} {g : GD} {gs : GDs} {own own2 : List Nat}
theorem sng_name {K : PySem.W.Frag} (i : Nat) : SnG K (gName i) (gN i) [i] := ⟨fun {φ S H d v σv σv' σ Q} ex rs rp h k => by
  cases h
  refine k _ (rs.set rp i) (List.length_set) fun j hj => ?_
  exact List.getElem?_set_ne (fun z => hj (by rw [← z]; exact List.mem_singleton.mpr rfl))⟩
theorem qg_name {i : Nat} {x : Str} (nd : X.N.Nodup) (hi : X.N[i]? = some x := by rfl) (hx : Loc X.env.scope x := by first | exact Or.inl rfl | exact Or.inr rfl)
    (hf : X.fn x = true ∨ X.env.scope.names.lookup x = some .local := by first | exact .inl rfl | exact .inr rfl | assumption) : QG X (.Name x pos) (gN i) [i] := ⟨_, pg_name nd hi hx hf, sng_name i⟩
theorem qgs_nil : QGs X [] gsNil [] := ⟨_, pgs_nil, ⟨fun {φ S H d v σv σv' σ Q} ex rs rp h k => by
  cases d with
  | nil =>
    cases h
    cases rp
    exact ⟨rfl, k σ rs rfl fun _ _ => rfl⟩
  | cons _ _ => cases h⟩⟩
theorem qgs_cons (h1 : QG X e g own) (h2 : QGs X es gs own2) (hs : (assignEach (e :: es) X.env).map (·.2) = assign e X.env :: (assignEach es X.env).map (·.2) := by rfl) : QGs X (e :: es) (gsCons g gs) (own ++ own2) := by
  obtain ⟨t1, a1, b1⟩ := h1
  obtain ⟨t2, a2, b2⟩ := h2
  refine ⟨_, pgs_cons a1 a2 hs, ⟨fun {φ S H d v σv σv' σ Q} ex rs rp h k => ?_⟩⟩
  cases d with
  | nil => cases h
  | cons d r =>
    cases rp with
    | cons rv rr =>
      simp only [gsCons] at h
      cases q : g d σv with
      | none => rw [q] at h; cases h
      | some σ1 =>
        rw [q] at h
        refine ⟨_, _, rfl, b1.run ex rs rv q fun σ' rs1 l1 f1 => b2.run ex rs1 rr h fun σ2 rs2 l2 f2 => k σ2 rs2 (l2.trans l1) fun j hj => ?_⟩
        have hj' : ¬ (j ∈ own ∨ j ∈ own2) := fun z => hj (List.mem_append.mpr z)
        exact (f2 j fun z => hj' (.inr z)).trans (f1 j fun z => hj' (.inl z))
theorem qg_tup {k : Nat} {n : Nat} (h : QGs X es gs own) (hc : X.calm = true := by rfl) (hn : (assignEach es X.env).length = n := by rfl) (hst : (assignEach es X.env).findIdx? (·.1) = none := by rfl) : QG X (.Tuple es k pos) (gT n gs) own := by
  obtain ⟨t1, a1, b1⟩ := h
  refine ⟨_, pg_tup hc a1 hn hst, ⟨fun {φ S H d v σv σv' σ Q} ex rs rp h k => ?_⟩⟩
  cases rp with
  | @tup a vs ds h1 h2 =>
    simp only [gT] at h
    split at h
    · next q => exact ⟨a, vs, rfl, ex.sqt h1, by rw [h2.length]; exact q, b1.run ex rs h2 h k⟩
    · cases h
  | _ => cases h
end
/-- target = value -/
def sAsg (f : ES) (g : GD) : SS := fun σ h => (f σ h).then σ fun d h' => match g d σ with
  | some σ' => .next σ' h'
  | none => .stuck
theorem qs_asg {X : Cx} {W : WX} {tg e : Expr} {pos : Pos} {fa : ES} {g : GD} {own : List Nat} (he : SE X W e fa) (hg : QG X tg g own) (hs : swapsWithSole [tg] e pos.line X.env = pure false := by rfl) (hw : swappedStores [tg] e X.env = pure none := by rfl)
    (h1 : (assignEach [tg] X.env).map (·.2) = [assign tg X.env] := by rfl) : QS X W (.Assign [tg] e pos) (sAsg fa g) := by
  obtain ⟨ta, k1, k2⟩ := he
  obtain ⟨tg, l1, l2⟩ := hg
  refine ⟨_, ps_asg k1 l1 hs hw h1, ⟨fun rl rs post => k2.thenS rl rs post fun d h1 v φ1 S1 H1 rl1 rs1 st rp post => ?_⟩⟩
  split at post
  · next σ' q => exact l2.run rl1.sub rs1 rp q fun σ2 rs2 _ _ => post σ2 φ1 S1 H1 rl1 rs2 (Step.refl _ _ _)
  · exact post.elim

/-! ### what is walked -/
structure ItOk (K : PySem.W.Frag) (φ0 : List Addr) (S0 : Hp) (J : It) (ds : List D) (chk : Hv → Bool) : Prop where
  go : ∀ {i φ S H h}, Rel K φ S H h → Pre φ0 φ → Ex S0 S → chk h = true → i < ds.length → J.go i H ∧ ∀ x H', J.yld i H x H' → ∃ S' d, ds[i]? = some d ∧ Rel K φ S' H' h ∧ Step φ S H φ S' H' ∧ Rp K φ S' x d
  stop : ∀ {φ S H h}, Rel K φ S H h → Pre φ0 φ → Ex S0 S → chk h = true → J.stop ds.length H
abbrev IS := VS → Hv → R (List D × (Hv → Bool))
def repI (K : PySem.W.Frag) : Rep (List D × (Hv → Bool)) It := fun _ φ' S' _ J p => ItOk K φ' S' J p.1 p.2
instance {K : PySem.W.Frag} : Rep.Up (repI K) := ⟨fun _ h => h⟩
def QI (X : Cx) (W : WX) (tg iter : Expr) (is : IS) : Prop := ∃ wi, PI X tg iter wi ∧ Sn X.K (repI X.K) W wi is
def always : Hv → Bool := fun _ => true
section
variable {X : Cx} {W : WX} {tg e e2 : Expr} {p pos : Pos} {fa : ES} {la : LS}
/-- a list; a tuple -/
def iL (f : ES) : IS := fun σ h => (f σ h).bind fun d h1 => match d with
  | .lst ds => .ok (ds, always) h1
  | .fz ds => .ok (ds, always) h1
  | _ => .stuck
theorem itl_ok {K : PySem.W.Frag} {φ0 : List Addr} {S0 : Hp} {a : Addr} {vs : List V} {ds : List D} (h2 : SqL K S0 a vs) (h3 : RpA K φ0 S0 vs ds) : ItOk K φ0 S0 (Itl K a) ds always where
  go := fun {i φ S H h} r2 pr ex _ hi => by
    have hS : SqL K S a vs := ex.sql h2
    obtain ⟨w, hw, rw_⟩ := h3.at (List.getElem?_eq_getElem hi)
    refine ⟨⟨vs, w, r2.sub.sql hS, hw⟩, fun x H' y => ?_⟩
    obtain ⟨rfl, y⟩ := y
    have ew := y vs (r2.sub.sql hS)
    rw [hw] at ew
    cases ew
    exact ⟨S, _, List.getElem?_eq_getElem hi, r2, Step.refl _ _ _, Rp.mono pr ex rw_⟩
  stop := fun {φ S H h} r2 pr ex _ => ⟨vs, r2.sub.sql (ex.sql h2), Nat.le_of_eq h3.length⟩
theorem qi_list (he : SE X W e fa) : QI X W tg e (iL fa) := by
  obtain ⟨ta, h1, h2⟩ := he
  refine ⟨_, pi_list h1, ⟨fun rl rs post => h2.bind rl rs post fun d h1 v φ1 S1 H1 rl1 rs1 st rp post => ?_⟩⟩
  cases d with
  | lst ds =>
    cases (show Rp _ _ _ _ _ from rp) with
    | lst g1 g2 => exact ⟨_, rfl, ⟨_, .inl (.inl (rl1.sub _ _ g1))⟩, post _ φ1 S1 H1 rl1 (Step.refl _ _ _) (itl_ok (.inl (.inl g1)) g2)⟩
  | fz ds =>
    cases (show Rp _ _ _ _ _ from rp) with
    | fz g1 g2 => exact ⟨_, rfl, ⟨_, rl1.sub.sql g1⟩, post _ φ1 S1 H1 rl1 (Step.refl _ _ _) (itl_ok g1 g2)⟩
  | _ => exact post.elim
/-- a list that is a cell: it stays while it is walked -/
noncomputable def isCell (n : Nat) (ds : List D) (h : Hv) : Bool := @decide (h[n]? = some (.lst ds)) (Classical.propDecidable _)
theorem isCell_of {n : Nat} {ds : List D} {h : Hv} (e : h[n]? = some (.lst ds)) : isCell n ds h = true := by
  unfold isCell
  exact @decide_eq_true _ (Classical.propDecidable _) e
noncomputable def iC (f : ES) : IS := fun σ h => (f σ h).bind fun d h1 => match d with
  | .cell n => (match h1[n]? with
    | some (.lst ds) => .ok (ds, isCell n ds) h1
    | _ => .stuck)
  | _ => .stuck
theorem qi_cell (he : SE X W e fa) : QI X W tg e (iC fa) := by
  obtain ⟨ta, h1, h2⟩ := he
  refine ⟨_, pi_list h1, ⟨fun rl rs post => h2.bind rl rs post fun d h1 v φ1 S1 H1 rl1 rs1 st rp post => ?_⟩⟩
  split at post
  · next n =>
    split at post
    · next ds hds =>
      cases (show Rp _ _ _ _ _ from rp) with
      | @cell a _ ha =>
        have look : ∀ {φ S H h}, Rel X.K φ S H h → Pre φ1 φ → isCell n ds h = true → ∃ vs, H a = some (.lst vs) ∧ RpA X.K φ S vs ds := fun {φ S H h} r2 pr ck => by
          have e : h[n]? = some (.lst ds) := by
            unfold isCell at ck
            exact @of_decide_eq_true _ (Classical.propDecidable _) ck
          obtain ⟨_, o, ho, vs, rfl, ra⟩ := r2.cel n a _ (pr.at ha) e
          exact ⟨vs, ho, ra⟩
        obtain ⟨vs0, hv0, _⟩ := look rl1 (Pre.refl _) (isCell_of hds)
        refine ⟨a, rfl, ⟨vs0, .inl (.inl hv0)⟩, post _ φ1 S1 H1 rl1 (Step.refl _ _ _) ⟨fun {i φ S H h} r2 pr ex ck hi => ?_, fun {φ S H h} r2 pr ex ck => ?_⟩⟩
        · obtain ⟨vs, hv, ra⟩ := look r2 pr ck
          obtain ⟨w, hw, rw_⟩ := ra.at (List.getElem?_eq_getElem hi)
          refine ⟨⟨vs, w, .inl (.inl hv), hw⟩, fun x H' y => ?_⟩
          obtain ⟨rfl, y⟩ := y
          have ew := y vs (.inl (.inl hv))
          rw [hw] at ew
          cases ew
          exact ⟨S, _, List.getElem?_eq_getElem hi, r2, Step.refl _ _ _, rw_⟩
        · obtain ⟨vs, hv, ra⟩ := look r2 pr ck
          exact ⟨vs, .inl (.inl hv), Nat.le_of_eq ra.length⟩
    · exact post.elim
  · exact post.elim
def iT (f : ES) : IS := fun σ h => (f σ h).bind fun d h1 => match d with
  | .tup ds => .ok (ds, always) h1
  | _ => .stuck
theorem qi_tup (he : SE X W e fa) : QI X W tg e (iT fa) := by
  obtain ⟨ta, h1, h2⟩ := he
  refine ⟨_, pi_tup h1, ⟨fun rl rs post => h2.bind rl rs post fun d h1 v φ1 S1 H1 rl1 rs1 st rp post => ?_⟩⟩
  cases d with
  | tup ds =>
    cases (show Rp _ _ _ _ _ from rp) with
    | @tup a vs _ g1 g2 =>
      refine ⟨a, rfl, ⟨vs, rl1.sub.sqt g1⟩, post (Itt X.K a) φ1 S1 H1 rl1 (Step.refl _ _ _) ⟨fun {i φ S H h} r2 pr ex _ hi => ?_, fun {φ S H h} r2 pr ex _ => ?_⟩⟩
      · have hS : SqT X.K S a vs := ex.sqt g1
        obtain ⟨w, hw, rw_⟩ := g2.at (List.getElem?_eq_getElem hi)
        refine ⟨⟨vs, w, r2.sub.sqt hS, hw⟩, fun x H' y => ?_⟩
        obtain ⟨rfl, y⟩ := y
        have ew := y vs (r2.sub.sqt hS)
        rw [hw] at ew
        cases ew
        exact ⟨S, _, List.getElem?_eq_getElem hi, r2, Step.refl _ _ _, Rp.mono pr ex rw_⟩
      · exact ⟨vs, r2.sub.sqt (ex.sqt g1), Nat.le_of_eq g2.length⟩
  | _ => exact post.elim
def rgD (lo : Int) (n : Nat) : List D := (List.range n).map fun i => .int (lo + (i : Nat))
theorem itr_ok {K : PySem.W.Frag} {φ0 : List Addr} {S0 : Hp} (lo : Int) (n : Nat) : ItOk K φ0 S0 (Itr lo n) (rgD lo n) always where
  go := fun {i φ S H h} r2 pr ex _ hi => by
    unfold rgD at hi ⊢
    rw [List.length_map, List.length_range] at hi
    refine ⟨hi, fun x H' y => ?_⟩
    obtain ⟨rfl, rfl⟩ := y
    exact ⟨S, .int (lo + (i : Nat)), by rw [List.getElem?_map, List.getElem?_range hi]; rfl, r2, Step.refl _ _ _, .int _⟩
  stop := fun {φ S H h} r2 pr ex _ => by
    unfold rgD
    rw [List.length_map, List.length_range]
    exact Nat.le_refl _
def iR1 (g : LS) : IS := fun σ h => (g σ h).bind fun ds h1 => match ds with
  | [.int n] => @ite _ (-(2 ^ 62) ≤ n ∧ n < 2 ^ 62) (Classical.propDecidable _) (.ok (rgD 0 n.toNat, always) h1) .stuck
  | _ => .stuck
theorem qi_range1 {a : Expr} (hm : X.mg "range" = none) (ha : SA X W [a] la) (hg : Gl X "range" := by rfl) (hs : starEach [a] X.env = [(false, eval a X.env)] := by rfl) : QI X W tg (.Call (.Name "range" p) [a] [] pos) (iR1 la) := by
  obtain ⟨ta, h1, h2⟩ := ha
  refine ⟨_, pi_range1 hg hm h1 hs, ⟨fun rl rs post => h2.bind rl rs post fun ds h1 vs φ1 S1 H1 rl1 rs1 st rp post => ?_⟩⟩
  have ra : RpA X.K φ1 S1 vs ds := rp
  split at post
  · next n =>
    obtain ⟨v, rfl, r⟩ := ra.one
    cases r
    split at post
    · next q => exact ⟨n, rfl, q.1, q.2, post (Itr 0 n.toNat) φ1 S1 H1 rl1 (Step.refl _ _ _) (itr_ok 0 n.toNat)⟩
    · exact post.elim
  · exact post.elim
def iR2 (g : LS) : IS := fun σ h => (g σ h).bind fun ds h1 => match ds with
  | [.int m, .int n] => @ite _ ((-(2 ^ 62) ≤ m ∧ m < 2 ^ 62) ∧ (-(2 ^ 62) ≤ n ∧ n < 2 ^ 62)) (Classical.propDecidable _) (.ok (rgD m (n - m).toNat, always) h1) .stuck
  | _ => .stuck
theorem qi_range2 {a b : Expr} (hm : X.mg "range" = none) (ha : SA X W [a, b] la) (hg : Gl X "range" := by rfl) (hs : starEach [a, b] X.env = [(false, eval a X.env), (false, eval b X.env)] := by rfl) (hs2 : starEach [b] X.env = [(false, eval b X.env)] := by rfl) :
    QI X W tg (.Call (.Name "range" p) [a, b] [] pos) (iR2 la) := by
  obtain ⟨ta, h1, h2⟩ := ha
  refine ⟨_, pi_range2 hg hm h1 hs hs2, ⟨fun rl rs post => h2.bind rl rs post fun ds h1 vs φ1 S1 H1 rl1 rs1 st rp post => ?_⟩⟩
  have ra : RpA X.K φ1 S1 vs ds := rp
  split at post
  · next m n =>
    obtain ⟨v, w, rfl, r, r2⟩ := ra.two
    cases r
    cases r2
    split at post
    · next q => exact ⟨m, n, rfl, ⟨q.1.1, q.1.2, q.2.1, q.2.2⟩, post (Itr m (n - m).toNat) φ1 S1 H1 rl1 (Step.refl _ _ _) (itr_ok m _)⟩
    · exact post.elim
  · exact post.elim
/-- zip of two lists -/
def zipD : List D → List D → List D
  | x :: xs, y :: ys => .tup [x, y] :: zipD xs ys
  | _, _ => []
def lsOf : D → Option (List D)
  | .lst xs => some xs
  | .fz xs => some xs
  | _ => none
def iZ (g : LS) : IS := fun σ h => (g σ h).bind fun ds h1 => match ds with
  | [x, y] => (match lsOf x, lsOf y with
    | some xs, some ys => if xs.length = ys.length then .ok (zipD xs ys, always) h1 else .stuck
    | _, _ => .stuck)
  | _ => .stuck
theorem lsOf_ok {K : PySem.W.Frag} {φ : List Addr} {S : Hp} {d : D} {v : V} {ds : List D} (r : Rp K φ S v d) (e : lsOf d = some ds) : ∃ a vs, v = .ref a ∧ SqL K S a vs ∧ RpA K φ S vs ds := by
  cases r with
  | lst h1 h2 => cases e; exact ⟨_, _, rfl, .inl (.inl h1), h2⟩
  | fz h1 h2 => cases e; exact ⟨_, _, rfl, h1, h2⟩
  | _ => cases e
theorem zipD_at : ∀ {xs ys : List D} {i : Nat} {x y : D}, xs[i]? = some x → ys[i]? = some y → (zipD xs ys)[i]? = some (.tup [x, y])
  | _ :: _, _ :: _, 0, _, _, h1, h2 => by
    simp at h1 h2
    subst h1 h2
    rfl
  | _ :: xs, _ :: ys, i + 1, _, _, h1, h2 => by
    simp at h1 h2
    exact zipD_at (xs := xs) (ys := ys) h1 h2
  | [], _, _, _, _, h1, _ => by simp at h1
  | _ :: _, [], _, _, _, _, h2 => by simp at h2
theorem zipD_len : ∀ {xs ys : List D}, xs.length = ys.length → (zipD xs ys).length = xs.length
  | [], [], _ => rfl
  | _ :: xs, _ :: ys, h => by
    rw [List.length_cons, List.length_cons] at h
    show (zipD xs ys).length + 1 = xs.length + 1
    rw [zipD_len (by omega)]
  | [], _ :: _, h => by simp at h
  | _ :: _, [], h => by simp at h
theorem qi_zip {elts : List Expr} {kk : Nat} {tpos : Pos} (hm : X.mg "zip" = none) (ha : SA X W [e, e2] la) (hg : Gl X "zip" := by rfl) (hs : starEach [e, e2] X.env = (false, eval e X.env) :: starEach [e2] X.env := by rfl) (hpl : (backTo pos (starEach [e2] X.env)).any (·.1) = false := by rfl) :
    QI X W (.Tuple elts kk tpos) (.Call (.Name "zip" p) [e, e2] [] pos) (iZ la) := by
  obtain ⟨ta, h1, h2⟩ := ha
  refine ⟨_, pi_zip hg hm h1 hs hpl, ⟨fun rl rs post => h2.bind rl rs post fun ds h1 vs φ1 S1 H1 rl1 rs1 st rp post => ?_⟩⟩
  have ra : RpA X.K φ1 S1 vs ds := rp
  split at post
  · next x y =>
    obtain ⟨v, w, rfl, r, r2⟩ := ra.two
    split at post
    · next xs ys q1 q2 =>
      split at post
      · next hl =>
        obtain ⟨a, vs, rfl, a1, a2⟩ := lsOf_ok r q1
        obtain ⟨b, ws, rfl, b1, b2⟩ := lsOf_ok r2 q2
        refine ⟨a, b, vs, ws, rfl, rl1.sub.sql a1, rl1.sub.sql b1, post (Itz X.K a b) φ1 S1 H1 rl1 (Step.refl _ _ _) ⟨fun {i φ S H h} r2 pr ex _ hi => ?_, fun {φ S H h} r2 pr ex _ => ?_⟩⟩
        · rw [zipD_len hl] at hi
          have hi2 : i < ys.length := by omega
          have s1 : SqL X.K H a vs := r2.sub.sql (ex.sql a1)
          have s2 : SqL X.K H b ws := r2.sub.sql (ex.sql b1)
          obtain ⟨u1, hu1, ru1⟩ := a2.at (List.getElem?_eq_getElem hi)
          obtain ⟨u2, hu2, ru2⟩ := b2.at (List.getElem?_eq_getElem hi2)
          refine ⟨⟨vs, ws, u1, u2, s1, s2, hu1, hu2⟩, fun z H' yl => ?_⟩
          obtain ⟨T, x1, x2, rfl, nT, rfl, f1, f2⟩ := yl
          have e1 := f1 vs s1
          rw [hu1] at e1
          cases e1
          have e2 := f2 ws s2
          rw [hu2] at e2
          cases e2
          obtain ⟨r3, s3⟩ := r2.lay (o := .tup [u1, u2]) nT
          exact ⟨upd S T (.tup [u1, u2]), _, zipD_at (List.getElem?_eq_getElem hi) (List.getElem?_eq_getElem hi2), r3, s3, .tup (.inl (.inl upd_same)) (.cons (Rp.mono pr (ex.trans s3.sub) ru1) (.cons (Rp.mono pr (ex.trans s3.sub) ru2) .nil))⟩
        · exact ⟨vs, ws, r2.sub.sql (ex.sql a1), r2.sub.sql (ex.sql b1), .inl (by rw [zipD_len hl, a2.length]; exact Nat.le_refl _)⟩
      · exact post.elim
    · exact post.elim
  · exact post.elim
end

/-! ### for, while -/
def forD (chk : Hv → Bool) (g : GD) (body : SS) : List D → VS → Hv → RS
  | [], σ, h => if chk h then .next σ h else .stuck
  | d :: ds, σ, h => if chk h then (match g d σ with
    | some σ1 => (match body σ1 h with
      | .next σ2 h2 => forD chk g body ds σ2 h2
      | .cont σ2 h2 => forD chk g body ds σ2 h2
      | .brk σ2 h2 => .next σ2 h2
      | r => r)
    | none => .stuck) else .stuck
def sFor (is : IS) (g : GD) (body : SS) : SS := fun σ h => (is σ h).then σ fun p h1 => forD p.2 g body p.1 σ h1
theorem qs_for {X : Cx} {W : WX} {tg iter : Expr} {body : List Stmt} {is : IS} {g : GD} {own : List Nat} {s1 : SS} {pos : Pos} (hp : PassesOwn (model X.prog X.w) X.A X.env X.xe) (hi : QI X W tg iter is) (hg : QG X tg g own) (hb : QB X W body s1) (hc : X.calm = true := by rfl)
    (hs : ∀ x, foldedSetIterable iter X.env x = pure x := by intro _; rfl) : QS X W (.For tg iter body [] pos) (sFor is g s1) := by
  obtain ⟨wi, a1, a2⟩ := hi
  obtain ⟨tg', b1, b2⟩ := hg
  obtain ⟨tb, c1, c2⟩ := hb
  refine ⟨_, ps_for hp hc a1 b1 c1 hs, ⟨fun {φ S H h σv σ D} rl rs post => a2.thenS rl rs post fun pr h1 J φ1 S1 H1 rl1 rs1 st rp post => ?_⟩⟩
  obtain ⟨ds, chk⟩ := pr
  have ok : ItOk X.K φ1 S1 J ds chk := rp
  refine ⟨fun i m σ' H' => m = ds.length - i ∧ i ≤ ds.length ∧ ∃ φ' S' h' σv', Rel X.K φ' S' H' h' ∧ RelS X.K φ' S' σv' σ' ∧ Step φ1 S1 H1 φ' S' H' ∧ PostS X.K φ' S' H' (forD chk g s1 (ds.drop i) σv' h') D W,
    ⟨ds.length, rfl, Nat.zero_le _, φ1, S1, h1, σv, rl1, rs1, Step.refl _ _ _, post⟩, ?_⟩
  rintro i m σ' H' ⟨rfl, hi, φ', S', h', σv', r2, rs2, st2, post⟩
  by_cases hlt : i < ds.length
  · rw [List.drop_eq_getElem_cons hlt] at post
    by_cases hck : chk h' = true
    · simp only [forD, hck, if_true] at post
      obtain ⟨go, yl⟩ := ok.go r2 st2.prefix st2.sub hck hlt
      cases q : g ds[i] σv' with
      | none => simp only [q] at post; exact post.elim
      | some σ1 =>
        simp only [q] at post
        refine .inr ⟨go, fun σ2 H2 => ∃ φ2 S2 h2 σv2, Rel X.K φ2 S2 H2 h2 ∧ RelS X.K φ2 S2 σv2 σ2 ∧ Step φ1 S1 H1 φ2 S2 H2 ∧ PostS X.K φ2 S2 H2 (forD chk g s1 (ds.drop (i + 1)) σv2 h2) D W, fun σ2 H2 hN => ⟨ds.length - (i + 1), by omega, rfl, hlt, hN⟩, fun x H3 hy => ?_⟩
        obtain ⟨S3, d, hd, r3, st3, rx⟩ := yl x H3 hy
        rw [List.getElem?_eq_getElem hlt] at hd
        cases hd
        refine b2.run r3.sub (rs2.step st3) rx q fun σ4 rs4 _ _ => c2.run r3 rs4 ?_
        cases qb : s1 σ1 h' with
        | next σ5 h5 =>
          simp only [qb] at post
          exact fun σ6 φ6 S6 H6 r6 rs6 st6 => ⟨φ6, S6, h5, σ5, r6, rs6, (st2.trans st3).trans st6, PostS.up (st3.trans st6) post⟩
        | cont σ5 h5 =>
          simp only [qb] at post
          exact fun σ6 φ6 S6 H6 r6 rs6 st6 => ⟨φ6, S6, h5, σ5, r6, rs6, (st2.trans st3).trans st6, PostS.up (st3.trans st6) post⟩
        | brk σ5 h5 =>
          simp only [qb] at post
          exact fun σ6 φ6 S6 H6 r6 rs6 st6 => post σ6 φ6 S6 H6 r6 rs6 (st3.trans st6)
        | ret d h5 =>
          simp only [qb] at post
          exact fun v φ6 S6 H6 r6 st6 rv => post v φ6 S6 H6 r6 (st3.trans st6) rv
        | exc x σ5 h5 =>
          simp only [qb] at post
          exact fun σ6 cls dd φ6 S6 H6 r6 rs6 st6 rx => post σ6 cls dd φ6 S6 H6 r6 rs6 (st3.trans st6) rx
        | stuck => simp only [qb] at post; exact post.elim
    · simp only [forD, hck] at post
      exact post.elim
  · have e : i = ds.length := by omega
    subst e
    rw [List.drop_length] at post
    by_cases hck : chk h' = true
    · simp only [forD, hck, if_true] at post
      exact .inl ⟨ok.stop r2 st2.prefix st2.sub hck, post σ' φ' S' H' r2 rs2 (Step.refl _ _ _)⟩
    · simp only [forD, hck] at post
      exact post.elim
def whileD (c : CS) (body : SS) : Nat → VS → Hv → RS
  | 0, _, _ => .stuck
  | n + 1, σ, h => (c σ h).then σ fun k h1 => if k then (match body σ h1 with
    | .next σ2 h2 => whileD c body n σ2 h2
    | .cont σ2 h2 => whileD c body n σ2 h2
    | .brk σ2 h2 => .next σ2 h2
    | r => r) else .next σ h1
/-- fuel: what one's own proof knows to be enough -/
def sWhile (fuel : VS → Hv → Nat) (c : CS) (body : SS) : SS := fun σ h => whileD c body (fuel σ h) σ h
theorem qs_while {X : Cx} {W : WX} {c : Expr} {body : List Stmt} {ca : CS} {s1 : SS} {pos : Pos} (fuel : VS → Hv → Nat) (hp : PassesOwn (model X.prog X.w) X.A X.env X.xe) (hc : ST X W c ca) (hb : QB X W body s1) : QS X W (.While c body [] pos) (sWhile fuel ca s1) := by
  obtain ⟨tc, a1, a2⟩ := hc
  obtain ⟨tb, c1, c2⟩ := hb
  refine ⟨_, ps_while hp a1 c1, ⟨fun {φ S H h σv σ D} rl rs post => ?_⟩⟩
  refine ⟨fun m σ' H' => ∃ φ' S' h' σv', Rel X.K φ' S' H' h' ∧ RelS X.K φ' S' σv' σ' ∧ PostS X.K φ' S' H' (whileD ca s1 m σv' h') D W, ⟨_, φ, S, h, σv, rl, rs, post⟩, ?_⟩
  rintro m σ' H' ⟨φ', S', h', σv', r2, rs2, post⟩
  cases m with
  | zero => exact post.elim
  | succ m =>
    refine a2.thenS r2 rs2 post fun k h1 k' φ1 S1 H1 rl1 rs1 st rp post => ?_
    cases (show k' = k from rp)
    cases k with
    | true =>
      rw [if_pos rfl] at post
      refine (if_pos rfl : (if true = true then _ else _) = _) ▸ ⟨fun σ2 H2 => ∃ φ2 S2 h2 σv2, Rel X.K φ2 S2 H2 h2 ∧ RelS X.K φ2 S2 σv2 σ2 ∧ PostS X.K φ2 S2 H2 (whileD ca s1 m σv2 h2) D W, fun σ2 H2 hN => ⟨m, Nat.lt_succ_self m, hN⟩, c2.run rl1 rs1 ?_⟩
      cases qb : s1 σv' h1 with
      | next σ5 h5 =>
        simp only [qb] at post
        exact fun σ6 φ6 S6 H6 r6 rs6 st6 => ⟨φ6, S6, h5, σ5, r6, rs6, PostS.up st6 post⟩
      | cont σ5 h5 =>
        simp only [qb] at post
        exact fun σ6 φ6 S6 H6 r6 rs6 st6 => ⟨φ6, S6, h5, σ5, r6, rs6, PostS.up st6 post⟩
      | brk σ5 h5 => simp only [qb] at post; exact post
      | ret d h5 => simp only [qb] at post; exact post
      | exc x σ5 h5 => simp only [qb] at post; exact post
      | stuck => simp only [qb] at post; exact post.elim
    | false =>
      exact post σ' φ1 S1 H1 rl1 rs1 (Step.refl _ _ _)
/-- fuel enough, where some is -/
def fuelC (c : CS) (body : SS) (σ : VS) (h : Hv) : Nat := @dite Nat (∃ n, whileD c body n σ h ≠ .stuck) (Classical.propDecidable _) (fun z => Classical.choose z) (fun _ => 0)
def sLoop (c : CS) (body : SS) : SS := sWhile (fuelC c body) c body
theorem qs_loop {X : Cx} {W : WX} {c : Expr} {body : List Stmt} {ca : CS} {s1 : SS} {pos : Pos} (hp : PassesOwn (model X.prog X.w) X.A X.env X.xe) (hc : ST X W c ca) (hb : QB X W body s1) : QS X W (.While c body [] pos) (sLoop ca s1) := qs_while (fuelC ca s1) hp hc hb
theorem whileD_up {c : CS} {body : SS} : ∀ (n : Nat) (σ : VS) (h : Hv), whileD c body n σ h ≠ .stuck → ∀ m, n ≤ m → whileD c body m σ h = whileD c body n σ h
  | 0, σ, h, q, m, hm => absurd rfl q
  | n + 1, σ, h, q, 0, hm => absurd hm (by omega)
  | n + 1, σ, h, q, m + 1, hm => by
    have ih := fun σ h q => whileD_up (c := c) (body := body) n σ h q m (by omega)
    simp only [whileD] at q ⊢
    cases e1 : c σ h with
    | ok k h1 =>
      simp only [e1, R.then_ok] at q ⊢
      cases k with
      | false => rfl
      | true =>
        simp only [if_true] at q ⊢
        cases e2 : body σ h1 with
        | next σ2 h2 => simp only [e2] at q ⊢; exact ih _ _ q
        | cont σ2 h2 => simp only [e2] at q ⊢; exact ih _ _ q
        | brk σ2 h2 => rfl
        | ret d h2 => rfl
        | exc x σ2 h2 => rfl
        | stuck => rfl
    | exc x h1 => rfl
    | stuck => rfl
theorem sLoop_at {c : CS} {body : SS} {n : Nat} {σ : VS} {h : Hv} (q : whileD c body n σ h ≠ .stuck) : sLoop c body σ h = whileD c body n σ h := by
  have z : ∃ n, whileD c body n σ h ≠ .stuck := ⟨n, q⟩
  show whileD c body (fuelC c body σ h) σ h = _
  unfold fuelC
  rw [dif_pos z]
  have z2 := Classical.choose_spec z
  rcases Nat.le_total (Classical.choose z) n with hh | hh
  · exact (whileD_up _ _ _ z2 _ hh).symm
  · exact whileD_up _ _ _ q _ hh
end
end VD

set_option Elab.async false
set_option linter.all false
set_option maxRecDepth 100000
set_option maxHeartbeats 4000000
namespace VD
open PySem PySem.Spec PyProof.Rows L2
noncomputable section
/-! ### comprehensions -/
/-- no exception leaves here -/
abbrev W0 : WX := fun _ _ _ _ => False
def R.calm {α : Type} (r : R α) : R α := match r with
  | .ok a h => .ok a h
  | _ => .stuck
@[simp] theorem R.calm_ok {α : Type} (a : α) (h : Hv) : (R.ok a h).calm = .ok a h := rfl
@[simp] theorem R.calm_stuck {α : Type} : (R.stuck : R α).calm = .stuck := rfl
/-- the slots of a block's own names -/
def wipeV (σ : VS) : List Nat → VS
  | [] => σ
  | v :: vs => (wipeV σ vs).set v none
def lcD (chk : Hv → Bool) (g : GD) (c : CS) (elt : ES) : List D → VS → Hv → R (List D)
  | [], _, h => if chk h then .ok [] h else .stuck
  | d :: ds, σ, h => if chk h then (match g d σ with
    | some σ1 => (c σ1 h).calm.bind fun b h1 => if b then (elt σ1 h1).calm.bind fun y h2 => (lcD chk g c elt ds σ h2).bind fun ys h3 => .ok (y :: ys) h3 else lcD chk g c elt ds σ h1
    | none => .stuck) else .stuck
def lLc (is : IS) (g : GD) (c : CS) (elt : ES) (own : List Nat) : LS := fun σ h => (is σ h).bind fun p h1 => if p.1.length ≤ 16777216 then lcD p.2 g c elt p.1 (wipeV σ own) h1 else .stuck
theorem wipe_at {σ : L2.St} : ∀ {vs : List Nat} {j : Nat}, (wipe σ vs)[j]? = if j ∈ vs then (if j < σ.length then some none else none) else σ[j]?
  | [], j => by simp [wipe]
  | v :: vs, j => by
    unfold wipe
    by_cases q : v = j
    · subst q
      rw [if_pos List.mem_cons_self]
      by_cases hl : v < σ.length
      · rw [if_pos hl, List.getElem?_set_self (by rw [wipe_length]; exact hl)]
      · rw [if_neg hl, List.getElem?_eq_none (by rw [List.length_set, wipe_length]; omega)]
    · rw [List.getElem?_set_ne q, wipe_at (vs := vs) (j := j)]
      by_cases hm : j ∈ vs
      · rw [if_pos hm, if_pos (List.mem_cons_of_mem _ hm)]
      · rw [if_neg hm, if_neg (fun z => (List.mem_cons.mp z).elim (fun z => q z.symm) hm)]
theorem wipe_same {σ σ' : L2.St} {own vs : List Nat} (hl : σ'.length = (wipe σ vs).length) (h : ∀ j, j ∉ own → σ'[j]? = (wipe σ vs)[j]?) (hs : ∀ j ∈ own, j ∈ vs) : wipe σ' vs = wipe σ vs := by
  refine List.ext_getElem? fun j => ?_
  rw [wipe_at, wipe_at]
  have hl2 : σ'.length = σ.length := by rw [hl, wipe_length]
  by_cases hm : j ∈ vs
  · rw [if_pos hm, if_pos hm, hl2]
  · rw [if_neg hm, if_neg hm, h j (fun z => hm (hs j z)), wipe_at, if_neg hm]
theorem RelS.wipe {K : PySem.W.Frag} {φ : List Addr} {S : Hp} {σv : VS} {σ : L2.St} (r : RelS K φ S σv σ) : ∀ vs : List Nat, RelS K φ S (wipeV σv vs) (L2.wipe σ vs)
  | [] => r
  | v :: vs => (RelS.wipe r vs).unset v none
/-! readings that hang on what is computed alone -/
def tS {α β : Type} (K : PySem.W.Frag) (rep : Rep α β) (W : WX) (es : VS → Hv → R α) : L2.St → Hp → (β → Hp → Prop) → Prop := fun σ H Q => ∃ φ S h σv, Rel K φ S H h ∧ RelS K φ S σv σ ∧ Post K rep φ S H (es σv h) Q (fun c d H' => W c d σ H')
theorem tS_sn {α β : Type} {K : PySem.W.Frag} {rep : Rep α β} {W : WX} {es : VS → Hv → R α} : Sn K rep W (tS K rep W es) es := ⟨fun rl rs post => ⟨_, _, _, _, rl, rs, post⟩⟩
def SCs (X : Cx) (W : WX) (ifs : List Expr) (c : CS) : Prop := ∃ t, PTs X ifs t ∧ Sn X.K repB W t c
section
variable {X : Cx} {W : WX} {e : Expr} {es : List Expr} {fa : ES} {ca : CS}
theorem SE.can (h : SE X W e fa) : PE X e (tS X.K (repV X.K) W fa) := by
  obtain ⟨t, h1, h2⟩ := h
  exact ⟨fun pins s σ H Q I ⟨φ, S, h, σv, rl, rs, post⟩ => h1.run pins s σ H Q I (h2.run rl rs post)⟩
theorem SCs.can (h : SCs X W es ca) : PTs X es (tS X.K repB W ca) := by
  obtain ⟨t, h1, h2⟩ := h
  exact ⟨fun pins s σ H Q I ⟨φ, S, h, σv, rl, rs, post⟩ => h1.run pins s σ H Q I (h2.run rl rs post)⟩
def cYes : CS := fun _ h => .ok true h
theorem scs_nil : SCs X W [] cYes := ⟨_, pts_nil, ⟨fun {φ S H h σv σ Q} rl rs post => post true φ S H rl (Step.refl _ _ _) rfl⟩⟩
theorem scs_one (h : ST X W e ca) : SCs X W [e] ca := let ⟨t, h1, h2⟩ := h; ⟨t, pts_one h1, h2⟩
end
def tGd (K : PySem.W.Frag) (gs : GD) (own : List Nat) : TG := fun v σ H Q => ∃ φ S σv σv' d, Ex S H ∧ RelS K φ S σv σ ∧ Rp K φ S v d ∧ gs d σv = some σv' ∧ ∀ σ', RelS K φ S σv' σ' → σ'.length = σ.length → (∀ j, j ∉ own → σ'[j]? = σ[j]?) → Q σ' H
theorem QG.can {X : Cx} {tg : Expr} {gs : GD} {own : List Nat} (h : QG X tg gs own) : PG X tg (tGd X.K gs own) := by
  obtain ⟨t, h1, h2⟩ := h
  exact ⟨fun pins s σ H v u Q I r ⟨φ, S, σv, σv', d, ex, rs, rp, e, k⟩ => h1.run pins s σ H v u Q I r (h2.run ex rs rp e k)⟩
section
variable {X : Cx} {W : WX} {elt tg iter : Expr} {ifs : List Expr} {scope : Scope} {own : List (Str × Nat)} {is : IS} {g : GD} {gown : List Nat} {c : CS} {el : ES} {pos spos : Pos}
theorem sn_lc {wi : TI} (h2 : Sn X.K (repI X.K) W wi is) (hown : ∀ j ∈ gown, j ∈ own.map (·.2)) :
    Sn X.K (repL X.K) W (tLc wi (tGd X.K g gown) (tS X.K repB W0 c) (tS X.K (repV X.K) W0 el) (own.map (·.2))) (lLc is g c el (own.map (·.2))) := by
  refine ⟨fun {φ S H h σv σ Q} rl rs post => h2.run rl rs (post.map fun pr h1 J φ1 S1 H1 rl1 st rp post => ?_)⟩
  obtain ⟨ds, chk⟩ := pr
  have ok : ItOk X.K φ1 S1 J ds chk := rp
  have hz : ds.length ≤ 16777216 := by
    refine Classical.byContradiction fun hz => ?_
    simp only [hz, if_false] at post
    exact post.elim
  simp only [hz, if_true] at post
  intro D hD
  have rs1 : RelS X.K φ1 S1 σv σ := rs.step st
  have hD0 : H D = none := st.fresh hD
  generalize hvs : own.map (·.2) = vs at post hown ⊢
  -- what is still to come, put behind what is made
  refine ⟨fun i m H' => m = ds.length - i ∧ i ≤ ds.length ∧ ∃ φ' S' h' acc da, Rel X.K φ' S' H' h' ∧ Step φ1 S1 H1 φ' S' H' ∧ S' D = none ∧ D ∉ φ' ∧ H' D = some (.lst acc) ∧ RpA X.K φ' S' acc da ∧ da.length ≤ i ∧
      Post X.K (repL X.K) φ S H ((lcD chk g c el (ds.drop i) (wipeV σv vs) h').bind fun ys h3 => .ok (da ++ ys) h3) Q (fun c d H' => W c d σ H'), ?_, ?_⟩
  · obtain ⟨r2, s2⟩ := rl1.hold (o := .lst []) hD
    refine ⟨ds.length, rfl, Nat.zero_le _, φ1, S1, h1, [], [], r2, s2, rl1.snone hD, rl1.notin hD, upd_same, .nil, Nat.le_refl _, ?_⟩
    rw [List.drop_zero]
    cases q : lcD chk g c el ds (wipeV σv vs) h1 with
    | ok a h => rw [q] at post; exact post
    | exc x h => rw [q] at post; exact post
    | stuck => rw [q] at post; exact post
  · rintro i m H' ⟨rfl, hi, φ', S', h', acc, da, r2, st2, sD, nD, hDl, ra, hda, post⟩
    have s12 : Step φ1 S1 H1 φ' S' H' := st2
    by_cases hlt : i < ds.length
    · rw [List.drop_eq_getElem_cons hlt] at post
      have hck : chk h' = true := by
        refine Classical.byContradiction fun hck => ?_
        simp only [lcD, hck] at post
        exact post.elim
      simp only [lcD, hck, if_true] at post
      obtain ⟨go, yl⟩ := ok.go r2 st2.prefix st2.sub hck hlt
      cases q : g ds[i] (wipeV σv vs) with
      | none => simp only [q] at post; exact post.elim
      | some σ1 =>
        simp only [q] at post
        refine .inr ⟨go, fun H2 => ∃ φ2 S2 h2 acc2 da2, Rel X.K φ2 S2 H2 h2 ∧ Step φ1 S1 H1 φ2 S2 H2 ∧ S2 D = none ∧ D ∉ φ2 ∧ H2 D = some (.lst acc2) ∧ RpA X.K φ2 S2 acc2 da2 ∧ da2.length ≤ i + 1 ∧
          Post X.K (repL X.K) φ S H ((lcD chk g c el (ds.drop (i + 1)) (wipeV σv vs) h2).bind fun ys h3 => .ok (da2 ++ ys) h3) Q (fun c d H' => W c d σ H'), fun H2 hN => ⟨ds.length - (i + 1), by omega, rfl, hlt, hN⟩, fun x H3 hy => ?_⟩
        obtain ⟨S3, d, hd, r3, st3, rx⟩ := yl x H3 hy
        rw [List.getElem?_eq_getElem hlt] at hd
        cases hd
        have rsw : RelS X.K φ' S3 (wipeV σv vs) (wipe σ vs) := ((rs1.step s12).step st3).wipe vs
        refine ⟨φ', S3, _, _, _, r3.sub, rsw, rx, q, fun σ4 rs4 l4 f4 => ⟨wipe_same l4 f4 hown, ?_⟩⟩
        refine ⟨φ', S3, h', σ1, r3, rs4, ?_⟩
        cases qc : c σ1 h' with
        | stuck => simp only [qc, R.calm_stuck, R.bind_stuck] at post; exact post.elim
        | exc x h => simp only [qc, R.calm, R.bind_stuck] at post; exact post.elim
        | ok b h5 =>
          simp only [qc, R.calm_ok, R.bind_ok] at post
          intro b' φ5 S5 H5 r5 st5 eb
          cases (show b' = b from eb)
          have s15 : Step φ1 S1 H1 φ5 S5 H5 := (st2.trans st3).trans st5
          have nD' : H' D ≠ none := by rw [hDl]; exact fun z => nomatch z
          have S3D : S3 D = none := (st3.old D nD').trans sD
          have H3D : H3 D = some (.lst acc) := st3.keep D _ hDl nD
          have S5D : S5 D = none := (st5.old D (by rw [H3D]; exact fun z => nomatch z)).trans S3D
          have H5D : H5 D = some (.lst acc) := st5.keep D _ H3D nD
          have n5D : D ∉ φ5 := fun z => by
            obtain ⟨ψ, e, hn⟩ := st5.pre
            rw [e] at z
            rcases List.mem_append.mp z with z | z
            · exact nD z
            · rw [hn D z] at H3D; cases H3D
          have ra5 : RpA X.K φ5 S5 acc da := ra.mono (st3.trans st5).prefix (st3.trans st5).sub
          cases b with
          | false =>
            rw [if_neg Bool.false_ne_true]
            exact ⟨φ5, S5, h5, acc, da, r5, s15, S5D, n5D, H5D, ra5, by omega, post⟩
          | true =>
            rw [if_pos rfl]
            simp only [if_true] at post
            refine ⟨φ5, S5, h5, σ1, r5, rs4.step st5, ?_⟩
            cases qe : el σ1 h5 with
            | stuck => simp only [qe, R.calm_stuck, R.bind_stuck] at post; exact post.elim
            | exc x h => simp only [qe, R.calm, R.bind_stuck] at post; exact post.elim
            | ok y h6 =>
              simp only [qe, R.calm_ok, R.bind_ok] at post
              intro v φ6 S6 H6 r6 st6 rv
              have S6D : S6 D = none := (st6.old D (by rw [H5D]; exact fun z => nomatch z)).trans S5D
              have H6D : H6 D = some (.lst acc) := st6.keep D _ H5D n5D
              have n6D : D ∉ φ6 := fun z => by
                obtain ⟨ψ, e, hn⟩ := st6.pre
                rw [e] at z
                rcases List.mem_append.mp z with z | z
                · exact n5D z
                · rw [hn D z] at H5D; cases H5D
              have ra6 : RpA X.K φ6 S6 acc da := ra5.mono st6.prefix st6.sub
              refine ⟨acc, H6D, by rw [ra.length, line_eq]; omega, φ6, S6, h6, acc ++ [v], da ++ [y], ?_, ?_, S6D, n6D, upd_same, ra6.append (.cons rv .nil), by rw [List.length_append, List.length_singleton]; omega, ?_⟩
              · refine ⟨r6.len, fun a o e => ?_, r6.nd, fun n a c e1 e2 => ?_⟩
                · rw [upd_ne (ne_of_none e S6D)]; exact r6.sub a o e
                · obtain ⟨h1, o', h2, h3⟩ := r6.cel n a c e1 e2
                  exact ⟨h1, o', by rw [upd_ne (fun z => n6D (by rw [← z]; exact List.mem_of_getElem? e1))]; exact h2, h3⟩
              · have s16 := s15.trans st6
                refine ⟨s16.pre, s16.sub, s16.old, fun a o e hn => ?_, fun a ha => ?_⟩
                · rw [upd_ne (ne_of_none e hD)]; exact s16.keep a o e hn
                · rw [upd_ne (fun z => ha (by rw [z]; exact hD))]; exact s16.there a ha
              · cases ql : lcD chk g c el (ds.drop (i + 1)) (wipeV σv vs) h6 with
                | ok ys h7 => simp only [ql, R.bind_ok, List.append_assoc, List.singleton_append] at post ⊢; exact post
                | exc x h7 => simp only [ql, R.bind_exc] at post ⊢; exact post
                | stuck => simp only [ql, R.bind_stuck] at post; exact post.elim
    · have e : i = ds.length := by omega
      subst e
      rw [List.drop_length] at post
      have hck : chk h' = true := by
        refine Classical.byContradiction fun hck => ?_
        simp only [lcD, hck] at post
        exact post.elim
      simp only [lcD, hck, if_true, R.bind_ok, List.append_nil] at post
      exact .inl ⟨ok.stop r2 st2.prefix st2.sub hck, post (.ref D) φ' S' H' r2 (st.trans s12) ⟨D, acc, rfl, hD0, hDl, sD, nD, ra⟩⟩
theorem sn_V {K : PySem.W.Frag} {W : WX} {te : TE} {f : LS} (h : Sn K (repL K) W te f) : Sn K (repV K) W te (eV f) := ⟨fun rl rs post => h.run rl rs (post.map fun ds h1 v φ1 S1 H1 rl1 st rp post => by
  obtain ⟨p, vs, rfl, hp, hp1, hs1, hn1, ra⟩ := rp
  exact post (.ref p) φ1 _ H1 (rl1.still hp1 hs1 hn1) (st.still hp hs1) (.lst upd_same (ra.mono (Pre.refl _) (Ex.new hs1))))⟩
theorem sn_C {K : PySem.W.Frag} {W : WX} {te : TE} {f : LS} (h : Sn K (repL K) W te f) : Sn K (repV K) W te (eC f) := ⟨fun rl rs post => h.run rl rs (post.map fun ds h1 v φ1 S1 H1 rl1 st rp post => by
  obtain ⟨p, vs, rfl, hp, hp1, hs1, hn1, ra⟩ := rp
  refine post (.ref p) (φ1 ++ [p]) S1 H1 (rl1.celled hp1 hs1 hn1 ⟨vs, rfl, ra⟩) (st.celled hp) (.cell ?_)
  rw [← rl1.len, List.getElem?_append_right (Nat.le_refl _), Nat.sub_self]
  rfl)⟩
theorem sl_lc (nd : X.N.Nodup) (hi : QI X W tg iter is) (ok : BlkOk X.N X.env.scope scope own)
    (hg : ∀ (s : Shared) (H : Hp) (C : Addr) (cl : List (Str × Addr)) (fp : List Addr), QG (X.blk s H scope (compEnvC scope cl C X.env) fp) tg g gown) (hown : ∀ j ∈ gown, j ∈ own.map (·.2))
    (ht : ∀ (s : Shared) (H : Hp) (C : Addr) (cl : List (Str × Addr)) (fp : List Addr), SCs (X.blk s H scope (compEnvC scope cl C X.env) fp) W0 ifs c)
    (he : ∀ (s : Shared) (H : Hp) (C : Addr) (cl : List (Str × Addr)) (fp : List Addr), SE (X.blk s H scope (compEnvC scope cl C X.env) fp) W0 elt el) (hc : X.calm = true := by rfl) (hs : ∀ x, foldedSetIterable iter X.env x = pure x := by intro _; rfl) :
    SL X W (.ListComp elt [⟨tg, iter, ifs, 0⟩] scope pos) (lLc is g c el (own.map (·.2))) := by
  obtain ⟨wi, h1, h2⟩ := hi
  exact ⟨_, pe_lc hc nd h1 ok (fun s H C cl fp => (hg s H C cl fp).can) (fun s H C cl fp => (ht s H C cl fp).can) (fun s H C cl fp => (he s H C cl fp).can) hs, sn_lc h2 hown⟩
theorem sns_set {K : PySem.W.Frag} {W : WX} {te : TE} {f : ES} {i : Nat} (h : Sn K (repV K) W te f) : SnS K W (tAsg te (gName i)) (sSet i f) := ⟨fun rl rs post => h.thenS rl rs post fun d h1 v φ1 S1 H1 rl1 rs1 st rp post => post _ φ1 S1 H1 rl1 (rs1.set rp i) (Step.refl _ _ _)⟩
/-- y = [..] -/
theorem qs_setLc {i : Nat} {y : Str} {py : Pos} {f : LS → ES} (hf : ∀ {K : PySem.W.Frag} {W : WX} {te : TE} {l : LS}, Sn K (repL K) W te l → Sn K (repV K) W te (f l)) (nd : X.N.Nodup)
    (hsw : swapsWith (.ListComp elt [⟨tg, iter, ifs, 0⟩] scope pos) (some (.Name y py)) spos.line X.env = pure true) (hi : QI X W tg iter is) (ok : BlkOk X.N X.env.scope scope own)
    (hg : ∀ (s : Shared) (H : Hp) (C : Addr) (cl : List (Str × Addr)) (fp : List Addr), QG (X.blk s H scope (compEnvC scope cl C X.env) fp) tg g gown) (hown : ∀ j ∈ gown, j ∈ own.map (·.2))
    (ht : ∀ (s : Shared) (H : Hp) (C : Addr) (cl : List (Str × Addr)) (fp : List Addr), SCs (X.blk s H scope (compEnvC scope cl C X.env) fp) W0 ifs c)
    (he : ∀ (s : Shared) (H : Hp) (C : Addr) (cl : List (Str × Addr)) (fp : List Addr), SE (X.blk s H scope (compEnvC scope cl C X.env) fp) W0 elt el)
    (hy : X.N[i]? = some y := by rfl) (hyl : X.env.scope.names.lookup y = some .local := by rfl) (hc : X.calm = true := by rfl) (hs : ∀ x, foldedSetIterable iter X.env x = pure x := by intro _; rfl) :
    QS X W (.Assign [.Name y py] (.ListComp elt [⟨tg, iter, ifs, 0⟩] scope pos) spos) (sSet i (f (lLc is g c el (own.map (·.2))))) := by
  obtain ⟨wi, h1, h2⟩ := hi
  exact ⟨_, ps_setLc hc nd hy hyl hsw h1 ok (fun s H C cl fp => (hg s H C cl fp).can) (fun s H C cl fp => (ht s H C cl fp).can) (fun s H C cl fp => (he s H C cl fp).can) hs, sns_set (hf (sn_lc h2 hown))⟩
end
end
end VD

set_option Elab.async false
set_option linter.all false
set_option maxRecDepth 100000
set_option maxHeartbeats 4000000
namespace VD
open PySem PySem.Spec PyProof.Rows L2
noncomputable section
/-! ### behind a def its own cells are still -/
def frz (n0 : Nat) (h : Hv) : Nat → D → Option D
  | 0, _ => none
  | _ + 1, .non => some .non
  | _ + 1, .bl b => some (.bl b)
  | _ + 1, .int i => some (.int i)
  | _ + 1, .str x => some (.str x)
  | f + 1, .lst ds => (optAll (frz n0 h f) ds).map .lst
  | f + 1, .fz ds => (optAll (frz n0 h f) ds).map .fz
  | f + 1, .tup ds => (optAll (frz n0 h f) ds).map .tup
  | f + 1, .cell n => if n < n0 then some (.cell n) else match h[n]? with
    | some (.lst ds) => (optAll (frz n0 h f) ds).map .lst
    | some (.dF kvs) => (optAll (frz n0 h f) (kvs.map (·.2))).map (.dct (kvs.map (·.1)))
    | some (.ins c fs) => (optAll (frz n0 h f) (fs.map (·.2))).map (.obj c (fs.map (·.1)))
    | _ => none
  | _ + 1, .raw v => some (.raw v)
  | f + 1, .dct ks ds => (optAll (frz n0 h f) ds).map (.dct ks)
  | f + 1, .obj c ks ds => (optAll (frz n0 h f) ds).map (.obj c ks)
  | _ + 1, .exv _ _ _ _ => none
def still (φ : List Addr) (n0 : Nat) (S H : Hp) : Hp := fun a => if a ∈ φ.drop n0 then H a else S a
section
variable {K : PySem.W.Frag} {φ : List Addr} {S H : Hp} {h : Hv} {n0 : Nat}
theorem still_ex (rl : Rel K φ S H h) : Ex S (still φ n0 S H) := fun a o e => by
  unfold still
  rw [if_neg]
  · exact e
  · intro z
    have := (rl.mem (List.mem_of_mem_drop z)).1
    rw [this] at e
    cases e
theorem still_sub (rl : Rel K φ S H h) : Ex (still φ n0 S H) H := fun a o e => by
  unfold still at e
  split at e
  · exact e
  · exact rl.sub a o e
theorem frzA_of {f : Nat} {K : PySem.W.Frag} {φ φ' : List Addr} {S S' : Hp} (ih : ∀ (d : D) (v : V) (d' : D), Rp K φ S v d → frz n0 h f d = some d' → Rp K φ' S' v d') :
    ∀ (ds : List D) (vs : List V) (ds' : List D), RpA K φ S vs ds → optAll (frz n0 h f) ds = some ds' → RpA K φ' S' vs ds' := by
  intro ds
  induction ds with
  | nil => intro vs ps r e; cases r; cases e; exact .nil
  | cons d ds ih2 =>
    intro vs ps r e
    cases r with
    | cons r t =>
      simp only [optAll] at e
      cases q : frz n0 h f d with
      | none => rw [q] at e; cases e
      | some p0 =>
        rw [q] at e
        cases q2 : optAll (frz n0 h f) ds with
        | none => simp only [q2] at e; cases e
        | some p1 =>
          simp only [q2] at e
          cases e
          exact .cons (ih d _ p0 r q) (ih2 _ p1 t q2)
theorem frz_ok (rl : Rel K φ S H h) : ∀ (f : Nat) (d : D) (v : V) (d' : D), Rp K φ S v d → frz n0 h f d = some d' → Rp K (φ.take n0) (still φ n0 S H) v d' := by
  intro f
  induction f with
  | zero => intro d v p _ e; cases e
  | succ f ih =>
    have all := frzA_of (K := K) (n0 := n0) (h := h) ih
    intro d v p r e
    cases r with
    | non => cases e; exact .non
    | bl b => cases e; exact .bl b
    | int i => cases e; exact .int i
    | str x => cases e; exact .str x
    | @lst a vs ds h1 h2 =>
      obtain ⟨ps, q, rfl⟩ := Option.map_eq_some_iff.mp (show (optAll (frz n0 h f) ds).map .lst = some p from e)
      exact .lst (still_ex rl _ _ h1) (all ds vs ps h2 q)
    | @fz a vs ds h1 h2 =>
      obtain ⟨ps, q, rfl⟩ := Option.map_eq_some_iff.mp (show (optAll (frz n0 h f) ds).map .fz = some p from e)
      exact .fz ((still_ex rl).sql h1) (all ds vs ps h2 q)
    | @tup a vs ds h1 h2 =>
      obtain ⟨ps, q, rfl⟩ := Option.map_eq_some_iff.mp (show (optAll (frz n0 h f) ds).map .tup = some p from e)
      exact .tup ((still_ex rl).sqt h1) (all ds vs ps h2 q)
    | @cell a n h1 =>
      simp only [frz] at e
      by_cases hn : n < n0
      · rw [if_pos hn] at e
        cases e
        refine .cell ?_
        rw [List.getElem?_take]
        rw [if_pos hn]
        exact h1
      · rw [if_neg hn] at e
        obtain ⟨c, hc⟩ := rl.at h1
        obtain ⟨_, o, ho, rc⟩ := rl.cel _ _ _ h1 hc
        rw [hc] at e
        cases c with
        | lst ds =>
          obtain ⟨vs, rfl, ra⟩ := rc
          obtain ⟨ps, q, rfl⟩ := Option.map_eq_some_iff.mp (show (optAll (frz n0 h f) ds).map .lst = some p from e)
          refine .lst (vs := vs) ?_ (all ds vs ps ra q)
          unfold still
          rw [if_pos]
          · exact ho
          · refine List.mem_of_getElem? (i := n - n0) ?_
            rw [List.getElem?_drop, show n0 + (n - n0) = n by omega]
            exact h1
        | dK kvs => cases e
        | dF kvs =>
          obtain ⟨od, kv, rfl, ek, ra⟩ := rc
          obtain ⟨ps, q, rfl⟩ := Option.map_eq_some_iff.mp (show (optAll (frz n0 h f) (kvs.map (·.2))).map (.dct (kvs.map (·.1))) = some p from e)
          refine .dct (kv := kv) (od := od) ?_ ek (all _ _ ps ra q)
          unfold still
          rw [if_pos]
          · exact ho
          · refine List.mem_of_getElem? (i := n - n0) ?_
            rw [List.getElem?_drop, show n0 + (n - n0) = n by omega]
            exact h1
        | dN w kvs => cases e
        | ins c fs =>
          obtain ⟨dx, kv, rfl, ek, ra⟩ := rc
          obtain ⟨ps, q, rfl⟩ := Option.map_eq_some_iff.mp (show (optAll (frz n0 h f) (fs.map (·.2))).map (.obj c (fs.map (·.1))) = some p from e)
          refine .obj (fv := kv) (dx := dx) ?_ ek (all _ _ ps ra q)
          unfold still
          rw [if_pos]
          · exact ho
          · refine List.mem_of_getElem? (i := n - n0) ?_
            rw [List.getElem?_drop, show n0 + (n - n0) = n by omega]
            exact h1
    | raw v => cases e; exact .raw v
    | @dct a od kv ks ds h1 h2 h3 =>
      obtain ⟨ps, q, rfl⟩ := Option.map_eq_some_iff.mp (show (optAll (frz n0 h f) ds).map (.dct ks) = some p from e)
      exact .dct (still_ex rl _ _ h1) h2 (all ds _ ps h3 q)
    | @obj a dx fv c ks ds h1 h2 h3 =>
      obtain ⟨ps, q, rfl⟩ := Option.map_eq_some_iff.mp (show (optAll (frz n0 h f) ds).map (.obj c ks) = some p from e)
      exact .obj (still_ex rl _ _ h1) h2 (all ds _ ps h3 q)
    | exv h1 h2 => cases e
def frzC (n0 : Nat) (h : Hv) : Cell → Option Cell
  | .lst ds => (optAll (frz n0 h 12) ds).map .lst
  | .dK kvs => (optAll (fun kv : Key × D => (frz n0 h 12 kv.2).map fun d => (kv.1, d)) kvs).map .dK
  | .dF kvs => (optAll (fun kv : Key × D => (frz n0 h 12 kv.2).map fun d => (kv.1, d)) kvs).map .dF
  | .ins C fs => (optAll (fun kv : Str × D => (frz n0 h 12 kv.2).map fun d => (kv.1, d)) fs).map (.ins C)
  | .dN w kvs => (optAll (fun kv : NestedKey × D => (frz n0 h 12 kv.2).map fun d => (kv.1, d)) kvs).map (.dN w)
theorem frzP_of {κ : Type} (rl : Rel K φ S H h) : ∀ (fs fs' : List (κ × D)) (fv : List (κ × V)), optAll (fun kv : κ × D => (frz n0 h 12 kv.2).map fun d => (kv.1, d)) fs = some fs' → fv.map (·.1) = fs.map (·.1) → RpA K φ S (fv.map (·.2)) (fs.map (·.2)) →
    fv.map (·.1) = fs'.map (·.1) ∧ RpA K (φ.take n0) (still φ n0 S H) (fv.map (·.2)) (fs'.map (·.2))
  | [], fs', fv, e, ek, ra => by
    cases e
    cases fv with
    | nil => exact ⟨rfl, .nil⟩
    | cons _ _ => cases ek
  | (k, d) :: fs, fs', fv, e, ek, ra => by
    cases fv with
    | nil => cases ek
    | cons p fv =>
      rw [List.map_cons, List.map_cons] at ek ra
      cases ra with
      | cons r t =>
        simp only [optAll] at e
        cases q : frz n0 h 12 d with
        | none => rw [q] at e; simp at e
        | some d1 =>
          rw [q] at e
          simp only [Option.map_some] at e
          cases q2 : optAll (fun kv : κ × D => (frz n0 h 12 kv.2).map fun d => (kv.1, d)) fs with
          | none => rw [q2] at e; cases e
          | some r1 =>
            rw [q2] at e
            cases e
            injection ek with e1 e2
            obtain ⟨a1, a2⟩ := frzP_of rl fs r1 fv q2 e2 t
            refine ⟨?_, ?_⟩
            · rw [List.map_cons, List.map_cons, e1, a1]
            · rw [List.map_cons, List.map_cons]
              exact .cons (frz_ok rl _ _ _ _ r q) a2
theorem frzC_ok (rl : Rel K φ S H h) {c c' : Cell} {o : HO} (r : RpC K φ S c o) (e : frzC n0 h c = some c') : RpC K (φ.take n0) (still φ n0 S H) c' o := by
  cases c with
  | lst ds =>
    obtain ⟨vs, rfl, ra⟩ := r
    obtain ⟨ps, q, rfl⟩ := Option.map_eq_some_iff.mp (show (optAll (frz n0 h 12) ds).map Cell.lst = some c' from e)
    exact ⟨vs, rfl, frzA_of (fun d v d' r e => frz_ok rl _ d v d' r e) ds vs ps ra q⟩
  | dK kvs =>
    obtain ⟨kv, rfl, ek, ra⟩ := r
    obtain ⟨ps, q, rfl⟩ := Option.map_eq_some_iff.mp (show (optAll _ kvs).map Cell.dK = some c' from e)
    obtain ⟨a1, a2⟩ := frzP_of rl kvs ps kv q ek ra
    exact ⟨kv, rfl, a1, a2⟩
  | dF kvs =>
    obtain ⟨od, kv, rfl, ek, ra⟩ := r
    obtain ⟨ps, q, rfl⟩ := Option.map_eq_some_iff.mp (show (optAll _ kvs).map Cell.dF = some c' from e)
    obtain ⟨a1, a2⟩ := frzP_of rl kvs ps kv q ek ra
    exact ⟨od, kv, rfl, a1, a2⟩
  | ins C fs =>
    obtain ⟨dx, fv, rfl, ek, ra⟩ := r
    obtain ⟨ps, q, rfl⟩ := Option.map_eq_some_iff.mp (show (optAll _ fs).map (Cell.ins C) = some c' from e)
    obtain ⟨a1, a2⟩ := frzP_of rl fs ps fv q ek ra
    exact ⟨dx, fv, rfl, a1, a2⟩
  | dN w kvs =>
    obtain ⟨a, xs, rfl, ek, h3, ra⟩ := r
    obtain ⟨ps, q, rfl⟩ := Option.map_eq_some_iff.mp (show (optAll _ kvs).map (Cell.dN w) = some c' from e)
    have m1 : (xs.map fun x => (x.1, x.2.2)).map (·.1) = kvs.map (·.1) := by rw [List.map_map]; exact ek
    have m2 : (xs.map fun x => (x.1, x.2.2)).map (·.2) = xs.map (·.2.2) := by rw [List.map_map]; rfl
    obtain ⟨a1, a2⟩ := frzP_of rl kvs ps (xs.map fun x => (x.1, x.2.2)) q m1 (by rw [m2]; exact ra)
    rw [m2] at a2
    rw [List.map_map] at a1
    exact ⟨a, xs, rfl, a1, fun x hx => (h3 x hx).mono (Pre.refl []) (still_ex rl), a2⟩
theorem optAll_at {α β : Type} {g : β → Option α} : ∀ {xs : List β} {ys : List α}, optAll g xs = some ys → xs.length = ys.length ∧ ∀ (i : Nat) (y : α), ys[i]? = some y → ∃ x, xs[i]? = some x ∧ g x = some y
  | [], ys, e => by
    cases e
    exact ⟨rfl, fun i y h => by simp at h⟩
  | x :: xs, ys, e => by
    simp only [optAll] at e
    cases q : g x with
    | none => rw [q] at e; cases e
    | some y0 =>
      rw [q] at e
      cases q2 : optAll g xs with
      | none => simp only [q2] at e; cases e
      | some ys0 =>
        simp only [q2] at e
        cases e
        obtain ⟨h1, h2⟩ := optAll_at q2
        refine ⟨by rw [List.length_cons, List.length_cons, h1], fun i y h => ?_⟩
        cases i with
        | zero =>
          rw [List.getElem?_cons_zero] at h ⊢
          cases h
          exact ⟨x, rfl, q⟩
        | succ i =>
          rw [List.getElem?_cons_succ] at h ⊢
          exact h2 i y h
/-- behind the def: the heap as the caller has it -/
theorem exit_rel (rl : Rel K φ S H h) {h' : Hv} (hn : n0 ≤ h.length) (e : optAll (frzC n0 h) (h.take n0) = some h') : Rel K (φ.take n0) (still φ n0 S H) H h' := by
  obtain ⟨el, ea⟩ := optAll_at e
  rw [List.length_take] at el
  refine ⟨?_, still_sub rl, List.Nodup.sublist (List.take_sublist _ _) rl.nd, fun n a c e1 e2 => ?_⟩
  · rw [List.length_take, rl.len]
    omega
  · obtain ⟨c0, hc0, q⟩ := ea n c e2
    have hl := (List.getElem?_eq_some_iff.mp e2).1
    have hn2 : n < n0 := by omega
    rw [List.getElem?_take, if_pos hn2] at e1 hc0
    obtain ⟨sa, o, ho, rc⟩ := rl.cel n a c0 e1 hc0
    refine ⟨?_, o, ho, frzC_ok rl rc q⟩
    unfold still
    rw [if_neg]
    · exact sa
    · intro z
      obtain ⟨m, hm⟩ := List.getElem?_of_mem z
      rw [List.getElem?_drop] at hm
      have := nd_ix rl.nd e1 hm
      omega
theorem exit_step {φ0 : List Addr} {S0 H0 : Hp} (st : Step φ0 S0 H0 φ S H) (rl : Rel K φ S H h) : Step φ0 S0 H0 (φ.take φ0.length) (still φ φ0.length S H) H ∧ φ.take φ0.length = φ0 := by
  obtain ⟨ψ, rfl, hn⟩ := st.pre
  have e : (φ0 ++ ψ).take φ0.length = φ0 := by rw [List.take_append_of_le_length (Nat.le_refl _), List.take_length]
  refine ⟨?_, e⟩
  rw [e]
  refine ⟨⟨[], (List.append_nil _).symm, fun _ z => nomatch z⟩, st.sub.trans (still_ex rl), fun a ha => ?_, st.keep, st.there⟩
  unfold still
  rw [if_neg]
  · exact st.old a ha
  · intro z
    rw [List.drop_append_of_le_length (Nat.le_refl _), List.drop_length, List.nil_append] at z
    exact ha (hn a z)
end
def exitD (n0 : Nat) (d : D) (h : Hv) : R D := match frz n0 h 12 d, optAll (frzC n0 h) (h.take n0) with
  | some d', some h' => if n0 ≤ h.length then .ok d' h' else .stuck
  | _, _ => .stuck
def exitX (n0 : Nat) (x : Xn) (h : Hv) : R D := match x.pay with
  | none => (match optAll (frzC n0 h) (h.take n0) with
    | some h' => if n0 ≤ h.length then .exc x h' else .stuck
    | none => .stuck)
  | some (f, d) => (match frz n0 h 12 d, optAll (frzC n0 h) (h.take n0) with
    | some d', some h' => if n0 ≤ h.length then .exc ⟨x.cls, some (f, d')⟩ h' else .stuck
    | _, _ => .stuck)
/-- what a def computes: np parameters, nl other names -/
def fnS (np nl : Nat) (body : SS) : List D → Hv → R D := fun ds h => if ds.length = np then (match body (ds.map some ++ List.replicate nl none) h with
  | .ret d h' => exitD h.length d h'
  | .next _ h' => exitD h.length .non h'
  | .exc x _ h' => exitX h.length x h'
  | _ => .stuck) else .stuck
/-- a def keeps what sem tells -/
def spOf (K : PySem.W.Frag) (sem : List D → Hv → R D) : Sp := fun vs H Q E => ∃ φ S h ds, Rel K φ S H h ∧ RpA K φ S vs ds ∧ Post K (repV K) φ S H (sem ds h) Q E
theorem fnS_len {np nl : Nat} {body : SS} {ds : List D} {h : Hv} (e : fnS np nl body ds h ≠ .stuck) : ds.length = np := by
  unfold fnS at e
  split at e
  · next q => exact q
  · exact absurd rfl e
theorem relS_start {K : PySem.W.Frag} {φ : List Addr} {S : Hp} {vs : List V} {ds : List D} (ra : RpA K φ S vs ds) (nl : Nat) (N : List Str) (hN : N.length = ds.length + nl) : RelS K φ S (ds.map some ++ List.replicate nl none) (L2.start N vs) := by
  have hl := ra.length
  unfold L2.start
  rw [hN, hl, Nat.add_sub_cancel_left]
  refine ⟨by rw [List.length_append, List.length_append, List.length_map, List.length_map, hl, List.length_replicate, List.length_replicate], fun i d hd => ?_⟩
  by_cases hi : i < ds.length
  · rw [List.getElem?_append_left (by rw [List.length_map]; exact hi), List.getElem?_map] at hd
    cases q : ds[i]? with
    | none => rw [q] at hd; cases hd
    | some d0 =>
      rw [q] at hd
      cases hd
      obtain ⟨v, hv, rv⟩ := ra.at q
      refine ⟨v, ?_, rv⟩
      rw [List.getElem?_append_left (by rw [List.length_map, hl]; exact hi), List.getElem?_map, hv]
      rfl
  · rw [List.getElem?_append_right (by rw [List.length_map]; omega), List.getElem?_replicate] at hd
    split at hd <;> cases hd
section
variable {P : Program} {w : World} {K : PySem.W.Frag} {mg : Str → Option Value} {base : Heap}
theorem fn_ok {x qual : Str} {st : Stmt} {f : Addr} {fd : FuncData} {N ps : List Str} {k np nl : Nat} {body : SS} (F : Fun K x qual st f fd) (Sc : FnScope N ps (defScope st)) (hps : ps.length = np) (hN : N.length = np + nl)
    (hbody : ∀ (cdv : Value) (A : Around) (outer : List Env) (s : Shared) (H : Hp) (E : XK), Room k (A.deeper (envOfC qual (defScope st) s.heap.objs.size f cdv)) →
      QB (cxOf (L2.CX P w) P w K mg base N qual (defScope st) f cdv A outer s H E) (fun cls d _ H' => E cls d H') (defBody st) body) : FnOk P w K mg base (L2.CX P w) (k + 1) f fd ps (spOf K (fnS np nl body)) := by
  refine F.okX Sc (fun vs H Q E h => ?_) (fun cdv A outer s H vs Q E hr h => ?_)
  · obtain ⟨φ, S, h, ds, rl, ra, post⟩ := h
    rw [ra.length, hps]
    refine fnS_len (nl := nl) (body := body) (h := h) fun z => ?_
    rw [z] at post
    exact post.elim
  · obtain ⟨φ, S, h, ds, rl, ra, post⟩ := h
    obtain ⟨t, h1, h2⟩ := hbody cdv A outer s H E hr
    refine ⟨t, h1, h2.run rl (relS_start ra nl N (by
      have hl : ds.length = np := fnS_len (nl := nl) (body := body) (h := h) fun z => by
        rw [z] at post
        exact post.elim
      rw [hl]
      exact hN)) ?_⟩
    unfold fnS at post
    have hl : ds.length = np := by
      refine Classical.byContradiction fun z => ?_
      rw [if_neg z] at post
      exact post.elim
    rw [if_pos hl] at post
    have en : h.length = φ.length := rl.len.symm
    have out : ∀ {φ' S' H' h' d v}, Rel K φ' S' H' h' → Step φ S H φ' S' H' → Rp K φ' S' v d → Post K (repV K) φ S H (exitD h.length d h') Q E → Q v H' := fun {φ' S' H' h' d v} r2 st rv post => by
      unfold exitD at post
      split at post
      · next d' h'' q1 q2 =>
        split at post
        · next hn =>
          rw [en] at q1 q2 hn
          obtain ⟨s2, _⟩ := exit_step st r2
          exact post v _ _ H' (exit_rel r2 hn q2) s2 (frz_ok r2 _ _ _ _ rv q1)
        · exact post.elim
      · exact post.elim
    cases hb : body (ds.map some ++ List.replicate nl none) h with
    | next σ' h' =>
      rw [hb] at post
      exact fun σ1 φ' S' H' r2 _ st => out r2 st .non post
    | ret d h' =>
      rw [hb] at post
      exact fun v φ' S' H' r2 st rv => out r2 st rv post
    | brk σ' h' => rw [hb] at post; exact post.elim
    | cont σ' h' => rw [hb] at post; exact post.elim
    | stuck => rw [hb] at post; exact post.elim
    | exc x σ' h' =>
      rw [hb] at post
      intro σ1 cls dd φ' S' H' r2 _ st rx
      simp only [exitX] at post
      obtain ⟨s2, _⟩ := exit_step st r2
      obtain ⟨e1, rx⟩ := rx
      cases hp : x.pay with
      | none =>
        simp only [hp] at post rx
        split at post
        · next h'' q2 =>
          split at post
          · next hn =>
            rw [en] at q2 hn
            exact post cls dd _ _ H' (exit_rel r2 hn q2) s2 ⟨e1, by rw [hp]; exact rx⟩
          · exact post.elim
        · exact post.elim
      | some p =>
        obtain ⟨fl, d⟩ := p
        simp only [hp] at post rx
        obtain ⟨dx, v, e2, e3, rv⟩ := rx
        split at post
        · next d' h'' q1 q2 =>
          split at post
          · next hn =>
            rw [en] at q1 q2 hn
            exact post cls dd _ _ H' (exit_rel r2 hn q2) s2 ⟨e1, dx, v, e2, still_ex r2 _ _ e3, frz_ok r2 _ _ _ _ rv q1⟩
          · exact post.elim
        · exact post.elim
end
/-! ### calls of defs -/
/-- data without cells -/
def pureD (ds : List D) : Option (List D) := optAll (frz 0 [] 12) ds
theorem frz0_ok {K : PySem.W.Frag} {φ : List Addr} {S : Hp} : ∀ (f : Nat) (d : D) (v : V) (d' : D), Rp K φ S v d → frz 0 [] f d = some d' → Rp K [] S v d' := by
  intro f
  induction f with
  | zero => intro d v p _ e; cases e
  | succ f ih =>
    have all := frzA_of (K := K) (n0 := 0) (h := []) ih
    intro d v p r e
    cases r with
    | non => cases e; exact .non
    | bl b => cases e; exact .bl b
    | int i => cases e; exact .int i
    | str x => cases e; exact .str x
    | @lst a vs ds h1 h2 =>
      obtain ⟨ps, q, rfl⟩ := Option.map_eq_some_iff.mp (show (optAll (frz 0 [] f) ds).map .lst = some p from e)
      exact .lst h1 (all ds vs ps h2 q)
    | @fz a vs ds h1 h2 =>
      obtain ⟨ps, q, rfl⟩ := Option.map_eq_some_iff.mp (show (optAll (frz 0 [] f) ds).map .fz = some p from e)
      exact .fz h1 (all ds vs ps h2 q)
    | @tup a vs ds h1 h2 =>
      obtain ⟨ps, q, rfl⟩ := Option.map_eq_some_iff.mp (show (optAll (frz 0 [] f) ds).map .tup = some p from e)
      exact .tup h1 (all ds vs ps h2 q)
    | cell h1 => simp [frz] at e
    | raw v => cases e; exact .raw v
    | @dct a od kv ks ds h1 h2 h3 =>
      obtain ⟨ps, q, rfl⟩ := Option.map_eq_some_iff.mp (show (optAll (frz 0 [] f) ds).map (.dct ks) = some p from e)
      exact .dct h1 h2 (all ds _ ps h3 q)
    | @obj a dx fv c ks ds h1 h2 h3 =>
      obtain ⟨ps, q, rfl⟩ := Option.map_eq_some_iff.mp (show (optAll (frz 0 [] f) ds).map (.obj c ks) = some p from e)
      exact .obj h1 h2 (all ds _ ps h3 q)
    | exv h1 h2 => cases e
theorem Rel.bare {K : PySem.W.Frag} {S H : Hp} (e : Ex S H) : Rel K [] S H [] := ⟨rfl, e, List.nodup_nil, fun n a c h => by simp at h⟩
/-- the callee's steps are the caller's -/
theorem Rel.frame {K : PySem.W.Frag} {φ φ' : List Addr} {S H S' H' : Hp} {h : Hv} (rl : Rel K φ S H h) (r2 : Rel K φ' S' H' []) (st : Step [] S H φ' S' H') : φ' = [] ∧ Rel K φ S' H' h ∧ Step φ S H φ S' H' := by
  have e : φ' = [] := List.length_eq_zero_iff.mp r2.len
  subst e
  refine ⟨rfl, ⟨rl.len, r2.sub, rl.nd, fun n a c e1 e2 => ?_⟩, ⟨⟨[], (List.append_nil _).symm, fun _ z => nomatch z⟩, st.sub, st.old, fun a o e _ => st.keep a o e (fun z => nomatch z), st.there⟩⟩
  obtain ⟨h1, o, h2, h3⟩ := rl.cel n a c e1 e2
  exact ⟨(st.old a (by rw [h2]; exact fun z => nomatch z)).trans h1, o, st.keep a o h2 (fun z => nomatch z), h3.mono (Pre.refl _) st.sub⟩
def callP (sem : List D → Hv → R D) (ds : List D) (h : Hv) : R D := match pureD ds with
  | some ds' => (match sem ds' [] with
    | .ok d [] => .ok d h
    | .exc x [] => .exc x h
    | _ => .stuck)
  | none => .stuck
theorem spOf_P {K : PySem.W.Frag} {sem : List D → Hv → R D} {φ : List Addr} {S H : Hp} {h : Hv} {ds : List D} {vs : List V} {Q : VK} {E : XK} (rl : Rel K φ S H h) (ra : RpA K φ S vs ds) (post : Post K (repV K) φ S H (callP sem ds h) Q E) : spOf K sem vs H Q E := by
  unfold callP at post
  split at post
  · next ds' q =>
    refine ⟨[], S, [], ds', Rel.bare rl.sub, frzA_of (n0 := 0) (h := []) (fun d v d' r e => frz0_ok 12 d v d' r e) ds vs ds' ra q, ?_⟩
    split at post
    · next d hs =>
      rw [hs]
      intro v φ' S' H' r2 st rv
      obtain ⟨rfl, r3, s3⟩ := rl.frame r2 st
      exact post v φ S' H' r3 s3 (Rp.mono ⟨φ, rfl⟩ (Ex.refl _) rv)
    · next x hs =>
      rw [hs]
      intro cls dd φ' S' H' r2 st rx
      obtain ⟨rfl, r3, s3⟩ := rl.frame r2 st
      refine post cls dd φ S' H' r3 s3 ⟨rx.1, ?_⟩
      have rx2 := rx.2
      cases hp : x.pay with
      | none => rw [hp] at rx2; exact rx2
      | some p =>
        rw [hp] at rx2
        obtain ⟨dx, v, e2, e3, rv⟩ := rx2
        exact ⟨dx, v, e2, e3, Rp.mono ⟨φ, rfl⟩ (Ex.refl _) rv⟩
    · exact post.elim
  · exact post.elim
mutual
def isScal : D → Bool
  | .non => true
  | .bl _ => true
  | .int _ => true
  | .str _ => true
  | .tup ds => isScalL ds
  | .lst _ => false
  | .fz _ => false
  | .cell _ => false
  | .raw _ => false
  | .dct _ _ => false
  | .obj _ _ _ => false
  | .exv _ _ _ _ => false
def isScalL : List D → Bool
  | [] => true
  | d :: ds => isScal d && isScalL ds
end
/-- the objects that are still, but those of the caller's cells -/
def offS (φ : List Addr) (S S' : Hp) : Hp := fun a => if a ∈ φ then S a else S' a
section
variable {K : PySem.W.Frag} {φ : List Addr} {S S' : Hp}
theorem offS_sqt (nt : ∀ (a : Addr) (vs : List V), Rd S' a (.tup vs) → a ∉ φ) {a : Addr} {vs : List V} (h : SqT K S' a vs) : SqT K (offS φ S S') a vs := by
  refine h.imp (fun z => ?_) id
  have na := nt a vs z
  unfold Rd offS at *
  rw [if_neg na]
  exact z
mutual
theorem scal_tr (nt : ∀ (a : Addr) (vs : List V), Rd S' a (.tup vs) → a ∉ φ) : ∀ {v : V} {d : D}, isScal d = true → Rp K [] S' v d → Rp K φ (offS φ S S') v d
  | _, _, _, .non => .non
  | _, _, _, .bl b => .bl b
  | _, _, _, .int i => .int i
  | _, _, _, .str x => .str x
  | _, .tup ds, hs, .tup h r => .tup (offS_sqt nt h) (scalA_tr nt (by rw [isScal] at hs; exact hs) r)
  | _, _, hs, .lst _ _ => by rw [isScal] at hs; cases hs
  | _, _, hs, .fz _ _ => by rw [isScal] at hs; cases hs
  | _, _, hs, .cell _ => by rw [isScal] at hs; cases hs
  | _, _, hs, .raw _ => by rw [isScal] at hs; cases hs
  | _, _, hs, .dct _ _ _ => by rw [isScal] at hs; cases hs
  | _, _, hs, .obj _ _ _ => by rw [isScal] at hs; cases hs
  | _, _, hs, .exv _ _ => by rw [isScal] at hs; cases hs
theorem scalA_tr (nt : ∀ (a : Addr) (vs : List V), Rd S' a (.tup vs) → a ∉ φ) : ∀ {vs : List V} {ds : List D}, isScalL ds = true → RpA K [] S' vs ds → RpA K φ (offS φ S S') vs ds
  | _, _, _, .nil => .nil
  | _, d :: ds, hs, .cons r t => by
    rw [isScalL, Bool.and_eq_true] at hs
    exact .cons (scal_tr nt hs.1 r) (scalA_tr nt hs.2 t)
end
end
/-- a call that only looks: its arguments may hold cells, its answer is a plain value -/
def callB (sem : List D → Hv → R D) (ds : List D) (h : Hv) : R D := match optAll (frz 0 h 12) ds with
  | some ds' => (match sem ds' [] with
    | .ok d [] => if isScal d then .ok d h else .stuck
    | .exc x [] => (match x.pay with
      | none => .exc x h
      | some (_, d) => if isScal d then .exc x h else .stuck)
    | _ => .stuck)
  | none => .stuck
theorem rel_B {K : PySem.W.Frag} {φ : List Addr} {S H S' H' : Hp} {h : Hv} (rl : Rel K φ S H h) (r2 : Rel K [] S' H' []) (st : Step [] (still φ 0 S H) H [] S' H') :
    (∀ (a : Addr) (vs : List V), Rd S' a (.tup vs) → a ∉ φ) ∧ (∀ (a : Addr) (vs : List (Str × V)), S' a = some (.xd vs) → a ∉ φ) ∧ Rel K φ (offS φ S S') H' h ∧ Step φ S H φ (offS φ S S') H' := by
  have kp : ∀ a o, H a = some o → H' a = some o := fun a o e => st.keep a o e (fun z => nomatch z)
  have sS : ∀ a o, S a = some o → a ∉ φ := fun a o e z => by rw [(rl.mem z).1] at e; cases e
  have nt : ∀ (a : Addr) (vs : List V), Rd S' a (.tup vs) → a ∉ φ := fun a vs z hm => by
    obtain ⟨n, hn⟩ := List.getElem?_of_mem hm
    obtain ⟨c, hc⟩ := rl.at hn
    obtain ⟨_, o, ho, rc⟩ := rl.cel n a c hn hc
    have ho' := kp a o ho
    rcases z with z | ⟨u, z⟩
    · have := r2.sub _ _ z
      rw [ho'] at this
      cases this
      cases c with
      | lst ds => obtain ⟨_, e, _⟩ := rc; cases e
      | dK kvs => obtain ⟨_, e, _⟩ := rc; cases e
      | dF kvs => obtain ⟨_, _, e, _⟩ := rc; cases e
      | ins C fs => obtain ⟨_, _, e, _⟩ := rc; cases e
      | dN w kvs => obtain ⟨_, _, e, _⟩ := rc; cases e
    · have := r2.sub _ _ z
      rw [ho'] at this
      cases this
      cases c with
      | lst ds => obtain ⟨_, e, _⟩ := rc; cases e
      | dK kvs => obtain ⟨_, e, _⟩ := rc; cases e
      | dF kvs => obtain ⟨_, _, e, _⟩ := rc; cases e
      | ins C fs => obtain ⟨_, _, e, _⟩ := rc; cases e
      | dN w kvs => obtain ⟨_, _, e, _⟩ := rc; cases e
  have nx : ∀ (a : Addr) (vs : List (Str × V)), S' a = some (.xd vs) → a ∉ φ := fun a vs z hm => by
    obtain ⟨n, hn⟩ := List.getElem?_of_mem hm
    obtain ⟨c, hc⟩ := rl.at hn
    obtain ⟨_, o, ho, rc⟩ := rl.cel n a c hn hc
    have ho' := kp a o ho
    have := r2.sub _ _ z
    rw [ho'] at this
    cases this
    cases c with
    | lst ds => obtain ⟨_, e, _⟩ := rc; cases e
    | dK kvs => obtain ⟨_, e, _⟩ := rc; cases e
    | dF kvs => obtain ⟨_, _, e, _⟩ := rc; cases e
    | ins C fs => obtain ⟨_, _, e, _⟩ := rc; cases e
    | dN w kvs => obtain ⟨_, _, e, _⟩ := rc; cases e
  have ex : Ex S (offS φ S S') := fun a o e => by
    unfold offS
    rw [if_neg (sS a o e)]
    exact st.sub a o (still_ex rl a o e)
  refine ⟨nt, nx, ⟨rl.len, fun a o e => ?_, rl.nd, fun n a c e1 e2 => ?_⟩, ⟨⟨[], (List.append_nil _).symm, fun _ z => nomatch z⟩, ex, fun a ha => ?_, fun a o e _ => kp a o e, st.there⟩⟩
  · unfold offS at e
    split at e
    · exact kp a o (rl.sub a o e)
    · exact r2.sub a o e
  · obtain ⟨h1, o, h2, h3⟩ := rl.cel n a c e1 e2
    refine ⟨?_, o, kp a o h2, h3.mono ⟨[], (List.append_nil _).symm⟩ ex⟩
    unfold offS
    rw [if_pos (List.mem_of_getElem? e1)]
    exact h1
  · unfold offS
    split
    · rfl
    · next na =>
      rw [st.old a ha]
      unfold still
      rw [if_neg (fun z => na (List.mem_of_mem_drop z))]
theorem spOf_B {K : PySem.W.Frag} {sem : List D → Hv → R D} {φ : List Addr} {S H : Hp} {h : Hv} {ds : List D} {vs : List V} {Q : VK} {E : XK} (rl : Rel K φ S H h) (ra : RpA K φ S vs ds) (post : Post K (repV K) φ S H (callB sem ds h) Q E) : spOf K sem vs H Q E := by
  unfold callB at post
  split at post
  · next ds' q =>
    refine ⟨[], still φ 0 S H, [], ds', Rel.bare (still_sub rl), ?_, ?_⟩
    · have := frzA_of (n0 := 0) (h := h) (fun d v d' r e => frz_ok rl 12 d v d' r e) ds vs ds' ra q
      rw [List.take_zero] at this
      exact this
    split at post
    · next d hs =>
      rw [hs]
      split at post
      · next hsc =>
        intro v φ' S' H' r2 st rv
        have e : φ' = [] := List.length_eq_zero_iff.mp r2.len
        subst e
        obtain ⟨nt, _, r3, s3⟩ := rel_B rl r2 st
        exact post v φ (offS φ S S') H' r3 s3 (scal_tr nt hsc rv)
      · exact post.elim
    · next x hs =>
      rw [hs]
      intro cls dd φ' S' H' r2 st rx
      have e : φ' = [] := List.length_eq_zero_iff.mp r2.len
      subst e
      obtain ⟨nt, nx, r3, s3⟩ := rel_B rl r2 st
      have rx2 := rx.2
      split at post
      · next hp =>
        refine post cls dd φ (offS φ S S') H' r3 s3 ⟨rx.1, ?_⟩
        rw [hp] at rx2 ⊢
        exact rx2
      · next f d hp =>
        split at post
        · next hsc =>
          refine post cls dd φ (offS φ S S') H' r3 s3 ⟨rx.1, ?_⟩
          rw [hp] at rx2 ⊢
          obtain ⟨dx, v, e2, e3, rv⟩ := rx2
          refine ⟨dx, v, e2, ?_, scal_tr nt hsc rv⟩
          unfold offS
          rw [if_neg (nx _ _ e3)]
          exact e3
        · exact post.elim
    · exact post.elim
  · exact post.elim
section
variable {X : Cx} {W : WX} {k : Nat} {f : Addr} {fd : FuncData} {ps : List Str} {sem sem' : List D → Hv → R D} {x : Str} {p pos : Pos} {e : Expr} {es : List Expr} {la : LS}
theorem se_call (hsem : ∀ {φ : List Addr} {S H : Hp} {h : Hv} {ds : List D} {vs : List V} {Q : VK} {E : XK}, Rel X.K φ S H h → RpA X.K φ S vs ds → Post X.K (repV X.K) φ S H (sem' ds h) Q E → spOf X.K sem vs H Q E)
    (F : FnOk X.prog X.w X.K X.mg X.base (L2.CX X.prog X.w) k f fd ps (spOf X.K sem)) (hr : Room k X.A) (tk : Takes X W) (hm : X.mg x = some (.ref f)) (hk : PySem.W.keepIn X.K (.ref f) = true) (hb : Binds X.K fd ps []) (ha : SA X W (e :: es) la)
    (hg : Gl X x := by rfl) (hdb : (x == ("__debug__" : Str)) = false := by decide) (he : starEach (e :: es) X.env = (false, eval e X.env) :: starEach es X.env := by rfl) (hpl : (backTo pos (starEach es X.env)).any (·.1) = false := by rfl) :
    SE X W (.Call (.Name x p) (e :: es) [] pos) (eCa sem' la) := by
  obtain ⟨t, h1, h2⟩ := ha
  exact ⟨_, pe_callS F hr hg hm hk hb (fun σ => passAt tk σ) h1 hdb he hpl, ⟨fun rl rs post => h2.bind rl rs post fun ds h1 vs φ1 S1 H1 rl1 rs1 st rp post => hsem rl1 rp post⟩⟩
end
def callM (sem : List D → Hv → R D) : List D → Hv → R D := sem
theorem spOf_M {K : PySem.W.Frag} {sem : List D → Hv → R D} {φ : List Addr} {S H : Hp} {h : Hv} {ds : List D} {vs : List V} {Q : VK} {E : XK} (rl : Rel K φ S H h) (ra : RpA K φ S vs ds) (post : Post K (repV K) φ S H (callM sem ds h) Q E) : spOf K sem vs H Q E := ⟨φ, S, h, ds, rl, ra, post⟩
end
end VD

set_option Elab.async false
set_option linter.all false
set_option maxRecDepth 100000
set_option maxHeartbeats 4000000
namespace VD
open PySem PySem.Spec PyProof.Rows L2
noncomputable section
/-! ### methods of lists that are cells -/
def MtS (K : PySem.W.Frag) (r : V → List V → Hp → VK → Prop) (ro : D → List D → Hv → R D) : Prop :=
  ∀ {φ : List Addr} {S H : Hp} {h : Hv} {x : D} {v : V} {ds : List D} {vs : List V} {Q : VK} {E : XK}, Rel K φ S H h → Rp K φ S v x → RpA K φ S vs ds → Post K (repV K) φ S H (ro x ds h) Q E → r v vs H Q
def eBM (ro : D → List D → Hv → R D) (fo : ES) (la : LS) : ES := fun σ h => (fo σ h).bind fun x h1 => match lOf h1 x with
  | some _ => (la σ h1).bind fun ds h2 => ro x ds h2
  | none => .stuck
theorem Rel.cell {K : PySem.W.Frag} {φ : List Addr} {S H : Hp} {h : Hv} (rl : Rel K φ S H h) {n : Nat} {v : V} {xs : List D} (r : Rp K φ S v (.cell n)) (e : h[n]? = some (.lst xs)) : ∃ a vs, v = .ref a ∧ φ[n]? = some a ∧ H a = some (.lst vs) ∧ RpA K φ S vs xs := by
  cases r with
  | @cell a n h1 =>
    obtain ⟨_, o, ho, vs, rfl, ra⟩ := rl.cel _ _ _ h1 e
    exact ⟨a, vs, rfl, h1, ho, ra⟩
section
variable {X : Cx} {W : WX} {K : PySem.W.Frag} {o e : Expr} {es : List Expr} {fo fv fi : ES} {la : LS} {name : Str} {apos cpos pos tpos : Pos} {id : String} {r : V → List V → Hp → VK → Prop} {ro : D → List D → Hv → R D}
theorem se_bm (slot : Slot "list" name id) (hty : typeOf (.builtin id) = pure (.type "method_descriptor")) (hm : MtR X id r) (hr : MtS X.K r ro) (ho : SE X W o fo) (ha : SA X W (e :: es) la)
    (hbase : attributeBase o name X.env (eval o X.env) = eval o X.env := by rfl)
    (hfew : ((backTo cpos (starEach (e :: es) X.env)).all (fun x => !x.1) && (backToKw cpos (keywordEach [] X.env)).all (fun x => x.1.isSome)
      && decide ((e :: es).length + ([] : List Keyword).length + (if ([] : List Keyword).isEmpty then 0 else 1) < 30)) = true := by rfl)
    (hline : (apos.endLine == cpos.line) = true := by rfl) (hs : starEach (e :: es) X.env = (false, eval e X.env) :: starEach es X.env := by rfl) (hplain : (backTo cpos (starEach es X.env)).any (·.1) = false := by rfl) :
    SE X W (.Call (.Attribute o name apos) (e :: es) [] cpos) (eBM ro fo la) := by
  obtain ⟨to, h1, h2⟩ := ho
  obtain ⟨ta, k1, k2⟩ := ha
  refine ⟨_, pe_bm PySem.F.plainAttrs_list slot hty hm h1 k1 hbase hfew hline hs hplain, ⟨fun rl rs post => h2.bind rl rs post fun x h1 v φ1 S1 H1 rl1 rs1 st rp post => ?_⟩⟩
  cases q : lOf h1 x with
  | none => simp only [q] at post; exact post.elim
  | some xs =>
    simp only [q] at post
    obtain ⟨a, vs, rfl, g2, g3⟩ := lOf_ok rl1 rp q
    exact ⟨.inl ⟨rfl, vs, g2⟩, k2.bind rl1 rs1 post fun ds h2 us φ2 S2 H2 rl2 rs2 st2 rp2 post => hr rl2 (Rp.mono st2.prefix st2.sub rp) rp2 post⟩
theorem se_bm0 (slot : Slot "list" name id) (hty : typeOf (.builtin id) = pure (.type "method_descriptor")) (hm : MtR X id r) (hr : MtS X.K r ro) (ho : SE X W o fo)
    (hbase : attributeBase o name X.env (eval o X.env) = eval o X.env := by rfl) (hline : (apos.endLine == cpos.line) = true := by rfl) : SE X W (.Call (.Attribute o name apos) [] [] cpos) (eBM ro fo aNil) := by
  obtain ⟨to, h1, h2⟩ := ho
  refine ⟨_, pe_bm0 PySem.F.plainAttrs_list slot hty hm h1 hbase hline, ⟨fun rl rs post => h2.bind rl rs post fun x h1 v φ1 S1 H1 rl1 rs1 st rp post => ?_⟩⟩
  cases q : lOf h1 x with
  | none => simp only [q] at post; exact post.elim
  | some xs =>
    simp only [q] at post
    obtain ⟨a, vs, rfl, g2, g3⟩ := lOf_ok rl1 rp q
    exact ⟨.inl ⟨rfl, vs, g2⟩, hr rl1 rp .nil post⟩
def mAppend : D → List D → Hv → R D := fun x ds h => match x, ds with
  | .cell n, [d] => (match h[n]? with
    | some (.lst xs) => if xs.length < 16777216 then .ok .non (h.set n (.lst (xs ++ [d]))) else .stuck
    | _ => .stuck)
  | _, _ => .stuck
theorem ms_append : MtS K rAppend mAppend := by
  intro φ S H h x v ds vs Q E rl rx ra post
  unfold mAppend at post
  split at post
  · next n d =>
    split at post
    · next xs hx =>
      split at post
      · next hz =>
        obtain ⟨a, ws, rfl, hn, ho, rw_⟩ := rl.cell rx hx
        obtain ⟨u, rfl, ru⟩ := ra.one
        obtain ⟨r2, s2⟩ := rl.put hn (c := .lst (xs ++ [d])) (o := .lst (ws ++ [u])) ⟨_, rfl, rw_.append (.cons ru .nil)⟩
        exact ⟨a, ws, u, rfl, rfl, ho, by rw [rw_.length, line_eq]; exact hz, post _ φ S _ r2 s2 .non⟩
      · exact post.elim
    · exact post.elim
  · exact post.elim
def mReverse : D → List D → Hv → R D := fun x ds h => match x, ds with
  | .cell n, [] => (match h[n]? with
    | some (.lst xs) => .ok .non (h.set n (.lst xs.reverse))
    | _ => .stuck)
  | _, _ => .stuck
theorem ms_reverse : MtS K rReverse mReverse := by
  intro φ S H h x v ds vs Q E rl rx ra post
  unfold mReverse at post
  split at post
  · next n =>
    split at post
    · next xs hx =>
      obtain ⟨a, ws, rfl, hn, ho, rw_⟩ := rl.cell rx hx
      cases ra
      obtain ⟨r2, s2⟩ := rl.put hn (c := .lst xs.reverse) (o := .lst ws.reverse) ⟨_, rfl, rw_.reverse⟩
      exact ⟨a, ws, rfl, rfl, ho, post _ φ S _ r2 s2 .non⟩
    · exact post.elim
  · exact post.elim
def mPopAt : D → List D → Hv → R D := fun x ds h => match x, ds with
  | .cell n, [.int i] => (match h[n]? with
    | some (.lst xs) => @ite _ (-(2 ^ 63) ≤ i ∧ i < 2 ^ 63) (Classical.propDecidable _) (match seqIndex? i xs.length with
      | some k => (match xs[k]? with
        | some y => .ok y (h.set n (.lst (xs.eraseIdx k)))
        | none => .stuck)
      | none => .stuck) .stuck
    | _ => .stuck)
  | _, _ => .stuck
theorem ms_popAt : MtS K rPopAt mPopAt := by
  intro φ S H h x v ds vs Q E rl rx ra post
  unfold mPopAt at post
  split at post
  · next n i =>
    split at post
    · next xs hx =>
      split at post
      · next hz =>
        split at post
        · next k hk =>
          split at post
          · next y hy =>
            obtain ⟨a, ws, rfl, hn, ho, rw_⟩ := rl.cell rx hx
            obtain ⟨u, rfl, ru⟩ := ra.one
            cases ru
            obtain ⟨w, hw, rww⟩ := rw_.at hy
            obtain ⟨r2, s2⟩ := rl.put hn (c := .lst (xs.eraseIdx k)) (o := .lst (ws.eraseIdx k)) ⟨_, rfl, rw_.eraseIdx k⟩
            exact ⟨a, ws, i, k, w, rfl, rfl, ho, hz.1, hz.2, by rw [rw_.length]; exact hk, hw, post _ φ S _ r2 s2 rww⟩
          · exact post.elim
        · exact post.elim
      · exact post.elim
    · exact post.elim
  · exact post.elim
def mInsert : D → List D → Hv → R D := fun x ds h => match x, ds with
  | .cell n, [.int i, d] => (match h[n]? with
    | some (.lst xs) => @ite _ ((0 ≤ i ∧ i < 2 ^ 63) ∧ xs.length < 16777216) (Classical.propDecidable _) (.ok .non (h.set n (.lst (xs.take i.toNat ++ [d] ++ xs.drop i.toNat)))) .stuck
    | _ => .stuck)
  | _, _ => .stuck
def rInsert : V → List V → Hp → VK → Prop := fun x vs H Q => ∃ (l : Addr) (xs : List V) (i : Int) (y : V), x = .ref l ∧ vs = [.int i, y] ∧ H l = some (.lst xs) ∧ xs.length < sizeLine ∧ 0 ≤ i ∧ i < 2 ^ 63 ∧
    Q .non (upd H l (.lst (xs.take i.toNat ++ [y] ++ xs.drop i.toNat)))
theorem mt_insertR : MtR X "list.insert" rInsert := mt_insert
theorem ms_insert : MtS K rInsert mInsert := by
  intro φ S H h x v ds vs Q E rl rx ra post
  unfold mInsert at post
  split at post
  · next n i d =>
    split at post
    · next xs hx =>
      split at post
      · next hz =>
        obtain ⟨a, ws, rfl, hn, ho, rw_⟩ := rl.cell rx hx
        obtain ⟨u, u2, rfl, ru, ru2⟩ := ra.two
        cases ru
        obtain ⟨r2, s2⟩ := rl.put hn (c := .lst (xs.take i.toNat ++ [d] ++ xs.drop i.toNat)) (o := .lst (ws.take i.toNat ++ [u2] ++ ws.drop i.toNat)) ⟨_, rfl, ((rw_.take _).append (.cons ru2 .nil)).append (rw_.drop _)⟩
        exact ⟨a, ws, i, u2, rfl, rfl, ho, by rw [rw_.length, line_eq]; exact hz.2, hz.1.1, hz.1.2, post _ φ S _ r2 s2 .non⟩
      · exact post.elim
    · exact post.elim
  · exact post.elim
/-- xs.index(n), ints -/
def firstIx (n : Int) : List Int → Option Nat
  | [] => none
  | x :: xs => if x = n then some 0 else (firstIx n xs).map (· + 1)
theorem firstIx_ok {n : Int} : ∀ {xs : List Int} {j : Nat}, firstIx n xs = some j → xs[j]? = some n ∧ ∀ m z, m < j → xs[m]? = some z → z ≠ n
  | [], j, h => by cases h
  | x :: xs, j, h => by
    simp only [firstIx] at h
    split at h
    · next q =>
      cases h
      subst q
      exact ⟨rfl, fun m z hm => by omega⟩
    · next q =>
      obtain ⟨k, hk, rfl⟩ := Option.map_eq_some_iff.mp h
      obtain ⟨h1, h2⟩ := firstIx_ok hk
      refine ⟨by rw [List.getElem?_cons_succ]; exact h1, fun m z hm hz => ?_⟩
      cases m with
      | zero =>
        rw [List.getElem?_cons_zero] at hz
        cases hz
        exact q
      | succ m =>
        rw [List.getElem?_cons_succ] at hz
        exact h2 m z (by omega) hz
def mIndex : D → List D → Hv → R D := fun x ds h => match ds with
  | [.int i] => (match (lOf h x).bind (optAll toI) with
    | some ns => (match firstIx i ns with
      | some j => .ok (.int (j : Nat)) h
      | none => .stuck)
    | none => .stuck)
  | _ => .stuck
theorem ms_index : MtS K (rIndex K) mIndex := by
  intro φ S H h x v ds vs Q E rl rx ra post
  unfold mIndex at post
  split at post
  · next i =>
    split at post
    · next ns hn =>
      split at post
      · next j hj =>
        obtain ⟨xs, q1, q2⟩ := Option.bind_eq_some_iff.mp hn
        obtain ⟨a, vs, rfl, h2, h3⟩ := lOf_ok rl rx q1
        rw [toIs_ok h3 q2] at h2
        obtain ⟨u, rfl, ru⟩ := ra.one
        cases ru
        obtain ⟨f1, f2⟩ := firstIx_ok hj
        refine ⟨a, ns.map V.int, .int i, j, .int i, rfl, rfl, h2, rfl, List.all_eq_true.mpr fun z hz => ?_, by rw [List.getElem?_map, f1]; rfl, (by simp [eqV]), fun m z' hm hz' => ?_, post _ φ S H rl (Step.refl _ _ _) (.int _)⟩
        · obtain ⟨k, _, rfl⟩ := List.mem_map.mp hz
          rfl
        · rw [List.getElem?_map] at hz'
          obtain ⟨k, hk, rfl⟩ := Option.map_eq_some_iff.mp hz'
          have := f2 m k hm hk
          simp [eqV, this]
      · exact post.elim
    · exact post.elim
  · exact post.elim
/-! ### o[i] = e, a list -/
def sSetIx (fv fo fi : ES) : SS := fun σ h => (fv σ h).then σ fun d h1 => (fo σ h1).then σ fun x h2 => (fi σ h2).then σ fun i h3 => match x, i with
  | .cell n, .int k => (match h3[n]? with
    | some (.lst xs) => (match ixN xs.length k with
      | some j => .next σ (h3.set n (.lst (xs.set j d)))
      | none => .stuck)
    | _ => .stuck)
  | _, _ => .stuck
theorem qs_setIx {i : Expr} {ve : Expr} (hv : SE X W ve fv) (ho : SE X W o fo) (hi : SE X W i fi) (hs : swapsWithSole [.Subscript o i tpos] ve pos.line X.env = pure false := by rfl) (hw : swappedStores [.Subscript o i tpos] ve X.env = pure none := by rfl)
    (h1 : (assignEach [.Subscript o i tpos] X.env).map (·.2) = [assign (.Subscript o i tpos) X.env] := by rfl)
    (ha : ∀ v, assign (.Subscript o i tpos) X.env v = (do
      let ov ← holding [v] (eval o X.env)
      let iv ← holding [v, ov] (eval i X.env)
      standAt tpos
      holding [v, ov, iv] (setItem ov iv v)
      release [v, ov, iv] []) := by intro _; rfl) (htk : Takes X W := by assumption) : QS X W (.Assign [.Subscript o i tpos] ve pos) (sSetIx fv fo fi) := by
  obtain ⟨tv, a1, a2⟩ := hv
  obtain ⟨to, b1, b2⟩ := ho
  obtain ⟨ti, c1, c2⟩ := hi
  refine ⟨_, ps_asg a1 (pg_sub b1 c1 set_list ha) hs hw h1, ⟨fun rl rs post => a2.thenS rl rs post fun d h1 v φ1 S1 H1 rl1 rs1 st1 r1 post => b2.thenS rl1 rs1 post fun x h2 u φ2 S2 H2 rl2 rs2 st2 r2 post => c2.thenS rl2 rs2 post fun y h3 w φ3 S3 H3 rl3 rs3 st3 r3 post => ?_⟩⟩
  cases x with
  | cell n =>
    cases y with
    | int k =>
      simp only at post
      split at post
      · next xs hx =>
        split at post
        · next j hj =>
          have r2' : Rp X.K φ3 S3 u (.cell n) := Rp.mono st3.prefix st3.sub r2
          have r1' : Rp X.K φ3 S3 v d := Rp.mono (st2.trans st3).prefix (st2.trans st3).sub r1
          obtain ⟨a, ws, rfl, hn, ho, rw_⟩ := rl3.cell r2' hx
          cases (show Rp _ _ _ _ _ from r3)
          obtain ⟨q1, q2⟩ := rl3.put hn (c := .lst (xs.set j d)) (o := .lst (ws.set j v)) ⟨_, rfl, rw_.set r1' j⟩
          exact ⟨a, ws, k, j, rfl, rfl, ho, by rw [rw_.length]; exact hj, post _ φ3 S3 _ q1 rs3 q2⟩
        · exact post.elim
      · exact post.elim
    | _ => exact post.elim
  | _ => exact post.elim

/-! ### raise C('..'), a class of one's own over ValueError -/
structure ExcT (K : PySem.W.Frag) (mg : Str → Option Value) (x : Str) (C : Addr) : Prop where
  g : mg x = some (.ref C)
  exc : PySem.W.excIn K C [.type "ValueError", .type "Exception", .type "BaseException", .type "object"] "ValueError.__new__" = true
  keep : PySem.W.keepIn K (.ref C) = true
  sub : PySem.W.subIn K (.ref C) (.type "BaseException") = some true
  ty : PySem.W.typeIn K (.ref C) = some (.type "type")
def sRaise (C : Str) : SS := fun σ h => .exc ⟨C, none⟩ σ h
theorem qs_raise {x m : Str} {j : Nat} {p p2 p3 : Pos} (T : ExcT X.K X.mg x (He.ga X.K x)) (tk : Takes X W) (hg : Gl X x := by rfl) (hdb : (x == ("__debug__" : Str)) = false := by decide) (hc : X.calm = true := by rfl) :
    QS X W (.Raise (some (.Call (.Name x p) [.Constant (.str m) j p2] [] pos)) none p3) (sRaise x) :=
  ⟨_, ps_raise hc tk (pmk_own PySem.F.excBase_ValueError T.exc T.g T.keep (raises_own T.sub T.ty) hg hdb), ⟨fun {φ S H h σv σ D} rl rs post => post σ (.ref (He.ga X.K x)) none φ S H rl rs (Step.refl _ _ _) ⟨rfl, rfl⟩⟩⟩
end
/-! ### the law's own end -/
theorem law_sp {K : PySem.W.Frag} {sem : List D → Hv → R D} {n : Nat} (hs : ∀ ns : List Int, ns.length ≤ n → sem [.fz (ns.map .int)] [] = .ok (.bl true) []) (H : Hp) (a : Addr) (ns : List Int) (hl : ns.length ≤ n) (hS : SqL K H a (ns.map V.int)) :
    spOf K sem [.ref a] H (fun v _ => v = .bl true) fun _ _ _ => False := by
  refine ⟨[], H, [], [.fz (ns.map .int)], Rel.bare (Ex.refl H), .cons (.fz hS (.of_ints ns)) .nil, ?_⟩
  rw [hs ns hl]
  intro v φ' S' H' r2 st rv
  cases (show Rp _ _ _ _ _ from rv)
  rfl
end
end VD

set_option Elab.async false
set_option linter.all false
set_option maxRecDepth 100000
set_option maxHeartbeats 4000000
namespace VD
open PySem PySem.Spec PyProof.Rows L2
noncomputable section
/-! ### isinstance of plain values -/
def tyName (h : Hv) : D → Option String
  | .non => some "NoneType"
  | .bl _ => some "bool"
  | .int _ => some "int"
  | .str _ => some "str"
  | .lst _ => some "list"
  | .fz _ => some "list"
  | .tup _ => some "tuple"
  | .cell n => match h[n]? with
    | some (.lst _) => some "list"
    | some (.dK _) => some "dict"
    | _ => none
  | .dct _ _ => some "dict"
  | _ => none
theorem tyx_l {K : PySem.W.Frag} {H : Hp} {a : Addr} {vs : List V} (h : SqL K H a vs) : TyX K H (.ref a) (.type "list") := by
  rcases h with (h | ⟨o, h⟩) | ⟨o, its, n, h1, h2, _⟩
  · exact .base (.lst h)
  · exact .base (.frz h)
  · exact .kList h1 h2
theorem tyx_t {K : PySem.W.Frag} {H : Hp} {a : Addr} {vs : List V} (h : SqT K H a vs) : TyX K H (.ref a) (.type "tuple") := by
  rcases h with (h | ⟨o, h⟩) | ⟨o, its, n, h1, h2, _⟩
  · exact .base (.tup h)
  · exact .fTuple h
  · exact .kTuple h1 h2
theorem tyName_ok {K : PySem.W.Frag} {φ : List Addr} {S H : Hp} {h : Hv} {d : D} {v : V} {t : String} (rl : Rel K φ S H h) (r : Rp K φ S v d) (e : tyName h d = some t) : TyX K H v (.type t) := by
  cases r with
  | non => cases e; exact .base .non
  | bl b => cases e; exact .base (.bl b)
  | int i => cases e; exact .base (.int i)
  | str x => cases e; exact .base (.str x)
  | lst h1 h2 => cases e; exact .base (.lst (rl.sub _ _ h1))
  | fz h1 h2 => cases e; exact tyx_l (rl.sub.sql h1)
  | tup h1 h2 => cases e; exact tyx_t (rl.sub.sqt h1)
  | @cell a n h1 =>
    obtain ⟨c, hc⟩ := rl.at h1
    obtain ⟨_, o, ho, rc⟩ := rl.cel _ _ _ h1 hc
    simp only [tyName] at e
    rw [hc] at e
    cases c with
    | lst ds =>
      obtain ⟨vs, rfl, ra⟩ := rc
      cases e
      exact .base (.lst ho)
    | dK kvs =>
      obtain ⟨vs, rfl, _⟩ := rc
      cases e
      exact .base (.dK ho)
    | dF kvs => cases e
    | ins C fs => cases e
    | dN w kvs => cases e
  | dct h1 h2 h3 => cases e; exact .fDict (rl.sub _ _ h1)
  | _ => cases e
section
variable {X : Cx} {W : WX} {K : PySem.W.Frag} {a b c e : Expr} {fa fb fc : ES} {pos p p2 apos : Pos}
def eIsi (T : String) (f : ES) : ES := fun σ h => (f σ h).bind fun d h1 => match (tyName h1 d).bind fun t => kitB t T with
  | some r => .ok (.bl r) h1
  | none => .stuck
theorem se_isi {T : String} {tx : Str} (hm : X.mg "isinstance" = none) (hm2 : X.mg tx = none) (hv : bootBuiltins tx = some (.type T)) (ha : SE X W a fa) (hg : Gl X "isinstance" := by rfl) (hg2 : Gl X tx := by rfl) (hn : tx ≠ "__name__" := by decide) (hdb : (tx == ("__debug__" : Str)) = false := by decide)
    (h1 : starEach [.Name tx p2] X.env = (false, eval (.Name tx p2) X.env) :: starEach [] X.env := by rfl)
    (he : starEach (a :: [.Name tx p2]) X.env = (false, eval a X.env) :: starEach [.Name tx p2] X.env := by rfl) (hpl : (backTo pos (starEach [.Name tx p2] X.env)).any (·.1) = false := by rfl) :
    SE X W (.Call (.Name "isinstance" p) [a, .Name tx p2] [] pos) (eIsi T fa) := by
  obtain ⟨ta, k1, k2⟩ := ha
  have hT : PE X (.Name tx p2) (tC (.ty T)) := pe_bltn hg2 hm2 hv rfl hn hdb
  have hA : PA X [a, .Name tx p2] (tCons ta (tCons (tC (.ty T)) tNil)) := pa_cons k1 (pa_cons hT pa_nil h1) he
  refine ⟨_, pe_callB call_isi hg hm (by decide +kernel) hA (by decide) (by decide) he hpl, ⟨fun rl rs post => k2.bind rl rs post fun d h1 v φ1 S1 H1 rl1 rs1 st rp post => ?_⟩⟩
  cases q : tyName h1 d with
  | none => simp only [q, Option.bind_none] at post; exact post.elim
  | some t =>
    simp only [q, Option.bind_some] at post
    cases q2 : kitB t T with
    | none => simp only [q2] at post; exact post.elim
    | some r =>
      simp only [q2] at post
      exact ⟨v, .ty T, .type t, .type T, r, rfl, .ty T, tyName_ok rl1 rp q, kit_ty q2, post _ φ1 S1 H1 rl1 (Step.refl _ _ _) (.bl r)⟩
/-! ### a < b < c -/
def eChain (o1 o2 : D → D → Hv → R D) (fa fb fc : ES) : ES := fun σ h => (fa σ h).bind fun x h1 => (fb σ h1).bind fun y h2 => (o1 x y h2).bind fun z h3 => match z with
  | .bl true => (fc σ h3).bind fun u h4 => o2 y u h4
  | .bl false => .ok (.bl false) h3
  | _ => .stuck
theorem sn_chain {r r' : R2} {o1 o2 : D → D → Hv → R D} {ta tb tc : TE} (hr : OpS X.K r o1) (hr' : OpS X.K r' o2) (h2 : Sn X.K (repV X.K) W ta fa) (k2 : Sn X.K (repV X.K) W tb fb) (l2 : Sn X.K (repV X.K) W tc fc) : Sn X.K (repV X.K) W (tChain r r' ta tb tc) (eChain o1 o2 fa fb fc) := ⟨fun rl rs post =>
  h2.bind rl rs post fun x h1 v φ1 S1 H1 rl1 rs1 st rp post =>
  k2.bind rl1 rs1 post fun y h2 u φ2 S2 H2 rl2 rs2 st2 rp2 post =>
  hr rl2 (Rp.mono st2.prefix st2.sub rp) rp2 (post.map fun z h3 zv φ3 S3 H3 rl3 st3 rz post => by
    cases z with
    | bl k =>
      cases (show Rp _ _ _ _ _ from rz)
      cases k with
      | true => exact ⟨true, rfl, l2.bind rl3 (rs2.step st3) (Post.up st3 post) fun w h4 wv φ4 S4 H4 rl4 rs4 st4 rp4 post => hr' rl4 (Rp.mono (st3.trans st4).prefix (st3.trans st4).sub rp2) rp4 post⟩
      | false => exact ⟨false, rfl, post _ φ3 S3 H3 rl3 st3 (.bl false)⟩
    | _ => exact post.elim)⟩
theorem se_chain {op op' : CmpOp} {r r' : R2} {o1 o2 : D → D → Hv → R D} (ho : OpR X (compareOp op) r) (hr : OpS X.K r o1) (ho' : OpR X (compareOp op') r') (hr' : OpS X.K r' o2) (ha : SE X W a fa) (hb : SE X W b fb) (hc : SE X W c fc)
    (hm : lastMarks [op, op'] [b, c] = false := by with_unfolding_all rfl) : SE X W (.Compare a [op, op'] [b, c] pos) (eChain o1 o2 fa fb fc) := by
  obtain ⟨ta, h1, h2⟩ := ha
  obtain ⟨tb, k1, k2⟩ := hb
  obtain ⟨tc, l1, l2⟩ := hc
  exact ⟨_, pe_chain ho ho' h1 k1 l1 hm, sn_chain hr hr' h2 k2 l2⟩
theorem st_chain {op op' : CmpOp} {r r' : R2} {o1 o2 : D → D → Hv → R D} (ho : OpR X (compareOp op) r) (hr : OpS X.K r o1) (ho' : OpR X (compareOp op') r') (hr' : OpS X.K r' o2) (ha : SE X W a fa) (hb : SE X W b fb) (hc : SE X W c fc)
    (hm : lastMarks [op, op'] [b, c] = false := by with_unfolding_all rfl) : ST X W (.Compare a [op, op'] [b, c] pos) (toB (eChain o1 o2 fa fb fc)) := by
  obtain ⟨ta, h1, h2⟩ := ha
  obtain ⟨tb, k1, k2⟩ := hb
  obtain ⟨tc, l1, l2⟩ := hc
  exact ⟨_, pt_chain ho ho' h1 k1 l1 hm, sn_B (sn_chain hr hr' h2 k2 l2)⟩
/-! ### texts -/
def signsD (x : Str) : List D := x.cps.toList.map fun c => .str ⟨#[c]⟩
def iS (f : ES) : IS := fun σ h => (f σ h).bind fun d h1 => match d with
  | .str x => .ok (signsD x, always) h1
  | _ => .stuck
theorem qi_str {tg : Expr} (he : SE X W e fa) : QI X W tg e (iS fa) := by
  obtain ⟨ta, h1, h2⟩ := he
  refine ⟨_, pi_str h1, ⟨fun rl rs post => h2.bind rl rs post fun d h1 v φ1 S1 H1 rl1 rs1 st rp post => ?_⟩⟩
  cases d with
  | str x =>
    cases (show Rp _ _ _ _ _ from rp)
    refine ⟨x, rfl, post (Its x) φ1 S1 H1 rl1 (Step.refl _ _ _) ⟨fun {i φ S H h} r2 pr ex _ hi => ?_, fun {φ S H h} r2 pr ex _ => ?_⟩⟩
    · unfold signsD at hi ⊢
      rw [List.length_map, Array.length_toList] at hi
      refine ⟨hi, fun y H' yl => ?_⟩
      obtain ⟨rfl, c, hc, rfl⟩ := yl
      refine ⟨S, .str ⟨#[c]⟩, ?_, r2, Step.refl _ _ _, .str _⟩
      rw [List.getElem?_map, Array.getElem?_toList, hc]
      rfl
    · show x.cps.size ≤ (signsD x).length
      unfold signsD
      rw [List.length_map, Array.length_toList]
      exact Nat.le_refl _
  | _ => exact post.elim
def oFind : D → D → Hv → R D := fun x y h => match x, y with
  | .str a, .str b => .ok (.int (Txt.find a b)) h
  | _, _ => .stuck
theorem se_m1 {id : String} {name : Str} {r : V → List V → Hp → VK → Prop} {ro : D → D → Hv → R D} (slot : Slot "str" name id) (ty : typeOf (.builtin id) = pure (.type "method_descriptor")) (rule : MtR X id r)
    (hr : ∀ {φ S H h x y} {v : V} {u : V} {Q : VK} {E : XK}, Rel X.K φ S H h → Rp X.K φ S v x → Rp X.K φ S u y → Post X.K (repV X.K) φ S H (ro x y h) Q E → r v [u] H Q) (hs0 : ∀ {x y h}, ro x y h ≠ .stuck → ∃ z, x = .str z) (ho : SE X W a fa) (he : SE X W b fb)
    (hs : starEach [b] X.env = [(false, eval b X.env)] := by rfl) (hbase : attributeBase a name X.env (eval a X.env) = eval a X.env := by rfl) (hline : (apos.endLine == pos.line) = true := by rfl) :
    SE X W (.Call (.Attribute a name apos) [b] [] pos) (fun σ h => (fa σ h).bind fun x h1 => match x with
      | .str _ => (fb σ h1).bind fun y h2 => ro x y h2
      | _ => .stuck) := by
  obtain ⟨ta, h1, h2⟩ := ho
  obtain ⟨tb, k1, k2⟩ := he
  refine ⟨_, pe_m1 slot ty rule h1 k1 hs hbase hline, ⟨fun rl rs post => h2.bind rl rs post fun x h1 v φ1 S1 H1 rl1 rs1 st rp post => ?_⟩⟩
  cases x with
  | str z =>
    cases (show Rp _ _ _ _ _ from rp)
    exact ⟨⟨z, rfl⟩, k2.bind rl1 rs1 post fun y h2 u φ2 S2 H2 rl2 rs2 st2 rp2 post => hr rl2 (.str z) rp2 post⟩
  | _ => exact post.elim
def eStr1 (ro : D → D → Hv → R D) (fa fb : ES) : ES := fun σ h => (fa σ h).bind fun x h1 => match x with
      | .str _ => (fb σ h1).bind fun y h2 => ro x y h2
      | _ => .stuck
theorem se_find (ho : SE X W a fa) (he : SE X W b fb) (hs : starEach [b] X.env = [(false, eval b X.env)] := by rfl) (hbase : attributeBase a "find" X.env (eval a X.env) = eval a X.env := by rfl) (hline : (apos.endLine == pos.line) = true := by rfl) :
    SE X W (.Call (.Attribute a "find" apos) [b] [] pos) (eStr1 oFind fa fb) := by
  refine se_m1 PySem.F.slot_str_find PySem.F.type_str_find mt_find (ro := oFind) (fun {φ S H h x y v u Q E} rl rx ry post => ?_) (fun {x y h} q => ?_) ho he hs hbase hline
  · cases rx <;> cases ry <;> first
      | exact post.elim
      | exact ⟨_, _, rfl, rfl, post _ φ S H rl (Step.refl _ _ _) (.int _)⟩
  · cases x <;> first
      | exact ⟨_, rfl⟩
      | exact absurd rfl q
def oJoin : D → D → Hv → R D := fun x y h => match x with
  | .str a => (match (sqOf h y).bind (optAll toS) with
    | some ys => if (ys.map (·.length)).sum + ys.length * a.length ≤ 16777216 then .ok (.str (Txt.join a ys)) h else .stuck
    | none => .stuck)
  | _ => .stuck
theorem se_join (ho : SE X W a fa) (he : SE X W b fb) (hs : starEach [b] X.env = [(false, eval b X.env)] := by rfl) (hbase : attributeBase a "join" X.env (eval a X.env) = eval a X.env := by rfl) (hline : (apos.endLine == pos.line) = true := by rfl) :
    SE X W (.Call (.Attribute a "join" apos) [b] [] pos) (eStr1 oJoin fa fb) := by
  refine se_m1 PySem.F.slot_str_join PySem.F.type_str_join mt_join (ro := oJoin) (fun {φ S H h x y v u Q E} rl rx ry post => ?_) (fun {x y h} q => ?_) ho he hs hbase hline
  · cases rx with
    | str z =>
      simp only [oJoin] at post
      split at post
      · next ys hy =>
        split at post
        · next hz =>
          obtain ⟨xs, q1, q2⟩ := Option.bind_eq_some_iff.mp hy
          obtain ⟨p, vs, rfl, g2, g3⟩ := sqOf_ok rl ry q1
          rw [toSs_ok g3 q2] at g2
          exact ⟨z, p, ys, rfl, rfl, g2, hz, post _ φ S H rl (Step.refl _ _ _) (.str _)⟩
        · exact post.elim
      · exact post.elim
    | _ => exact post.elim
  · cases x <;> first
      | exact ⟨_, rfl⟩
      | exact absurd rfl q
end
/-! ### defs by their names -/
def OkF (P : Program) (w : World) (K : PySem.W.Frag) (mg : Str → Option Value) (base : Heap) (k : Nat) (x : Str) (ps : List Str) (sem : List D → Hv → R D) : Prop :=
  ∃ fd, (∃ oc od osl, K.lookup (He.ga K x) = some ⟨oc, od, .func fd, osl⟩) ∧ FnOk P w K mg base (L2.CX P w) k (He.ga K x) fd ps (spOf K sem) ∧ Binds K fd ps [] ∧ mg x = some (.ref (He.ga K x)) ∧ PySem.W.keepIn K (.ref (He.ga K x)) = true
section
variable {P : Program} {w : World} {K : PySem.W.Frag} {mg : Str → Option Value} {base : Heap}
theorem okF_mk {x : Str} {st : Stmt} {fd : FuncData} {N ps : List Str} {k np nl : Nat} {body : SS} (F : Fun K x x st (He.ga K x) fd) (Sc : FnScope N ps (defScope st)) (hps : ps.length = np) (hN : N.length = np + nl) (g : mg x = some (.ref (He.ga K x))) (b : Binds K fd ps [])
    (hbody : ∀ (cdv : Value) (A : Around) (outer : List Env) (s : Shared) (H : Hp) (E : XK), Room k (A.deeper (envOfC x (defScope st) s.heap.objs.size (He.ga K x) cdv)) →
      QB (cxOf (L2.CX P w) P w K mg base N x (defScope st) (He.ga K x) cdv A outer s H E) (fun cls d _ H' => E cls d H') (defBody st) body) : OkF P w K mg base (k + 1) x ps (fnS np nl body) := ⟨fd, let ⟨oc, od, _, _, _, _, _, _, osl, _, lk, _⟩ := F.ex; ⟨oc, od, osl, lk⟩, fn_ok F Sc hps hN hbody, b, g, F.kp⟩
theorem takes_fn {N : List Str} {qual : Str} {scope : Scope} {f : Addr} {cd : Value} {A : Around} {outer : List Env} {s : Shared} {H : Hp} {E : XK} : Takes (cxOf (L2.CX P w) P w K mg base N qual scope f cd A outer s H E) (fun cls d _ H' => E cls d H') := takes_of rfl rfl rfl rfl
theorem passes_fn {N : List Str} {qual : Str} {scope : Scope} {f : Addr} {cd : Value} {A : Around} {outer : List Env} {s : Shared} {H : Hp} {E : XK} :
    PassesOwn (model (cxOf (L2.CX P w) P w K mg base N qual scope f cd A outer s H E).prog (cxOf (L2.CX P w) P w K mg base N qual scope f cd A outer s H E).w) (cxOf (L2.CX P w) P w K mg base N qual scope f cd A outer s H E).A (cxOf (L2.CX P w) P w K mg base N qual scope f cd A outer s H E).env (cxOf (L2.CX P w) P w K mg base N qual scope f cd A outer s H E).xe :=
  passes_of (X := cxOf (L2.CX P w) P w K mg base N qual scope f cd A outer s H E) (K := fun e s'' => L2.CX P w outer H s E e s'') (E₁ := fun e' s'' => L2.CX P w outer H s E e' s'') rfl
end
/-- how a call is told -/
inductive Cm where
  | P | B | M
def Cm.f : Cm → (List D → Hv → R D) → List D → Hv → R D
  | .P => callP
  | .B => callB
  | .M => callM
theorem cm_ok (c : Cm) {K : PySem.W.Frag} {sem : List D → Hv → R D} {φ : List Addr} {S H : Hp} {h : Hv} {ds : List D} {vs : List V} {Q : VK} {E : XK} (rl : Rel K φ S H h) (ra : RpA K φ S vs ds) (post : Post K (repV K) φ S H (c.f sem ds h) Q E) : spOf K sem vs H Q E := by
  cases c with
  | P => exact spOf_P rl ra post
  | B => exact spOf_B rl ra post
  | M => exact spOf_M rl ra post
theorem se_fn {X : Cx} {W : WX} {k : Nat} {ps : List Str} {sem : List D → Hv → R D} {x : Str} {p pos : Pos} {e : Expr} {es : List Expr} {la : LS} (c : Cm)
    (o : OkF X.prog X.w X.K X.mg X.base k x ps sem) (hr : Room k X.A) (tk : Takes X W) (ha : SA X W (e :: es) la)
    (hg : Gl X x := by rfl) (hdb : (x == ("__debug__" : Str)) = false := by decide) (he : starEach (e :: es) X.env = (false, eval e X.env) :: starEach es X.env := by rfl) (hpl : (backTo pos (starEach es X.env)).any (·.1) = false := by rfl) :
    SE X W (.Call (.Name x p) (e :: es) [] pos) (eCa (c.f sem) la) := by
  obtain ⟨fd, _, F, b, g, kp⟩ := o
  exact se_call (cm_ok c) F hr tk g kp b ha hg hdb he hpl
/-! ### the end -/
theorem cx_false {P : Program} {w : World} {outer : List Env} {H : Hp} {s : Shared} {e : Value} {s' : Shared} (z : L2.CX P w outer H s (fun _ _ _ => False) e s') : False := by
  obtain ⟨_, _, _, _, _, _, _, _, _, _, _, _, z⟩ := z
  exact z
theorem excT_of {K : PySem.W.Frag} {mg : Str → Option Value} {x : Str} (g : mg x = some (.ref (He.ga K x))) (c : PySem.W.excIn K (He.ga K x) He.veBase "ValueError.__new__" = true ∧ PySem.W.keepIn K (.ref (He.ga K x)) = true ∧ PySem.W.subIn K (.ref (He.ga K x)) (.type "BaseException") = some true ∧
    PySem.W.typeIn K (.ref (He.ga K x)) = some (.type "type")) : ExcT K mg x (He.ga K x) := ⟨g, c.1, c.2.1, c.2.2.1, c.2.2.2⟩
theorem law_end {P : Program} {w : World} {K : PySem.W.Frag} {mg : Str → Option Value} {h : Heap} {x : Str} {k n : Nat} {fa : Addr} {sem : List D → Hv → R D} {st : Stmt} (KX : K.In h) (hF : ∃ fd, Fun K "law" "law" st (He.ga K "law") fd) (g : mg "law" = some (.ref (He.ga K "law"))) (hmg : mg "law" = some (.ref fa))
    (hb : ∀ fd : FuncData, Fun K "law" "law" st (He.ga K "law") fd → ∀ (s : Shared) (u : Value), BindsTo s fd ⟨[u], []⟩ [(x, u)])
    (o : ∀ base : Heap, OkF P w K mg base k "law" [x] sem) (hs : ∀ ns : List Int, ns.length ≤ n → sem [.fz (ns.map .int)] [] = .ok (.bl true) []) :
    ∃ (K : PySem.W.Frag) (fd : FuncData) (sp : Sp), K.In h ∧ (∀ (s : Shared) (u : Value), BindsTo s fd ⟨[u], []⟩ [(x, u)]) ∧
        (∀ (H : Hp) (a : Addr) (ns : List Int), ns.length ≤ n → Only H → SqL K H a (ns.map V.int) → sp [.ref a] H (fun v _ => v = .bl true) fun _ _ _ => False) ∧
        ∀ base : Heap, K.In base → base.Ns mainGlobals mg → FnOk P w K mg base (L2.CX P w) k fa fd [x] sp := by
  obtain ⟨fd, F⟩ := hF
  have e := g.symm.trans hmg
  cases e
  refine ⟨K, fd, spOf K sem, KX, hb fd F, fun H a ns hl _ hS => law_sp hs H a ns hl hS, fun base _ _ => ?_⟩
  obtain ⟨fd', ⟨oc, od, osl, lk⟩, F', _⟩ := o base
  obtain ⟨oc2, od2, _, _, _, _, _, _, osl2, _, lk2, _⟩ := F.ex
  rw [lk] at lk2
  have e2 : fd' = fd := by
    injection lk2 with lk2
    injection lk2 with _ _ lk2 _
    injection lk2
  subst e2
  exact F'
/-- list(range(n)) -/
noncomputable def lRg1 (f : ES) : LS := fun σ h => (f σ h).bind fun d h1 => match d with
  | .int n => @ite _ ((-(2 ^ 62) ≤ n ∧ n < 2 ^ 62) ∧ n.toNat ≤ 2 ^ 24) (Classical.propDecidable _) (.ok (rgD 0 n.toNat) h1) .stuck
  | _ => .stuck
theorem rgV_rp {K : PySem.W.Frag} {φ : List Addr} {S : Hp} (n : Nat) : ∀ (f : Nat → Int), RpA K φ S ((List.range n).map fun i => V.int (f i)) ((List.range n).map fun i => D.int (f i)) := by
  induction n with
  | zero => intro f; exact .nil
  | succ n ih =>
    intro f
    rw [List.range_succ_eq_map, List.map_cons, List.map_cons, List.map_map, List.map_map]
    exact .cons (.int _) (ih fun i => f (i + 1))
theorem sl_listRg1 {X : Cx} {W : WX} {a : Expr} {fa : ES} {p p2 pos pos2 : Pos} (hml : X.mg "list" = none) (hmr : X.mg "range" = none) (ha : SE X W a fa) (hgl : Gl X "list" := by rfl) (hgr : Gl X "range" := by rfl) (hc : X.calm = true := by rfl)
    (na : starEach [a] X.env = (false, eval a X.env) :: starEach [] X.env := by rfl) (nb : starEach [Expr.Call (.Name "range" p2) [a] [] pos2] X.env = (false, eval (Expr.Call (.Name "range" p2) [a] [] pos2) X.env) :: starEach [] X.env := by rfl) :
    SL X W (.Call (.Name "list" p) [.Call (.Name "range" p2) [a] [] pos2] [] pos) (lRg1 fa) := by
  obtain ⟨ta, h1, h2⟩ := ha
  refine ⟨_, pe_listRg hc hgl hml (prg_1 hgr hmr h1 na) nb, ⟨fun rl rs post => h2.bind rl rs post fun d h1 v φ1 S1 H1 rl1 rs1 st rp post => ?_⟩⟩
  cases d with
  | int n =>
    cases (show Rp _ _ _ _ _ from rp)
    by_cases q : (-(2 ^ 62) ≤ n ∧ n < 2 ^ 62) ∧ n.toNat ≤ 2 ^ 24
    · simp only [if_pos q] at post
      refine ⟨n, rfl, ⟨by decide, by decide, q.1.1, q.1.2, by rw [Int.sub_zero]; exact q.2⟩, fun p hp => ?_⟩
      obtain ⟨r2, s2⟩ := rl1.hold (o := .lst (rgV 0 n)) hp
      refine post (.ref p) φ1 _ _ r2 s2 ⟨p, rgV 0 n, rfl, hp, upd_same, rl1.snone hp, rl1.notin hp, ?_⟩
      unfold rgV rgD
      rw [Int.sub_zero]
      exact rgV_rp _ _
    · simp only [if_neg q] at post
      exact post.elim
  | _ => exact post.elim
/-- a law's end, where what a raise leaves may lean on the world -/
theorem walk_own {lw : PySem.W.OpenLaw} {num lev : Nat} {pr : Program} {ls : List Str} {X1 : (Str → Option Value) → Heap → Prop} {Y1 : World → Heap → Prop} {dr : DefRec} {CC : World → CXT} {nm : Str} (e1 : lw.most = some num) (e2 : num ≤ sizeLine) (e3 : dr.params.defaults = []) (e4 : Room lev callerA)
    (body : ∀ (w : World) (mg : Str → Option Value) (fa : Addr) (h : Heap), Y1 w h → h.Ns mainGlobals mg → mg dr.name = some (.ref fa) → ∃ (K : PySem.W.Frag) (fd : FuncData) (sp : Sp), K.In h ∧ (∀ (s : Shared) (u : Value), BindsTo s fd ⟨[u], []⟩ [(nm, u)]) ∧ (∀ (H : Hp) (a : Addr) (ns : List Int), ns.length ≤ num → Only H → SqL K H a (ns.map V.int) → sp [.ref a] H (fun v _ => v = .bl true) fun _ _ _ => False) ∧ ∀ base : Heap, K.In base → base.Ns mainGlobals mg → FnOk lw.prog w K mg base (CC w) lev fa fd [nm] sp)
    (noX : ∀ (w : World) (H : Hp) (s : Shared) (e : Value) (s' : Shared), CC w [] H s (fun _ _ _ => False) e s' → False) : PySem.W.WalkO pr ls X1 Y1 lw.row.toRowW dr [] (fun f vs => PySem.call f vs) := by
  refine Att.attach_call e1 e3 fun w s0 s1 mg mb fa ob pm cdv doc ad vals nms gg yy q1 q2 q3 q4 q5 q6 q7 q8 => ?_
  obtain ⟨K, fd, sp, kx, kb, ks, kf⟩ := body w mg fa _ yy gg.T.g q4
  exact law_call kx gg.T.g gg.T.b gg.T.builtins gg.T.nolimit q8 q5 q6 (Nat.le_trans q7 e2) e4 kf kb (fun H hO hS => ks H ad nms q7 hO hS) fun H e s' => noX w H s1 e s'
end
end VD

set_option Elab.async false
set_option linter.all false
set_option maxRecDepth 100000
set_option maxHeartbeats 4000000
namespace VD
open PySem PySem.Spec PyProof.Rows L2
noncomputable section
/-! ### defs whose new objects the caller goes on changing -/
mutual
def shD (n : Nat) : D → D
  | .lst ds => .lst (shL n ds)
  | .fz ds => .fz (shL n ds)
  | .tup ds => .tup (shL n ds)
  | .cell m => .cell (n + m)
  | .non => .non
  | .bl b => .bl b
  | .int i => .int i
  | .str x => .str x
  | .raw v => .raw v
  | .dct ks ds => .dct ks (shL n ds)
  | .obj c ks ds => .obj c ks (shL n ds)
  | .exv a dd f d => .exv a dd f (shD n d)
def shL (n : Nat) : List D → List D
  | [] => []
  | d :: ds => shD n d :: shL n ds
end
def shP {κ : Type} (n : Nat) (kvs : List (κ × D)) : List (κ × D) := kvs.map fun p => (p.1, shD n p.2)
def shC (n : Nat) : Cell → Cell
  | .lst ds => .lst (shL n ds)
  | .dK kvs => .dK (shP n kvs)
  | .dF kvs => .dF (shP n kvs)
  | .ins C fs => .ins C (shP n fs)
  | .dN w kvs => .dN w (shP n kvs)
theorem shL_eq (n : Nat) : ∀ ds : List D, shL n ds = ds.map (shD n)
  | [] => rfl
  | d :: ds => by rw [shL, shL_eq n ds]; rfl
section
variable {K : PySem.W.Frag} {φ ψ : List Addr} {S : Hp}
mutual
theorem Rp.sh : ∀ {v : V} {d : D}, Rp K ψ S v d → Rp K (φ ++ ψ) S v (shD φ.length d)
  | _, _, .non => .non
  | _, _, .bl b => .bl b
  | _, _, .int i => .int i
  | _, _, .str x => .str x
  | _, _, .lst h r => .lst h (RpA.sh r)
  | _, _, .fz h r => .fz h (RpA.sh r)
  | _, _, .tup h r => .tup h (RpA.sh r)
  | _, _, .cell (n := n) h => .cell (by rw [List.getElem?_append_right (Nat.le_add_right _ _), Nat.add_sub_cancel_left]; exact h)
  | _, _, .raw v => .raw v
  | _, _, .dct h k r => .dct h k (RpA.sh r)
  | _, _, .obj h k r => .obj h k (RpA.sh r)
  | _, _, .exv h r => .exv h (Rp.sh r)
theorem RpA.sh : ∀ {vs : List V} {ds : List D}, RpA K ψ S vs ds → RpA K (φ ++ ψ) S vs (shL φ.length ds)
  | _, _, .nil => .nil
  | _, _, .cons r t => .cons (Rp.sh r) (RpA.sh t)
end
theorem shP_1 {κ : Type} (n : Nat) (kvs : List (κ × D)) : (shP n kvs).map (·.1) = kvs.map (·.1) := by
  unfold shP
  rw [List.map_map]
  rfl
theorem shP_2 {κ : Type} (n : Nat) (kvs : List (κ × D)) : (shP n kvs).map (·.2) = shL n (kvs.map (·.2)) := by
  unfold shP
  rw [List.map_map, shL_eq, List.map_map]
  rfl
theorem RpC.sh {c : Cell} {o : HO} (h : RpC K ψ S c o) : RpC K (φ ++ ψ) S (shC φ.length c) o := by
  cases c with
  | lst ds =>
    obtain ⟨vs, h1, h2⟩ := h
    exact ⟨vs, h1, h2.sh⟩
  | dK kvs =>
    obtain ⟨vs, h1, h2, h3⟩ := h
    exact ⟨vs, h1, by rw [shP_1]; exact h2, by rw [shP_2]; exact h3.sh⟩
  | dF kvs =>
    obtain ⟨od, vs, h1, h2, h3⟩ := h
    exact ⟨od, vs, h1, by rw [shP_1]; exact h2, by rw [shP_2]; exact h3.sh⟩
  | ins C fs =>
    obtain ⟨dx, vs, h1, h2, h3⟩ := h
    exact ⟨dx, vs, h1, by rw [shP_1]; exact h2, by rw [shP_2]; exact h3.sh⟩
  | dN w kvs =>
    obtain ⟨a, xs, h1, h2, h3, h4⟩ := h
    exact ⟨a, xs, h1, by rw [shP_1]; exact h2, h3, by rw [shP_2]; exact h4.sh⟩
end
/-- the call: run on no objects, its new ones behind the caller's -/
def callC (sem : List D → Hv → R D) (ds : List D) (h : Hv) : R D := match pureD ds with
  | some ds' => (match sem ds' [] with
    | .ok d h' => .ok (shD h.length d) (h ++ h'.map (shC h.length))
    | .exc x [] => .exc x h
    | _ => .stuck)
  | none => .stuck
theorem join_rel {K : PySem.W.Frag} {φ φ' : List Addr} {S H S' H' : Hp} {h h' : Hv} (rl : Rel K φ S H h) (r2 : Rel K φ' S' H' h') (st : Step [] S H φ' S' H') : Rel K (φ ++ φ') S' H' (h ++ h'.map (shC h.length)) ∧ Step φ S H (φ ++ φ') S' H' := by
  obtain ⟨ψ, e, hn⟩ := st.pre
  rw [List.nil_append] at e
  subst e
  have dis : ∀ a ∈ φ, a ∉ φ' := fun a ha hb => by
    have := (rl.mem ha).2
    exact this (hn a hb)
  refine ⟨⟨by rw [List.length_append, List.length_append, List.length_map, rl.len, r2.len], r2.sub, List.nodup_append.mpr ⟨rl.nd, r2.nd, fun a ha b hb e => dis a ha (e ▸ hb)⟩, fun n a c e1 e2 => ?_⟩, ⟨⟨φ', rfl, hn⟩, st.sub, st.old, fun a o e _ => st.keep a o e (fun z => nomatch z), st.there⟩⟩
  by_cases q : n < φ.length
  · rw [List.getElem?_append_left q] at e1
    rw [List.getElem?_append_left (by rw [← rl.len]; exact q)] at e2
    obtain ⟨h1, o, h2, h3⟩ := rl.cel n a c e1 e2
    exact ⟨(st.old a (by rw [h2]; exact fun z => nomatch z)).trans h1, o, st.keep a o h2 (fun z => nomatch z), h3.mono ⟨φ', rfl⟩ st.sub⟩
  · rw [List.getElem?_append_right (by omega)] at e1
    rw [List.getElem?_append_right (by rw [← rl.len]; omega), ← rl.len, List.getElem?_map] at e2
    obtain ⟨c0, hc0, rfl⟩ := Option.map_eq_some_iff.mp e2
    obtain ⟨h1, o, h2, h3⟩ := r2.cel _ a c0 e1 hc0
    exact ⟨h1, o, h2, h3.sh⟩
theorem spOf_C {K : PySem.W.Frag} {sem : List D → Hv → R D} {φ : List Addr} {S H : Hp} {h : Hv} {ds : List D} {vs : List V} {Q : VK} {E : XK} (rl : Rel K φ S H h) (ra : RpA K φ S vs ds) (post : Post K (repV K) φ S H (callC sem ds h) Q E) : spOf K sem vs H Q E := by
  unfold callC at post
  split at post
  · next ds' q =>
    refine ⟨[], S, [], ds', Rel.bare rl.sub, frzA_of (n0 := 0) (h := []) (fun d v d' r e => frz0_ok 12 d v d' r e) ds vs ds' ra q, ?_⟩
    split at post
    · next d h' hs =>
      rw [hs]
      intro v φ' S' H' r2 st rv
      obtain ⟨r3, s3⟩ := join_rel rl r2 st
      rw [← rl.len] at post r3
      exact post v _ _ _ r3 s3 rv.sh
    · next x hs =>
      rw [hs]
      intro cls dd φ' S' H' r2 st rx
      obtain ⟨r3, s3⟩ := join_rel rl r2 st
      have e : φ' = [] := List.length_eq_zero_iff.mp r2.len
      subst e
      rw [List.append_nil] at r3 s3
      rw [List.map_nil, List.append_nil] at r3
      refine post cls dd _ _ _ r3 s3 ⟨rx.1, ?_⟩
      have rx2 := rx.2
      cases hp : x.pay with
      | none => rw [hp] at rx2; exact rx2
      | some p =>
        rw [hp] at rx2
        obtain ⟨dx, v, e2, e3, rv⟩ := rx2
        exact ⟨dx, v, e2, e3, Rp.mono ⟨φ, rfl⟩ (Ex.refl _) rv⟩
    · exact post.elim
  · exact post.elim
def fnU (np nl : Nat) (body : SS) : List D → Hv → R D := fun ds h => if ds.length = np then (match body (ds.map some ++ List.replicate nl none) h with
  | .ret d h' => .ok d h'
  | .exc x _ h' => exitX h.length x h'
  | _ => .stuck) else .stuck
theorem fnU_len {np nl : Nat} {body : SS} {ds : List D} {h : Hv} (e : fnU np nl body ds h ≠ .stuck) : ds.length = np := by
  unfold fnU at e
  split at e
  · next q => exact q
  · exact absurd rfl e
section
variable {P : Program} {w : World} {K : PySem.W.Frag} {mg : Str → Option Value} {base : Heap}
theorem fnU_ok {x qual : Str} {st : Stmt} {f : Addr} {fd : FuncData} {N ps : List Str} {k np nl : Nat} {body : SS} (F : Fun K x qual st f fd) (Sc : FnScope N ps (defScope st)) (hps : ps.length = np) (hN : N.length = np + nl)
    (hbody : ∀ (cdv : Value) (A : Around) (outer : List Env) (s : Shared) (H : Hp) (E : XK), Room k (A.deeper (envOfC qual (defScope st) s.heap.objs.size f cdv)) →
      QB (cxOf (L2.CX P w) P w K mg base N qual (defScope st) f cdv A outer s H E) (fun cls d _ H' => E cls d H') (defBody st) body) : FnOk P w K mg base (L2.CX P w) (k + 1) f fd ps (spOf K (fnU np nl body)) := by
  refine F.okX Sc (fun vs H Q E h => ?_) (fun cdv A outer s H vs Q E hr h => ?_)
  · obtain ⟨φ, S, h, ds, rl, ra, post⟩ := h
    rw [ra.length, hps]
    refine fnU_len (nl := nl) (body := body) (h := h) fun z => ?_
    rw [z] at post
    exact post.elim
  · obtain ⟨φ, S, h, ds, rl, ra, post⟩ := h
    obtain ⟨t, h1, h2⟩ := hbody cdv A outer s H E hr
    refine ⟨t, h1, h2.run rl (relS_start ra nl N (by
      have hl : ds.length = np := fnU_len (nl := nl) (body := body) (h := h) fun z => by
        rw [z] at post
        exact post.elim
      rw [hl]
      exact hN)) ?_⟩
    unfold fnU at post
    have hl : ds.length = np := by
      refine Classical.byContradiction fun z => ?_
      rw [if_neg z] at post
      exact post.elim
    rw [if_pos hl] at post
    have en : h.length = φ.length := rl.len.symm
    cases hb : body (ds.map some ++ List.replicate nl none) h with
    | next σ' h' => rw [hb] at post; exact post.elim
    | ret d h' =>
      rw [hb] at post
      exact fun v φ' S' H' r2 st rv => post v φ' S' H' r2 st rv
    | brk σ' h' => rw [hb] at post; exact post.elim
    | cont σ' h' => rw [hb] at post; exact post.elim
    | stuck => rw [hb] at post; exact post.elim
    | exc x σ' h' =>
      rw [hb] at post
      intro σ1 cls dd φ' S' H' r2 _ st rx
      simp only [exitX] at post
      obtain ⟨s2, _⟩ := exit_step st r2
      obtain ⟨e1, rx⟩ := rx
      cases hp : x.pay with
      | none =>
        simp only [hp] at post rx
        split at post
        · next h'' q2 =>
          split at post
          · next hn =>
            rw [en] at q2 hn
            exact post cls dd _ _ H' (exit_rel r2 hn q2) s2 ⟨e1, by rw [hp]; exact rx⟩
          · exact post.elim
        · exact post.elim
      | some p =>
        obtain ⟨fl, d⟩ := p
        simp only [hp] at post rx
        obtain ⟨dx, v, e2, e3, rv⟩ := rx
        split at post
        · next d' h'' q1 q2 =>
          split at post
          · next hn =>
            rw [en] at q1 q2 hn
            exact post cls dd _ _ H' (exit_rel r2 hn q2) s2 ⟨e1, dx, v, e2, still_ex r2 _ _ e3, frz_ok r2 _ _ _ _ rv q1⟩
          · exact post.elim
        · exact post.elim
theorem okU_mk {x : Str} {st : Stmt} {fd : FuncData} {N ps : List Str} {k np nl : Nat} {body : SS} (F : Fun K x x st (He.ga K x) fd) (Sc : FnScope N ps (defScope st)) (hps : ps.length = np) (hN : N.length = np + nl) (g : mg x = some (.ref (He.ga K x))) (b : Binds K fd ps [])
    (hbody : ∀ (cdv : Value) (A : Around) (outer : List Env) (s : Shared) (H : Hp) (E : XK), Room k (A.deeper (envOfC x (defScope st) s.heap.objs.size (He.ga K x) cdv)) →
      QB (cxOf (L2.CX P w) P w K mg base N x (defScope st) (He.ga K x) cdv A outer s H E) (fun cls d _ H' => E cls d H') (defBody st) body) : OkF P w K mg base (k + 1) x ps (fnU np nl body) := ⟨fd, let ⟨oc, od, _, _, _, _, _, _, osl, _, lk, _⟩ := F.ex; ⟨oc, od, osl, lk⟩, fnU_ok F Sc hps hN hbody, b, g, F.kp⟩
end
theorem se_fnC {X : Cx} {W : WX} {k : Nat} {ps : List Str} {sem : List D → Hv → R D} {x : Str} {p pos : Pos} {e : Expr} {es : List Expr} {la : LS} (o : OkF X.prog X.w X.K X.mg X.base k x ps sem) (hr : Room k X.A) (tk : Takes X W) (ha : SA X W (e :: es) la)
    (hg : Gl X x := by rfl) (hdb : (x == ("__debug__" : Str)) = false := by decide) (he : starEach (e :: es) X.env = (false, eval e X.env) :: starEach es X.env := by rfl) (hpl : (backTo pos (starEach es X.env)).any (·.1) = false := by rfl) : SE X W (.Call (.Name x p) (e :: es) [] pos) (eCa (callC sem) la) := by
  obtain ⟨fd, _, F, b, g, kp⟩ := o
  exact se_call spOf_C F hr tk g kp b ha hg hdb he hpl
end
end VD

set_option Elab.async false
set_option linter.all false
set_option maxRecDepth 100000
set_option maxHeartbeats 4000000
namespace VD
open PySem PySem.Spec PyProof.Rows L2
noncomputable section
/-! ### try, except -/
/-- the canonical reading of a text whose computing is known -/
def TSof (K : PySem.W.Frag) (W : WX) (ss : SS) : TS := fun D σ H => ∃ φ S h σv, Rel K φ S H h ∧ RelS K φ S σv σ ∧ PostS K φ S H (ss σv h) D W
theorem psof {X : Cx} {W : WX} {st : List Stmt} {ss : SS} (q : QB X W st ss) : PSs X st (TSof X.K W ss) := by
  obtain ⟨t, h1, h2⟩ := q
  refine ⟨fun pins s σ H D I h => ?_⟩
  obtain ⟨φ, S, hv, σv, rl, rs, post⟩ := h
  exact h1.run pins s σ H D I (h2.run rl rs post)
/-- a slot forgotten behind the suite -/
def wipeR (i : Nat) (r : RS) : RS := match r with
  | .next σ h => .next (σ.set i none) h
  | .brk σ h => .brk (σ.set i none) h
  | .cont σ h => .cont (σ.set i none) h
  | .ret d h => .ret d h
  | _ => .stuck
/-- what the slot of a caught error holds -/
def exD (a dd : Addr) : Option (Str × D) → D
  | none => .raw (.ref a)
  | some (f, d) => .exv a dd f d
abbrev exM (a dd : Addr) (p : Option (Str × D)) : Option D := some (exD a dd p)
def exA (dd : Addr) : Option (Str × D) → Option Addr
  | none => none
  | some _ => some dd
/-- a suite's end, where it is the same whatever address the error has -/
def tryA (i : Nat) (p : Option (Str × D)) (s : Addr → Addr → SS) (σ : VS) (h : Hv) : RS := @dite RS (∃ r, ∀ a dd, wipeR i (s a dd (σ.set i (exM a dd p)) h) = r) (Classical.propDecidable _) (fun z => Classical.choose z) (fun _ => .stuck)
theorem tryA_eq {i : Nat} {p : Option (Str × D)} {s : Addr → Addr → SS} {σ : VS} {h : Hv} {r : RS} (e : ∀ a dd, wipeR i (s a dd (σ.set i (exM a dd p)) h) = r) : tryA i p s σ h = r := by
  have z : ∃ r, ∀ a dd, wipeR i (s a dd (σ.set i (exM a dd p)) h) = r := ⟨r, e⟩
  unfold tryA
  rw [dif_pos z]
  rw [← Classical.choose_spec z 0 0]
  exact e 0 0
theorem tryA_at {i : Nat} {p : Option (Str × D)} {s : Addr → Addr → SS} {σ : VS} {h : Hv} (n : tryA i p s σ h ≠ .stuck) (a dd : Addr) : wipeR i (s a dd (σ.set i (exM a dd p)) h) = tryA i p s σ h := by
  by_cases z : ∃ r, ∀ a dd, wipeR i (s a dd (σ.set i (exM a dd p)) h) = r
  · obtain ⟨r, e⟩ := z
    rw [tryA_eq e]
    exact e a dd
  · unfold tryA at n
    rw [dif_neg z] at n
    exact absurd rfl n
/-- try: body; except y as (slot i): suite; tb tells whether a class is under another -/
def sTryAs (tb : Str → Str → Option Bool) (y : Str) (i : Nat) (suite : Xn → Addr → Addr → SS) (body : SS) : SS := fun σ h => match body σ h with
  | .exc x σ' h' => (match tb x.cls y with
    | some true => tryA i x.pay (suite x) σ' h'
    | some false => .exc x σ' h'
    | none => .stuck)
  | r => r
def W00 : WX := fun _ _ _ _ => False
/-- what the table says is so -/
def TabOk (K : PySem.W.Frag) (tb : Str → Str → Option Bool) : Prop := ∀ x y b, tb x y = some b → PySem.W.exmOne K (.ref (He.ga K x)) (.ref (He.ga K y)) = some b
theorem qs_try_as {X : Cx} {W : WX} {y n : Str} {i : Nat} {body suite : List Stmt} {b₀ : Stmt} {np pos pos' : Pos} {tb : Str → Str → Option Bool} {bs : SS} {den : Xn → Addr → Addr → SS} (tk : Takes X W) (tok : TabOk X.K tb) (g : X.mg y = some (.ref (He.ga X.K y)))
    (hb : ∀ (W : WX) (pn : List (Addr × Obj)) (xe : Value → Shared → Prop), Takes (X.tr pn xe) W → PassesOwn (model X.prog X.w) X.A X.env xe → QB (X.tr pn xe) W body bs)
    (hsu : ∀ (x : Xn) (a dd : Addr) (oe : Obj) (pn : List (Addr × Obj)), tb x.cls y = some true → Zc (.ref (He.ga X.K x.cls)) (exA dd x.pay) oe → (∃ vs, oe.data = .fields vs) → QB (X.suite a ((a, oe) :: pn)) W00 (b₀ :: suite) (den x a dd))
    (hN : X.N.Nodup) (hi : X.N[i]? = some n := by rfl) (hs : X.stack = X.env :: X.outer := by rfl) (hf : X.env.frame = some X.env.locals := by rfl) (hln : X.env.kindOf n = some .local := by rfl) (hg : Gl X y := by rfl) (hdb : (y == ("__debug__" : Str)) = false := by decide) :
    QS X W (.Try body [.ExceptHandler (some (.Name y np)) (some n) (b₀ :: suite) pos'] [] [] pos) (sTryAs tb y i den bs) := by
  refine ⟨_, ps_try_as (ts := fun a cls d D σ H => ∃ (x : Xn) (dd : Addr), tb x.cls y = some true ∧ cls = .ref (He.ga X.K x.cls) ∧ d = exA dd x.pay ∧ TSof X.K W00 (den x a dd) D σ H) (tb := fun W => TSof X.K W bs) (Wout := W) hs hf hN hi hln ⟨hg, hdb, .inl g⟩ tk (fun W pn xe t1 t2 => psof (hb W pn xe t1 t2)) (fun a oe cls d pn z hfl => ⟨fun pins s σ H D I h => ?_⟩), ⟨fun {φ S H h σv σ D} rl rs post => ?_⟩⟩
  · obtain ⟨x, dd, hc, rfl, rfl, h⟩ := h
    exact (psof (hsu x a dd oe pn hc z hfl)).run pins s σ H D I h
  · refine ⟨φ, S, h, σv, rl, rs, ?_⟩
    unfold sTryAs at post
    cases qb : bs σv h with
    | next σ' h' => simp only [qb] at post; exact post
    | brk σ' h' => simp only [qb] at post; exact post
    | cont σ' h' => simp only [qb] at post; exact post
    | ret d h' => simp only [qb] at post; exact post
    | stuck => simp only [qb] at post; exact post.elim
    | exc x σ' h' =>
      simp only [qb] at post
      intro σ1 cls dd φ' S' H' r2 rs2 st rx
      obtain ⟨e1, rx2⟩ := rx
      subst e1
      cases qt : tb x.cls y with
      | none => simp only [qt] at post; exact post.elim
      | some b =>
        refine ⟨b, tok _ _ _ qt, fun hb1 a ha => ?_, fun hb1 => ?_⟩
        · subst hb1
          simp only [qt] at post
          have nst : tryA i x.pay (den x) σ' h' ≠ .stuck := fun z => by rw [z] at post; exact post.elim
          obtain ⟨d0, ed, rm⟩ : ∃ d0, dd = exA d0 x.pay ∧ Rp X.K φ' S' (.ref a) (exD a d0 x.pay) := by
            cases qp : x.pay with
            | none =>
              rw [qp] at rx2
              exact ⟨0, rx2, .raw _⟩
            | some p =>
              obtain ⟨f, d⟩ := p
              rw [qp] at rx2
              obtain ⟨dx, v, e1, e2, e3⟩ := rx2
              exact ⟨dx, e1, .exv e2 e3⟩
          refine ⟨x, d0, qt, rfl, ed, φ', S', h', σ'.set i (exM a d0 x.pay), r2, rs2.set rm i, ?_⟩
          rw [← tryA_at nst a d0] at post
          cases qd : den x a d0 (σ'.set i (exM a d0 x.pay)) h' with
          | next σ2 h2 =>
            simp only [qd, wipeR] at post
            exact fun σ3 φ3 S3 H3 r3 rs3 st3 => post _ φ3 S3 H3 r3 (rs3.unset i none) (st.trans st3)
          | brk σ2 h2 =>
            simp only [qd, wipeR] at post
            exact fun σ3 φ3 S3 H3 r3 rs3 st3 => post _ φ3 S3 H3 r3 (rs3.unset i none) (st.trans st3)
          | cont σ2 h2 =>
            simp only [qd, wipeR] at post
            exact fun σ3 φ3 S3 H3 r3 rs3 st3 => post _ φ3 S3 H3 r3 (rs3.unset i none) (st.trans st3)
          | ret d h2 =>
            simp only [qd, wipeR] at post
            exact fun v φ3 S3 H3 r3 st3 rv => post v φ3 S3 H3 r3 (st.trans st3) rv
          | exc x2 σ2 h2 => simp only [qd, wipeR] at post; exact post.elim
          | stuck => simp only [qd, wipeR] at post; exact post.elim
        · subst hb1
          simp only [qt] at post
          exact post σ1 (.ref (He.ga X.K x.cls)) dd φ' S' H' r2 rs2 st ⟨rfl, rx2⟩
/-- try: body; except y: suite -/
def sTryO (tb : Str → Str → Option Bool) (y : Str) (suite : SS) (body : SS) : SS := fun σ h => match body σ h with
  | .exc x σ' h' => (match tb x.cls y with
    | some true => (match suite σ' h' with
      | .exc _ _ _ => .stuck
      | r => r)
    | some false => .exc x σ' h'
    | none => .stuck)
  | r => r
theorem qs_try_only {X : Cx} {W : WX} {y : Str} {body suite : List Stmt} {b₀ : Stmt} {np pos pos' : Pos} {tb : Str → Str → Option Bool} {bs : SS} {den : SS} (tk : Takes X W) (tok : TabOk X.K tb) (g : X.mg y = some (.ref (He.ga X.K y)))
    (hb : ∀ (W : WX) (pn : List (Addr × Obj)) (xe : Value → Shared → Prop), Takes (X.tr pn xe) W → PassesOwn (model X.prog X.w) X.A X.env xe → QB (X.tr pn xe) W body bs)
    (hsu : ∀ (a : Addr) (oe : Obj) (pn : List (Addr × Obj)), QB (X.suite a ((a, oe) :: pn)) W00 (b₀ :: suite) den)
    (hs : X.stack = X.env :: X.outer := by rfl) (hf : X.env.frame = some X.env.locals := by rfl) (hg : Gl X y := by rfl) (hdb : (y == ("__debug__" : Str)) = false := by decide) :
    QS X W (.Try body [.ExceptHandler (some (.Name y np)) none (b₀ :: suite) pos'] [] [] pos) (sTryO tb y den bs) := by
  refine ⟨_, ps_try_only (ts := fun a cls d D σ H => TSof X.K W00 den D σ H) (tb := fun W => TSof X.K W bs) (Wout := W) hs hf ⟨hg, hdb, .inl g⟩ tk (fun W pn xe t1 t2 => psof (hb W pn xe t1 t2)) (fun a oe cls d pn z hfl => ⟨fun pins s σ H D I h => ?_⟩), ⟨fun {φ S H h σv σ D} rl rs post => ?_⟩⟩
  · exact (psof (hsu a oe pn)).run pins s σ H D I h
  · refine ⟨φ, S, h, σv, rl, rs, ?_⟩
    unfold sTryO at post
    cases qb : bs σv h with
    | next σ' h' => simp only [qb] at post; exact post
    | brk σ' h' => simp only [qb] at post; exact post
    | cont σ' h' => simp only [qb] at post; exact post
    | ret d h' => simp only [qb] at post; exact post
    | stuck => simp only [qb] at post; exact post.elim
    | exc x σ' h' =>
      simp only [qb] at post
      intro σ1 cls dd φ' S' H' r2 rs2 st rx
      obtain ⟨e1, rx2⟩ := rx
      subst e1
      cases qt : tb x.cls y with
      | none => simp only [qt] at post; exact post.elim
      | some b =>
        refine ⟨b, tok _ _ _ qt, fun hb1 a ha => ?_, fun hb1 => ?_⟩
        · subst hb1
          simp only [qt] at post
          refine ⟨φ', S', h', σ', r2, rs2, ?_⟩
          cases qd : den σ' h' with
          | next σ2 h2 =>
            simp only [qd] at post
            exact PostS.up st post
          | brk σ2 h2 =>
            simp only [qd] at post
            exact PostS.up st post
          | cont σ2 h2 =>
            simp only [qd] at post
            exact PostS.up st post
          | ret d h2 =>
            simp only [qd] at post
            exact PostS.up st post
          | exc x2 σ2 h2 => simp only [qd] at post; exact post.elim
          | stuck => simp only [qd] at post; exact post.elim
        · subst hb1
          simp only [qt] at post
          exact post σ1 (.ref (He.ga X.K x.cls)) dd φ' S' H' r2 rs2 st ⟨rfl, rx2⟩
/-! ### facts of classes -/
/-- what is asked of the classes: one's own exceptions; one under another; isinstance -/
inductive Ef where
  | exc (x : Str)
  | sub (x y : Str) (b : Bool)
  | isa (x y : Str) (b : Bool)
  | isT (x : Str) (T : String) (b : Bool)
  | oex (x : Str)
  | nof (x f : Str)
  | bi (x : Str)
def excB (K : PySem.W.Frag) (D : Addr) : Bool := decide (PySem.W.findIn K (.ref D) "__getattribute__" = some (some (.builtin "BaseException.__getattribute__"))) && (decide (PySem.W.findIn K (.ref D) "__getattr__" = some none) && (decide (PySem.W.subIn K (.ref D) (.type "BaseException") = some true) && (PySem.W.hasDictIn K D && (decide (PySem.W.findIn K (.ref D) "__class__" = some (some (.builtin "object.__class__"))) && (decide (PySem.W.specialIn K (.builtin "object.__class__") "__get__" = some (some (.builtin "getset_descriptor.__get__"))) && (decide (PySem.W.takesIn K (.builtin "object.__class__") = some true) && decide (PySem.W.mroIn K D (.type "object") = some true)))))))
theorem and_of {a b : Bool} (h : (a && b) = true) : a = true ∧ b = true := by
  cases a <;> cases b <;> first | exact ⟨rfl, rfl⟩ | cases h
theorem excB_ok {K : PySem.W.Frag} {D : Addr} (h : excB K D = true) : ExcC K D := by
  unfold excB at h
  obtain ⟨a1, h⟩ := and_of h
  obtain ⟨a2, h⟩ := and_of h
  obtain ⟨a3, h⟩ := and_of h
  obtain ⟨a4, h⟩ := and_of h
  obtain ⟨a5, h⟩ := and_of h
  obtain ⟨a6, h⟩ := and_of h
  obtain ⟨a7, a8⟩ := and_of h
  exact ⟨of_decide_eq_true a1, of_decide_eq_true a2, of_decide_eq_true a3, a4, of_decide_eq_true a5, of_decide_eq_true a6, of_decide_eq_true a7, of_decide_eq_true a8⟩
/-- a class of errors with an __init__ of its own -/
def oexB (K : PySem.W.Frag) (C : Addr) : Bool := (match K.lookup C with
  | some ⟨.type "type", _, .cls cd, sl⟩ => (match cd.mro, sl.toList with
    | .ref C' :: bm, [_, _, _, _, some (.builtin n), _] => decide (C' = C) && (decide (n = "ValueError.__new__") && (!cd.hasDel && (cd.hasDict && PySem.HandSPX.refsVE bm)))
    | _, _ => false)
  | _ => false) && (decide (PySem.W.findIn K (.ref C) "__setattr__" = some (some (.builtin "object.__setattr__"))) && (decide (PySem.W.subIn K (.ref C) (.type "BaseException") = some true) && (decide (PySem.W.typeIn K (.ref C) = some (.type "type")) && PySem.W.keepIn K (.ref C))))
theorem oexB_ok {K : PySem.W.Frag} {C : Addr} (h : oexB K C = true) : OexC K C := by
  obtain ⟨q, h⟩ := and_of h
  obtain ⟨h1, h⟩ := and_of h
  obtain ⟨h2, h⟩ := and_of h
  obtain ⟨h3, h4⟩ := and_of h
  refine ⟨?_, of_decide_eq_true h1, of_decide_eq_true h2, of_decide_eq_true h3, h4⟩
  split at q
  · rename_i dd cd sl ho
    split at q
    · rename_i C' bm k0 k1 k2 k3 n k5 hm hs
      obtain ⟨q1, q⟩ := and_of q
      obtain ⟨q2, q⟩ := and_of q
      obtain ⟨q3, q⟩ := and_of q
      obtain ⟨q4, q5⟩ := and_of q
      cases of_decide_eq_true q1
      cases of_decide_eq_true q2
      obtain ⟨cn, cb, cm, cns, cq, chd, csn, csub, cab, ccol, cdl⟩ := cd
      dsimp only at hm q3 q4
      subst hm q4
      have q3 : cdl = false := by cases cdl <;> first | rfl | cases q3
      subst q3
      have esl : sl = #[k0, k1, k2, k3, some (.builtin "ValueError.__new__"), k5] := Array.toList_inj.mp hs
      subst esl
      exact ⟨cn, cq, cns, cb, bm, csn, csub, cab, ccol, dd, k0, k1, k2, k3, k5, ho, q5⟩
    · cases q
  · cases q
/-- a class whose __init__ is ValueError's -/
def biB (K : PySem.W.Frag) (C : Addr) : Bool := PySem.W.readsIn K C (.type "type") && (decide (PySem.W.specialIn K (.ref C) "__getattribute__" = some (some (.builtin "type.__getattribute__"))) && (match PySem.W.findCls K (.ref C) (.type "type") "__init__" with
  | some (.val (.builtin s)) => decide (s = "ValueError.__init__")
  | _ => false))
def Ef.ok (K : PySem.W.Frag) : Ef → Bool
  | .exc x => excB K (He.ga K x)
  | .sub x y b => decide (PySem.W.exmOne K (.ref (He.ga K x)) (.ref (He.ga K y)) = some b)
  | .isa x y b => decide (PySem.W.kitOne K (.ref (He.ga K x)) (.ref (He.ga K y)) = some b)
  | .isT x T b => decide (PySem.W.kitOne K (.ref (He.ga K x)) (.type T) = some b)
  | .oex x => oexB K (He.ga K x)
  | .nof x f => decide (PySem.W.findIn K (.ref (He.ga K x)) f = some none)
  | .bi x => biB K (He.ga K x)
def obsE (n : Nat) (fa : List He.Fa) (fn : List He.DefD) (ef : List Ef) (g : Addr → Option Obj) : He.AlD × Bool := (He.obsD fa fn (He.frG g ((He.asD g n ++ [cStatics]))), ef.all fun f => f.ok (He.frG g ((He.asD g n ++ [cStatics]))))
def hookE (n : Nat) (fa : List He.Fa) (fn : List He.DefD) (ef : List Ef) : PySem.W.Hook where
  α := He.AlD × Bool
  obs := fun s => obsE n fa fn ef s.heap.get?
  val := fun _ => (He.valD fn, true)
  says := fun _ h => ∃ K : PySem.W.Frag, K.In h ∧ He.SaysD fa fn K ∧ (ef.all fun f => f.ok K) = true
  of := fun _ _ e => ⟨_, He.frG_in, congrArg (fun z : He.AlD × Bool => z.1) e, congrArg (fun z : He.AlD × Bool => z.2) e⟩
  keeps := fun _ _ _ z k => by
    obtain ⟨K, hK, c, d⟩ := z
    exact ⟨K, PySem.W.Frag.In.keeps hK k, c, d⟩
theorem obsE_eq {n : Nat} {fa : List He.Fa} {fn : List He.DefD} {ef : List Ef} {g : Addr → Option Obj} {s : Shared} (h : ∀ a, g a = s.heap.get? a) : obsE n fa fn ef g = (hookE n fa fn ef).obs s := by
  have e : g = s.heap.get? := funext h
  rw [e] <;> rfl
theorem ef_at {K : PySem.W.Frag} {ef : List Ef} (h : (ef.all fun f => f.ok K) = true) {f : Ef} (hm : f ∈ ef) : f.ok K = true := List.all_eq_true.mp h f hm
/-- the table of what stands there -/
def tabE : List Ef → Str → Str → Option Bool
  | [], _, _ => none
  | .sub a b r :: l, x, y => if a = x ∧ b = y then some r else tabE l x y
  | _ :: l, x, y => tabE l x y
theorem tabE_ok {K : PySem.W.Frag} : ∀ {ef : List Ef}, (ef.all fun f => f.ok K) = true → TabOk K (tabE ef)
  | [], _, x, y, b, e => by cases e
  | f :: l, h, x, y, b, e => by
    rw [List.all_cons] at h
    obtain ⟨h1, h2⟩ := and_of h
    have ih := tabE_ok h2 x y b
    cases f with
    | sub a c r =>
      simp only [tabE] at e
      by_cases q : a = x ∧ c = y
      · rw [if_pos q] at e
        cases e
        obtain ⟨rfl, rfl⟩ := q
        exact of_decide_eq_true h1
      · rw [if_neg q] at e
        exact ih e
    | exc a => exact ih e
    | isa a c r => exact ih e
    | isT a T r => exact ih e
    | oex a => exact ih e
    | nof a f => exact ih e
    | bi a => exact ih e
/-! ### isinstance(e, C), e what the suite holds -/
/-- the slot still holds what was caught -/
def isEx (a dd : Addr) (p : Option (Str × D)) (d : D) : Bool := match p, d with
  | none, .raw (.ref b) => decide (b = a)
  | some _, .exv b d0 _ _ => decide (b = a) && decide (d0 = dd)
  | _, _ => false
theorem isEx_ok {K : PySem.W.Frag} {φ : List Addr} {S : Hp} {a dd : Addr} {p : Option (Str × D)} {d : D} {v : V} (e : isEx a dd p d = true) (r : Rp K φ S v d) : v = .ref a ∧ (exA dd p = none ∨ ∃ fs, exA dd p = some dd ∧ S dd = some (.xd fs)) := by
  unfold isEx at e
  split at e
  · cases r
    exact ⟨by rw [of_decide_eq_true e], .inl rfl⟩
  · obtain ⟨e1, e2⟩ := and_of e
    cases r with
    | exv h1 h2 =>
      cases of_decide_eq_true e1
      cases of_decide_eq_true e2
      exact ⟨rfl, .inr ⟨_, rfl, h1⟩⟩
  · cases e
theorem isEx_exv {a dd b d0 : Addr} {p : Option (Str × D)} {g : Str} {d : D} (e : isEx a dd p (.exv b d0 g d) = true) : b = a ∧ d0 = dd ∧ exA dd p = some dd := by
  cases p with
  | none => cases e
  | some q =>
    have e' : (decide (b = a) && decide (d0 = dd)) = true := e
    obtain ⟨z1, z2⟩ := and_of e'
    exact ⟨of_decide_eq_true z1, of_decide_eq_true z2, rfl⟩
def eIsE (i : Nat) (x : Xn) (a dd : Addr) (r : Bool) : ES := fun σ h => (eVar i σ h).bind fun d h1 => if isEx a dd x.pay d = true then .ok (.bl r) h1 else .stuck
/-- what is known of the exception's own dict -/
def dctX (H : Hp) (d : Option Addr) : Prop := d = none ∨ ∃ dd fs, d = some dd ∧ H dd = some (.xd fs)
theorem inst_ex {X : Cx} {pins : List (Addr × Obj)} {σ : L2.St} {H : Hp} {s : Shared} {a D : Addr} {d : Option Addr} {oe : Obj} {pn : List (Addr × Obj)} (hz : Zc (.ref D) d oe) (hf : ∃ vs, oe.data = .fields vs) (I : Inv (X.suite a ((a, oe) :: pn)) pins σ H s) (hd : dctX H d) : ∃ od, PySem.W.InstAt s.heap a oe D od := by
  obtain ⟨hget, _⟩ := I.pin (a, oe) (List.mem_append.mpr (.inl List.mem_cons_self))
  obtain ⟨vs, hv⟩ := hf
  obtain ⟨oc, od, oda, osl⟩ := oe
  obtain ⟨h1, h2⟩ := hz
  dsimp only at h1 h2 hv
  subst h1 h2 hv
  rcases hd with rfl | ⟨dd, fs, rfl, ea⟩
  · exact ⟨none, hget, rfl, rfl, trivial⟩
  · obtain ⟨mA, hns, hr⟩ := (show ObjOk X.prog X.w H s.heap dd (.xd fs) from I.hok dd _ ea)
    obtain ⟨o2, ho, hl⟩ := lookIn_ns hns
    exact ⟨some o2, hget, rfl, rfl, ho⟩
def rIsX (K : PySem.W.Frag) (D a : Addr) (d : Option Addr) : List V → Hp → VK → Prop := fun xs H Q => ∃ (c : V) (cv : Value) (b : Bool), xs = [.ref a, c] ∧ (∀ u, RelV c u → u = cv) ∧ PySem.W.kitOne K (.ref D) cv = some b ∧ dctX H d ∧ Q (.bl b) H
theorem exc_cls {K : PySem.W.Frag} {D : Addr} (C : ExcC K D) : (PySem.W.clsIn K D).isSome = true := by
  obtain ⟨cd, hc, _⟩ := PySem.W.any_some C.hd
  rw [hc]; rfl
theorem call_isX {X : Cx} {a D : Addr} {d : Option Addr} {oe : Obj} {pn : List (Addr × Obj)} (C : ExcC X.K D) (hz : Zc (.ref D) d oe) (hf : ∃ vs, oe.data = .fields vs) : CallR (X.suite a ((a, oe) :: pn)) (.builtin "isinstance") (rIsX X.K D a d) := by
  intro pins s σ H xs us Q I r h
  obtain ⟨c, cv, b, rfl, hcv, e, hd, q⟩ := h
  cases r with
  | cons rx rr =>
    cases rr with
    | cons rt rr =>
      cases rr
      cases rx
      have ec := hcv _ rt
      subst ec
      obtain ⟨od, J⟩ := inst_ex hz hf I hd
      exact PySem.W.kia_one (PySem.W.kitx_exc (exc_cls C) C.hg C.hk C.hs C.ha C.hn C.ht C.hm) I.kIn J e (fun z => nomatch z) fun tk => ⟨.bl b, H, I.kept (t' := tk) fun _ _ z => z, rfl, q⟩
section
variable {X : Cx} {W : WX} {a D dd : Addr} {x : Xn} {oe : Obj} {pn : List (Addr × Obj)} {e : Expr} {i : Nat} {p p2 pos : Pos} {r : Bool} {y : Str}
theorem dctX_of {K : PySem.W.Frag} {φ : List Addr} {S H : Hp} {h : Hv} {p : Option (Str × VD.D)} (rl : Rel K φ S H h) (z : exA dd p = none ∨ ∃ fs, exA dd p = some dd ∧ S dd = some (.xd fs)) : dctX H (exA dd p) := by
  rcases z with z | ⟨fs, z1, z2⟩
  · exact .inl z
  · exact .inr ⟨dd, fs, z1, rl.sub _ _ z2⟩
theorem se_isE (C : ExcC X.K D) (hz : Zc (.ref D) (exA dd x.pay) oe) (hfl : ∃ vs, oe.data = .fields vs) (hm : X.mg "isinstance" = none) {cv : V} {cu : Value} (hcv : ∀ u, RelV cv u → u = cu) (hk : PySem.W.kitOne X.K (.ref D) cu = some r)
    (ha : SE (X.suite a ((a, oe) :: pn)) W e (eVar i)) (hT : PE (X.suite a ((a, oe) :: pn)) (.Name y p2) (tC cv)) (hg : Gl (X.suite a ((a, oe) :: pn)) "isinstance" := by rfl)
    (h1 : starEach [.Name y p2] (X.suite a ((a, oe) :: pn)).env = (false, eval (.Name y p2) (X.suite a ((a, oe) :: pn)).env) :: starEach [] (X.suite a ((a, oe) :: pn)).env := by rfl)
    (he : starEach (e :: [.Name y p2]) (X.suite a ((a, oe) :: pn)).env = (false, eval e (X.suite a ((a, oe) :: pn)).env) :: starEach [.Name y p2] (X.suite a ((a, oe) :: pn)).env := by rfl) (hpl : (backTo pos (starEach [.Name y p2] (X.suite a ((a, oe) :: pn)).env)).any (·.1) = false := by rfl) :
    SE (X.suite a ((a, oe) :: pn)) W (.Call (.Name "isinstance" p) [e, .Name y p2] [] pos) (eIsE i x a dd r) := by
  obtain ⟨ta, k1, k2⟩ := ha
  have hA : PA (X.suite a ((a, oe) :: pn)) [e, .Name y p2] (tCons ta (tCons (tC cv) tNil)) := pa_cons k1 (pa_cons hT pa_nil h1) he
  refine ⟨_, pe_callB (call_isX C hz hfl) hg hm (by decide +kernel) hA (by decide) (by decide) he hpl, ⟨fun rl rs post => k2.bind rl rs post fun d h1 v φ1 S1 H1 rl1 rs1 st rp post2 => ?_⟩⟩
  by_cases q : isEx a dd x.pay d = true
  · rw [if_pos q] at post2
    obtain ⟨ev, ed⟩ := isEx_ok q rp
    subst ev
    exact ⟨cv, cu, r, rfl, hcv, hk, dctX_of rl1 ed, post2 _ φ1 S1 H1 rl1 (Step.refl _ _ _) (.bl r)⟩
  · rw [if_neg q] at post2
    exact post2.elim
def tCs : List V → TA
  | [] => tNil
  | v :: r => tCons (tC v) (tCs r)
theorem tCs_run : ∀ (cs : List V) {σ : L2.St} {H : Hp} {Q : List V → Hp → Prop}, Q cs H → tCs cs σ H Q
  | [], _, _, _, q => q
  | v :: r, _, _, _, q => tCs_run r q
/-- isinstance(e, (c1, c2, ..)) -/
def rIsET (K : PySem.W.Frag) (D a : Addr) (d : Option Addr) : List V → Hp → VK → Prop := fun xs H Q => ∃ (tp : Addr) (cs : List V) (us : List Value) (b : Bool), xs = [.ref a, .ref tp] ∧ H tp = some (.tup cs) ∧ Paired ClsV cs us ∧ PySem.W.kitAny K (.ref D) us = some b ∧ dctX H d ∧ Q (.bl b) H
theorem call_isET {d : Option Addr} (C : ExcC X.K D) (hz : Zc (.ref D) d oe) (hf : ∃ vs, oe.data = .fields vs) : CallR (X.suite a ((a, oe) :: pn)) (.builtin "isinstance") (rIsET X.K D a d) := by
  intro pins s σ H xs us Q I r0 h
  obtain ⟨tp, cs, ws, b, rfl, hT, k, ek, hd, q⟩ := h
  obtain ⟨u1, u2, rfl, r1, r2⟩ := vals2 r0
  cases (show u1 = Value.ref a from r1)
  cases (show u2 = Value.ref tp from r2)
  obtain ⟨od, J⟩ := inst_ex hz hf I hd
  obtain ⟨_, its, rv, o, g1, g2, n, g3⟩ := (show ObjOk X.prog X.w H s.heap tp (.tup cs) from I.hok tp _ hT)
  have g4 := ClsV.all k rv
  subst g4
  obtain ⟨oc, od, dt, sl⟩ := o
  simp only at g2 g3
  subst g2 g3
  exact PySem.W.kia_tup (PySem.W.kitx_exc (exc_cls C) C.hg C.hk C.hs C.ha C.hn C.ht C.hm) I.kIn J g1 ek (fun z => nomatch z) fun tk => ⟨.bl b, H, I.kept (t' := tk) fun _ _ z => z, rfl, q⟩
theorem se_isET {x1} {pt : Pos} {es : List Expr} {cs : List V} {us : List Value} (C : ExcC X.K D) (hz : Zc (.ref D) (exA dd x.pay) oe) (hfl : ∃ vs, oe.data = .fields vs) (hm : X.mg "isinstance" = none) (k : Paired ClsV cs us) (hl : cs.length ≤ 100) (hk : PySem.W.kitAny X.K (.ref D) us = some r)
    (ha : SE (X.suite a ((a, oe) :: pn)) W e (eVar i)) (hT : PA (X.suite a ((a, oe) :: pn)) es (tCs cs)) (hg : Gl (X.suite a ((a, oe) :: pn)) "isinstance" := by rfl)
    (h1 : starEach [.Tuple es x1 pt] (X.suite a ((a, oe) :: pn)).env = (false, eval (.Tuple es x1 pt) (X.suite a ((a, oe) :: pn)).env) :: starEach [] (X.suite a ((a, oe) :: pn)).env := by rfl)
    (he : starEach (e :: [.Tuple es x1 pt]) (X.suite a ((a, oe) :: pn)).env = (false, eval e (X.suite a ((a, oe) :: pn)).env) :: starEach [.Tuple es x1 pt] (X.suite a ((a, oe) :: pn)).env := by rfl) (hpl : (backTo pos (starEach [.Tuple es x1 pt] (X.suite a ((a, oe) :: pn)).env)).any (·.1) = false := by rfl) :
    SE (X.suite a ((a, oe) :: pn)) W (.Call (.Name "isinstance" p) [e, .Tuple es x1 pt] [] pos) (eIsE i x a dd r) := by
  obtain ⟨ta, k1, k2⟩ := ha
  have hA : PA (X.suite a ((a, oe) :: pn)) [e, .Tuple es x1 pt] (tCons ta (tCons (tTup (tCs cs)) tNil)) := pa_cons k1 (pa_cons (pe_tup hT) pa_nil h1) he
  refine ⟨_, pe_callB (call_isET C hz hfl) hg hm (by decide +kernel) hA (by decide) (by decide) he hpl, ⟨fun rl rs post => k2.bind rl rs post fun d h1 v φ1 S1 H1 rl1 rs1 st rp post2 => ?_⟩⟩
  by_cases q : isEx a dd x.pay d = true
  · rw [if_pos q] at post2
    obtain ⟨ev, ed⟩ := isEx_ok q rp
    subst ev
    refine tCs_run cs ⟨by rw [line_eq]; omega, fun p hp => ?_⟩
    obtain ⟨r2, s2⟩ := rl1.lay (o := .tup cs) hp
    refine ⟨p, cs, us, r, rfl, upd_same, k, hk, ?_, post2 _ φ1 _ _ r2 s2 (.bl r)⟩
    rcases ed with z | ⟨fs, z1, z2⟩
    · exact .inl z
    · exact .inr ⟨dd, fs, z1, r2.sub _ _ (s2.sub _ _ z2)⟩
  · rw [if_neg q] at post2
    exact post2.elim
/-- e.f -/
def eFldE (i : Nat) (x : Xn) (a dd : Addr) (f : Str) : ES := fun σ h => (eVar i σ h).bind fun d h1 => match d with
  | .exv b d0 g d' => if isEx a dd x.pay (.exv b d0 g d') = true ∧ g = f then .ok d' h1 else .stuck
  | _ => .stuck
theorem se_fldE {f : Str} (C : ExcC X.K D) (hno : PySem.W.findIn X.K (.ref D) f = some none) (hz : Zc (.ref D) (exA dd x.pay) oe) (hfl : ∃ vs, oe.data = .fields vs) (ha : SE (X.suite a ((a, oe) :: pn)) W e (eVar i))
    (hb : attributeBase e f (X.suite a ((a, oe) :: pn)).env (eval e (X.suite a ((a, oe) :: pn)).env) = eval e (X.suite a ((a, oe) :: pn)).env := by rfl) :
    SE (X.suite a ((a, oe) :: pn)) W (.Attribute e f pos) (eFldE i x a dd f) := by
  obtain ⟨ta, k1, k2⟩ := ha
  refine ⟨_, pe_xf ⟨C.hg, C.hk, C.hs, C.hd⟩ hno hz hfl k1 hb, ⟨fun rl rs post => k2.bind rl rs post fun d h1 v φ1 S1 H1 rl1 rs1 st rp post2 => ?_⟩⟩
  cases d with
  | exv b d0 g d' =>
    dsimp only at post2
    by_cases q : isEx a dd x.pay (.exv b d0 g d') = true ∧ g = f
    · rw [if_pos q] at post2
      obtain ⟨q1, rfl⟩ := q
      obtain ⟨ev, ed⟩ := isEx_ok q1 rp
      cases (show Rp X.K φ1 S1 v (.exv b d0 g d') from rp) with
      | @exv _ _ _ w _ g1 g2 =>
        obtain ⟨_, z2, z3⟩ := isEx_exv q1
        subst z2
        exact ⟨ev, rfl, d0, _, w, z3, rl1.sub _ _ g1, by simp, post2 w φ1 S1 H1 rl1 (Step.refl _ _ _) g2⟩
    · rw [if_neg q] at post2
      exact post2.elim
  | _ => exact post2.elim
end
/-! .. told by the table -/
def exT : List Ef → Str → Bool
  | [], _ => false
  | .exc a :: l, x => if a = x then true else exT l x
  | _ :: l, x => exT l x
theorem exT_ok {K : PySem.W.Frag} {x : Str} : ∀ {ef : List Ef}, (ef.all fun f => f.ok K) = true → exT ef x = true → ExcC K (He.ga K x)
  | [], _, e => by cases e
  | f :: l, h, e => by
    rw [List.all_cons] at h
    obtain ⟨h1, h2⟩ := and_of h
    have ih := exT_ok (x := x) h2
    cases f with
    | exc a =>
      simp only [exT] at e
      by_cases q : a = x
      · subst q
        exact excB_ok h1
      · rw [if_neg q] at e
        exact ih e
    | sub a c r => exact ih e
    | isa a c r => exact ih e
    | isT a T r => exact ih e
    | oex a => exact ih e
    | nof a f => exact ih e
    | bi a => exact ih e
def isaE : List Ef → Str → Str → Option Bool
  | [], _, _ => none
  | .isa a b r :: l, x, y => if a = x ∧ b = y then some r else isaE l x y
  | _ :: l, x, y => isaE l x y
theorem isaE_ok {K : PySem.W.Frag} {x y : Str} {b : Bool} : ∀ {ef : List Ef}, (ef.all fun f => f.ok K) = true → isaE ef x y = some b → PySem.W.kitOne K (.ref (He.ga K x)) (.ref (He.ga K y)) = some b
  | [], _, e => by cases e
  | f :: l, h, e => by
    rw [List.all_cons] at h
    obtain ⟨h1, h2⟩ := and_of h
    have ih := isaE_ok (x := x) (y := y) (b := b) h2
    cases f with
    | isa a c r =>
      simp only [isaE] at e
      by_cases q : a = x ∧ c = y
      · rw [if_pos q] at e
        cases e
        obtain ⟨rfl, rfl⟩ := q
        exact of_decide_eq_true h1
      · rw [if_neg q] at e
        exact ih e
    | exc a => exact ih e
    | sub a c r => exact ih e
    | isT a T r => exact ih e
    | oex a => exact ih e
    | nof a f => exact ih e
    | bi a => exact ih e
def isTE : List Ef → Str → String → Option Bool
  | [], _, _ => none
  | .isT a b r :: l, x, y => if a = x ∧ b = y then some r else isTE l x y
  | _ :: l, x, y => isTE l x y
theorem isTE_ok {K : PySem.W.Frag} {x : Str} {y : String} {b : Bool} : ∀ {ef : List Ef}, (ef.all fun f => f.ok K) = true → isTE ef x y = some b → PySem.W.kitOne K (.ref (He.ga K x)) (.type y) = some b
  | [], _, e => by cases e
  | f :: l, h, e => by
    rw [List.all_cons] at h
    obtain ⟨h1, h2⟩ := and_of h
    have ih := isTE_ok (x := x) (y := y) (b := b) h2
    cases f with
    | isT a c r =>
      simp only [isTE] at e
      by_cases q : a = x ∧ c = y
      · rw [if_pos q] at e
        cases e
        obtain ⟨rfl, rfl⟩ := q
        exact of_decide_eq_true h1
      · rw [if_neg q] at e
        exact ih e
    | exc a => exact ih e
    | sub a c r => exact ih e
    | isa a c r => exact ih e
    | oex a => exact ih e
    | nof a f => exact ih e
    | bi a => exact ih e
def anyE (ef : List Ef) (x : Str) : List Str → Option Bool
  | [] => some false
  | y :: r => match isaE ef x y with
    | some true => some true
    | some false => anyE ef x r
    | none => none
theorem anyE_ok {K : PySem.W.Frag} {ef : List Ef} {x : Str} {b : Bool} (h : (ef.all fun f => f.ok K) = true) : ∀ {ys : List Str}, anyE ef x ys = some b → PySem.W.kitAny K (.ref (He.ga K x)) (ys.map fun y => .ref (He.ga K y)) = some b
  | [], e => e
  | y :: r, e => by
    unfold anyE at e
    rw [List.map_cons]
    unfold PySem.W.kitAny
    cases q : isaE ef x y with
    | none => rw [q] at e; cases e
    | some z =>
      rw [q] at e
      rw [isaE_ok h q]
      cases z with
      | true => exact e
      | false => exact anyE_ok h e
/-- what the suite asks of what it caught: o, where the slot holds it -/
def eIsO (i : Nat) (x : Xn) (a dd : Addr) (o : Option Bool) : ES := fun σ h => (eVar i σ h).bind fun d h1 => if isEx a dd x.pay d = true then (match o with
    | some r => .ok (.bl r) h1
    | none => .stuck) else .stuck
theorem eIsO_some {i : Nat} {x : Xn} {a dd : Addr} {r : Bool} : eIsO i x a dd (some r) = eIsE i x a dd r := rfl
theorem eVar_bind {α : Type} {i : Nat} {σ : VS} {h : Hv} {f : D → Hv → R α} (hf : ∀ d h1, f d h1 = .stuck) : (eVar i σ h).bind f = .stuck := by
  cases q : eVar i σ h with
  | ok d h1 => rw [R.bind_ok, hf]
  | exc x h1 =>
    unfold eVar at q
    split at q <;> cases q
  | stuck => rfl
theorem se_stuck {X : Cx} {W : WX} {e : Expr} {f : ES} (hs : ∀ σ h, f σ h = .stuck) : SE X W e f :=
  ⟨fun _ _ _ => False, ⟨fun _ _ _ _ _ _ z => z.elim⟩, ⟨fun {φ S H h σv σ Q} rl rs post => by
    rw [hs] at post
    exact post.elim⟩⟩
theorem se_isO_of {X : Cx} {W : WX} {e : Expr} {i : Nat} {x : Xn} {a dd : Addr} {o : Option Bool} (hs : ∀ r, o = some r → SE X W e (eIsE i x a dd r)) : SE X W e (eIsO i x a dd o) := by
  cases o with
  | some r => exact hs r rfl
  | none => exact se_stuck fun σ h => eVar_bind fun d h1 => by split <;> rfl
/-- the classes of a tuple -/
theorem cls_pair {K : PySem.W.Frag} : ∀ ys : List Str, Paired ClsV (ys.map fun y => V.ref (He.ga K y)) (ys.map fun y => Value.ref (He.ga K y))
  | [] => .nil
  | y :: r => .cons (.own _) (cls_pair r)
def nofE : List Ef → Str → Str → Bool
  | [], _, _ => false
  | .nof a b :: l, x, y => if a = x ∧ b = y then true else nofE l x y
  | _ :: l, x, y => nofE l x y
theorem nofE_ok {K : PySem.W.Frag} {x y : Str} : ∀ {ef : List Ef}, (ef.all fun f => f.ok K) = true → nofE ef x y = true → PySem.W.findIn K (.ref (He.ga K x)) y = some none
  | [], _, e => by cases e
  | f :: l, h, e => by
    rw [List.all_cons] at h
    obtain ⟨h1, h2⟩ := and_of h
    have ih := nofE_ok (x := x) (y := y) h2
    cases f with
    | nof a c =>
      simp only [nofE] at e
      by_cases q : a = x ∧ c = y
      · obtain ⟨rfl, rfl⟩ := q
        exact of_decide_eq_true h1
      · rw [if_neg q] at e
        exact ih e
    | exc a => exact ih e
    | sub a c r => exact ih e
    | isa a c r => exact ih e
    | isT a T r => exact ih e
    | oex a => exact ih e
    | bi a => exact ih e
section
variable {X : Cx} {W : WX} {a dd : Addr} {x : Xn} {oe : Obj} {pn : List (Addr × Obj)} {e : Expr} {i : Nat} {p p2 pos : Pos} {y : Str} {ef : List Ef}
def xIs (ef : List Ef) (c y : Str) : Option Bool := if exT ef c = true then isaE ef c y else none
def xIsT (ef : List Ef) (c : Str) (T : String) : Option Bool := if exT ef c = true then isTE ef c T else none
def xIsA (ef : List Ef) (c : Str) (ys : List Str) : Option Bool := if exT ef c = true then anyE ef c ys else none
def eFldX (ef : List Ef) (i : Nat) (x : Xn) (a dd : Addr) (f : Str) : ES := if exT ef x.cls = true ∧ nofE ef x.cls f = true then eFldE i x a dd f else fun _ _ => .stuck
theorem se_isO (ce : (ef.all fun f => f.ok X.K) = true) (hz : Zc (.ref (He.ga X.K x.cls)) (exA dd x.pay) oe) (hfl : ∃ vs, oe.data = .fields vs) (hm : X.mg "isinstance" = none) (gy : X.mg y = some (.ref (He.ga X.K y))) (ha : SE (X.suite a ((a, oe) :: pn)) W e (eVar i))
    (hgy : Gl (X.suite a ((a, oe) :: pn)) y := by rfl) (hdy : (y == ("__debug__" : Str)) = false := by decide) (hg : Gl (X.suite a ((a, oe) :: pn)) "isinstance" := by rfl)
    (h1 : starEach [.Name y p2] (X.suite a ((a, oe) :: pn)).env = (false, eval (.Name y p2) (X.suite a ((a, oe) :: pn)).env) :: starEach [] (X.suite a ((a, oe) :: pn)).env := by rfl)
    (he : starEach (e :: [.Name y p2]) (X.suite a ((a, oe) :: pn)).env = (false, eval e (X.suite a ((a, oe) :: pn)).env) :: starEach [.Name y p2] (X.suite a ((a, oe) :: pn)).env := by rfl) (hpl : (backTo pos (starEach [.Name y p2] (X.suite a ((a, oe) :: pn)).env)).any (·.1) = false := by rfl) :
    SE (X.suite a ((a, oe) :: pn)) W (.Call (.Name "isinstance" p) [e, .Name y p2] [] pos) (eIsO i x a dd (xIs ef x.cls y)) := se_isO_of fun r hr => by
  unfold xIs at hr
  by_cases q : exT ef x.cls = true
  · rw [if_pos q] at hr
    exact se_isE (exT_ok ce q) hz hfl hm (cv := .ref (He.ga X.K y)) (fun u ru => ru) (isaE_ok ce hr) ha (pe_glob hgy gy rfl hdy) hg h1 he hpl
  · rw [if_neg q] at hr
    cases hr
theorem se_isOT {T : String} (ce : (ef.all fun f => f.ok X.K) = true) (hz : Zc (.ref (He.ga X.K x.cls)) (exA dd x.pay) oe) (hfl : ∃ vs, oe.data = .fields vs) (hm : X.mg "isinstance" = none) (my : X.mg y = none) (hv : bootBuiltins y = some (.type T)) (ha : SE (X.suite a ((a, oe) :: pn)) W e (eVar i))
    (hgy : Gl (X.suite a ((a, oe) :: pn)) y := by rfl) (hdy : (y == ("__debug__" : Str)) = false := by decide) (hny : y ≠ "__name__" := by decide) (hg : Gl (X.suite a ((a, oe) :: pn)) "isinstance" := by rfl)
    (h1 : starEach [.Name y p2] (X.suite a ((a, oe) :: pn)).env = (false, eval (.Name y p2) (X.suite a ((a, oe) :: pn)).env) :: starEach [] (X.suite a ((a, oe) :: pn)).env := by rfl)
    (he : starEach (e :: [.Name y p2]) (X.suite a ((a, oe) :: pn)).env = (false, eval e (X.suite a ((a, oe) :: pn)).env) :: starEach [.Name y p2] (X.suite a ((a, oe) :: pn)).env := by rfl) (hpl : (backTo pos (starEach [.Name y p2] (X.suite a ((a, oe) :: pn)).env)).any (·.1) = false := by rfl) :
    SE (X.suite a ((a, oe) :: pn)) W (.Call (.Name "isinstance" p) [e, .Name y p2] [] pos) (eIsO i x a dd (xIsT ef x.cls T)) := se_isO_of fun r hr => by
  unfold xIsT at hr
  by_cases q : exT ef x.cls = true
  · rw [if_pos q] at hr
    exact se_isE (exT_ok ce q) hz hfl hm (cv := .ty T) (fun u ru => ru) (isTE_ok ce hr) ha (pe_bltn hgy my hv rfl hny hdy) hg h1 he hpl
  · rw [if_neg q] at hr
    cases hr
theorem se_isOA {x1} {pt : Pos} {es : List Expr} {ys : List Str} (ce : (ef.all fun f => f.ok X.K) = true) (hz : Zc (.ref (He.ga X.K x.cls)) (exA dd x.pay) oe) (hfl : ∃ vs, oe.data = .fields vs) (hm : X.mg "isinstance" = none) (hl : ys.length ≤ 100) (ha : SE (X.suite a ((a, oe) :: pn)) W e (eVar i))
    (hT : PA (X.suite a ((a, oe) :: pn)) es (tCs (ys.map fun y => V.ref (He.ga X.K y)))) (hg : Gl (X.suite a ((a, oe) :: pn)) "isinstance" := by rfl)
    (h1 : starEach [.Tuple es x1 pt] (X.suite a ((a, oe) :: pn)).env = (false, eval (.Tuple es x1 pt) (X.suite a ((a, oe) :: pn)).env) :: starEach [] (X.suite a ((a, oe) :: pn)).env := by rfl)
    (he : starEach (e :: [.Tuple es x1 pt]) (X.suite a ((a, oe) :: pn)).env = (false, eval e (X.suite a ((a, oe) :: pn)).env) :: starEach [.Tuple es x1 pt] (X.suite a ((a, oe) :: pn)).env := by rfl) (hpl : (backTo pos (starEach [.Tuple es x1 pt] (X.suite a ((a, oe) :: pn)).env)).any (·.1) = false := by rfl) :
    SE (X.suite a ((a, oe) :: pn)) W (.Call (.Name "isinstance" p) [e, .Tuple es x1 pt] [] pos) (eIsO i x a dd (xIsA ef x.cls ys)) := se_isO_of fun r hr => by
  unfold xIsA at hr
  by_cases q : exT ef x.cls = true
  · rw [if_pos q] at hr
    exact se_isET (exT_ok ce q) hz hfl hm (cls_pair ys) (by rw [List.length_map]; exact hl) (anyE_ok ce hr) ha hT hg h1 he hpl
  · rw [if_neg q] at hr
    cases hr
theorem se_fldX {f : Str} (ce : (ef.all fun f => f.ok X.K) = true) (hz : Zc (.ref (He.ga X.K x.cls)) (exA dd x.pay) oe) (hfl : ∃ vs, oe.data = .fields vs) (ha : SE (X.suite a ((a, oe) :: pn)) W e (eVar i))
    (hb : attributeBase e f (X.suite a ((a, oe) :: pn)).env (eval e (X.suite a ((a, oe) :: pn)).env) = eval e (X.suite a ((a, oe) :: pn)).env := by rfl) :
    SE (X.suite a ((a, oe) :: pn)) W (.Attribute e f pos) (eFldX ef i x a dd f) := by
  unfold eFldX
  by_cases q : exT ef x.cls = true ∧ nofE ef x.cls f = true
  · rw [if_pos q]
    exact se_fldE (exT_ok ce q.1) (nofE_ok ce q.2) hz hfl ha hb
  · rw [if_neg q]
    exact se_stuck fun _ _ => rfl
/-- one class more in the tuple -/
theorem pa_cls {X : Cx} {y : Str} {p : Pos} {es : List Expr} {vs : List V} (gy : X.mg y = some (.ref (He.ga X.K y))) (h : PA X es (tCs vs)) (hgy : Gl X y := by rfl) (hdy : (y == ("__debug__" : Str)) = false := by decide)
    (he : starEach (.Name y p :: es) X.env = (false, eval (.Name y p) X.env) :: starEach es X.env := by rfl) : PA X (.Name y p :: es) (tCs (.ref (He.ga X.K y) :: vs)) := pa_cons (pe_glob hgy gy rfl hdy) h he
theorem pa_cls0 {X : Cx} : PA X [] (tCs []) := pa_nil
end
end
end VD

set_option Elab.async false
set_option linter.all false
set_option maxRecDepth 100000
set_option maxHeartbeats 4000000
namespace VD
open PySem PySem.Spec PyProof.Rows L2
noncomputable section
/-- a method's statement -/
def clsS : Stmt → Nat → Stmt
  | .ClassDef _ _ _ b _ _ _ _ _ _ _, j => b.getD j (.Pass ⟨0, 0, 0, 0⟩)
  | s, _ => s
/-! ### errors that bear a value -/
/-- what such an __init__ does -/
def spPay (K : PySem.W.Frag) (C : Addr) (f : Str) : Sp := fun vs H Q _ => ∃ (a : Addr) (v : V), vs = [.ref a, v] ∧ H a = some (exo a C none) ∧ OexC K C ∧ PySem.W.findIn K (.ref C) f = some none ∧
  ∀ dx, H dx = none → dx ≠ a → Q .non (upd (upd H dx (exd dx [(f, v)])) a (exo a C (some dx)))
section
variable {X : Cx} {e : Expr} {es : List Expr} {ta : TA} {b : Str} {B : Addr} {p1 p2 pos : Pos}
theorem biB_ok {K : PySem.W.Frag} {C : Addr} (h : biB K C = true) : PySem.W.readsIn K C (.type "type") = true ∧ PySem.W.specialIn K (.ref C) "__getattribute__" = some (some (.builtin "type.__getattribute__")) ∧ PySem.W.findCls K (.ref C) (.type "type") "__init__" = some (.val (.builtin "ValueError.__init__")) := by
  unfold biB at h
  obtain ⟨h1, h⟩ := and_of h
  obtain ⟨h2, h3⟩ := and_of h
  refine ⟨h1, of_decide_eq_true h2, ?_⟩
  split at h3
  · next s q =>
    rw [q, of_decide_eq_true h3]
  · cases h3
theorem pe_ceinit {pl : Sem Bool} (hg : Gl X b) (hm : X.mg b = some (.ref B)) (bi : biB X.K B = true) (ha : PA X (e :: es) ta) (hdb : (b == ("__debug__" : Str)) = false := by decide)
    (hc : eval (.Call (.Attribute (.Name b p1) "__init__" p2) (e :: es) [] pos) X.env = (do
      let ov ← eval (.Name b p1) X.env
      standAt p2.atName
      let (f, first) ← holding [ov] (getMethod ov "__init__" pl)
      callWith pos f first (backTo pos (starEach (e :: es) X.env)) (backToKw pos (keywordEach [] X.env))) := by rfl)
    (he : starEach (e :: es) X.env = (false, eval e X.env) :: starEach es X.env := by rfl) (hpl : (backTo pos (starEach es X.env)).any (·.1) = false := by rfl) :
    PE X (.Call (.Attribute (.Name b p1) "__init__" p2) (e :: es) [] pos) (tVeI X.K ta) := by
  obtain ⟨b1, b2, b3⟩ := biB_ok bi
  have fin : ∀ {pins : List (Addr × Obj)} {s1 : Shared} {σ : L2.St} {H1 : Hp} {Q : VK} {us : List Value} {vs : List V}, Inv X pins σ H1 s1 → Vals vs us → (∃ (x Y : Addr) (more : List V), vs = .ref x :: more ∧ more.length ≤ 1000 ∧ OexC X.K Y ∧ H1 x = some (exo x Y none) ∧ Q .non H1) →
      wpAny (model X.prog X.w) X.A (call (.builtin "ValueError.__init__") us) (EP X pins σ Q) X.xe s1 := fun {pins s1 σ H1 Q us vs} J rv z => by
    obtain ⟨x, Y, more, rfl, few, oy, at_, done⟩ := z
    cases rv with
    | cons r0 rt =>
      cases r0
      refine oinit_ok oy J at_ ?_ fun s2 J2 => ⟨.non, H1, J2, rfl, done⟩
      have e := Paired.length rt
      rw [sizeLine_eq]
      omega
  constructor
  intro pins s σ H Q I0 rd
  exact PySem.W.methodCall_KW (ld_glob I0 hg hm (PySem.W.method_cls I0.kIn b2 (PySem.W.cls_value I0.kIn b1 b3 (by decide +kernel)
    (PyProof.Rows.callWith_method1 (thn (ha.run pos pins _ σ H _ (I0.tok _) rd) fun us s1 ⟨vs, H1, I1, rv, z⟩ => fin I1 rv z) he hpl))) hdb) hc
end
section
variable {P : Program} {w : World} {K : PySem.W.Frag} {mg : Str → Option Value} {base : Heap}
theorem payInit_ok {x qual z fl : Str} {st : Stmt} {f C : Addr} {fd : FuncData} {N ps : List Str} {k : Nat} (F : Fun K x qual st f fd) (Sc : FnScope N ps (defScope st)) (hps : ps.length = 2) (hN : N.length = 2)
    (hbody : ∀ (cdv : Value) (A : Around) (outer : List Env) (s : Shared) (H : Hp) (E : XK), Room k (A.deeper (envOfC qual (defScope st) s.heap.objs.size f cdv)) →
      PSs (cxOf (L2.CX P w) P w K mg base N qual (defScope st) f cdv A outer s H E) (defBody st) (tSeq (tDrop (tVeI K (tCons (tVar 0) (tCons (tC (.str z)) tNil)))) (tOst K fl (tVar 0) (tVar 1)))) : FnOk P w K mg base (L2.CX P w) (k + 1) f fd ps (spPay K C fl) := by
  refine F.okX Sc (fun vs H Q E h => ?_) (fun cdv A outer s H vs Q E hr h => ?_)
  · obtain ⟨a, v, rfl, _⟩ := h
    exact hps.symm
  · obtain ⟨a, v, rfl, ea, ox, no, q⟩ := h
    refine ⟨_, hbody cdv A outer s H E hr, ?_⟩
    have es : L2.start N [.ref a, v] = [some (.ref a), some v] := by
      unfold L2.start
      rw [hN]
      rfl
    rw [es]
    refine ⟨.ref a, rfl, a, C, [.str z], rfl, by simp, ox, ea, v, rfl, .ref a, rfl, a, C, rfl, ox, no, .inl ⟨ea, q⟩⟩
/-- a class of errors that bear a value in the field f -/
structure PayT (P : Program) (w : World) (K : PySem.W.Frag) (mg : Str → Option Value) (base : Heap) (k : Nat) (x f : Str) : Prop where
  g : mg x = some (.ref (He.ga K x))
  ox : OexC K (He.ga K x)
  no : PySem.W.findIn K (.ref (He.ga K x)) f = some none
  ini : ∃ (fI : Addr) (fd : FuncData) (ps : List Str), PySem.W.findIn K (.ref (He.ga K x)) "__init__" = some (some (.ref fI)) ∧ PySem.W.typeIn K (.ref fI) = some (.type "function") ∧ FnOk P w K mg base (L2.CX P w) k fI fd ps (spPay K (He.ga K x) f) ∧ Binds K fd ps []
end
def sRaiseP (C f : Str) (fe : ES) : SS := fun σ h => (fe σ h).then σ fun d h' => .exc ⟨C, some (f, d)⟩ σ h'
theorem del_upd {H : Hp} {a dx : Addr} {o1 o2 o3 u : HO} (ha : H a = none) (hd : dx ≠ a) : upd (del (upd (upd (upd H a o1) dx o2) a o3) a) dx u = upd H dx u := by
  funext b
  by_cases q : b = dx
  · subst q
    rw [upd_same, upd_same]
  · rw [upd_ne q, upd_ne q]
    by_cases q2 : b = a
    · subst q2
      rw [del_same, ha]
    · rw [del_ne q2, upd_ne q2, upd_ne q, upd_ne q2]
section
variable {X : Cx} {W : WX} {e : Expr} {fe : ES} {x f : Str} {k : Nat} {p pos p3 : Pos}
theorem qs_raiseP (T : PayT X.prog X.w X.K X.mg X.base k x f) (hr : Room (k + 1) X.A) (tk : Takes X W) (ha : SE X W e fe) (hg : Gl X x := by rfl) (hdb : (x == ("__debug__" : Str)) = false := by decide) (hc : X.calm = true := by rfl)
    (he : starEach [e] X.env = (false, eval e X.env) :: starEach [] X.env := by rfl) (hpl : (backTo pos (starEach [] X.env)).any (·.1) = false := by rfl) :
    QS X W (.Raise (some (.Call (.Name x p) [e] [] pos)) none p3) (sRaiseP x f fe) := by
  obtain ⟨fI, fd, ps, iC, tI, F1, hb⟩ := T.ini
  obtain ⟨te, k1, k2⟩ := ha
  refine ⟨_, ps_raise hc tk (pmk_oex (ds := []) (dvs := []) T.ox iC tI F1 hr hb .nil (fun _ _ _ _ _ _ _ h => (cx_false h).elim) hg T.g (pa_cons k1 pa_nil he) hdb he hpl), ⟨fun {φ S H h σv σ D} rl rs post => ?_⟩⟩
  · refine k2.thenS rl rs post fun d h1 v φ1 S1 H1 rl1 rs1 st rp post => ?_
    refine ⟨by simp, fun a ha => ⟨a, v, rfl, upd_same, T.ox, T.no, fun dx hdx hne => ?_⟩⟩
    have hdx' : H1 dx = none := by rw [upd_ne hne] at hdx; exact hdx
    refine ⟨rfl, dx, [(f, v)], upd_same, by rw [upd_ne hne, upd_same], hdx', ?_⟩
    rw [del_upd ha hne]
    obtain ⟨r2, s2⟩ := rl1.lay (o := .xd [(f, v)]) hdx'
    exact post σ (.ref (He.ga X.K x)) (some dx) φ1 _ _ r2 (rs1.step s2) s2 ⟨rfl, dx, v, rfl, upd_same, Rp.mono s2.prefix s2.sub rp⟩
end
end
end VD

set_option Elab.async false
set_option linter.all false
set_option maxRecDepth 100000
set_option maxHeartbeats 4000000
namespace VD
open PySem PySem.Spec PyProof.Rows L2
noncomputable section
/-! ### sorted, of pairs of whole numbers -/
def pairOf : D → Option (Int × Int)
  | .tup [.int a, .int b] => some (a, b)
  | _ => none
abbrev pD (p : Int × Int) : D := .tup [.int p.1, .int p.2]
theorem pairOf_ok {d : D} {p : Int × Int} (h : pairOf d = some p) : d = pD p := by
  unfold pairOf at h
  split at h
  · cases h; rfl
  · cases h
def lePB (p q : Int × Int) : Bool := decide (p.1 < q.1 ∨ (p.1 = q.1 ∧ p.2 ≤ q.2))
def LeP (p q : Int × Int) : Prop := p.1 < q.1 ∨ (p.1 = q.1 ∧ p.2 ≤ q.2)
def sortP (ps : List (Int × Int)) : List (Int × Int) := ps.mergeSort lePB
theorem sortP_perm (ps : List (Int × Int)) : (sortP ps).Perm ps := List.mergeSort_perm _ _
theorem sortP_rises (ps : List (Int × Int)) : (sortP ps).Pairwise LeP := by
  have h := List.pairwise_mergeSort (le := lePB) (fun a b c h1 h2 => by
    have := of_decide_eq_true h1
    have := of_decide_eq_true h2
    exact decide_eq_true (by omega)) (fun a b => by
    unfold lePB
    by_cases q : a.1 < b.1 ∨ (a.1 = b.1 ∧ a.2 ≤ b.2)
    · rw [decide_eq_true q]; rfl
    · rw [decide_eq_true (show b.1 < a.1 ∨ (b.1 = a.1 ∧ b.2 ≤ a.2) by omega), Bool.or_true]) ps
  exact h.imp fun h => of_decide_eq_true h
theorem sortP_one {xs ys : List (Int × Int)} (hp : xs.Perm ys) (h1 : xs.Pairwise LeP) (h2 : ys.Pairwise LeP) : xs = ys := hp.eq_of_pairwise (le := LeP) (fun a b _ _ x y => by
  unfold LeP at x y
  exact Prod.ext (by omega) (by omega)) h1 h2
/-- a list of pairs ps -/
def rSortPT (K : PySem.W.Frag) : List V → Hp → VK → Prop := fun vs H Q => ∃ (b : Addr) (ws : List V) (ps : List (Int × Int)), vs = [V.ref b] ∧ SqL K H b ws ∧ ws.length = ps.length ∧ (∀ z ∈ ws.zip ps, ∃ t, z.1 = V.ref t ∧ SqT K H t [.int z.2.1, .int z.2.2]) ∧
  ∀ zs p, zs.length = (sortP ps).length → (∀ z ∈ zs.zip (sortP ps), z ∈ ws.zip ps) → H p = none → Q (.ref p) (upd H p (.lst zs))
def keyZ (ws : List V) (ps : List (Int × Int)) (w : V) : Int × Int := @dite (Int × Int) (∃ p, (w, p) ∈ ws.zip ps) (Classical.propDecidable _) (fun z => Classical.choose z) (fun _ => (0, 0))
theorem keyZ_mem {ws : List V} {ps : List (Int × Int)} (hl : ws.length = ps.length) {w : V} (hw : w ∈ ws) : (w, keyZ ws ps w) ∈ ws.zip ps := by
  have z : ∃ p, (w, p) ∈ ws.zip ps := by
    obtain ⟨i, hi⟩ := List.getElem?_of_mem hw
    have h1 := (List.getElem?_eq_some_iff.mp hi).1
    refine ⟨ps[i]'(by omega), List.mem_of_getElem? (i := i) ?_⟩
    rw [List.getElem?_zip_eq_some]
    exact ⟨hi, List.getElem?_eq_getElem _⟩
  unfold keyZ
  rw [dif_pos z]
  exact Classical.choose_spec z
theorem cr_sortPT {X : Cx} : CallR X (.builtin "sorted") (rSortPT X.K) := by
  intro pins s σ H vs us Q I r hyp
  obtain ⟨b, ws, ps, rfl, hS, len, hE, fin⟩ := hyp
  obtain ⟨its, rv, lst, size⟩ := I.list hS
  obtain ⟨u, rfl, ru⟩ := vals1 r
  obtain rfl : u = Value.ref b := ru
  have one : ∀ {w p q}, (w, p) ∈ ws.zip ps → (w, q) ∈ ws.zip ps → p = q := fun {w p q} h1 h2 => by
    obtain ⟨t, e, s1⟩ := hE _ h1
    obtain ⟨t', e', s2⟩ := hE _ h2
    rw [e] at e'
    cases e'
    have := I.tuple_inj s1 s2
    injection this with a1 a2
    injection a2 with a2 _
    injection a1 with a1
    injection a2 with a2
    exact Prod.ext a1 a2
  have kmap : ws.map (keyZ ws ps) = ps := by
    apply List.ext_getElem
    · rw [List.length_map]; exact len
    · intro i h1 h2
      rw [List.length_map] at h1
      rw [List.getElem_map]
      refine one (keyZ_mem len (List.getElem_mem h1)) (List.mem_of_getElem? (i := i) ?_)
      rw [List.getElem?_zip_eq_some]
      exact ⟨List.getElem?_eq_getElem h1, List.getElem?_eq_getElem h2⟩
  obtain ⟨back, refs⟩ := refs_back rv fun w hw => (hE _ (keyZ_mem len hw)).imp fun t z => z.1
  refine SrtO.sorted_pairsO (k := fun u => keyZ ws ps (backV u)) lst.isList (by rw [← rv.length]; exact size) (fun u hu => ?_) fun g d out ord stb old dl new => ?_
  · obtain ⟨t, rfl⟩ := refs u hu
    obtain ⟨t', e, sq⟩ := hE _ (keyZ_mem len (w := V.ref t) (by rw [back]; exact List.mem_map.mpr ⟨_, hu, rfl⟩))
    cases e
    obtain ⟨its2, r2, ⟨o, ho, oc, n, od⟩, _⟩ := I.tuple sq
    obtain ⟨u1, u2, e2, ⟨t1, e3⟩, ⟨t2, e4⟩⟩ := vals2 r2
    subst e3 e4
    rw [e2] at od
    exact ⟨t, o, t1, t2, n, rfl, ho, oc, od⟩
  · have refs2 : ∀ u ∈ out, ∃ a, u = Value.ref a := fun u hu => refs u (stb.perm.mem_iff.mp hu)
    obtain ⟨n, new⟩ := new
    have pm : (out.map backV).Perm ws := by
      rw [back]
      exact stb.perm.map backV
    have srt : (out.map backV).map (keyZ ws ps) = sortP ps := by
      refine sortP_one ?_ ?_ (sortP_rises ps)
      · have := pm.map (keyZ ws ps)
        rw [kmap] at this
        exact this.trans (sortP_perm ps).symm
      · rw [List.map_map]
        refine List.pairwise_map.mpr (List.Pairwise.imp (fun {x y} z => ?_) ord)
        have := SrtO.lexB_no.mp z
        show (keyZ ws ps (backV x)).1 < (keyZ ws ps (backV y)).1 ∨ ((keyZ ws ps (backV x)).1 = (keyZ ws ps (backV y)).1 ∧ (keyZ ws ps (backV x)).2 ≤ (keyZ ws ps (backV y)).2)
        omega
    refine ⟨.ref d, upd H d (.lst (out.map backV)), I.laid (t' := s.toks) old dl ⟨by rw [pm.length_eq]; exact size, out, n, vals_back refs2, new⟩, rfl, fin _ d (by rw [← srt]; simp) (fun z hz => ?_) (I.hok.fresh dl)⟩
    rw [← srt] at hz
    obtain ⟨i, hi⟩ := List.getElem?_of_mem hz
    rw [List.getElem?_zip_eq_some] at hi
    obtain ⟨h1, h2⟩ := hi
    rw [List.getElem?_map, h1] at h2
    have e : keyZ ws ps z.1 = z.2 := Option.some.inj h2
    have := keyZ_mem len (pm.mem_iff.mp (List.mem_of_getElem? h1))
    rw [e] at this
    exact this
def bSortP : List D → Hv → R (List D) := fun ds h => match ds with
  | [d] => (match (lOf h d).bind (optAll pairOf) with
    | some ps => .ok ((sortP ps).map pD) h
    | none => .stuck)
  | _ => .stuck
theorem ra_zip {K : PySem.W.Frag} {φ : List Addr} {S : Hp} : ∀ {ds : List D} {ps : List (Int × Int)} {vs : List V}, optAll pairOf ds = some ps → RpA K φ S vs ds → vs.length = ps.length ∧ ∀ z ∈ vs.zip ps, Rp K φ S z.1 (pD z.2)
  | [], ps, vs, e, r => by
    cases e
    cases r
    exact ⟨rfl, fun w hw => nomatch hw⟩
  | d :: ds, ps, vs, e, r => by
    simp only [optAll] at e
    cases q : pairOf d with
    | none => rw [q] at e; cases e
    | some p =>
      rw [q] at e
      cases q2 : optAll pairOf ds with
      | none => simp only [q2] at e; cases e
      | some ps2 =>
        simp only [q2] at e
        cases e
        cases r with
        | cons r t =>
          obtain ⟨e1, e2⟩ := ra_zip q2 t
          rw [pairOf_ok q] at r
          refine ⟨by rw [List.length_cons, List.length_cons, e1], fun w hw => ?_⟩
          rw [List.zip_cons_cons] at hw
          rcases List.mem_cons.mp hw with rfl | hw
          · exact r
          · exact e2 w hw
theorem ra_of_zip {K : PySem.W.Frag} {φ : List Addr} {S : Hp} : ∀ {vs : List V} {ps : List (Int × Int)}, vs.length = ps.length → (∀ z ∈ vs.zip ps, Rp K φ S z.1 (pD z.2)) → RpA K φ S vs (ps.map pD)
  | [], [], _, _ => .nil
  | [], _ :: _, e, _ => nomatch e
  | _ :: _, [], e, _ => nomatch e
  | v :: vs, p :: ps, e, q => by
    rw [List.zip_cons_cons] at q
    exact .cons (q (v, p) List.mem_cons_self) (ra_of_zip (Nat.succ.inj e) fun z hz => q z (List.mem_cons_of_mem _ hz))
theorem cl_sortP {K : PySem.W.Frag} : CaL K (rSortPT K) bSortP := by
  intro φ S H h ds vs Q E rl ra post
  unfold bSortP at post
  split at post
  · next d =>
    obtain ⟨v, rfl, r⟩ := ra.one
    split at post
    · next ps hn =>
      obtain ⟨xs, q1, q2⟩ := Option.bind_eq_some_iff.mp hn
      obtain ⟨b, ws, rfl, h2, h3⟩ := lOf_ok rl r q1
      obtain ⟨len, all⟩ := ra_zip q2 h3
      refine ⟨b, ws, ps, rfl, h2, len, fun z hz => ?_, fun zs p l1 l2 hp => ?_⟩
      · have rz := all z hz
        obtain ⟨w, pp⟩ := z
        cases (show Rp K φ S w (.tup [.int pp.1, .int pp.2]) from rz) with
        | tup g1 g2 =>
          cases g2 with
          | cons r1 t1 =>
            cases t1 with
            | cons r2 t2 =>
              cases t2
              cases r1
              cases r2
              exact ⟨_, rfl, rl.sub.sqt g1⟩
      · obtain ⟨r2, s2⟩ := rl.hold (o := .lst zs) hp
        exact post _ φ _ _ r2 s2 ⟨p, _, rfl, hp, upd_same, rl.snone hp, rl.notin hp, ra_of_zip l1 fun z hz => all z (l2 z hz)⟩
    · exact post.elim
  · exact post.elim
end
end VD

set_option Elab.async false
set_option linter.all false
set_option maxRecDepth 100000
set_option maxHeartbeats 4000000
namespace VD
open PySem PySem.Spec PyProof.Rows L2
noncomputable section
/-! ### dicts -/
def keyOf : D → Option Key
  | .int i => some (.inl i)
  | .str x => some (.inr x)
  | _ => none
def keyD : Key → D
  | .inl i => .int i
  | .inr x => .str x
theorem keyOf_ok {K : PySem.W.Frag} {φ : List Addr} {S : Hp} {v : V} {d : D} {k : Key} (r : Rp K φ S v d) (e : keyOf d = some k) : v = kV k := by
  cases r <;> cases e <;> rfl
theorem keyD_ok {K : PySem.W.Frag} {φ : List Addr} {S : Hp} (k : Key) : Rp K φ S (kV k) (keyD k) := by
  cases k with
  | inl i => exact .int i
  | inr x => exact .str x
def getD (kvs : List (Key × D)) (k : Key) : Option D := (kvs.find? fun p => decide (p.1 = k)).map (·.2)
def putD (kvs : List (Key × D)) (k : Key) (d : D) : List (Key × D) := if (kvs.any fun p => decide (p.1 = k)) = true then kvs.map (fun p => if p.1 = k then (p.1, d) else p) else kvs ++ [(k, d)]
def dropD (kvs : List (Key × D)) (k : Key) : List (Key × D) := kvs.filter fun p => decide (p.1 ≠ k)
inductive RpK (K : PySem.W.Frag) (φ : List Addr) (S : Hp) : List (Key × V) → List (Key × D) → Prop where
  | nil : RpK K φ S [] []
  | cons {k : Key} {v : V} {d : D} {kv : List (Key × V)} {kd : List (Key × D)} : Rp K φ S v d → RpK K φ S kv kd → RpK K φ S ((k, v) :: kv) ((k, d) :: kd)
section
variable {K : PySem.W.Frag} {φ : List Addr} {S H : Hp} {h : Hv} {kv : List (Key × V)} {kd : List (Key × D)}
theorem RpK.of : ∀ {kv : List (Key × V)} {kd : List (Key × D)}, kv.map (·.1) = kd.map (·.1) → RpA K φ S (kv.map (·.2)) (kd.map (·.2)) → RpK K φ S kv kd
  | [], [], _, _ => .nil
  | [], _ :: _, e, _ => nomatch e
  | _ :: _, [], e, _ => nomatch e
  | (k, v) :: kv, (j, d) :: kd, e, r => by
    rw [List.map_cons, List.map_cons] at e r
    injection e with e1 e2
    have e1 : k = j := e1
    subst e1
    cases r with
    | cons r t => exact .cons r (RpK.of e2 t)
theorem RpK.to (r : RpK K φ S kv kd) : kv.map (·.1) = kd.map (·.1) ∧ RpA K φ S (kv.map (·.2)) (kd.map (·.2)) := by
  induction r with
  | nil => exact ⟨rfl, .nil⟩
  | cons r _ ih => exact ⟨by rw [List.map_cons, List.map_cons, ih.1], .cons r ih.2⟩
theorem RpK.len (r : RpK K φ S kv kd) : kv.length = kd.length := by
  have := congrArg List.length r.to.1
  rw [List.length_map, List.length_map] at this
  exact this
theorem RpK.get (r : RpK K φ S kv kd) (k : Key) : (getD kd k = none ∧ valV kv k = none) ∨ ∃ d v, getD kd k = some d ∧ valV kv k = some v ∧ Rp K φ S v d := by
  induction r with
  | nil => exact .inl ⟨rfl, rfl⟩
  | @cons j v d kv kd r _ ih =>
    by_cases q : j = k
    · refine .inr ⟨d, v, ?_, ?_, r⟩
      · unfold getD; rw [List.find?_cons_of_pos (by exact decide_eq_true q)]; rfl
      · unfold valV; rw [List.find?_cons_of_pos (by exact decide_eq_true q)]; rfl
    · unfold getD valV at ih ⊢
      rw [List.find?_cons_of_neg (by exact fun z => q (of_decide_eq_true z)), List.find?_cons_of_neg (by exact fun z => q (of_decide_eq_true z))]
      exact ih
theorem RpK.any (r : RpK K φ S kv kd) (k : Key) : (kv.any fun p => decide (p.1 = k)) = (kd.any fun p => decide (p.1 = k)) := by
  induction r with
  | nil => rfl
  | cons r _ ih => rw [List.any_cons, List.any_cons, ih]
theorem RpK.rep (r : RpK K φ S kv kd) (k : Key) {v : V} {d : D} (rv : Rp K φ S v d) : RpK K φ S (kv.map fun p => if p.1 = k then (p.1, v) else p) (kd.map fun p => if p.1 = k then (p.1, d) else p) := by
  induction r with
  | nil => exact .nil
  | @cons j w e kv kd r _ ih =>
    rw [List.map_cons, List.map_cons]
    by_cases q : j = k
    · rw [if_pos q, if_pos q]
      exact .cons rv ih
    · rw [if_neg q, if_neg q]
      exact .cons r ih
theorem RpK.snoc (r : RpK K φ S kv kd) (k : Key) {v : V} {d : D} (rv : Rp K φ S v d) : RpK K φ S (kv ++ [(k, v)]) (kd ++ [(k, d)]) := by
  induction r with
  | nil => exact .cons rv .nil
  | cons r _ ih => exact .cons r ih
theorem RpK.put (r : RpK K φ S kv kd) (k : Key) {v : V} {d : D} (rv : Rp K φ S v d) : RpK K φ S (putK kv k v) (putD kd k d) := by
  unfold putK putD
  rw [r.any k]
  split
  · exact r.rep k rv
  · exact r.snoc k rv
theorem RpK.drop (r : RpK K φ S kv kd) (k : Key) : RpK K φ S (dropK kv k) (dropD kd k) := by
  unfold dropK dropD
  induction r with
  | nil => exact .nil
  | @cons j w e kv kd r _ ih =>
    by_cases q : j = k
    · rw [List.filter_cons_of_neg (by simp [q]), List.filter_cons_of_neg (by simp [q])]
      exact ih
    · rw [List.filter_cons_of_pos (by simp [q]), List.filter_cons_of_pos (by simp [q])]
      exact .cons r ih
theorem RpK.at (r : RpK K φ S kv kd) {i : Nat} {k : Key} {d : D} (e : kd[i]? = some (k, d)) : ∃ v, kv[i]? = some (k, v) ∧ Rp K φ S v d := by
  induction r generalizing i with
  | nil => simp at e
  | cons r _ ih =>
    cases i with
    | zero =>
      rw [List.getElem?_cons_zero] at e ⊢
      cases e
      exact ⟨_, rfl, r⟩
    | succ i =>
      rw [List.getElem?_cons_succ] at e ⊢
      exact ih e
/-- a dict to be read -/
def kvOf (h : Hv) : D → Option (List (Key × D))
  | .cell n => match h[n]? with
    | some (.dK kvs) => some kvs
    | some (.dF kvs) => some kvs
    | _ => none
  | .dct ks ds => if ks.length = ds.length then some (ks.zip ds) else none
  | _ => none
theorem zip_1 : ∀ {ks : List Key} {ds : List D}, ks.length = ds.length → (ks.zip ds).map (·.1) = ks ∧ (ks.zip ds).map (·.2) = ds
  | [], [], _ => ⟨rfl, rfl⟩
  | [], _ :: _, e => nomatch e
  | _ :: _, [], e => nomatch e
  | k :: ks, d :: ds, e => by
    obtain ⟨a, b⟩ := zip_1 (ks := ks) (ds := ds) (Nat.succ.inj e)
    exact ⟨by rw [List.zip_cons_cons, List.map_cons, a], by rw [List.zip_cons_cons, List.map_cons, b]⟩
theorem kvOf_ok (rl : Rel K φ S H h) {d : D} {v : V} (r : Rp K φ S v d) (e : kvOf h d = some kd) : ∃ a kv, v = .ref a ∧ Rd H a (.dK kv) ∧ RpK K φ S kv kd := by
  cases r with
  | @cell a n h1 =>
    obtain ⟨c, hc⟩ := rl.at h1
    obtain ⟨_, o, ho, rc⟩ := rl.cel _ _ _ h1 hc
    simp only [kvOf] at e
    rw [hc] at e
    cases c with
    | dK kvs =>
      obtain ⟨kv, rfl, ek, ra⟩ := rc
      cases e
      exact ⟨a, kv, rfl, .inl ho, .of ek ra⟩
    | dF kvs =>
      obtain ⟨od, kv, rfl, ek, ra⟩ := rc
      cases e
      exact ⟨a, kv, rfl, .inr ⟨od, ho⟩, .of ek ra⟩
    | lst xs => cases e
    | ins C fs => cases e
    | dN w kvs => cases e
  | @dct a od kv ks ds h1 h2 h3 =>
    simp only [kvOf] at e
    split at e
    · next q =>
      cases e
      obtain ⟨z1, z2⟩ := zip_1 q
      exact ⟨a, kv, rfl, .inr ⟨od, rl.sub _ _ h1⟩, .of (by rw [z1]; exact h2) (by rw [z2]; exact h3)⟩
    · cases e
  | _ => cases e
def oDget : D → D → Hv → R D := fun x y h => match kvOf h x, keyOf y with
  | some kd, some k => (match getD kd k with
    | some d => .ok d h
    | none => .stuck)
  | _, _ => .stuck
def oDin : D → D → Hv → R D := fun y x h => match kvOf h x, keyOf y with
  | some kd, some k => .ok (.bl (getD kd k).isSome) h
  | _, _ => .stuck
def oDnin : D → D → Hv → R D := fun y x h => match kvOf h x, keyOf y with
  | some kd, some k => .ok (.bl (!(getD kd k).isSome)) h
  | _, _ => .stuck
end
section
variable {X : Cx} {W : WX} {o i e f value : Expr} {fo fi fe fv : ES} {pos pos' apos cpos : Pos}
theorem sn_din {ty td : TE} {neg : Bool} (h2 : Sn X.K (repV X.K) W ty fi) (k2 : Sn X.K (repV X.K) W td fo) : Sn X.K (repV X.K) W (fun σ H Q => ty σ H fun y H1 => td σ H1 fun x H2 => ∃ a o, x = .ref a ∧ DGet H2 a y o ∧ Q (.bl (if neg then !o.isSome else o.isSome)) H2) (eOp (if neg then oDnin else oDin) fi fo) := ⟨fun rl rs post =>
  h2.bind rl rs post fun y h1 v φ1 S1 H1 rl1 rs1 st rp post =>
  k2.bind rl1 rs1 post fun x h2 u φ2 S2 H2 rl2 rs2 st2 rp2 post => by
    have rv : Rp X.K φ2 S2 v y := Rp.mono st2.prefix st2.sub rp
    cases qx : kvOf h2 x with
    | none => cases neg <;> simp only [Bool.false_eq_true, if_false, if_true, oDin, oDnin, qx] at post <;> exact post.elim
    | some kd =>
      cases qk : keyOf y with
      | none => cases neg <;> simp only [Bool.false_eq_true, if_false, if_true, oDin, oDnin, qx, qk] at post <;> exact post.elim
      | some k =>
        obtain ⟨a, kv, rfl, ha, rk⟩ := kvOf_ok rl2 rp2 qx
        have ev := keyOf_ok rv qk
        subst ev
        refine ⟨a, valV kv k, rfl, .inl ⟨kv, k, ha, rfl, rfl⟩, ?_⟩
        have ei : (valV kv k).isSome = (getD kd k).isSome := by
          rcases rk.get k with ⟨g1, g2⟩ | ⟨d, w, g1, g2, _⟩
          · rw [g1, g2]; rfl
          · rw [g1, g2]; rfl
        cases neg with
        | false =>
          simp only [oDin, qx, qk, Bool.false_eq_true, if_false] at post ⊢
          rw [ei]
          exact post _ φ2 S2 H2 rl2 (Step.refl _ _ _) (.bl _)
        | true =>
          simp only [oDnin, qx, qk, if_true] at post ⊢
          rw [ei]
          exact post _ φ2 S2 H2 rl2 (Step.refl _ _ _) (.bl _)⟩
theorem se_din (hu : X.A.units + 1 < cLine) (hi : SE X W i fi) (ho : SE X W o fo) (hm : behindInMarks .In o = false := by rfl) : SE X W (.Compare i [.In] [o] pos) (eOp oDin fi fo) := by
  obtain ⟨ti, h1, h2⟩ := hi
  obtain ⟨to, k1, k2⟩ := ho
  exact ⟨_, pe_cmp (pc_din hu h1 k1) hm, sn_din (neg := false) h2 k2⟩
theorem se_dnin (hu : X.A.units + 1 < cLine) (hi : SE X W i fi) (ho : SE X W o fo) (hm : behindInMarks .NotIn o = false := by rfl) : SE X W (.Compare i [.NotIn] [o] pos) (eOp oDnin fi fo) := by
  obtain ⟨ti, h1, h2⟩ := hi
  obtain ⟨to, k1, k2⟩ := ho
  exact ⟨_, pe_cmp (pc_dnotin hu h1 k1) hm, sn_din (neg := true) h2 k2⟩
theorem st_din (hu : X.A.units + 1 < cLine) (hi : SE X W i fi) (ho : SE X W o fo) (hm : behindInMarks .In o = false := by rfl) : ST X W (.Compare i [.In] [o] pos) (toB (eOp oDin fi fo)) := by
  obtain ⟨ti, h1, h2⟩ := hi
  obtain ⟨to, k1, k2⟩ := ho
  exact ⟨_, pt_cmp (pc_din hu h1 k1) hm, sn_B (sn_din (neg := false) h2 k2)⟩
theorem st_dnin (hu : X.A.units + 1 < cLine) (hi : SE X W i fi) (ho : SE X W o fo) (hm : behindInMarks .NotIn o = false := by rfl) : ST X W (.Compare i [.NotIn] [o] pos) (toB (eOp oDnin fi fo)) := by
  obtain ⟨ti, h1, h2⟩ := hi
  obtain ⟨to, k1, k2⟩ := ho
  exact ⟨_, pt_cmp (pc_dnotin hu h1 k1) hm, sn_B (sn_din (neg := true) h2 k2)⟩
theorem se_dget (hu : X.A.units + 1 < cLine) (ho : SE X W o fo) (hi : SE X W i fi) (hs : NoSl i := by intro _ _; rfl) : SE X W (.Subscript o i pos) (eOp oDget fo fi) := by
  obtain ⟨to, h1, h2⟩ := ho
  obtain ⟨ti, k1, k2⟩ := hi
  refine ⟨_, pe_dget hu h1 k1 hs, ⟨fun rl rs post =>
    h2.bind rl rs post fun x h1 v φ1 S1 H1 rl1 rs1 st rp post =>
    k2.bind rl1 rs1 post fun y h2 u φ2 S2 H2 rl2 rs2 st2 rp2 post => ?_⟩⟩
  have rv : Rp X.K φ2 S2 v x := Rp.mono st2.prefix st2.sub rp
  cases qx : kvOf h2 x with
  | none => simp only [oDget, qx] at post; exact post.elim
  | some kd =>
    cases qk : keyOf y with
    | none => simp only [oDget, qx, qk] at post; exact post.elim
    | some k =>
      obtain ⟨a, kv, rfl, ha, rk⟩ := kvOf_ok rl2 rv qx
      have ev := keyOf_ok rp2 qk
      subst ev
      rcases rk.get k with ⟨g1, g2⟩ | ⟨d, w, g1, g2, rd⟩
      · simp only [oDget, qx, qk, g1] at post; exact post.elim
      · simp only [oDget, qx, qk, g1] at post
        refine ⟨a, w, rfl, ?_, post w φ2 S2 H2 rl2 (Step.refl _ _ _) rd⟩
        exact .inl ⟨kv, k, ha, rfl, g2.symm⟩
/-- d[i] = v -/
def sDput (fv fo fi : ES) : SS := fun σ h => (fv σ h).then σ fun d h1 => (fo σ h1).then σ fun x h2 => (fi σ h2).then σ fun y h3 => match x, keyOf y with
  | .cell n, some k => (match h3[n]? with
    | some (.dK kd) => if kd.length < 16777216 then .next σ (h3.set n (.dK (putD kd k d))) else .stuck
    | _ => .stuck)
  | _, _ => .stuck
theorem qs_dput (hu : X.A.units + 1 < cLine) (hv : SE X W value fv) (ho : SE X W o fo) (hi : SE X W i fi) (hs : swapsWith value (some (.Subscript o i pos')) pos.line X.env = pure false := by rfl) : QS X W (.Assign [.Subscript o i pos'] value pos) (sDput fv fo fi) := by
  obtain ⟨tv, h1, h2⟩ := hv
  obtain ⟨to, k1, k2⟩ := ho
  obtain ⟨ti, l1, l2⟩ := hi
  refine ⟨_, ps_dput hu k1 l1 h1 hs, ⟨fun rl rs post =>
    h2.thenS rl rs post fun d h1 v φ1 S1 H1 rl1 rs1 st1 rp1 post =>
    k2.thenS rl1 rs1 post fun x h2 u φ2 S2 H2 rl2 rs2 st2 rp2 post =>
    l2.thenS rl2 rs2 post fun y h3 w φ3 S3 H3 rl3 rs3 st3 rp3 post => ?_⟩⟩
  cases qk : keyOf y with
  | none =>
    cases x <;> (simp only [qk] at post; exact post.elim)
  | some k =>
    cases x with
    | cell n =>
      cases hx : h3[n]? with
      | none => simp only [qk, hx] at post; exact post.elim
      | some c =>
        cases c with
        | lst xs => simp only [qk, hx] at post; exact post.elim
        | dF kd => simp only [qk, hx] at post; exact post.elim
        | ins c fs => simp only [qk, hx] at post; exact post.elim
        | dN w kvs => simp only [qk, hx] at post; exact post.elim
        | dK kd =>
          simp only [qk, hx] at post
          by_cases hl : kd.length < 16777216
          · rw [if_pos hl] at post
            cases (show Rp X.K φ2 S2 u (.cell n) from rp2) with
            | @cell a _ ha =>
              have ha3 := st3.prefix.at ha
              obtain ⟨_, o', ho', rc⟩ := rl3.cel n a (.dK kd) ha3 hx
              obtain ⟨kv, rfl, ek, ra⟩ := rc
              have rk : RpK X.K φ3 S3 kv kd := .of ek ra
              have ev := keyOf_ok rp3 qk
              subst ev
              have rv : Rp X.K φ3 S3 v d := Rp.mono st3.prefix st3.sub (Rp.mono st2.prefix st2.sub rp1)
              have rk2 := (rk.put k rv).to
              obtain ⟨r4, s4⟩ := rl3.put (o := .dK (putK kv k v)) (c := .dK (putD kd k d)) ha3 ⟨_, rfl, rk2.1, rk2.2⟩
              exact ⟨a, _, rfl, DPut.k ho' (by rw [rk.len, line_eq]; exact hl), post _ φ3 S3 _ r4 (rs3.step s4) s4⟩
          · rw [if_neg hl] at post
            exact post.elim
    | _ => simp only [qk] at post; exact post.elim
/-- {} -/
def eDnew : ES := fun _ h => .ok (.cell h.length) (h ++ [.dK []])
theorem se_dnew : SE X W (.Dict [] [] pos) eDnew := ⟨_, pe_dnewK, ⟨fun {φ S H h σv σ Q} rl rs post => fun p hp => by
  obtain ⟨r2, s2⟩ := rl.hold (o := .dK []) hp
  have r3 := r2.celled (c := .dK []) upd_same (rl.snone hp) (rl.notin hp) ⟨[], rfl, rfl, .nil⟩
  exact post (.ref p) _ _ _ r3 (s2.celled hp) (.cell (by rw [← rl.len, List.getElem?_append_right (Nat.le_refl _), Nat.sub_self]; rfl))⟩⟩
/-- a dict that changes no more -/
def eLock (f : ES) : ES := fun σ h => (f σ h).bind fun d h1 => match d with
  | .cell n => (match h1[n]? with
    | some (.dK kd) => .ok (.cell n) (h1.set n (.dF kd))
    | _ => .stuck)
  | _ => .stuck
theorem pe_lockP {t : TE} (he : PE X e t) : PE X e (fun σ H Q => t σ H fun v H1 => ∃ d u, H1 d = some u ∧ Mut (some u) ∧ ∀ od, Q v (upd H1 d (.frz od u))) := by
  constructor
  intro pins s σ H Q I rd
  refine thn (he.run pins s σ H _ I rd) fun v s1 z => ?_
  obtain ⟨x, H1, I1, rx, d, u, hd, mu, q⟩ := z
  obtain ⟨od, I2⟩ := I1.lock hd mu
  exact ⟨x, _, I2, rx, q od⟩
theorem se_lock (he : SE X W e fe) : SE X W e (eLock fe) := by
  obtain ⟨te, h1, h2⟩ := he
  refine ⟨_, pe_lockP h1, ⟨fun rl rs post => h2.bind rl rs post fun d h1 v φ1 S1 H1 rl1 rs1 st rp post => ?_⟩⟩
  cases d with
  | cell n =>
    cases hx : h1[n]? with
    | none => simp only [hx] at post; exact post.elim
    | some c =>
      cases c with
      | dK kd =>
        simp only [hx] at post
        cases (show Rp X.K φ1 S1 v (.cell n) from rp) with
        | @cell a _ ha =>
          obtain ⟨_, o', ho', kv, rfl, ek, ra⟩ := rl1.cel n a (.dK kd) ha hx
          refine ⟨a, _, ho', True.intro, fun od => ?_⟩
          obtain ⟨r4, s4⟩ := rl1.put (o := .frz od (.dK kv)) (c := .dF kd) ha ⟨od, kv, rfl, ek, ra⟩
          exact post (.ref a) φ1 S1 _ r4 s4 (.cell ha)
      | _ => simp only [hx] at post; exact post.elim
  | _ => exact post.elim
/-- the keys of a dict that changes no more -/
def iD (f : ES) : IS := fun σ h => (f σ h).bind fun d h1 => match d with
  | .dct ks ds => .ok (ks.map keyD, always) h1
  | _ => .stuck
theorem qi_dict {tg : Expr} (he : SE X W e fe) : QI X W tg e (iD fe) := by
  obtain ⟨te, h1, h2⟩ := he
  refine ⟨_, pi_keys h1, ⟨fun rl rs post => h2.bind rl rs post fun d h1 v φ1 S1 H1 rl1 rs1 st rp post => ?_⟩⟩
  cases d with
  | dct ks ds =>
    cases (show Rp X.K φ1 S1 v (.dct ks ds) from rp) with
    | @dct a od kv _ _ g1 g2 g3 =>
      refine ⟨a, od, rfl, .inl ⟨kv, rl1.sub _ _ g1, post (Itk a od kv) φ1 S1 H1 rl1 (Step.refl _ _ _) ⟨fun {i φ S H h} r2 pr ex _ hi => ?_, fun {φ S H h} r2 pr ex _ => ?_⟩⟩⟩
      · rw [List.length_map, ← g2, List.length_map] at hi
        refine ⟨⟨r2.sub _ _ (ex _ _ g1), hi⟩, fun x H' y => ?_⟩
        obtain ⟨rfl, k, w, hk, rfl⟩ := y
        refine ⟨S, keyD k, ?_, r2, Step.refl _ _ _, keyD_ok k⟩
        rw [← g2, List.map_map, List.getElem?_map, hk]
        rfl
      · refine ⟨r2.sub _ _ (ex _ _ g1), ?_⟩
        rw [List.length_map, ← g2, List.length_map]
        exact Nat.le_refl _
  | _ => exact post.elim
/-! displays -/
abbrev PSd := VS → Hv → R (List (D × D))
def repP (K : PySem.W.Frag) : Rep (List (D × D)) (List (V × V)) := fun _ φ' S' _ b a => RpA K φ' S' (b.map (·.1)) (a.map (·.1)) ∧ RpA K φ' S' (b.map (·.2)) (a.map (·.2))
instance {K : PySem.W.Frag} : Rep.Up (repP K) := ⟨fun _ h => h⟩
def SP (X : Cx) (W : WX) (pos : Pos) (ks : List (Option Expr)) (vs : List Expr) (g : PSd) : Prop := ∃ trs, PPs X pos ks vs trs ∧ Sn X.K (repP X.K) W (tPairs trs) g
def pNil : PSd := fun _ h => .ok [] h
def pCons (fk fv : ES) (g : PSd) : PSd := fun σ h => (fk σ h).bind fun k h1 => (fv σ h1).bind fun v h2 => (g σ h2).bind fun r h3 => .ok ((k, v) :: r) h3
theorem sp_nil : SP X W pos [] [] pNil := ⟨[], pps_nil, ⟨fun {φ S H h σv σ Q} rl rs post => post [] φ S H rl (Step.refl _ _ _) ⟨.nil, .nil⟩⟩⟩
theorem sp_cons {ks : List (Option Expr)} {vs : List Expr} {g : PSd} (hk : SE X W i fi) (hv : SE X W value fv) (hr : SP X W pos ks vs g) : SP X W pos (some i :: ks) (value :: vs) (pCons fi fv g) := by
  obtain ⟨tk, a1, a2⟩ := hk
  obtain ⟨tv, b1, b2⟩ := hv
  obtain ⟨trs, c1, c2⟩ := hr
  exact ⟨_, pps_cons a1 b1 c1, ⟨fun rl rs post =>
    a2.bind rl rs post fun k h1 u φ1 S1 H1 rl1 rs1 st rp post =>
    b2.bind rl1 rs1 post fun v h2 w φ2 S2 H2 rl2 rs2 st2 rp2 post =>
    c2.bind rl2 rs2 post fun r h3 z φ3 S3 H3 rl3 rs3 st3 rp3 post =>
      post ((u, w) :: z) φ3 S3 H3 rl3 (Step.refl _ _ _) ⟨.cons (Rp.mono st3.prefix st3.sub (Rp.mono st2.prefix st2.sub rp)) rp3.1, .cons (Rp.mono st3.prefix st3.sub rp2) rp3.2⟩⟩⟩
def mergeD (kd more : List (Key × D)) : List (Key × D) := more.foldl (fun acc p => putD acc p.1 p.2) kd
theorem RpK.merge {K : PySem.W.Frag} {φ : List Addr} {S : Hp} {more : List (Key × V)} {mored : List (Key × D)} (r2 : RpK K φ S more mored) : ∀ {kv : List (Key × V)} {kd : List (Key × D)}, RpK K φ S kv kd → RpK K φ S (mergeK kv more) (mergeD kd mored) := by
  induction r2 with
  | nil => intro kv kd r; exact r
  | cons r _ ih => intro kv kd r0; exact ih (r0.put _ r)
def keyP (p : D × D) : Option (Key × D) := (keyOf p.1).map fun k => (k, p.2)
theorem keyPs_ok {K : PySem.W.Frag} {φ : List Addr} {S : Hp} : ∀ {b : List (V × V)} {a : List (D × D)} {kd : List (Key × D)}, RpA K φ S (b.map (·.1)) (a.map (·.1)) → RpA K φ S (b.map (·.2)) (a.map (·.2)) → optAll keyP a = some kd → ∃ kv : List (Key × V), b = kv.map (fun p => (kV p.1, p.2)) ∧ RpK K φ S kv kd
  | [], [], kd, _, _, e => by
    cases e
    exact ⟨[], rfl, .nil⟩
  | [], _ :: _, _, r, _, _ => by cases r
  | _ :: _, [], _, r, _, _ => by cases r
  | (u, w) :: b, (k, d) :: a, kd, r1, r2, e => by
    rw [List.map_cons, List.map_cons] at r1 r2
    cases r1 with
    | cons q1 t1 =>
      cases r2 with
      | cons q2 t2 =>
        simp only [optAll] at e
        cases hk : keyOf k with
        | none => simp only [keyP, hk, Option.map_none] at e; cases e
        | some k0 =>
          simp only [keyP, hk, Option.map_some] at e
          cases hr : optAll keyP a with
          | none => simp only [hr] at e; cases e
          | some kd0 =>
            simp only [hr] at e
            cases e
            obtain ⟨kv, rfl, rk⟩ := keyPs_ok t1 t2 hr
            have ev : u = kV k0 := keyOf_ok q1 hk
            refine ⟨(k0, w) :: kv, ?_, .cons q2 rk⟩
            rw [List.map_cons, ev]
def eDisp (g : PSd) : ES := fun σ h => (g σ h).bind fun ps h1 => match optAll keyP ps with
  | some kd => if kd.length ≤ 15 then .ok (.cell h1.length) (h1 ++ [.dK (mergeD [] kd)]) else .stuck
  | none => .stuck
theorem sn_disp {trs : List (TE × TE)} {g : PSd} {α : Type} {rep : Rep α V} {fin : List (Key × D) → Hv → R α} {φ : List Addr} {S H : Hp} {h : Hv} {σv : VS} {σ : L2.St} {E : XK} {T : V → Hp → Prop} {p : Addr} (h2 : Sn X.K (repP X.K) W (tPairs trs) g) (rl : Rel X.K φ S H h) (rs : RelS X.K φ S σv σ) (hp : H p = none)
    (post : ∀ cls dd φ' S' H' h' x, g σv h = .exc x h' → Rel X.K φ' S' H' h' → Step φ S H φ' S' H' → RpX X.K φ' S' H' x cls dd → W cls dd σ H')
    (ok : ∀ ps h' kd (kv : List (Key × V)) φ' S' H', g σv h = .ok ps h' → optAll keyP ps = some kd → Rel X.K φ' S' H' h' → Step φ S (upd H p (.dK [])) φ' S' H' → RpK X.K φ' S' kv kd → S' p = none → p ∉ φ' → H' p = some (.dK []) → kv.length ≤ 15 ∧ T (.ref p) (upd H' p (.dK (mergeK [] kv))))
    (good : ∃ ps h' kd, g σv h = .ok ps h' ∧ optAll keyP ps = some kd ∨ ∃ x, g σv h = .exc x h') :
    tPairs trs σ (upd H p (.dK [])) fun ps H2 => H2 p = some (.dK []) ∧ ∃ kvs : List (Key × V), ps = kvs.map (fun kv => (kV kv.1, kv.2)) ∧ kvs.length ≤ 15 ∧ T (.ref p) (upd H2 p (.dK (mergeK [] kvs))) := by
  obtain ⟨r0, s0⟩ := rl.hold (o := .dK []) hp
  have sp := rl.snone hp
  have np := rl.notin hp
  refine h2.run r0 (rs.step s0) ?_
  cases hg : g σv h with
  | stuck =>
    obtain ⟨ps, h', kd, ⟨e, _⟩ | ⟨x, e⟩⟩ := good
    · rw [hg] at e; cases e
    · rw [hg] at e; cases e
  | exc x h' => exact fun cls dd φ' S' H' r2 st rx => post cls dd φ' S' H' h' x hg r2 (s0.trans st) rx
  | ok ps h' =>
    intro b φ' S' H' r2 st rp
    obtain ⟨ps2, h2', kd, ⟨e, hk⟩ | ⟨x, e⟩⟩ := good
    · rw [hg] at e
      cases e
      obtain ⟨kv, rfl, rk⟩ := keyPs_ok rp.1 rp.2 hk
      have np' : p ∉ φ' := by
        obtain ⟨ψ, e, hn⟩ := st.pre
        rw [e]
        intro z
        rcases List.mem_append.mp z with z | z
        · exact np z
        · have := hn p z
          rw [upd_same] at this
          cases this
      have hp' : H' p = some (.dK []) := st.keep p _ upd_same np
      have sp' : S' p = none := (st.old p (by rw [upd_same]; exact fun z => nomatch z)).trans sp
      obtain ⟨z1, z2⟩ := ok ps h' kd kv φ' S' H' hg hk r2 st rk sp' np' hp'
      exact ⟨hp', kv, rfl, z1, z2⟩
    · rw [hg] at e; cases e
theorem upd_rel {K : PySem.W.Frag} {φ : List Addr} {S H : Hp} {h : Hv} (r : Rel K φ S H h) {p : Addr} {o : HO} (sp : S p = none) (np : p ∉ φ) : Rel K φ S (upd H p o) h := ⟨r.len, fun c u e => by
    have q : c ≠ p := fun z => by rw [z, sp] at e; cases e
    rw [upd_ne q]
    exact r.sub c u e, r.nd, fun n c x e1 e2 => by
    obtain ⟨z1, o, z2, z3⟩ := r.cel n c x e1 e2
    have q : c ≠ p := fun z => np (by rw [← z]; exact List.mem_of_getElem? e1)
    exact ⟨z1, o, by rw [upd_ne q]; exact z2, z3⟩⟩
theorem upd_step {φ φ' : List Addr} {S H S' H' : Hp} (st : Step φ S H φ' S' H') {p : Addr} {o : HO} (hp : H p = none) : Step φ S H φ' S' (upd H' p o) := ⟨st.pre, st.sub, st.old, fun a u e hn => by
    have q : a ≠ p := ne_of_none e hp
    rw [upd_ne q]
    exact st.keep a u e hn, fun a ha => by
    by_cases q : a = p
    · rw [q, upd_same]; exact fun z => nomatch z
    · rw [upd_ne q]; exact st.there a ha⟩
theorem se_disp {ks : List (Option Expr)} {vs : List Expr} {g : PSd} (h : SP X W pos ks vs g) (hall : ks.all (·.isSome) = true := by rfl) (hl : ks.length = vs.length := by rfl) (h0 : ks ≠ [] := by exact fun z => nomatch z) (h15 : ks.length ≤ 15 := by decide) : SE X W (.Dict ks vs pos) (eDisp g) := by
  obtain ⟨trs, h1, h2⟩ := h
  refine ⟨_, pe_disp h1 hall hl h0 h15, ⟨fun {φ S H h σv σ Q} rl rs post p hp => ?_⟩⟩
  obtain ⟨_, s0⟩ := rl.hold (o := .dK []) hp
  unfold eDisp at post
  refine sn_disp (rep := repV X.K) (fin := fun _ _ => .stuck) (E := fun c d H' => W c d σ H') h2 rl rs hp (fun cls dd φ' S' H' h' x e r2 st rx => ?_) (fun ps h' kd kv φ' S' H' e hk r2 st rk sp' np' hp' => ?_) ?_
  · rw [e] at post
    exact post cls dd φ' S' H' r2 st rx
  · rw [e, R.bind_ok] at post
    simp only [hk] at post
    by_cases hz : kd.length ≤ 15
    · rw [if_pos hz] at post
      have rm := ((rk.merge .nil).to : _)
      have r4 := (upd_rel (o := .dK (mergeK [] kv)) r2 sp' np').celled (c := .dK (mergeD [] kd)) upd_same sp' np' ⟨_, rfl, rm.1, rm.2⟩
      exact ⟨by rw [rk.len]; exact hz, post (.ref p) _ _ _ r4 ((upd_step (s0.trans st) hp).celled hp) (.cell (by rw [← r2.len, List.getElem?_append_right (Nat.le_refl _), Nat.sub_self]; rfl))⟩
    · rw [if_neg hz] at post
      exact post.elim
  · cases hg : g σv h with
    | stuck => rw [hg] at post; exact post.elim
    | exc x h' => exact ⟨[], h', [], .inr ⟨x, rfl⟩⟩
    | ok ps h' =>
      rw [hg, R.bind_ok] at post
      cases hk : optAll keyP ps with
      | none => simp only [hk] at post; exact post.elim
      | some kd => exact ⟨ps, h', kd, .inl ⟨rfl, hk⟩⟩
/-- a display that changes no more -/
def eDispF (g : PSd) : ES := fun σ h => (g σ h).bind fun ps h1 => match optAll keyP ps with
  | some kd => if kd.length ≤ 15 then .ok (.dct ((mergeD [] kd).map (·.1)) ((mergeD [] kd).map (·.2))) h1 else .stuck
  | none => .stuck
theorem se_dispF {ks : List (Option Expr)} {vs : List Expr} {g : PSd} (h : SP X W pos ks vs g) (hall : ks.all (·.isSome) = true := by rfl) (hl : ks.length = vs.length := by rfl) (h0 : ks ≠ [] := by exact fun z => nomatch z) (h15 : ks.length ≤ 15 := by decide) : SE X W (.Dict ks vs pos) (eDispF g) := by
  obtain ⟨trs, h1, h2⟩ := h
  refine ⟨_, pe_lockP (pe_disp h1 hall hl h0 h15), ⟨fun {φ S H h σv σ Q} rl rs post p hp => ?_⟩⟩
  obtain ⟨_, s0⟩ := rl.hold (o := .dK []) hp
  unfold eDispF at post
  refine sn_disp (T := fun v H1 => ∃ d u, H1 d = some u ∧ Mut (some u) ∧ ∀ (od : Obj), Q v (upd H1 d (.frz od u))) (rep := repV X.K) (fin := fun _ _ => .stuck) (E := fun c d H' => W c d σ H') h2 rl rs hp (fun cls dd φ' S' H' h' x e r2 st rx => ?_) (fun ps h' kd kv φ' S' H' e hk r2 st rk sp' np' hp' => ?_) ?_
  · rw [e] at post
    exact post cls dd φ' S' H' r2 st rx
  · rw [e, R.bind_ok] at post
    simp only [hk] at post
    by_cases hz : kd.length ≤ 15
    · rw [if_pos hz] at post
      have rm := ((rk.merge .nil).to : _)
      refine ⟨by rw [rk.len]; exact hz, p, _, upd_same, True.intro, fun od => ?_⟩
      rw [upd_upd]
      have r4 := (upd_rel (o := .frz od (.dK (mergeK [] kv))) r2 sp' np').still upd_same sp' np'
      exact post (.ref p) _ _ _ r4 ((upd_step (s0.trans st) hp).still hp sp') (.dct upd_same rm.1 (rm.2.mono (Pre.refl _) (Ex.new sp')))
    · rw [if_neg hz] at post
      exact post.elim
  · cases hg : g σv h with
    | stuck => rw [hg] at post; exact post.elim
    | exc x h' => exact ⟨[], h', [], .inr ⟨x, rfl⟩⟩
    | ok ps h' =>
      rw [hg, R.bind_ok] at post
      cases hk : optAll keyP ps with
      | none => simp only [hk] at post; exact post.elim
      | some kd => exact ⟨ps, h', kd, .inl ⟨rfl, hk⟩⟩
/-! d.pop(k) -/
def eDpop (fo fi : ES) : ES := fun σ h => (fo σ h).bind fun x h1 => match kvOf h1 x with
  | some _ => (fi σ h1).bind fun y h2 => (match x, keyOf y with
    | .cell n, some k => (match h2[n]? with
      | some (.dK kd) => (match getD kd k with
        | some d => .ok d (h2.set n (.dK (dropD kd k)))
        | none => .stuck)
      | _ => .stuck)
    | _, _ => .stuck)
  | none => .stuck
theorem se_dpop (ho : SE X W o fo) (hi : SE X W i fi) (hbase : attributeBase o "pop" X.env (eval o X.env) = eval o X.env := by rfl)
    (hfew : ((backTo cpos (starEach [i] X.env)).all (fun x => !x.1) && (backToKw cpos (keywordEach [] X.env)).all (fun x => x.1.isSome) && decide (([i] : List Expr).length + ([] : List Keyword).length + (if ([] : List Keyword).isEmpty then 0 else 1) < 30)) = true := by rfl)
    (hline : (apos.endLine == cpos.line) = true := by rfl) (htr : backTo cpos (starEach [i] X.env) = [(false, eval i X.env)] := by rfl) : SE X W (.Call (.Attribute o "pop" apos) [i] [] cpos) (eDpop fo fi) := by
  obtain ⟨to, h1, h2⟩ := ho
  obtain ⟨ti, k1, k2⟩ := hi
  refine ⟨_, pe_dpop1 h1 k1 ⟨hbase, hfew, hline, htr⟩, ⟨fun rl rs post => h2.bind rl rs post fun x h1 v φ1 S1 H1 rl1 rs1 st rp post => ?_⟩⟩
  cases qx : kvOf h1 x with
  | none => simp only [qx] at post; exact post.elim
  | some kd0 =>
    simp only [qx] at post
    obtain ⟨a, kv0, rfl, ha0, _⟩ := kvOf_ok rl1 rp qx
    refine ⟨a, rfl, .inl ⟨kv0, ha0⟩, k2.bind rl1 rs1 post fun y h2 u φ2 S2 H2 rl2 rs2 st2 rp2 post => ?_⟩
    cases qk : keyOf y with
    | none => cases x <;> (simp only [qk] at post; exact post.elim)
    | some k =>
      cases x with
      | cell n =>
        cases hx : h2[n]? with
        | none => simp only [qk, hx] at post; exact post.elim
        | some c =>
          cases c with
          | dK kd =>
            cases qg : getD kd k with
            | none => simp only [qk, hx, qg] at post; exact post.elim
            | some d =>
              simp only [qk, hx, qg] at post
              cases (show Rp X.K φ1 S1 (.ref a) (.cell n) from rp) with
              | @cell _ _ hn =>
                have hn2 := st2.prefix.at hn
                obtain ⟨_, o', ho', kv, rfl, ek, ra⟩ := rl2.cel n a (.dK kd) hn2 hx
                have rk : RpK X.K φ2 S2 kv kd := .of ek ra
                have ev := keyOf_ok rp2 qk
                subst ev
                rcases rk.get k with ⟨g1, _⟩ | ⟨d', w, g1, g2, rd⟩
                · rw [qg] at g1; cases g1
                · rw [qg] at g1
                  cases g1
                  have rk2 := (rk.drop k).to
                  obtain ⟨r4, s4⟩ := rl2.put (o := .dK (dropK kv k)) (c := .dK (dropD kd k)) hn2 ⟨_, rfl, rk2.1, rk2.2⟩
                  exact ⟨kv, k, w, ho', rfl, g2, post w φ2 S2 _ r4 s4 rd⟩
          | _ => simp only [qk, hx] at post; exact post.elim
      | _ => simp only [qk] at post; exact post.elim
end
/-! sorted(d), whole numbers as keys -/
def intK : Key → Option Int
  | .inl i => some i
  | .inr _ => none
def bSortDI : List D → Hv → R (List D) := fun ds h => match ds with
  | [d] => (match (kvOf h d).bind fun kd => optAll intK (kd.map (·.1)) with
    | some ns => if ns.length < 64 then .ok ((sortI ns).map .int) h else .stuck
    | none => .stuck)
  | _ => .stuck
def rSortDI (K : PySem.W.Frag) : List V → Hp → VK → Prop := fun xs H Q => ∃ (a : Addr) (kvs : List (Key × V)) (ks : List Int), xs = [.ref a] ∧ Rd H a (.dK kvs) ∧ kvs.map (·.1) = ks.map Sum.inl ∧ ks.length < 64 ∧ ∀ (ys : List Int) (p : Addr), ys.Perm ks → ys.Pairwise (· ≤ ·) → H p = none → Q (.ref p) (upd H p (.lst (ys.map V.int)))
theorem intKs : ∀ {ks : List Key} {ns : List Int}, optAll intK ks = some ns → ks = ns.map Sum.inl
  | [], ns, e => by cases e; rfl
  | k :: ks, ns, e => by
    simp only [optAll] at e
    cases k with
    | inr x => cases e
    | inl i =>
      simp only [intK] at e
      cases q : optAll intK ks with
      | none =>
        simp only [q] at e
        cases e
      | some ns' =>
        simp only [q] at e
        cases e
        rw [intKs q]; rfl
theorem cl_sortDI {K : PySem.W.Frag} : CaL K (rSortDI K) bSortDI := by
  intro φ S H h ds vs Q E rl ra post
  unfold bSortDI at post
  split at post
  · next d =>
    obtain ⟨v, rfl, r⟩ := ra.one
    split at post
    · next ns hn =>
      obtain ⟨kd, q1, q2⟩ := Option.bind_eq_some_iff.mp hn
      split at post
      · next hl =>
        obtain ⟨a, kv, rfl, h2, rk⟩ := kvOf_ok rl r q1
        refine ⟨a, kv, ns, rfl, h2, by rw [rk.to.1]; exact intKs q2, hl, fun ns' p hperm hs hp => ?_⟩
        have e : ns' = sortI ns := sort_one (hperm.trans (sortI_perm ns).symm) hs (sortI_rises ns)
        rw [e]
        obtain ⟨r2, s2⟩ := rl.hold (o := .lst ((sortI ns).map V.int)) hp
        exact post _ φ _ _ r2 s2 ⟨p, _, rfl, hp, upd_same, rl.snone hp, rl.notin hp, .of_ints _⟩
      · exact post.elim
    · exact post.elim
  · exact post.elim
theorem cr_sortDI {X : Cx} (hc : X.calm = true := by rfl) : CallR X (.builtin "sorted") (rSortDI X.K) := call_sortedDI hc
end
end VD

set_option Elab.async false
set_option linter.all false
set_option maxRecDepth 100000
set_option maxHeartbeats 4000000
namespace VD
open PySem PySem.Spec PyProof.Rows L2
noncomputable section
/-! ### text * number, str and int of texts -/
def repS (a : Str) (n : Int) : Str := ⟨((List.replicate n.toNat a.cps.toList).flatten).toArray⟩
theorem rep_fold (xs : List Nat) : ∀ (n : Nat) (acc : Array Nat), ((List.replicate n xs.toArray).foldl (· ++ ·) acc) = acc ++ ((List.replicate n xs).flatten).toArray
  | 0, acc => by simp
  | n + 1, acc => by
    rw [List.replicate_succ, List.replicate_succ, List.foldl_cons, rep_fold xs n, List.flatten_cons]
    simp
def rMulS : R2 := fun x y H Q => ∃ (a : Str) (n : Int), x = .str a ∧ y = .int n ∧ (-1000 ≤ n ∧ n ≤ 1000) ∧ a.length ≤ 1000 ∧ Q (.str (repS a n)) H
theorem op_mulS {X : Cx} : OpR X (binaryOp .Mult) rMulS := by
  intro pins s σ H x y v u Q I rx ry h
  obtain ⟨a, n, rfl, rfl, ⟨b0, b1⟩, hl, q⟩ := h
  obtain ⟨t, rfl⟩ := rx
  obtain ⟨t', rfl⟩ := ry
  have ok : ∀ {tk : Tok} {s' : Shared}, Inv X pins σ H s' → EP X pins σ Q (.str (repS a n) tk) s' := fun {tk s'} J => ⟨.str (repS a n), H, J, ⟨_, rfl⟩, q⟩
  have z0 : ¬ n < -(2 ^ 63 : Int) := by omega
  have z1 : ¬ n ≥ 2 ^ 63 := by omega
  refine P.mul_str (by rw [decide_eq_false z0, decide_eq_false z1]; rfl) (fun h1 _ => ?_) (fun h1 _ => ?_) ?_
  · have h3 : (1000 : Int) ≤ (2 ^ 63 - 1) / n := (Int.le_ediv_iff_mul_le (by omega)).mpr (by omega)
    omega
  · have : a.length * n.toNat ≤ 1000 * 1000 := Nat.mul_le_mul hl (by omega)
    exact decide_eq_false (by rw [line_eq]; omega)
  · by_cases h1 : n < 1
    · rw [if_pos h1]
      have e : repS a n = Str.empty := by
        unfold repS
        have : n.toNat = 0 := by omega
        rw [this]; rfl
      rw [e] at ok
      exact ⟨by decide, ok (I.tok _)⟩
    · rw [if_neg h1]
      by_cases h2 : (n == 1 || a.length == 0) = true
      · rw [if_pos h2]
        have e : repS a n = a := by
          cases a with
          | mk cs =>
            unfold repS
            rw [Bool.or_eq_true, beq_iff_eq, beq_iff_eq] at h2
            rcases h2 with h2 | h2
            · rw [h2]
              show Str.mk _ = Str.mk _
              simp
            · have h2 : cs.size = 0 := h2
              have : cs = #[] := Array.size_eq_zero_iff.mp h2
              subst this
              show Str.mk _ = Str.mk _
              simp
        show EP X pins σ Q (.str a t) s
        exact ⟨.str (repS a n), H, I, ⟨t, by rw [e]⟩, q⟩
      · rw [if_neg h2]
        have e : (⟨(List.replicate n.toNat a.cps).foldl (· ++ ·) #[]⟩ : Str) = repS a n := by
          unfold repS
          have := rep_fold a.cps.toList n.toNat #[]
          rw [Array.toArray_toList] at this
          rw [this]
          simp
        rw [e]
        refine ⟨?_, ok (I.tok _)⟩
        rw [line_eq]
        have : (repS a n).length = n.toNat * a.length := by
          show (((List.replicate n.toNat a.cps.toList).flatten).toArray).size = _
          simp [Str.length]
        rw [this]
        exact Nat.le_trans (Nat.mul_le_mul (show n.toNat ≤ 1000 by omega) hl) (by decide)
section
variable {K : PySem.W.Frag}
def oMulS : D → D → Hv → R D := fun x y h => match x, y with
  | .str a, .int n => @ite _ ((-1000 ≤ n ∧ n ≤ 1000) ∧ a.length ≤ 1000) (Classical.propDecidable _) (.ok (.str (repS a n)) h) .stuck
  | _, _ => .stuck
theorem os_mulS : OpS K rMulS oMulS := by
  intro φ S H h x y v u Q E rl rx ry post
  unfold oMulS at post
  split at post
  · cases rx
    cases ry
    split at post
    · next q => exact ⟨_, _, rfl, rfl, q.1, q.2, post _ φ S H rl (Step.refl _ _ _) (.str _)⟩
    · exact post.elim
  · exact post.elim
/-- str of a whole number or a text, int of a whole number, a truth or a text -/
def bStrA : List D → Hv → R D := fun ds h => match ds with
  | [.int i] => if i.natAbs.log2 < 1920 then .ok (.str (toString i)) h else .stuck
  | [.str a] => .ok (.str a) h
  | _ => .stuck
def rStrA : List V → Hp → VK → Prop := fun xs H Q => (∃ i, xs = [.int i] ∧ i.natAbs.log2 < 1920 ∧ Q (.str (toString i)) H) ∨ ∃ a, xs = [.str a] ∧ Q (.str a) H
theorem call_strA {X : Cx} : CallR X (.type "str") rStrA := by
  intro pins s σ H xs us Q I r h
  rcases h with h | h
  · exact call_str_int pins s σ H xs us Q I r h
  · exact SkE.call_str_str pins s σ H xs us Q I r h
theorem cs_strA : CaS K rStrA bStrA := by
  intro φ S H h ds vs Q E rl ra post
  unfold bStrA at post
  split at post
  · obtain ⟨v, rfl, r⟩ := ra.one
    cases r
    split at post
    · next q => exact .inl ⟨_, rfl, q, post _ φ S H rl (Step.refl _ _ _) (.str _)⟩
    · exact post.elim
  · obtain ⟨v, rfl, r⟩ := ra.one
    cases r
    exact .inr ⟨_, rfl, post _ φ S H rl (Step.refl _ _ _) (.str _)⟩
  · exact post.elim
def bIntA : List D → Hv → R D := fun ds h => match ds with
  | [.int i] => .ok (.int i) h
  | [.bl b] => .ok (.int (if b then 1 else 0)) h
  | [.str a] => (match PySem.intText? a with
    | some n => if a.length ≤ 640 then .ok (.int n) h else .stuck
    | none => .stuck)
  | _ => .stuck
def rIntA : List V → Hp → VK → Prop := fun xs H Q => ((∃ i, xs = [.int i] ∧ Q (.int i) H) ∨ ∃ k, xs = [.bl k] ∧ Q (.int (if k then 1 else 0)) H) ∨ ∃ a n, xs = [.str a] ∧ PySem.intText? a = some n ∧ a.length ≤ 640 ∧ Q (.int n) H
theorem call_intA {X : Cx} : CallR X (.type "int") rIntA := by
  intro pins s σ H xs us Q I r h
  rcases h with h | h
  · exact call_int1 pins s σ H xs us Q I r h
  · exact call_int_str pins s σ H xs us Q I r h
theorem cs_intA : CaS K rIntA bIntA := by
  intro φ S H h ds vs Q E rl ra post
  unfold bIntA at post
  split at post
  · obtain ⟨v, rfl, r⟩ := ra.one
    cases r
    exact .inl (.inl ⟨_, rfl, post _ φ S H rl (Step.refl _ _ _) (.int _)⟩)
  · obtain ⟨v, rfl, r⟩ := ra.one
    cases r
    exact .inl (.inr ⟨_, rfl, post _ φ S H rl (Step.refl _ _ _) (.int _)⟩)
  · split at post
    · next n hn =>
      obtain ⟨v, rfl, r⟩ := ra.one
      cases r
      split at post
      · next hl => exact .inr ⟨_, n, rfl, hn, hl, post _ φ S H rl (Step.refl _ _ _) (.int _)⟩
      · exact post.elim
    · exact post.elim
  · exact post.elim
@[simp] theorem bStrA_str {a : Str} {h : Hv} : bStrA [.str a] h = .ok (.str a) h := rfl
theorem bStrA_int {i : Int} {h : Hv} (h1 : -(10 ^ 77) < i) (h2 : i < 10 ^ 77) : bStrA [.int i] h = .ok (.str (toString i)) h := by
  have e : (10 : Int) ^ 77 = 100000000000000000000000000000000000000000000000000000000000000000000000000000 := by decide
  have e2 : (2 : Nat) ^ 256 = 115792089237316195423570985008687907853269984665640564039457584007913129639936 := by decide
  have l : i.natAbs < 2 ^ 256 := by rw [e] at h1 h2; rw [e2]; omega
  exact if_pos (Nat.lt_of_lt_of_le (PySem.Flt.log2_lt_of (by decide) l) (by decide))
@[simp] theorem bIntA_int {i : Int} {h : Hv} : bIntA [.int i] h = .ok (.int i) h := rfl
@[simp] theorem bIntA_bl {b : Bool} {h : Hv} : bIntA [.bl b] h = .ok (.int (if b then 1 else 0)) h := rfl
theorem bIntA_str {a : Str} {n : Int} {h : Hv} (e : PySem.intText? a = some n) (hl : a.length ≤ 640) : bIntA [.str a] h = .ok (.int n) h := by
  show (match PySem.intText? a with | some n => if a.length ≤ 640 then R.ok (D.int n) h else .stuck | none => .stuck) = _
  rw [e]
  exact if_pos hl
theorem oMulS_ap {a : Str} {n : Int} {h : Hv} (h1 : -1000 ≤ n) (h2 : n ≤ 1000) (h3 : a.length ≤ 1000) : oMulS (.str a) (.int n) h = .ok (.str (repS a n)) h := if_pos ⟨⟨h1, h2⟩, h3⟩
end
/-! ### a thing of any kind among others -/
def seqP : PyData → Option (List PyData)
  | .list xs => some xs
  | .tuple xs => some xs
  | _ => none
def inP (h : Hv) (x y : D) : Option Bool := match toPy h 12 x, (toPy h 12 y).bind seqP with
  | some d, some xs => some (xs.any fun z => PyData.eqv z d)
  | _, _ => none
def oInP : D → D → Hv → R D := fun x y h => match inP h x y with
  | some b => .ok (.bl b) h
  | none => .stuck
def oNotInP : D → D → Hv → R D := fun x y h => match inP h x y with
  | some b => .ok (.bl (!b)) h
  | none => .stuck
def rInP (K : PySem.W.Frag) (neg : Bool) : R2 := fun x y H Q => ∃ d e xs, Dp K H x d ∧ Dp K H y e ∧ seqP e = some xs ∧ (d.plain = true ∧ e.plain = true ∧ d.depth ≤ 63) ∧ Q (.bl (if neg then !xs.any fun z => PyData.eqv z d else xs.any fun z => PyData.eqv z d)) H
theorem op_inP {X : Cx} (hu : X.A.units + 64 < cLine) : OpR X (compareOp .In) (rInP X.K false) := by
  intro pins s σ H x y v u Q I rx ry h
  obtain ⟨d, e, xs, hd, he, es, ⟨pd, pe, dd⟩, q⟩ := h
  obtain ⟨as, r1⟩ := Dp.reads I d x v hd rx
  obtain ⟨bs, r2⟩ := Dp.reads I e y u he ry
  have line : ∀ ys : List PyData, X.A.units + 1 + min (PyData.depthAll ys) d.depth < cLine := fun ys => by
    have := Nat.min_le_right (PyData.depthAll ys) d.depth
    omega
  cases e with
  | list ys =>
    cases es
    exact PySem.SeqAt.in_list_data r2 r1 (by simpa only [PyData.plain] using pe) pd (line _) ⟨.bl _, H, I, rfl, q⟩
  | tuple ys =>
    cases es
    exact PySem.SeqAt.in_tuple_data r2 r1 (by simpa only [PyData.plain] using pe) pd (line _) ⟨.bl _, H, I, rfl, q⟩
  | _ => cases es
theorem op_notInP {X : Cx} (hu : X.A.units + 64 < cLine) : OpR X (compareOp .NotIn) (rInP X.K true) := by
  intro pins s σ H x y v u Q I rx ry h
  obtain ⟨d, e, xs, hd, he, es, ⟨pd, pe, dd⟩, q⟩ := h
  obtain ⟨as, r1⟩ := Dp.reads I d x v hd rx
  obtain ⟨bs, r2⟩ := Dp.reads I e y u he ry
  have line : ∀ ys : List PyData, X.A.units + 1 + min (PyData.depthAll ys) d.depth < cLine := fun ys => by
    have := Nat.min_le_right (PyData.depthAll ys) d.depth
    omega
  cases e with
  | list ys =>
    cases es
    exact PySem.SeqAt.notIn_list_data r2 r1 (by simpa only [PyData.plain] using pe) pd (line _) ⟨.bl _, H, I, rfl, q⟩
  | tuple ys =>
    cases es
    exact PySem.SeqAt.notIn_tuple_data r2 r1 (by simpa only [PyData.plain] using pe) pd (line _) ⟨.bl _, H, I, rfl, q⟩
  | _ => cases es
theorem inP_ok {K : PySem.W.Frag} {φ : List Addr} {S H : Hp} {h : Hv} {x y : D} {v u : V} {b : Bool} (rl : Rel K φ S H h) (rx : Rp K φ S v x) (ry : Rp K φ S u y) (e : inP h x y = some b) :
    ∃ d e xs, Dp K H v d ∧ Dp K H u e ∧ seqP e = some xs ∧ (d.plain = true ∧ e.plain = true ∧ d.depth ≤ 63) ∧ (xs.any fun z => PyData.eqv z d) = b := by
  unfold inP at e
  cases e1 : toPy h 12 x with
  | none => simp only [e1] at e; cases e
  | some d =>
    cases e2 : toPy h 12 y with
    | none => simp only [e1, e2, Option.bind_none] at e; cases e
    | some d2 =>
      simp only [e1, e2, Option.bind_some] at e
      cases e3 : seqP d2 with
      | none => simp only [e3] at e; cases e
      | some xs =>
        simp only [e3] at e
        obtain ⟨p1, p2⟩ := toPy_plain 12 x d e1
        obtain ⟨q1, q2⟩ := toPy_plain 12 y d2 e2
        exact ⟨d, d2, xs, dp_of rl _ _ _ _ rx e1, dp_of rl _ _ _ _ ry e2, e3, ⟨p1, q1, by omega⟩, Option.some.inj e⟩
theorem os_inP {K : PySem.W.Frag} : OpS K (rInP K false) oInP := by
  intro φ S H h x y v u Q E rl rx ry post
  simp only [oInP] at post
  cases e : inP h x y with
  | none => simp only [e] at post; exact post.elim
  | some b =>
    simp only [e] at post
    have fin := post _ φ S H rl (Step.refl _ _ _) (.bl b)
    obtain ⟨d, e', xs, h1, h2, h3, h4, h5⟩ := inP_ok rl rx ry e
    exact ⟨d, e', xs, h1, h2, h3, h4, by rw [if_neg Bool.false_ne_true, h5]; exact fin⟩
theorem os_notInP {K : PySem.W.Frag} : OpS K (rInP K true) oNotInP := by
  intro φ S H h x y v u Q E rl rx ry post
  simp only [oNotInP] at post
  cases e : inP h x y with
  | none => simp only [e] at post; exact post.elim
  | some b =>
    simp only [e] at post
    have fin := post _ φ S H rl (Step.refl _ _ _) (.bl (!b))
    obtain ⟨d, e', xs, h1, h2, h3, h4, h5⟩ := inP_ok rl rx ry e
    exact ⟨d, e', xs, h1, h2, h3, h4, by rw [if_pos rfl, h5]; exact fin⟩
/-! ### what an expression makes is still behind it -/
def frzR (n0 : Nat) (r : R D) : R D := match r with
  | .ok d h => exitD n0 d h
  | _ => .stuck
def eFrz (f : ES) : ES := fun σ h => frzR h.length (f σ h)
theorem se_frz {X : Cx} {W : WX} {e : Expr} {f : ES} (hs : SE X W e f) : SE X W e (eFrz f) := by
  obtain ⟨t, h1, h2⟩ := hs
  refine ⟨t, h1, ⟨fun {φ S H h σv σ Q} rl rs post => h2.run rl rs ?_⟩⟩
  unfold eFrz at post
  have en : h.length = φ.length := rl.len.symm
  cases q : f σv h with
  | ok d h' =>
    rw [q] at post
    intro v φ' S' H' r2 st rv
    simp only [frzR] at post
    unfold exitD at post
    split at post
    · next d' h'' q1 q2 =>
      split at post
      · next hn =>
        rw [en] at q1 q2 hn
        obtain ⟨s2, _⟩ := exit_step st r2
        exact post v _ _ H' (exit_rel r2 hn q2) s2 (frz_ok r2 _ _ _ _ rv q1)
      · exact post.elim
    · exact post.elim
  | exc x h' => rw [q] at post; exact post.elim
  | stuck => rw [q] at post; exact post.elim
end
end VD

set_option Elab.async false
set_option linter.all false
set_option maxRecDepth 100000
set_option maxHeartbeats 4000000
namespace VD
open PySem PySem.Spec PyProof.Rows L2
noncomputable section
/-! ### what is computed, by rewriting -/
@[simp high] theorem at0 {α : Type} (a : α) (l : List α) : (a :: l)[0]? = some a := rfl
section
variable {σ : VS} {h : Hv} {i j : Nat} {d : D} {f g k : ES} {l : LS} {c c2 : CS} {α : Type}
@[simp] theorem eVar_ap : eVar i σ h = (match σ[i]? with
  | some (some d) => .ok d h
  | _ => .stuck) := rfl
@[simp] theorem eK_ap : eK d σ h = .ok d h := rfl
@[simp] theorem eV_ap : eV l σ h = (l σ h).bind fun ds h' => .ok (.lst ds) h' := rfl
@[simp] theorem eC_ap : eC l σ h = (l σ h).bind fun ds h' => .ok (.cell h'.length) (h' ++ [.lst ds]) := rfl
def kOp (ro : D → D → Hv → R α) (g : ES) (σ : VS) (x : D) (h : Hv) : R α := (g σ h).bind (ro x)
@[simp] theorem eOp_ap {ro : D → D → Hv → R α} : eOp ro f g σ h = (f σ h).bind (kOp ro g σ) := rfl
@[simp] theorem kOp_ap {ro : D → D → Hv → R α} {x : D} : kOp ro g σ x h = (g σ h).bind (ro x) := rfl
@[simp] theorem eUn_ap {ro : D → Hv → R D} : eUn ro f σ h = (f σ h).bind ro := rfl
@[simp] theorem toB_ap : toB f σ h = (f σ h).bind fun d h1 => (match d with
  | .bl b => .ok b h1
  | _ => .stuck) := rfl
@[simp] theorem cTru_ap : cTru f σ h = (f σ h).bind fun d h1 => (match dTru h1 d with
  | some b => .ok b h1
  | none => .stuck) := rfl
def kAnd (c2 : CS) (σ : VS) (k : Bool) (h : Hv) : R Bool := if k then c2 σ h else .ok false h
@[simp] theorem cAnd_ap : cAnd c c2 σ h = (c σ h).bind (kAnd c2 σ) := rfl
@[simp] theorem kAnd_ap {k : Bool} : kAnd c2 σ k h = if k then c2 σ h else .ok false h := rfl
def kOr (c2 : CS) (σ : VS) (k : Bool) (h : Hv) : R Bool := if k then .ok true h else c2 σ h
@[simp] theorem cOr_ap : cOr c c2 σ h = (c σ h).bind (kOr c2 σ) := rfl
@[simp] theorem kOr_ap {k : Bool} : kOr c2 σ k h = if k then .ok true h else c2 σ h := rfl
@[simp] theorem cNot_ap : cNot c σ h = (c σ h).bind fun k h1 => .ok (!k) h1 := rfl
def kIf (u v : VS → Hv → R α) (σ : VS) (k : Bool) (h : Hv) : R α := if k then u σ h else v σ h
@[simp] theorem eIf_ap {u v : VS → Hv → R α} : eIf c u v σ h = (c σ h).bind (kIf u v σ) := rfl
@[simp] theorem kIf_ap {u v : VS → Hv → R α} {k : Bool} : kIf u v σ k h = if k then u σ h else v σ h := rfl
@[simp] theorem aNil_ap : aNil σ h = .ok [] h := rfl
def kCons (l : LS) (σ : VS) (d : D) (h : Hv) : R (List D) := (l σ h).bind fun ds h2 => .ok (d :: ds) h2
@[simp] theorem aCons_ap : aCons f l σ h = (f σ h).bind (kCons l σ) := rfl
@[simp] theorem kCons_ap : kCons l σ d h = (l σ h).bind fun ds h2 => .ok (d :: ds) h2 := rfl
@[simp] theorem eTup_ap : eTup l σ h = (l σ h).bind fun ds h1 => if ds.length ≤ 16777216 then .ok (.tup ds) h1 else .stuck := rfl
@[simp] theorem lLst_ap : lLst l σ h = (l σ h).bind fun ds h1 => if ds.length ≤ 16777216 then .ok ds h1 else .stuck := rfl
def kAndV (g : ES) (σ : VS) (d : D) (h : Hv) : R D := match d with
  | .bl true => g σ h
  | .bl false => .ok (.bl false) h
  | _ => .stuck
@[simp] theorem eAndV_ap : eAndV f g σ h = (f σ h).bind (kAndV g σ) := by
  show (f σ h).bind _ = _
  cases f σ h with
  | ok d h1 => cases d with
    | bl b => cases b <;> rfl
    | _ => rfl
  | exc x h1 => rfl
  | stuck => rfl
@[simp] theorem kAndV_ap {k : Bool} : kAndV g σ (.bl k) h = if k then g σ h else .ok (.bl false) h := by cases k <;> rfl
def kOrV (g : ES) (σ : VS) (d : D) (h : Hv) : R D := match d with
  | .bl true => .ok (.bl true) h
  | .bl false => g σ h
  | _ => .stuck
@[simp] theorem eOrV_ap : eOrV f g σ h = (f σ h).bind (kOrV g σ) := by
  show (f σ h).bind _ = _
  cases f σ h with
  | ok d h1 => cases d with
    | bl b => cases b <;> rfl
    | _ => rfl
  | exc x h1 => rfl
  | stuck => rfl
@[simp] theorem kOrV_ap {k : Bool} : kOrV g σ (.bl k) h = if k then .ok (.bl true) h else g σ h := by cases k <;> rfl
@[simp] theorem eNotV_ap : eNotV f σ h = (f σ h).bind fun d h1 => (match d with
  | .bl b => .ok (.bl (!b)) h1
  | _ => .stuck) := rfl
@[simp] theorem eCa_ap {ro : List D → Hv → R α} : eCa ro l σ h = (l σ h).bind ro := rfl
@[simp] theorem eIsi_ap {T : String} : eIsi T f σ h = (f σ h).bind fun d h1 => (match (tyName h1 d).bind fun t => kitB t T with
  | some r => .ok (.bl r) h1
  | none => .stuck) := rfl
@[simp] theorem eChain_ap {o1 o2 : D → D → Hv → R D} : eChain o1 o2 f g k σ h = (f σ h).bind fun x h1 => (g σ h1).bind fun y h2 => (o1 x y h2).bind fun z h3 => (match z with
  | .bl true => (k σ h3).bind fun u h4 => o2 y u h4
  | .bl false => .ok (.bl false) h3
  | _ => .stuck) := rfl
def kStr1 (ro : D → D → Hv → R D) (g : ES) (σ : VS) (x : D) (h : Hv) : R D := match x with
      | .str _ => (g σ h).bind fun y h2 => ro x y h2
      | _ => .stuck
@[simp] theorem eStr1_ap {ro : D → D → Hv → R D} : eStr1 ro f g σ h = (f σ h).bind (kStr1 ro g σ) := rfl
@[simp] theorem kStr1_ap {ro : D → D → Hv → R D} {x : Str} : kStr1 ro g σ (.str x) h = (g σ h).bind (ro (.str x)) := rfl
def kBM (ro : D → List D → Hv → R D) (l : LS) (σ : VS) (x : D) (h : Hv) : R D := match lOf h x with
  | some _ => (l σ h).bind fun ds h2 => ro x ds h2
  | none => .stuck
@[simp] theorem eBM_ap {ro : D → List D → Hv → R D} : eBM ro f l σ h = (f σ h).bind (kBM ro l σ) := rfl
@[simp] theorem kBM_ap {ro : D → List D → Hv → R D} {x : D} : kBM ro l σ x h = match lOf h x with
  | some _ => (l σ h).bind (ro x)
  | none => .stuck := rfl
@[simp] theorem pNo_ap : pNo σ h = .ok none h := rfl
@[simp] theorem pAt_ap : pAt f σ h = (f σ h).bind fun d h1 => (match d with
  | .int i => .ok (some i) h1
  | _ => .stuck) := rfl
def kSl (d : D) (l u : Option Int) (h : Hv) : R (List D) := match lOf h d with
  | some xs => .ok (cutD xs l u) h
  | none => .stuck
def kSl1 (hi : OS) (σ : VS) (d : D) (l : Option Int) (h : Hv) : R (List D) := (hi σ h).bind (kSl d l)
def kSl2 (lo hi : OS) (σ : VS) (d : D) (h : Hv) : R (List D) := (lo σ h).bind (kSl1 hi σ d)
@[simp] theorem lSl_ap {lo hi : OS} : lSl f lo hi σ h = (f σ h).bind (kSl2 lo hi σ) := rfl
@[simp] theorem kSl2_ap {lo hi : OS} : kSl2 lo hi σ d h = (lo σ h).bind (kSl1 hi σ d) := rfl
@[simp] theorem kSl1_ap {hi : OS} {u : Option Int} : kSl1 hi σ d u h = (hi σ h).bind (kSl d u) := rfl
@[simp] theorem kSl_ap {u v : Option Int} : kSl d u v h = match lOf h d with
  | some xs => .ok (cutD xs u v) h
  | none => .stuck := rfl
def kSe (d : D) (l u : Option Int) (h : Hv) : R D := match slD d l u with
  | some d' => .ok d' h
  | none => .stuck
def kSe1 (hi : OS) (σ : VS) (d : D) (l : Option Int) (h : Hv) : R D := (hi σ h).bind (kSe d l)
def kSe2 (lo hi : OS) (σ : VS) (d : D) (h : Hv) : R D := (lo σ h).bind (kSe1 hi σ d)
@[simp] theorem eSl_ap {lo hi : OS} : eSl f lo hi σ h = (f σ h).bind (kSe2 lo hi σ) := rfl
@[simp] theorem kSe2_ap {lo hi : OS} : kSe2 lo hi σ d h = (lo σ h).bind (kSe1 hi σ d) := rfl
@[simp] theorem kSe1_ap {hi : OS} {u : Option Int} : kSe1 hi σ d u h = (hi σ h).bind (kSe d u) := rfl
@[simp] theorem kSe_ap {u v : Option Int} : kSe d u v h = match slD d u v with
  | some d' => .ok d' h
  | none => .stuck := rfl
theorem lLc_ap {is : IS} {gd : GD} {el : ES} {own : List Nat} : lLc is gd c el own σ h = (is σ h).bind fun p h1 => if p.1.length ≤ 16777216 then lcD p.2 gd c el p.1 (wipeV σ own) h1 else .stuck := rfl
@[simp] theorem cYes_ap : cYes σ h = .ok true h := rfl
@[simp] theorem wipeV_nil : wipeV σ [] = σ := rfl
@[simp] theorem wipeV_cons {vs : List Nat} : wipeV σ (i :: vs) = (wipeV σ vs).set i none := rfl
@[simp] theorem cmP {sem : List D → Hv → R D} : Cm.f .P sem = callP sem := rfl
@[simp] theorem cmB {sem : List D → Hv → R D} : Cm.f .B sem = callB sem := rfl
@[simp] theorem cmM {sem : List D → Hv → R D} : Cm.f .M sem = sem := rfl
-- operators
@[simp] theorem oAdd_int {a b : Int} : oAdd (.int a) (.int b) h = .ok (.int (a + b)) h := rfl
theorem oAdd_str {a b : Str} : oAdd (.str a) (.str b) h = if a.length + b.length ≤ 16777216 then .ok (.str (a ++ b)) h else .stuck := rfl
@[simp] theorem oSub_int {a b : Int} : oSub (.int a) (.int b) h = .ok (.int (a - b)) h := rfl
theorem oMul_int {a b : Int} : oMul (.int a) (.int b) h = if mulOk a b then .ok (.int (a * b)) h else .stuck := rfl
@[simp] theorem oMod_int {a b : Int} : oMod (.int a) (.int b) h = if 0 < b then .ok (.int (a % b)) h else .stuck := rfl
theorem oFdiv_int {a b : Int} : oFdiv (.int a) (.int b) h = if divOk b then .ok (.int (a / b)) h else .stuck := rfl
@[simp] theorem oPow_int {a b : Int} : oPow (.int a) (.int b) h = if powOk a b then .ok (.int (a ^ b.toNat)) h else .stuck := rfl
@[simp] theorem uNeg_int {a : Int} : uNeg (.int a) h = .ok (.int (-a)) h := rfl
@[simp] theorem oLt_int {a b : Int} : oLt (.int a) (.int b) h = .ok (.bl (decide (a < b))) h := rfl
@[simp] theorem oGt_int {a b : Int} : oGt (.int a) (.int b) h = .ok (.bl (decide (b < a))) h := rfl
@[simp] theorem oLe_int {a b : Int} : oLe (.int a) (.int b) h = .ok (.bl (decide (a ≤ b))) h := rfl
@[simp] theorem oGe_int {a b : Int} : oGe (.int a) (.int b) h = .ok (.bl (decide (b ≤ a))) h := rfl
theorem oLt_str {a b : Str} : oLt (.str a) (.str b) h = .ok (.bl (decide (a.cps.toList < b.cps.toList))) h := rfl
@[simp] theorem toPy_int {n : Nat} {a : Int} : toPy h (n + 1) (.int a) = some (.int a) := rfl
@[simp] theorem toPy_bl {n : Nat} {a : Bool} : toPy h (n + 1) (.bl a) = some (.bool a) := rfl
@[simp] theorem toPy_str {n : Nat} {a : Str} : toPy h (n + 1) (.str a) = some (.str a) := rfl
@[simp] theorem toPy_non {n : Nat} : toPy h (n + 1) .non = some .none := rfl
@[simp] theorem toPy_lst {n : Nat} {xs : List D} : toPy h (n + 1) (.lst xs) = (optAll (toPy h n) xs).map .list := rfl
@[simp] theorem toPy_fz {n : Nat} {xs : List D} : toPy h (n + 1) (.fz xs) = (optAll (toPy h n) xs).map .list := rfl
@[simp] theorem toPy_tup {n : Nat} {xs : List D} : toPy h (n + 1) (.tup xs) = (optAll (toPy h n) xs).map .tuple := rfl
@[simp] theorem toPy_cell {n m : Nat} : toPy h (n + 1) (.cell m) = (match h[m]? with
    | some (.lst ds) => (optAll (toPy h n) ds).map .list
    | _ => none) := rfl
@[simp] theorem optAll_nil {β : Type} {g : β → Option α} : optAll g [] = some [] := rfl
@[simp] theorem optAll_cons {β : Type} {g : β → Option α} {x : β} {xs : List β} : optAll g (x :: xs) = (match g x with
    | some a => (match optAll g xs with
      | some as => some (a :: as)
      | none => none)
    | none => none) := rfl
theorem optAll_map {β γ : Type} {g : β → Option α} {e : γ → β} {e' : γ → α} : ∀ {xs : List γ}, (∀ x ∈ xs, g (e x) = some (e' x)) → optAll g (xs.map e) = some (xs.map e')
  | [], _ => rfl
  | x :: xs, q => by
    rw [List.map_cons, optAll_cons, q x List.mem_cons_self, optAll_map (xs := xs) fun y hy => q y (List.mem_cons_of_mem _ hy)]
    rfl
theorem optAll_append {β : Type} {g : β → Option α} {xs ys : List β} {as bs : List α} (h1 : optAll g xs = some as) (h2 : optAll g ys = some bs) : optAll g (xs ++ ys) = some (as ++ bs) := by
  induction xs generalizing as with
  | nil => cases h1; exact h2
  | cons x xs ih =>
    rw [optAll_cons] at h1
    cases q : g x with
    | none => rw [q] at h1; cases h1
    | some a =>
      cases q2 : optAll g xs with
      | none => rw [q] at h1; simp only [q2] at h1; cases h1
      | some as' =>
        rw [q] at h1
        simp only [q2] at h1
        cases h1
        rw [List.cons_append, optAll_cons, q, ih q2]
        rfl
@[simp] theorem frz_int {n0 n : Nat} {a : Int} : frz n0 h (n + 1) (.int a) = some (.int a) := rfl
@[simp] theorem frz_bl {n0 n : Nat} {a : Bool} : frz n0 h (n + 1) (.bl a) = some (.bl a) := rfl
@[simp] theorem frz_str {n0 n : Nat} {a : Str} : frz n0 h (n + 1) (.str a) = some (.str a) := rfl
@[simp] theorem frz_non {n0 n : Nat} : frz n0 h (n + 1) .non = some .non := rfl
@[simp] theorem frz_lst {n0 n : Nat} {xs : List D} : frz n0 h (n + 1) (.lst xs) = (optAll (frz n0 h n) xs).map .lst := rfl
@[simp] theorem frz_fz {n0 n : Nat} {xs : List D} : frz n0 h (n + 1) (.fz xs) = (optAll (frz n0 h n) xs).map .fz := rfl
@[simp] theorem frz_tup {n0 n : Nat} {xs : List D} : frz n0 h (n + 1) (.tup xs) = (optAll (frz n0 h n) xs).map .tup := rfl
@[simp] theorem frz_cell {n0 n m : Nat} : frz n0 h (n + 1) (.cell m) = (if m < n0 then some (.cell m) else match h[m]? with
    | some (.lst ds) => (optAll (frz n0 h n) ds).map .lst
    | some (.dF kvs) => (optAll (frz n0 h n) (kvs.map (·.2))).map (.dct (kvs.map (·.1)))
    | some (.ins c fs) => (optAll (frz n0 h n) (fs.map (·.2))).map (.obj c (fs.map (·.1)))
    | _ => none) := rfl
@[simp] theorem frz_dct {n0 n : Nat} {ks : List Key} {xs : List D} : frz n0 h (n + 1) (.dct ks xs) = (optAll (frz n0 h n) xs).map (.dct ks) := rfl
@[simp] theorem frz_obj {n0 n : Nat} {c : Str} {ks : List Str} {xs : List D} : frz n0 h (n + 1) (.obj c ks xs) = (optAll (frz n0 h n) xs).map (.obj c ks) := rfl
@[simp] theorem eqD_int {a b : Int} : eqD h (.int a) (.int b) = some (decide (a = b)) := by
  show some (PyData.eqv (.int a) (.int b)) = _
  simp only [PyData.eqv]
  exact congrArg some (by rw [Bool.beq_eq_decide_eq])
@[simp] theorem eqD_str {a b : Str} : eqD h (.str a) (.str b) = some (decide (a = b)) := by
  show some (PyData.eqv (.str a) (.str b)) = _
  simp only [PyData.eqv]
  exact congrArg some (by rw [Bool.eq_iff_iff, beq_iff_eq, decide_eq_true_eq])
@[simp] theorem eqD_bl {a b : Bool} : eqD h (.bl a) (.bl b) = some (decide (a = b)) := by
  show some (PyData.eqv (.bool a) (.bool b)) = _
  simp only [PyData.eqv]
  exact congrArg some (by cases a <;> cases b <;> rfl)
@[simp] theorem oEq_ap {x y : D} : oEq x y h = (match eqD h x y with
  | some b => .ok (.bl b) h
  | none => .stuck) := rfl
@[simp] theorem oNe_ap {x y : D} : oNe x y h = (match eqD h x y with
  | some b => .ok (.bl (!b)) h
  | none => .stuck) := rfl
@[simp] theorem oIs_ap {x y : D} : oIs x y h = (match isD x y with
  | some b => .ok (.bl b) h
  | none => .stuck) := rfl
@[simp] theorem oIsNot_ap {x y : D} : oIsNot x y h = (match isD x y with
  | some b => .ok (.bl (!b)) h
  | none => .stuck) := rfl
@[simp] theorem isD_nn : isD .non .non = some true := rfl
@[simp] theorem isD_in {a : Int} : isD (.int a) .non = some false := rfl
@[simp] theorem isD_sn {a : Str} : isD (.str a) .non = some false := rfl
@[simp] theorem isD_bn {a : Bool} : isD (.bl a) .non = some false := rfl
@[simp] theorem isD_ln {a : List D} : isD (.lst a) .non = some false := rfl
@[simp] theorem isD_tn {a : List D} : isD (.tup a) .non = some false := rfl
@[simp] theorem isD_cn {n : Nat} : isD (.cell n) .non = some false := rfl
@[simp] theorem isD_bb {a b : Bool} : isD (.bl a) (.bl b) = some (decide (a = b)) := rfl
@[simp] theorem lOf_lst {xs : List D} : lOf h (.lst xs) = some xs := rfl
@[simp] theorem lOf_fz {xs : List D} : lOf h (.fz xs) = some xs := rfl
@[simp] theorem lOf_tup {xs : List D} : lOf h (.tup xs) = none := rfl
@[simp] theorem lOf_str {x : Str} : lOf h (.str x) = none := rfl
@[simp] theorem lOf_cell {n : Nat} : lOf h (.cell n) = (match h[n]? with
    | some (.lst xs) => some xs
    | _ => none) := rfl
@[simp] theorem kOf_lst {xs : List D} : kOf h (.lst xs) = some xs := rfl
@[simp] theorem kOf_cell {n : Nat} : kOf h (.cell n) = (match h[n]? with
    | some (.lst xs) => some xs
    | _ => none) := rfl
@[simp] theorem tOf_tup {xs : List D} : tOf (.tup xs) = some xs := rfl
@[simp] theorem sqOf_ap {x : D} : sqOf h x = (match lOf h x with
  | some xs => some xs
  | none => tOf x) := rfl
@[simp] theorem oIx_ap {x : D} {a : Int} : oIx x (.int a) h = (match ixD h x a with
    | some d => .ok d h
    | none => .stuck) := rfl
@[simp] theorem ixD_lst {xs : List D} {a : Int} : ixD h (.lst xs) a = atI xs a := rfl
@[simp] theorem ixD_fz {xs : List D} {a : Int} : ixD h (.fz xs) a = atI xs a := rfl
@[simp] theorem ixD_tup {xs : List D} {a : Int} : ixD h (.tup xs) a = atI xs a := rfl
theorem ixD_str {x : Str} {a : Int} : ixD h (.str x) a = if x.length ≤ 16777216 then (match atI x.cps.toList a with
    | some c => some (.str ⟨#[c]⟩)
    | none => none) else none := rfl
@[simp] theorem ixD_cell {n : Nat} {a : Int} : ixD h (.cell n) a = (match h[n]? with
    | some (.lst xs) => atI xs a
    | _ => none) := by
  show (match sqOf h (.cell n) with
    | some ds => atI ds a
    | none => none) = _
  simp only [sqOf_ap, lOf_cell]
  cases q : h[n]? with
  | none => rfl
  | some c => cases c <;> rfl
@[simp] theorem bLen_one {x : D} : bLen [x] h = (match lenD h x with
    | some n => .ok (.int n) h
    | none => .stuck) := rfl
@[simp] theorem lenD_lst {xs : List D} : lenD h (.lst xs) = some (xs.length : Int) := rfl
@[simp] theorem lenD_fz {xs : List D} : lenD h (.fz xs) = some (xs.length : Int) := rfl
@[simp] theorem lenD_tup {xs : List D} : lenD h (.tup xs) = some (xs.length : Int) := rfl
theorem lenD_str {x : Str} : lenD h (.str x) = if x.length ≤ 16777216 then some (x.length : Int) else none := rfl
@[simp] theorem lenD_cell {n : Nat} : lenD h (.cell n) = (match h[n]? with
    | some (.lst xs) => some (xs.length : Int)
    | _ => none) := by
  show (sqOf h (.cell n)).map (fun xs : List D => (xs.length : Int)) = _
  simp only [sqOf_ap, lOf_cell]
  cases q : h[n]? with
  | none => rfl
  | some c => cases c <;> rfl
@[simp] theorem bAbs_int {a : Int} : bAbs [.int a] h = .ok (.int (if a < 0 then -a else a)) h := rfl
@[simp] theorem bMax2_int {a b : Int} : bMax2 [.int a, .int b] h = .ok (.int (if b > a then b else a)) h := rfl
@[simp] theorem bMin2_int {a b : Int} : bMin2 [.int a, .int b] h = .ok (.int (if b < a then b else a)) h := rfl
@[simp] theorem bList_one {x : D} : bList [x] h = (match sqOf h x with
    | some xs => .ok xs h
    | none => .stuck) := rfl
theorem toI_map (ns : List Int) : optAll toI (ns.map .int) = some ns := by
  have := optAll_map (g := toI) (e := D.int) (e' := id) (xs := ns) fun _ _ => rfl
  rw [List.map_id] at this
  exact this
theorem toBl_map (ns : List Bool) : optAll toBl (ns.map .bl) = some ns := by
  have := optAll_map (g := toBl) (e := D.bl) (e' := id) (xs := ns) fun _ _ => rfl
  rw [List.map_id] at this
  exact this
theorem toS_map (ns : List Str) : optAll toS (ns.map .str) = some ns := by
  have := optAll_map (g := toS) (e := D.str) (e' := id) (xs := ns) fun _ _ => rfl
  rw [List.map_id] at this
  exact this
@[simp] theorem tyName_non : tyName h .non = some "NoneType" := rfl
@[simp] theorem tyName_bl {b : Bool} : tyName h (.bl b) = some "bool" := rfl
@[simp] theorem tyName_int {b : Int} : tyName h (.int b) = some "int" := rfl
@[simp] theorem tyName_str {b : Str} : tyName h (.str b) = some "str" := rfl
@[simp] theorem tyName_lst {b : List D} : tyName h (.lst b) = some "list" := rfl
@[simp] theorem tyName_tup {b : List D} : tyName h (.tup b) = some "tuple" := rfl
end
section
variable {σ : VS} {h : Hv} {f g k : ES} {l : LS} {c : CS} {s1 s2 : SS} {i : Nat}
@[simp] theorem sNext_ap : sNext σ h = .next σ h := rfl
@[simp] theorem sBrk_ap : sBrk σ h = .brk σ h := rfl
@[simp] theorem sCont_ap : sCont σ h = .cont σ h := rfl
theorem sSeq_ap : sSeq s1 s2 σ h = (match s1 σ h with
  | .next σ' h' => s2 σ' h'
  | r => r) := rfl
@[simp] theorem sDrop_ap : sDrop f σ h = (f σ h).then σ fun _ h' => .next σ h' := rfl
@[simp] theorem sRet_ap : sRet f σ h = (f σ h).then σ fun d h' => .ret d h' := rfl
theorem sIf_ap : sIf c s1 s2 σ h = (c σ h).then σ fun k h' => if k then s1 σ h' else s2 σ h' := rfl
@[simp] theorem sSet_ap : sSet i f σ h = (f σ h).then σ fun d h' => .next (σ.set i (some d)) h' := rfl
@[simp] theorem sPar_ap {j : Nat} : sPar i j l σ h = (l σ h).then σ fun ds h' => (match ds with
  | [x, y] => .next ((σ.set i (some x)).set j (some y)) h'
  | _ => .stuck) := rfl
@[simp] theorem sAsg_ap {gd : GD} : sAsg f gd σ h = (f σ h).then σ fun d h' => (match gd d σ with
  | some σ' => .next σ' h'
  | none => .stuck) := rfl
theorem sFor_ap {is : IS} {gd : GD} : sFor is gd s1 σ h = (is σ h).then σ fun p h1 => forD p.2 gd s1 p.1 σ h1 := rfl
def kSI3 (d x i : D) (σ : VS) (h : Hv) : RS := match x, i with
  | .cell n, .int k => (match h[n]? with
    | some (.lst xs) => (match ixN xs.length k with
      | some j => .next σ (h.set n (.lst (xs.set j d)))
      | none => .stuck)
    | _ => .stuck)
  | _, _ => .stuck
def kSI2 (k : ES) (σ : VS) (d x : D) (h : Hv) : RS := (k σ h).then σ fun i h3 => kSI3 d x i σ h3
def kSI1 (g k : ES) (σ : VS) (d : D) (h : Hv) : RS := (g σ h).then σ (kSI2 k σ d)
@[simp] theorem sSetIx_ap : sSetIx f g k σ h = (f σ h).then σ (kSI1 g k σ) := rfl
@[simp] theorem kSI1_ap {d : D} : kSI1 g k σ d h = (g σ h).then σ (kSI2 k σ d) := rfl
@[simp] theorem kSI2_ap {d x : D} : kSI2 k σ d x h = (k σ h).then σ fun i h3 => kSI3 d x i σ h3 := rfl
@[simp] theorem kSI3_ap {d : D} {n : Nat} {i : Int} : kSI3 d (.cell n) (.int i) σ h = (match h[n]? with
    | some (.lst xs) => (match ixN xs.length i with
      | some j => .next σ (h.set n (.lst (xs.set j d)))
      | none => .stuck)
    | _ => .stuck) := rfl
@[simp] theorem sRaise_ap {C : Str} : sRaise C σ h = .exc ⟨C, none⟩ σ h := rfl
@[simp] theorem gN_ap {d : D} : gN i d σ = some (σ.set i (some d)) := rfl
@[simp] theorem gsNil_ap : gsNil [] σ = some σ := rfl
@[simp] theorem gsCons_ap {gd : GD} {gs : GDs} {d : D} {r : List D} : gsCons gd gs (d :: r) σ = (match gd d σ with
    | some σ' => gs r σ'
    | none => none) := rfl
@[simp] theorem gT_ap {n : Nat} {gs : GDs} {ds : List D} : gT n gs (.tup ds) σ = if ds.length = n then gs ds σ else none := rfl
@[simp] theorem iL_ap : iL f σ h = (f σ h).bind fun d h1 => (match d with
  | .lst ds => .ok (ds, always) h1
  | .fz ds => .ok (ds, always) h1
  | _ => .stuck) := rfl
@[simp] theorem iC_ap : iC f σ h = (f σ h).bind fun d h1 => (match d with
  | .cell n => (match h1[n]? with
    | some (.lst ds) => .ok (ds, isCell n ds) h1
    | _ => .stuck)
  | _ => .stuck) := rfl
@[simp] theorem iT_ap : iT f σ h = (f σ h).bind fun d h1 => (match d with
  | .tup ds => .ok (ds, always) h1
  | _ => .stuck) := rfl
@[simp] theorem iS_ap : iS f σ h = (f σ h).bind fun d h1 => (match d with
  | .str x => .ok (signsD x, always) h1
  | _ => .stuck) := rfl
def kR1 (ds : List D) (h1 : Hv) : R (List D × (Hv → Bool)) := match ds with
  | [.int n] => @ite _ (-(2 ^ 62) ≤ n ∧ n < 2 ^ 62) (Classical.propDecidable _) (.ok (rgD 0 n.toNat, always) h1) .stuck
  | _ => .stuck
def kR2 (ds : List D) (h1 : Hv) : R (List D × (Hv → Bool)) := match ds with
  | [.int m, .int n] => @ite _ ((-(2 ^ 62) ≤ m ∧ m < 2 ^ 62) ∧ (-(2 ^ 62) ≤ n ∧ n < 2 ^ 62)) (Classical.propDecidable _) (.ok (rgD m (n - m).toNat, always) h1) .stuck
  | _ => .stuck
@[simp] theorem iR1_ap : iR1 l σ h = (l σ h).bind kR1 := rfl
@[simp] theorem iR2_ap : iR2 l σ h = (l σ h).bind kR2 := rfl
@[simp] theorem kR1_ap {n : Int} (h0 : -4000000000000000000 ≤ n) (h1 : n ≤ 4000000000000000000) : kR1 [.int n] h = .ok (rgD 0 n.toNat, always) h := if_pos ⟨Int.le_trans (by decide) h0, Int.lt_of_le_of_lt h1 (by decide)⟩
@[simp] theorem kR2_ap {m n : Int} (h0 : -4000000000000000000 ≤ m) (h1 : m ≤ 4000000000000000000) (h2 : -4000000000000000000 ≤ n) (h3 : n ≤ 4000000000000000000) : kR2 [.int m, .int n] h = .ok (rgD m (n - m).toNat, always) h := if_pos ⟨⟨Int.le_trans (by decide) h0, Int.lt_of_le_of_lt h1 (by decide)⟩, ⟨Int.le_trans (by decide) h2, Int.lt_of_le_of_lt h3 (by decide)⟩⟩
def kRg (d : D) (h1 : Hv) : R (List D) := match d with
  | .int n => @ite _ ((-(2 ^ 62) ≤ n ∧ n < 2 ^ 62) ∧ n.toNat ≤ 2 ^ 24) (Classical.propDecidable _) (.ok (rgD 0 n.toNat) h1) .stuck
  | _ => .stuck
@[simp] theorem lRg1_ap : lRg1 f σ h = (f σ h).bind kRg := rfl
@[simp] theorem kRg_ap {n : Int} (h0 : -16000000 ≤ n) (h1 : n ≤ 16000000) : kRg (.int n) h = .ok (rgD 0 n.toNat) h := if_pos ⟨⟨Int.le_trans (by decide) h0, Int.lt_of_le_of_lt h1 (by decide)⟩, by omega⟩
@[simp] theorem iZ_ap : iZ l σ h = (l σ h).bind fun ds h1 => (match ds with
  | [x, y] => (match lsOf x, lsOf y with
    | some xs, some ys => if xs.length = ys.length then .ok (zipD xs ys, always) h1 else .stuck
    | _, _ => .stuck)
  | _ => .stuck) := rfl
@[simp] theorem lsOf_lst {xs : List D} : lsOf (.lst xs) = some xs := rfl
@[simp] theorem lsOf_fz {xs : List D} : lsOf (.fz xs) = some xs := rfl
@[simp] theorem always_ap : always h = true := rfl
@[simp] theorem forD_nil {chk : Hv → Bool} {gd : GD} : forD chk gd s1 [] σ h = if chk h then .next σ h else .stuck := rfl
theorem forD_cons {chk : Hv → Bool} {gd : GD} {d : D} {ds : List D} : forD chk gd s1 (d :: ds) σ h = if chk h then (match gd d σ with
    | some σ1 => (match s1 σ1 h with
      | .next σ2 h2 => forD chk gd s1 ds σ2 h2
      | .cont σ2 h2 => forD chk gd s1 ds σ2 h2
      | .brk σ2 h2 => .next σ2 h2
      | r => r)
    | none => .stuck) else .stuck := rfl
end
/-! ### calls -/
theorem callP_ok {sem : List D → Hv → R D} {ds ds' : List D} {h : Hv} {d : D} (hp : pureD ds = some ds') (e : sem ds' [] = .ok d []) : callP sem ds h = .ok d h := by
  unfold callP
  rw [hp]
  simp only [e]
theorem callP_exc {sem : List D → Hv → R D} {ds ds' : List D} {h : Hv} {x : Xn} (hp : pureD ds = some ds') (e : sem ds' [] = .exc x []) : callP sem ds h = .exc x h := by
  unfold callP
  rw [hp]
  simp only [e]
theorem callB_ok {sem : List D → Hv → R D} {ds ds' : List D} {h : Hv} {d : D} (hp : optAll (frz 0 h 12) ds = some ds') (e : sem ds' [] = .ok d []) (hs : isScal d = true) : callB sem ds h = .ok d h := by
  unfold callB
  rw [hp]
  simp only [e]
  rw [if_pos hs]
theorem callB_exc {sem : List D → Hv → R D} {ds ds' : List D} {h : Hv} {C : Str} (hp : optAll (frz 0 h 12) ds = some ds') (e : sem ds' [] = .exc ⟨C, none⟩ []) : callB sem ds h = .exc ⟨C, none⟩ h := by
  unfold callB
  rw [hp]
  simp only [e]
theorem callB_excP {sem : List D → Hv → R D} {ds ds' : List D} {h : Hv} {C f : Str} {d : D} (hp : optAll (frz 0 h 12) ds = some ds') (e : sem ds' [] = .exc ⟨C, some (f, d)⟩ []) (hs : isScal d = true) : callB sem ds h = .exc ⟨C, some (f, d)⟩ h := by
  unfold callB
  rw [hp]
  simp only [e]
  rw [if_pos hs]
/-- a def without cells of others -/
theorem fnS_ret {np nl : Nat} {body : SS} {ds : List D} {d d' : D} {h' : Hv} (hl : ds.length = np) (hb : body (ds.map some ++ List.replicate nl none) [] = .ret d h') (hf : frz 0 h' 12 d = some d') : fnS np nl body ds [] = .ok d' [] := by
  unfold fnS
  rw [if_pos hl, hb]
  show exitD 0 d h' = _
  unfold exitD
  rw [hf, List.take_zero]
  simp only [optAll_nil, Nat.zero_le, if_true]
theorem fnS_next {np nl : Nat} {body : SS} {ds : List D} {σ : VS} {h' : Hv} (hl : ds.length = np) (hb : body (ds.map some ++ List.replicate nl none) [] = .next σ h') : fnS np nl body ds [] = .ok .non [] := by
  unfold fnS
  rw [if_pos hl, hb]
  show exitD 0 .non h' = _
  unfold exitD
  rw [frz_non, List.take_zero]
  simp only [optAll_nil, Nat.zero_le, if_true]
theorem fnS_exc {np nl : Nat} {body : SS} {ds : List D} {σ : VS} {h' : Hv} {C : Str} (hl : ds.length = np) (hb : body (ds.map some ++ List.replicate nl none) [] = .exc ⟨C, none⟩ σ h') : fnS np nl body ds [] = .exc ⟨C, none⟩ [] := by
  unfold fnS
  rw [if_pos hl, hb]
  show exitX 0 ⟨C, none⟩ h' = _
  unfold exitX
  rw [List.take_zero]
  simp only [optAll_nil, Nat.zero_le, if_true]
theorem fnS_excP {np nl : Nat} {body : SS} {ds : List D} {σ : VS} {h' : Hv} {C f : Str} {d d' : D} (hl : ds.length = np) (hb : body (ds.map some ++ List.replicate nl none) [] = .exc ⟨C, some (f, d)⟩ σ h') (hf : frz 0 h' 12 d = some d') : fnS np nl body ds [] = .exc ⟨C, some (f, d')⟩ [] := by
  unfold fnS
  rw [if_pos hl, hb]
  show exitX 0 ⟨C, some (f, d)⟩ h' = _
  unfold exitX
  dsimp only
  rw [hf, List.take_zero]
  simp only [optAll_nil, List.length_nil, Nat.zero_le, if_true]
/-! ### loops -/
def foldE {α S : Type} (F : S → α → Except D S) : S → List α → Except D S
  | s, [] => .ok s
  | s, a :: as => match F s a with
    | .ok s' => foldE F s' as
    | .error d => .error d
/-- a for loop, its turns told by F: an error is a return -/
theorem forD_run {α S : Type} {chk : Hv → Bool} {gd : GD} {body : SS} (enc : α → D) (I : S → VS → Hv → Prop) (F : S → α → Except D S) (xs : List α)
    (hc : ∀ s σ h, I s σ h → chk h = true)
    (step : ∀ s a σ h, a ∈ xs → I s σ h → ∃ σ1, gd (enc a) σ = some σ1 ∧ match F s a with
      | .ok s' => ∃ σ2 h2, (body σ1 h = .next σ2 h2 ∨ body σ1 h = .cont σ2 h2) ∧ I s' σ2 h2
      | .error d => ∃ h2, body σ1 h = .ret d h2) : ∀ {s σ h}, I s σ h → match foldE F s xs with
    | .ok s' => ∃ σ' h', forD chk gd body (xs.map enc) σ h = .next σ' h' ∧ I s' σ' h'
    | .error d => ∃ h', forD chk gd body (xs.map enc) σ h = .ret d h' := by
  induction xs with
  | nil =>
    intro s σ h i
    refine ⟨σ, h, ?_, i⟩
    rw [List.map_nil, forD_nil, hc s σ h i, if_pos rfl]
  | cons a xs ih =>
    intro s σ h i
    obtain ⟨σ1, e1, e2⟩ := step s a σ h List.mem_cons_self i
    rw [List.map_cons, forD_cons, hc s σ h i, if_pos rfl, e1]
    simp only [foldE]
    cases q : F s a with
    | ok s' =>
      rw [q] at e2
      obtain ⟨σ2, h2, hb, i2⟩ := e2
      have z := ih (fun s a σ h ha => step s a σ h (List.mem_cons_of_mem _ ha)) i2
      rcases hb with hb | hb
      · simp only [hb]
        exact z
      · simp only [hb]
        exact z
    | error d =>
      rw [q] at e2
      obtain ⟨h2, hb⟩ := e2
      exact ⟨h2, by simp only [hb]⟩
theorem forD_fold {α S : Type} {chk : Hv → Bool} {gd : GD} {body : SS} (enc : α → D) (I : S → VS → Hv → Prop) (F : S → α → S) (xs : List α)
    (hc : ∀ s σ h, I s σ h → chk h = true)
    (step : ∀ s a σ h, a ∈ xs → I s σ h → ∃ σ1 σ2 h2, gd (enc a) σ = some σ1 ∧ (body σ1 h = .next σ2 h2 ∨ body σ1 h = .cont σ2 h2) ∧ I (F s a) σ2 h2) {s : S} {σ : VS} {h : Hv} (i : I s σ h) :
    ∃ σ' h', forD chk gd body (xs.map enc) σ h = .next σ' h' ∧ I (xs.foldl F s) σ' h' := by
  have z := forD_run (chk := chk) (gd := gd) (body := body) enc I (fun s a => .ok (F s a)) xs hc (fun s a σ h ha i => by
    obtain ⟨σ1, σ2, h2, e1, e2, e3⟩ := step s a σ h ha i
    exact ⟨σ1, e1, σ2, h2, e2, e3⟩) i
  have e : ∀ (xs : List α) (s : S), foldE (fun s a => (.ok (F s a) : Except D S)) s xs = .ok (xs.foldl F s) := by
    intro xs
    induction xs with
    | nil => intro s; rfl
    | cons a xs ih => intro s; exact ih _
  rw [e] at z
  exact z
/-- a for loop that leaves at the first item that is not well -/
theorem forD_all {α : Type} {chk : Hv → Bool} {gd : GD} {body : SS} (enc : α → D) (I : VS → Hv → Prop) (p : α → Bool) (d : D) (xs : List α)
    (hc : ∀ σ h, I σ h → chk h = true)
    (step : ∀ a σ h, a ∈ xs → I σ h → ∃ σ1, gd (enc a) σ = some σ1 ∧ if p a = true then ∃ σ2 h2, (body σ1 h = .next σ2 h2 ∨ body σ1 h = .cont σ2 h2) ∧ I σ2 h2 else ∃ h2, body σ1 h = .ret d h2) {σ : VS} {h : Hv} (i : I σ h) :
    if xs.all p = true then ∃ σ' h', forD chk gd body (xs.map enc) σ h = .next σ' h' ∧ I σ' h' else ∃ h', forD chk gd body (xs.map enc) σ h = .ret d h' := by
  have z := forD_run (chk := chk) (gd := gd) (body := body) enc (fun (_ : Unit) σ h => I σ h) (fun _ a => if p a = true then .ok () else .error d) xs (fun _ => hc) (fun _ a σ h ha i => by
    obtain ⟨σ1, e1, e2⟩ := step a σ h ha i
    refine ⟨σ1, e1, ?_⟩
    by_cases q : p a = true
    · rw [if_pos q] at e2 ⊢
      exact e2
    · rw [if_neg q] at e2 ⊢
      exact e2) (s := ()) i
  have e : ∀ xs : List α, foldE (fun (_ : Unit) a => if p a = true then .ok () else (.error d : Except D Unit)) () xs = if xs.all p = true then .ok () else .error d := by
    intro xs
    induction xs with
    | nil => rfl
    | cons a xs ih =>
      rw [foldE]
      by_cases q : p a = true
      · rw [if_pos q]
        simp only [ih, List.all_cons, q, Bool.true_and]
      · rw [if_neg q]
        simp only [List.all_cons, q, Bool.false_and]
        rfl
  rw [e] at z
  by_cases q : xs.all p = true
  · rw [if_pos q] at z ⊢
    exact z
  · rw [if_neg q] at z ⊢
    exact z
theorem lcD_filter {α : Type} {chk : Hv → Bool} {gd : GD} {c : CS} {el : ES} {σ : VS} {h : Hv} (enc : α → D) (p : α → Bool) (f : α → D) (hc : chk h = true) : ∀ (xs : List α),
    (∀ a ∈ xs, ∃ σ1, gd (enc a) σ = some σ1 ∧ c σ1 h = .ok (p a) h ∧ (p a = true → el σ1 h = .ok (f a) h)) → lcD chk gd c el (xs.map enc) σ h = .ok ((xs.filter p).map f) h
  | [], _ => by
    rw [List.map_nil]
    simp only [lcD, hc, if_true, List.filter_nil, List.map_nil]
  | a :: xs, q => by
    obtain ⟨σ1, e1, e2, e3⟩ := q a List.mem_cons_self
    have ih := lcD_filter enc p f hc xs fun b hb => q b (List.mem_cons_of_mem _ hb)
    rw [List.map_cons]
    simp only [lcD, hc, if_true, e1, e2, R.calm_ok, R.bind_ok]
    cases pa : p a with
    | true =>
      simp only [if_true, e3 pa, R.calm_ok, R.bind_ok, ih, List.filter_cons, pa, List.map_cons]
    | false =>
      simp only [Bool.false_eq_true, if_false, ih, List.filter_cons, pa]
theorem lcD_map {α : Type} {chk : Hv → Bool} {gd : GD} {el : ES} {σ : VS} {h : Hv} (enc : α → D) (f : α → D) (hc : chk h = true) (xs : List α) (q : ∀ a ∈ xs, ∃ σ1, gd (enc a) σ = some σ1 ∧ el σ1 h = .ok (f a) h) : lcD chk gd cYes el (xs.map enc) σ h = .ok (xs.map f) h := by
  have := lcD_filter (c := cYes) enc (fun _ => true) f hc xs fun a ha => let ⟨σ1, e1, e2⟩ := q a ha; ⟨σ1, e1, rfl, fun _ => e2⟩
  rw [this, List.filter_eq_self.mpr (fun _ _ => rfl)]
/-! ### typed data -/
class En (α : Type) [DecidableEq α] [PySem.W.Datum α] where
  enc : α → D
  py : ∀ (h : Hv) (f : Nat) (a : α), PySem.W.Datum.depth α < f → toPy h f (enc a) = some (PySem.W.Datum.toD a)
  fr : ∀ (n0 : Nat) (h : Hv) (f : Nat) (a : α), PySem.W.Datum.depth α < f → frz n0 h f (enc a) = some (enc a)
instance : En Int := ⟨.int, fun h f a hf => by cases f; exact absurd hf (Nat.not_lt_zero _); rfl, fun n0 h f a hf => by cases f; exact absurd hf (Nat.not_lt_zero _); rfl⟩
instance : En Bool := ⟨.bl, fun h f a hf => by cases f; exact absurd hf (Nat.not_lt_zero _); rfl, fun n0 h f a hf => by cases f; exact absurd hf (Nat.not_lt_zero _); rfl⟩
instance : En Str := ⟨.str, fun h f a hf => by cases f; exact absurd hf (Nat.not_lt_zero _); rfl, fun n0 h f a hf => by cases f; exact absurd hf (Nat.not_lt_zero _); rfl⟩
section
variable {α β γ δ : Type} [DecidableEq α] [PySem.W.Datum α] [En α] [DecidableEq β] [PySem.W.Datum β] [En β] [DecidableEq γ] [PySem.W.Datum γ] [En γ] [DecidableEq δ] [PySem.W.Datum δ] [En δ]
open PySem.W (Datum T3 T4 Tup)
theorem toPy_all {h : Hv} {f : Nat} (hf : Datum.depth α < f) (xs : List α) : optAll (toPy h f) (xs.map En.enc) = some (xs.map Datum.toD) := optAll_map fun x _ => En.py h f x hf
theorem frz_all {n0 : Nat} {h : Hv} {f : Nat} (hf : Datum.depth α < f) (xs : List α) : optAll (frz n0 h f) (xs.map En.enc) = some (xs.map En.enc) := optAll_map fun x _ => En.fr n0 h f x hf
instance : En (List α) where
  enc xs := .lst (xs.map En.enc)
  py h f xs hf := by
    cases f with
    | zero => exact absurd hf (Nat.not_lt_zero _)
    | succ f =>
      have hf' : Datum.depth α + 1 < f + 1 := hf
      rw [toPy_lst, toPy_all (by omega)]
      rfl
  fr n0 h f xs hf := by
    cases f with
    | zero => exact absurd hf (Nat.not_lt_zero _)
    | succ f =>
      have hf' : Datum.depth α + 1 < f + 1 := hf
      rw [frz_lst, frz_all (by omega)]
      rfl
instance : En (α × β) where
  enc p := .tup [En.enc p.1, En.enc p.2]
  py h f p hf := by
    cases f with
    | zero => exact absurd hf (Nat.not_lt_zero _)
    | succ f =>
      have hf' : max (Datum.depth α) (Datum.depth β) + 1 < f + 1 := hf
      rw [toPy_tup, optAll_cons, optAll_cons, En.py h f p.1 (by omega), En.py h f p.2 (by omega)]
      rfl
  fr n0 h f p hf := by
    cases f with
    | zero => exact absurd hf (Nat.not_lt_zero _)
    | succ f =>
      have hf' : max (Datum.depth α) (Datum.depth β) + 1 < f + 1 := hf
      rw [frz_tup, optAll_cons, optAll_cons, En.fr n0 h f p.1 (by omega), En.fr n0 h f p.2 (by omega)]
      rfl
instance : En (T3 α β γ) where
  enc p := .tup [En.enc p.a, En.enc p.b, En.enc p.c]
  py h f p hf := by
    cases f with
    | zero => exact absurd hf (Nat.not_lt_zero _)
    | succ f =>
      have hf' : max (max (Datum.depth α) (Datum.depth β)) (Datum.depth γ) + 1 < f + 1 := hf
      rw [toPy_tup, optAll_cons, optAll_cons, optAll_cons, En.py h f p.a (by omega), En.py h f p.b (by omega), En.py h f p.c (by omega)]
      rfl
  fr n0 h f p hf := by
    cases f with
    | zero => exact absurd hf (Nat.not_lt_zero _)
    | succ f =>
      have hf' : max (max (Datum.depth α) (Datum.depth β)) (Datum.depth γ) + 1 < f + 1 := hf
      rw [frz_tup, optAll_cons, optAll_cons, optAll_cons, En.fr n0 h f p.a (by omega), En.fr n0 h f p.b (by omega), En.fr n0 h f p.c (by omega)]
      rfl
instance : En (T4 α β γ δ) where
  enc p := .tup [En.enc p.a, En.enc p.b, En.enc p.c, En.enc p.d]
  py h f p hf := by
    cases f with
    | zero => exact absurd hf (Nat.not_lt_zero _)
    | succ f =>
      have hf' : max (max (max (Datum.depth α) (Datum.depth β)) (Datum.depth γ)) (Datum.depth δ) + 1 < f + 1 := hf
      rw [toPy_tup, optAll_cons, optAll_cons, optAll_cons, optAll_cons, En.py h f p.a (by omega), En.py h f p.b (by omega), En.py h f p.c (by omega), En.py h f p.d (by omega)]
      rfl
  fr n0 h f p hf := by
    cases f with
    | zero => exact absurd hf (Nat.not_lt_zero _)
    | succ f =>
      have hf' : max (max (max (Datum.depth α) (Datum.depth β)) (Datum.depth γ)) (Datum.depth δ) + 1 < f + 1 := hf
      rw [frz_tup, optAll_cons, optAll_cons, optAll_cons, optAll_cons, En.fr n0 h f p.a (by omega), En.fr n0 h f p.b (by omega), En.fr n0 h f p.c (by omega), En.fr n0 h f p.d (by omega)]
      rfl
theorem eqD_en (h : Hv) (a b : α) (hd : Datum.depth α < 12 := by decide) : eqD h (En.enc a) (En.enc b) = some (decide (a = b)) := by
  unfold eqD
  rw [En.py h 12 a hd, En.py h 12 b hd]
  exact congrArg some (Datum.eqv a b)
@[simp] theorem eFrz_ap {f : ES} {σ : VS} {h : Hv} : eFrz f σ h = frzR h.length (f σ h) := rfl
@[simp] theorem frzR_ok {n0 : Nat} {d : D} {h : Hv} : frzR n0 (.ok d h) = exitD n0 d h := rfl
theorem oInP_en {h : Hv} {a : α} {xs : List α} (hd : Datum.depth α < 11 := by decide) : oInP (En.enc a) (.lst (xs.map En.enc)) h = .ok (.bl (decide (a ∈ xs))) h := by
  have e1 := En.py h 12 a (Nat.lt_succ_of_lt hd)
  have e2 : toPy h 12 (.lst (xs.map En.enc)) = some (.list (xs.map Datum.toD)) := by
    rw [toPy_lst, toPy_all hd]; rfl
  unfold oInP inP
  rw [e1, e2]
  simp only [Option.bind_some, seqP]
  congr 2
  rw [List.any_map, Bool.eq_iff_iff, List.any_eq_true, decide_eq_true_eq]
  constructor
  · rintro ⟨b, hb, q⟩
    have q : PyData.eqv (Datum.toD b) (Datum.toD a) = true := q
    rw [Datum.eqv] at q
    have := of_decide_eq_true q
    rw [← this]; exact hb
  · intro ha
    refine ⟨a, ha, ?_⟩
    show PyData.eqv (Datum.toD a) (Datum.toD a) = true
    rw [Datum.eqv]; exact decide_eq_true rfl
theorem oNotInP_en {h : Hv} {a : α} {xs : List α} (hd : Datum.depth α < 11 := by decide) : oNotInP (En.enc a) (.lst (xs.map En.enc)) h = .ok (.bl (!decide (a ∈ xs))) h := by
  have := oInP_en (h := h) (a := a) (xs := xs) hd
  unfold oInP at this
  unfold oNotInP
  cases e : inP h (En.enc a) (.lst (xs.map En.enc)) with
  | none => rw [e] at this; cases this
  | some b =>
    rw [e] at this
    simp only at this ⊢
    injection this with this _
    injection this with this
    rw [this]
theorem frz_en (n0 : Nat) (h : Hv) (a : α) (hd : Datum.depth α < 12 := by decide) : frz n0 h 12 (En.enc a) = some (En.enc a) := En.fr n0 h 12 a hd
end
@[simp] theorem enc_int (i : Int) : (En.enc i : D) = .int i := rfl
@[simp] theorem enc_bl (i : Bool) : (En.enc i : D) = .bl i := rfl
@[simp] theorem enc_str (i : Str) : (En.enc i : D) = .str i := rfl
theorem enc_ints (ns : List Int) : (En.enc ns : D) = .lst (ns.map .int) := rfl
/-! ### places -/
theorem ixN_nat {n : Nat} {k : Int} (h0 : 0 ≤ k) (h1 : k < n) : ixN n k = some k.toNat := by
  unfold ixN
  rw [if_pos h0, if_pos h1]
theorem ixN_some {n : Nat} {k : Int} {j : Nat} (e : k = j) (h1 : j < n) : ixN n k = some j := by
  subst e
  rw [ixN_nat (by omega) (by omega)]
  rfl
theorem atI_at {α : Type} {xs : List α} {k : Int} {j : Nat} {a : α} (e : k = j) (h : xs[j]? = some a) : atI xs k = some a := by
  unfold atI
  rw [ixN_some e (List.getElem?_eq_some_iff.mp h).1]
  exact h
theorem atI_map {α β : Type} {xs : List α} {e : α → β} {k : Int} {a : α} (h : atI xs k = some a) : atI (xs.map e) k = some (e a) := by
  unfold atI at h ⊢
  rw [List.length_map]
  cases q : ixN xs.length k with
  | none => rw [q] at h; cases h
  | some j =>
    rw [q] at h
    have h' : xs[j]? = some a := h
    show (xs.map e)[j]? = some (e a)
    rw [List.getElem?_map, h']
    rfl
theorem atI_get {α : Type} {xs : List α} {k : Int} (h0 : 0 ≤ k) (h1 : k < xs.length) : ∃ a, a ∈ xs ∧ xs[k.toNat]? = some a ∧ atI xs k = some a := by
  have h2 : k.toNat < xs.length := by omega
  exact ⟨xs[k.toNat], List.getElem_mem h2, List.getElem?_eq_getElem h2, atI_at (by omega) (List.getElem?_eq_getElem h2)⟩
theorem atI_getD {xs : List Int} {k : Int} (h0 : 0 ≤ k) (h1 : k < xs.length) : atI xs k = some (xs.getD k.toNat 0) := by
  obtain ⟨a, _, h2, h3⟩ := atI_get h0 h1
  rw [h3, List.getD_eq_getElem?_getD, h2]
  rfl
/-! ### sizes -/
theorem mulOk_of {i j : Int} {a b : Nat} (ha : i.natAbs < 2 ^ a) (hb : j.natAbs < 2 ^ b) (h0 : 0 < a) (h1 : 0 < b) (h : a + b ≤ 1000000) : mulOk i j = true := decide_eq_true (wide_mul ha hb h0 h1 h)
theorem lt_2_256 {i : Int} (h1 : -(10 ^ 77) < i) (h2 : i < 10 ^ 77) : i.natAbs < 2 ^ 256 := by
  have e : (10 : Int) ^ 77 = 100000000000000000000000000000000000000000000000000000000000000000000000000000 := by decide
  have e2 : (2 : Nat) ^ 256 = 115792089237316195423570985008687907853269984665640564039457584007913129639936 := by decide
  rw [e] at h1 h2
  rw [e2]
  omega
/-- a product of numbers of at most 77 figures -/
theorem mulOk77 {i j : Int} (h1 : -(10 ^ 77) < i) (h2 : i < 10 ^ 77) (h3 : -(10 ^ 77) < j) (h4 : j < 10 ^ 77) : mulOk i j = true := mulOk_of (lt_2_256 h1 h2) (lt_2_256 h3 h4) (by decide) (by decide) (by decide)
theorem divOk77 {j : Int} (h1 : 0 < j) (h2 : j < 10 ^ 77) : divOk j = true := decide_eq_true (wide_div (i := 0) h1 (lt_2_256 (by omega) h2) (by decide) (by decide))
@[simp] theorem oMul77 {i j : Int} {h : Hv} (h1 : -(10 ^ 77) < i) (h2 : i < 10 ^ 77) (h3 : -(10 ^ 77) < j) (h4 : j < 10 ^ 77) : oMul (.int i) (.int j) h = .ok (.int (i * j)) h := by rw [oMul_int, if_pos (mulOk77 h1 h2 h3 h4)]
@[simp] theorem oFdiv77 {i j : Int} {h : Hv} (h1 : 0 < j) (h2 : j < 10 ^ 77) : oFdiv (.int i) (.int j) h = .ok (.int (i / j)) h := by rw [oFdiv_int, if_pos (divOk77 h1 h2)]
/-! ### ranges, zips -/
theorem rgD_map (lo : Int) (n : Nat) : rgD lo n = (List.range n).map (fun i => D.int (lo + (i : Nat))) := rfl
theorem rgD_len (lo : Int) (n : Nat) : (rgD lo n).length = n := by
  unfold rgD
  rw [List.length_map, List.length_range]
theorem zipD_map {α β : Type} (e1 : α → D) (e2 : β → D) : ∀ (xs : List α) (ys : List β), zipD (xs.map e1) (ys.map e2) = (xs.zip ys).map fun p => .tup [e1 p.1, e2 p.2]
  | [], _ => rfl
  | _ :: _, [] => rfl
  | x :: xs, y :: ys => by
    rw [List.map_cons, List.map_cons, List.zip_cons_cons, List.map_cons, ← zipD_map e1 e2 xs ys]
    rfl
/-- a for loop by what holds between two turns -/
theorem forD_inv {α : Type} {chk : Hv → Bool} {gd : GD} {body : SS} (enc : α → D) (I : Nat → VS → Hv → Prop) (xs : List α) (hc : ∀ i σ h, I i σ h → chk h = true)
    (step : ∀ i a σ h, xs[i]? = some a → I i σ h → ∃ σ1 σ2 h2, gd (enc a) σ = some σ1 ∧ (body σ1 h = .next σ2 h2 ∨ body σ1 h = .cont σ2 h2) ∧ I (i + 1) σ2 h2) {σ : VS} {h : Hv} (i0 : I 0 σ h) :
    ∃ σ' h', forD chk gd body (xs.map enc) σ h = .next σ' h' ∧ I xs.length σ' h' := by
  have key : ∀ (n : Nat) (i : Nat) σ h, xs.length - i = n → i ≤ xs.length → I i σ h → ∃ σ' h', forD chk gd body ((xs.drop i).map enc) σ h = .next σ' h' ∧ I xs.length σ' h' := by
    intro n
    induction n with
    | zero =>
      intro i σ h hn hi q
      have e : i = xs.length := by omega
      subst e
      refine ⟨σ, h, ?_, q⟩
      rw [List.drop_length, List.map_nil, forD_nil, hc _ _ _ q, if_pos rfl]
    | succ n ih =>
      intro i σ h hn hi q
      have hlt : i < xs.length := by omega
      obtain ⟨σ1, σ2, h2, e1, e2, q2⟩ := step i xs[i] σ h (List.getElem?_eq_getElem hlt) q
      obtain ⟨σ', h', e3, q3⟩ := ih (i + 1) σ2 h2 (by omega) (by omega) q2
      refine ⟨σ', h', ?_, q3⟩
      rw [List.drop_eq_getElem_cons hlt, List.map_cons, forD_cons, hc _ _ _ q, if_pos rfl, e1]
      rcases e2 with e2 | e2
      · simp only [e2]; exact e3
      · simp only [e2]; exact e3
  have z := key xs.length 0 σ h (by omega) (by omega) i0
  rw [List.drop_zero] at z
  exact z
/-- .. one that may leave by a return -/
theorem forD_ret {α : Type} {chk : Hv → Bool} {gd : GD} {body : SS} (enc : α → D) (I : Nat → VS → Hv → Prop) (Rt : D → Hv → Prop) (xs : List α) (hc : ∀ i σ h, I i σ h → chk h = true)
    (step : ∀ i a σ h, xs[i]? = some a → I i σ h → ∃ σ1, gd (enc a) σ = some σ1 ∧ ((∃ σ2 h2, (body σ1 h = .next σ2 h2 ∨ body σ1 h = .cont σ2 h2) ∧ I (i + 1) σ2 h2) ∨ ∃ d h2, body σ1 h = .ret d h2 ∧ Rt d h2)) {σ : VS} {h : Hv} (i0 : I 0 σ h) :
    (∃ σ' h', forD chk gd body (xs.map enc) σ h = .next σ' h' ∧ I xs.length σ' h') ∨ ∃ d h', forD chk gd body (xs.map enc) σ h = .ret d h' ∧ Rt d h' := by
  have key : ∀ (n : Nat) (i : Nat) σ h, xs.length - i = n → i ≤ xs.length → I i σ h → (∃ σ' h', forD chk gd body ((xs.drop i).map enc) σ h = .next σ' h' ∧ I xs.length σ' h') ∨ ∃ d h', forD chk gd body ((xs.drop i).map enc) σ h = .ret d h' ∧ Rt d h' := by
    intro n
    induction n with
    | zero =>
      intro i σ h hn hi q
      have e : i = xs.length := by omega
      subst e
      refine .inl ⟨σ, h, ?_, q⟩
      rw [List.drop_length, List.map_nil, forD_nil, hc _ _ _ q, if_pos rfl]
    | succ n ih =>
      intro i σ h hn hi q
      have hlt : i < xs.length := by omega
      obtain ⟨σ1, e1, e2⟩ := step i xs[i] σ h (List.getElem?_eq_getElem hlt) q
      rw [List.drop_eq_getElem_cons hlt, List.map_cons, forD_cons, hc _ _ _ q, if_pos rfl, e1]
      rcases e2 with ⟨σ2, h2, e2 | e2, q2⟩ | ⟨d, h2, e2, q2⟩
      · simp only [e2]; exact ih (i + 1) σ2 h2 (by omega) (by omega) q2
      · simp only [e2]; exact ih (i + 1) σ2 h2 (by omega) (by omega) q2
      · exact .inr ⟨d, h2, by simp only [e2], q2⟩
  have z := key xs.length 0 σ h (by omega) (by omega) i0
  rw [List.drop_zero] at z
  exact z
/-! ### dicts -/
section
variable {σ : VS} {h : Hv} {f g k : ES} {d : D}
@[simp] theorem keyOf_int {i : Int} : keyOf (.int i) = some (.inl i) := rfl
@[simp] theorem keyOf_str {x : Str} : keyOf (.str x) = some (.inr x) := rfl
@[simp] theorem kvOf_cell {n : Nat} : kvOf h (.cell n) = (match h[n]? with
    | some (.dK kvs) => some kvs
    | some (.dF kvs) => some kvs
    | _ => none) := rfl
@[simp] theorem kvOf_dct {ks : List Key} {ds : List D} : kvOf h (.dct ks ds) = if ks.length = ds.length then some (ks.zip ds) else none := rfl
@[simp] theorem oDget_ap {x y : D} : oDget x y h = (match kvOf h x, keyOf y with
  | some kd, some k => (match getD kd k with
    | some d => .ok d h
    | none => .stuck)
  | _, _ => .stuck) := rfl
@[simp] theorem oDin_ap {x y : D} : oDin y x h = (match kvOf h x, keyOf y with
  | some kd, some k => .ok (.bl (getD kd k).isSome) h
  | _, _ => .stuck) := rfl
@[simp] theorem oDnin_ap {x y : D} : oDnin y x h = (match kvOf h x, keyOf y with
  | some kd, some k => .ok (.bl (!(getD kd k).isSome)) h
  | _, _ => .stuck) := rfl
def kDp3 (d x y : D) (σ : VS) (h : Hv) : RS := match x, keyOf y with
  | .cell n, some k => (match h[n]? with
    | some (.dK kd) => if kd.length < 16777216 then .next σ (h.set n (.dK (putD kd k d))) else .stuck
    | _ => .stuck)
  | _, _ => .stuck
def kDp2 (k : ES) (σ : VS) (d x : D) (h : Hv) : RS := (k σ h).then σ fun y h3 => kDp3 d x y σ h3
def kDp1 (g k : ES) (σ : VS) (d : D) (h : Hv) : RS := (g σ h).then σ (kDp2 k σ d)
@[simp] theorem sDput_ap : sDput f g k σ h = (f σ h).then σ (kDp1 g k σ) := rfl
@[simp] theorem kDp1_ap : kDp1 g k σ d h = (g σ h).then σ (kDp2 k σ d) := rfl
@[simp] theorem kDp2_ap {x : D} : kDp2 k σ d x h = (k σ h).then σ fun y h3 => kDp3 d x y σ h3 := rfl
@[simp] theorem kDp3_ap {n : Nat} {y : D} : kDp3 d (.cell n) y σ h = (match keyOf y with
  | some k => (match h[n]? with
    | some (.dK kd) => if kd.length < 16777216 then .next σ (h.set n (.dK (putD kd k d))) else .stuck
    | _ => .stuck)
  | none => .stuck) := by
  show (match D.cell n, keyOf y with
  | .cell n, some k => (match h[n]? with
    | some (.dK kd) => if kd.length < 16777216 then RS.next σ (h.set n (.dK (putD kd k d))) else .stuck
    | _ => .stuck)
  | _, _ => .stuck) = _
  cases keyOf y <;> rfl
@[simp] theorem eDnew_ap : eDnew σ h = .ok (.cell h.length) (h ++ [.dK []]) := rfl
@[simp] theorem eLock_ap : eLock f σ h = (f σ h).bind fun d h1 => (match d with
  | .cell n => (match h1[n]? with
    | some (.dK kd) => .ok (.cell n) (h1.set n (.dF kd))
    | _ => .stuck)
  | _ => .stuck) := rfl
@[simp] theorem iD_ap : iD f σ h = (f σ h).bind fun d h1 => (match d with
  | .dct ks ds => .ok (ks.map keyD, always) h1
  | _ => .stuck) := rfl
@[simp] theorem pNil_ap : pNil σ h = .ok [] h := rfl
def kPc2 (gp : PSd) (σ : VS) (k v : D) (h : Hv) : R (List (D × D)) := (gp σ h).bind fun r h3 => .ok ((k, v) :: r) h3
def kPc1 (g : ES) (gp : PSd) (σ : VS) (k : D) (h : Hv) : R (List (D × D)) := (g σ h).bind (kPc2 gp σ k)
@[simp] theorem pCons_ap {gp : PSd} : pCons f g gp σ h = (f σ h).bind (kPc1 g gp σ) := rfl
@[simp] theorem kPc1_ap {gp : PSd} {x : D} : kPc1 g gp σ x h = (g σ h).bind (kPc2 gp σ x) := rfl
@[simp] theorem kPc2_ap {gp : PSd} {x y : D} : kPc2 gp σ x y h = (gp σ h).bind fun r h3 => .ok ((x, y) :: r) h3 := rfl
@[simp] theorem keyP_ap {p : D × D} : keyP p = (keyOf p.1).map fun k => (k, p.2) := rfl
@[simp] theorem eDisp_ap {gp : PSd} : eDisp gp σ h = (gp σ h).bind fun ps h1 => (match optAll keyP ps with
  | some kd => if kd.length ≤ 15 then .ok (.cell h1.length) (h1 ++ [.dK (mergeD [] kd)]) else .stuck
  | none => .stuck) := rfl
@[simp] theorem eDispF_ap {gp : PSd} : eDispF gp σ h = (gp σ h).bind fun ps h1 => (match optAll keyP ps with
  | some kd => if kd.length ≤ 15 then .ok (.dct ((mergeD [] kd).map (·.1)) ((mergeD [] kd).map (·.2))) h1 else .stuck
  | none => .stuck) := rfl
def kDpop2 (x y : D) (h2 : Hv) : R D := match x, keyOf y with
    | .cell n, some k => (match h2[n]? with
      | some (.dK kd) => (match getD kd k with
        | some d => .ok d (h2.set n (.dK (dropD kd k)))
        | none => .stuck)
      | _ => .stuck)
    | _, _ => .stuck
def kDpop1 (g : ES) (σ : VS) (x : D) (h1 : Hv) : R D := match kvOf h1 x with
  | some _ => (g σ h1).bind (kDpop2 x)
  | none => .stuck
@[simp] theorem eDpop_ap : eDpop f g σ h = (f σ h).bind (kDpop1 g σ) := rfl
@[simp] theorem kDpop1_ap {x : D} : kDpop1 g σ x h = (match kvOf h x with
  | some _ => (g σ h).bind (kDpop2 x)
  | none => .stuck) := rfl
@[simp] theorem kDpop2_int {n : Nat} {i : Int} : kDpop2 (.cell n) (.int i) h = (match h[n]? with
      | some (.dK kd) => (match getD kd (.inl i) with
        | some d => .ok d (h.set n (.dK (dropD kd (.inl i))))
        | none => .stuck)
      | _ => .stuck) := rfl
@[simp] theorem getD_nil {k : Key} : getD [] k = none := rfl
theorem getD_cons {k j : Key} {kd : List (Key × D)} : getD ((j, d) :: kd) k = if j = k then some d else getD kd k := by
  unfold getD
  by_cases q : j = k
  · rw [List.find?_cons_of_pos (by exact decide_eq_true q), if_pos q]; rfl
  · rw [List.find?_cons_of_neg (by exact fun z => q (of_decide_eq_true z)), if_neg q]
end
end
end VD

set_option Elab.async false
set_option linter.all false
set_option maxRecDepth 100000
set_option maxHeartbeats 4000000
namespace VD
open PySem PySem.Spec PyProof.Rows L2
noncomputable section
/-! ### what a def comes to, told from its end -/
structure Wp (Q : RS → Prop) (r : RS) : Prop where
  run : Q r
theorem Wp.eq (Q : RS → Prop) (r : RS) : Wp Q r = Q r := propext ⟨Wp.run, Wp.mk⟩
def Sq (Q : RS → Prop) (b : SS) (r : RS) : Prop := match r with
  | .next σ h => Wp Q (b σ h)
  | r => Wp Q r
def Br (Q : RS → Prop) (a b : SS) (σ : VS) (r : R Bool) : Prop := Wp Q (r.then σ fun k h => if k then a σ h else b σ h)
section
variable {Q : RS → Prop} {a b : SS} {σ : VS} {h : Hv} {d : D} {c : CS} {x : Xn} {p : Prop} [Decidable p] {r1 r2 : R Bool} {s1 s2 : RS} {k k2 : Bool}
@[simp] theorem Wp_seq : Wp Q (sSeq a b σ h) = Wp (Sq Q b) (a σ h) := by
  rw [sSeq_ap]
  cases a σ h <;> (rw [Wp.eq (Sq Q b)]; rfl)
@[simp] theorem Wp_sq_next : Wp (Sq Q b) (.next σ h) = Wp Q (b σ h) := Wp.eq _ _
@[simp] theorem Wp_sq_ret : Wp (Sq Q b) (.ret d h) = Wp Q (.ret d h) := Wp.eq _ _
@[simp] theorem Wp_sq_brk : Wp (Sq Q b) (.brk σ h) = Wp Q (.brk σ h) := Wp.eq _ _
@[simp] theorem Wp_sq_cont : Wp (Sq Q b) (.cont σ h) = Wp Q (.cont σ h) := Wp.eq _ _
@[simp] theorem Wp_sq_exc : Wp (Sq Q b) (.exc x σ h) = Wp Q (.exc x σ h) := Wp.eq _ _
@[simp] theorem Wp_sq_stuck : Wp (Sq Q b) .stuck = Wp Q .stuck := Wp.eq _ _
@[simp] theorem Wp_if : Wp Q (sIf c a b σ h) = Br Q a b σ (c σ h) := rfl
@[simp] theorem Br_t : Br Q a b σ (.ok true h) = Wp Q (a σ h) := rfl
@[simp] theorem Br_f : Br Q a b σ (.ok false h) = Wp Q (b σ h) := rfl
@[simp] theorem Br_exc : Br Q a b σ (.exc x h) = Wp Q (.exc x σ h) := rfl
@[simp] theorem Br_stuck : Br Q a b σ .stuck = Wp Q .stuck := rfl
theorem Br_ok : Br Q a b σ (.ok k h) = if k = true then Wp Q (a σ h) else Wp Q (b σ h) := by cases k <;> rfl
@[simp] theorem Br_dec : Br Q a b σ (.ok (decide p) h) = if p then Wp Q (a σ h) else Wp Q (b σ h) := by
  by_cases q : p
  · rw [if_pos q, decide_eq_true q]; rfl
  · rw [if_neg q, decide_eq_false q]; rfl
@[simp] theorem Br_not : Br Q a b σ (.ok (!k) h) = Br Q b a σ (.ok k h) := by cases k <;> rfl
@[simp] theorem Br_ite : Br Q a b σ (if p then r1 else r2) = if p then Br Q a b σ r1 else Br Q a b σ r2 := by
  by_cases q : p
  · rw [if_pos q, if_pos q]
  · rw [if_neg q, if_neg q]
@[simp] theorem Wp_ite : Wp Q (if p then s1 else s2) = if p then Wp Q s1 else Wp Q s2 := by
  by_cases q : p
  · rw [if_pos q, if_pos q]
  · rw [if_neg q, if_neg q]
end
/-! try -/
def Wy (Q : RS → Prop) (i : Nat) (r : RS) : Prop := match r with
  | .next σ h => Wp Q (.next (σ.set i none) h)
  | .brk σ h => Wp Q (.brk (σ.set i none) h)
  | .cont σ h => Wp Q (.cont (σ.set i none) h)
  | .ret d h => Wp Q (.ret d h)
  | _ => Wp Q .stuck
/-- what an except clause makes of an error -/
def tryR (tb : Str → Str → Option Bool) (y : Str) (i : Nat) (suite : Xn → Addr → Addr → SS) (x : Xn) (σ : VS) (h : Hv) : RS := match tb x.cls y with
  | some true => tryA i x.pay (suite x) σ h
  | some false => .exc x σ h
  | none => .stuck
def Ty (Q : RS → Prop) (tb : Str → Str → Option Bool) (y : Str) (i : Nat) (suite : Xn → Addr → Addr → SS) (r : RS) : Prop := match r with
  | .exc x σ h => Wp Q (tryR tb y i suite x σ h)
  | r => Wp Q r
def Is (r : RS) : RS → Prop := fun z => z = r
def tryOR (tb : Str → Str → Option Bool) (y : Str) (suite : SS) (x : Xn) (σ : VS) (h : Hv) : RS := match tb x.cls y with
  | some true => (match suite σ h with
    | .exc _ _ _ => .stuck
    | r => r)
  | some false => .exc x σ h
  | none => .stuck
def To (Q : RS → Prop) (tb : Str → Str → Option Bool) (y : Str) (suite : SS) (r : RS) : Prop := match r with
  | .exc x σ h => Wp Q (tryOR tb y suite x σ h)
  | r => Wp Q r
def Tn (Q : RS → Prop) (r : RS) : Prop := match r with
  | .exc _ _ _ => Wp Q .stuck
  | r => Wp Q r
section
variable {Q : RS → Prop} {tb : Str → Str → Option Bool} {y : Str} {i : Nat} {suite : Xn → Addr → Addr → SS} {su body : SS} {σ : VS} {h : Hv} {x : Xn} {d : D} {r : RS}
@[simp] theorem Wp_wipe : Wp Q (wipeR i r) = Wp (Wy Q i) r := by
  cases r <;> (rw [Wp.eq (Wy Q i)]; rfl)
@[simp] theorem Wp_wy_next : Wp (Wy Q i) (.next σ h) = Wp Q (.next (σ.set i none) h) := Wp.eq _ _
@[simp] theorem Wp_wy_brk : Wp (Wy Q i) (.brk σ h) = Wp Q (.brk (σ.set i none) h) := Wp.eq _ _
@[simp] theorem Wp_wy_cont : Wp (Wy Q i) (.cont σ h) = Wp Q (.cont (σ.set i none) h) := Wp.eq _ _
@[simp] theorem Wp_wy_ret : Wp (Wy Q i) (.ret d h) = Wp Q (.ret d h) := Wp.eq _ _
@[simp] theorem Wp_try : Wp Q (sTryAs tb y i suite body σ h) = Wp (Ty Q tb y i suite) (body σ h) := by
  unfold sTryAs
  cases body σ h <;> (rw [Wp.eq (Ty Q tb y i suite)]; rfl)
@[simp] theorem Wp_ty_next : Wp (Ty Q tb y i suite) (.next σ h) = Wp Q (.next σ h) := Wp.eq _ _
@[simp] theorem Wp_ty_ret : Wp (Ty Q tb y i suite) (.ret d h) = Wp Q (.ret d h) := Wp.eq _ _
@[simp] theorem Wp_ty_brk : Wp (Ty Q tb y i suite) (.brk σ h) = Wp Q (.brk σ h) := Wp.eq _ _
@[simp] theorem Wp_ty_cont : Wp (Ty Q tb y i suite) (.cont σ h) = Wp Q (.cont σ h) := Wp.eq _ _
@[simp] theorem Wp_ty_stuck : Wp (Ty Q tb y i suite) .stuck = Wp Q .stuck := Wp.eq _ _
@[simp] theorem Wp_ty_exc : Wp (Ty Q tb y i suite) (.exc x σ h) = Wp Q (tryR tb y i suite x σ h) := Wp.eq _ _
@[simp] theorem Wp_is_next {r : RS} : Wp (Is r) (.next σ h) = (RS.next σ h = r) := Wp.eq _ _
@[simp] theorem Wp_is_ret {r : RS} : Wp (Is r) (.ret d h) = (RS.ret d h = r) := Wp.eq _ _
@[simp] theorem Wp_is_brk {r : RS} : Wp (Is r) (.brk σ h) = (RS.brk σ h = r) := Wp.eq _ _
@[simp] theorem Wp_is_cont {r : RS} : Wp (Is r) (.cont σ h) = (RS.cont σ h = r) := Wp.eq _ _
/-- the clause takes it: the suite comes to r, whatever the error's address -/
theorem Wp_tryR {x : Xn} (r : RS) (t : tb x.cls y = some true) (hr : ∀ a dd, Wp (Wy (Is r) i) (suite x a dd (σ.set i (exM a dd x.pay)) h)) (q : Wp Q r) : Wp Q (tryR tb y i suite x σ h) := by
  have e : tryA i x.pay (suite x) σ h = r := tryA_eq fun a dd => by
    have z := hr a dd
    rw [← Wp_wipe] at z
    exact z.run
  unfold tryR
  rw [t]
  simp only [e]
  exact q
theorem tryR_no {x : Xn} (e : tb x.cls y = some false) : tryR tb y i suite x σ h = .exc x σ h := by
  unfold tryR
  simp only [e]
@[simp] theorem exM_none {a dd : Addr} : exM a dd none = some (.raw (.ref a)) := rfl
@[simp] theorem exM_some {a dd : Addr} {f : Str} : exM a dd (some (f, d)) = some (.exv a dd f d) := rfl
@[simp] theorem exD_none {a dd : Addr} : exD a dd none = .raw (.ref a) := rfl
@[simp] theorem exD_some {a dd : Addr} {f : Str} : exD a dd (some (f, d)) = .exv a dd f d := rfl
@[simp] theorem isEx_none {a dd : Addr} : isEx a dd none (.raw (.ref a)) = true := decide_eq_true rfl
@[simp] theorem isEx_some {a dd : Addr} {p : Str × D} {f : Str} : isEx a dd (some p) (.exv a dd f d) = true := by
  show (decide _ && decide _) = true
  rw [decide_eq_true rfl, decide_eq_true rfl]; rfl
@[simp] theorem Wp_tryO : Wp Q (sTryO tb y su body σ h) = Wp (To Q tb y su) (body σ h) := by
  unfold sTryO
  cases body σ h <;> (rw [Wp.eq (To Q tb y su)]; rfl)
@[simp] theorem Wp_to_next : Wp (To Q tb y su) (.next σ h) = Wp Q (.next σ h) := Wp.eq _ _
@[simp] theorem Wp_to_ret : Wp (To Q tb y su) (.ret d h) = Wp Q (.ret d h) := Wp.eq _ _
@[simp] theorem Wp_to_brk : Wp (To Q tb y su) (.brk σ h) = Wp Q (.brk σ h) := Wp.eq _ _
@[simp] theorem Wp_to_cont : Wp (To Q tb y su) (.cont σ h) = Wp Q (.cont σ h) := Wp.eq _ _
@[simp] theorem Wp_to_stuck : Wp (To Q tb y su) .stuck = Wp Q .stuck := Wp.eq _ _
@[simp] theorem Wp_to_exc : Wp (To Q tb y su) (.exc x σ h) = Wp Q (tryOR tb y su x σ h) := Wp.eq _ _
theorem tryOR_yes {c : Str} {p : Option (Str × D)} (e : tb c y = some true) : Wp Q (tryOR tb y su ⟨c, p⟩ σ h) = Wp (Tn Q) (su σ h) := by
  unfold tryOR
  simp only [e]
  cases su σ h <;> (rw [Wp.eq (Tn Q)]; rfl)
@[simp] theorem Wp_tn_next : Wp (Tn Q) (.next σ h) = Wp Q (.next σ h) := Wp.eq _ _
@[simp] theorem Wp_tn_ret : Wp (Tn Q) (.ret d h) = Wp Q (.ret d h) := Wp.eq _ _
@[simp] theorem Wp_tn_brk : Wp (Tn Q) (.brk σ h) = Wp Q (.brk σ h) := Wp.eq _ _
@[simp] theorem Wp_tn_cont : Wp (Tn Q) (.cont σ h) = Wp Q (.cont σ h) := Wp.eq _ _
end
@[simp] theorem eIsO_ap {i : Nat} {x : Xn} {a dd : Addr} {o : Option Bool} {σ : VS} {h : Hv} : eIsO i x a dd o σ h = (eVar i σ h).bind fun d h1 => if isEx a dd x.pay d = true then (match o with
    | some r => .ok (.bl r) h1
    | none => .stuck) else .stuck := rfl
theorem eFldX_ap {ef : List Ef} {i : Nat} {x : Xn} {a dd : Addr} {f : Str} {σ : VS} {h : Hv} (e1 : exT ef x.cls = true) (e2 : nofE ef x.cls f = true) : eFldX ef i x a dd f σ h = (eVar i σ h).bind fun d h1 => (match d with
  | .exv b d0 g d' => if isEx a dd x.pay (.exv b d0 g d') = true ∧ g = f then .ok d' h1 else .stuck
  | _ => .stuck) := by
  unfold eFldX
  rw [if_pos ⟨e1, e2⟩]
  rfl
@[simp] theorem sRaiseP_ap {C f : Str} {fe : ES} {σ : VS} {h : Hv} : sRaiseP C f fe σ h = (fe σ h).then σ fun d h' => .exc ⟨C, some (f, d)⟩ σ h' := rfl
/-- the end of a def that stands alone -/
def Rt (P : R D → Prop) (r : RS) : Prop := match r with
  | .ret d h => ∃ d', frz 0 h 12 d = some d' ∧ P (.ok d' [])
  | .next _ _ => P (.ok .non [])
  | .exc x _ h => match x.pay with
    | none => P (.exc ⟨x.cls, none⟩ [])
    | some (f, d) => ∃ d', frz 0 h 12 d = some d' ∧ P (.exc ⟨x.cls, some (f, d')⟩ [])
  | _ => False
section
variable {P : R D → Prop} {σ : VS} {h : Hv} {d : D} {C f : Str}
@[simp] theorem Wp_rt_ret : Wp (Rt P) (.ret d h) = ∃ d', frz 0 h 12 d = some d' ∧ P (.ok d' []) := Wp.eq _ _
@[simp] theorem Wp_rt_next : Wp (Rt P) (.next σ h) = P (.ok .non []) := Wp.eq _ _
@[simp] theorem Wp_rt_exc : Wp (Rt P) (.exc ⟨C, none⟩ σ h) = P (.exc ⟨C, none⟩ []) := by
  rw [Wp.eq, Rt]
@[simp] theorem Wp_rt_excP : Wp (Rt P) (.exc ⟨C, some (f, d)⟩ σ h) = ∃ d', frz 0 h 12 d = some d' ∧ P (.exc ⟨C, some (f, d')⟩ []) := by
  rw [Wp.eq, Rt]
@[simp] theorem Wp_rt_stuck : Wp (Rt P) .stuck = False := Wp.eq _ _
end
theorem fnS_of {P : R D → Prop} {np nl : Nat} {body : SS} {ds : List D} (hl : ds.length = np) (hw : Wp (Rt P) (body (ds.map some ++ List.replicate nl none) [])) : P (fnS np nl body ds []) := by
  replace hw := hw.run
  unfold Rt at hw
  split at hw
  · next d h e =>
    obtain ⟨d', e1, e2⟩ := hw
    rw [fnS_ret hl e e1]
    exact e2
  · next e => rw [fnS_next hl e]; exact hw
  · next x _ _ e =>
    cases x with
    | mk c p =>
      cases p with
      | none =>
        rw [fnS_exc hl e]
        exact hw
      | some q =>
        obtain ⟨d', e1, e2⟩ := hw
        rw [fnS_excP hl e e1]
        exact e2
  · exact hw.elim
/-- the end of a def that hands its objects on -/
def Ru (P : R D → Prop) (r : RS) : Prop := match r with
  | .ret d h => P (.ok d h)
  | .exc x _ _ => x.pay = none ∧ P (.exc ⟨x.cls, none⟩ [])
  | _ => False
section
variable {P : R D → Prop} {σ : VS} {h : Hv} {d : D} {C : Str}
@[simp] theorem Wp_ru_ret : Wp (Ru P) (.ret d h) = P (.ok d h) := Wp.eq _ _
@[simp] theorem Wp_ru_exc : Wp (Ru P) (.exc ⟨C, none⟩ σ h) = P (.exc ⟨C, none⟩ []) := by
  rw [Wp.eq, Ru]
  simp
@[simp] theorem Wp_ru_stuck : Wp (Ru P) .stuck = False := Wp.eq _ _
end
theorem fnU_of {P : R D → Prop} {np nl : Nat} {body : SS} {ds : List D} (hl : ds.length = np) (hw : Wp (Ru P) (body (ds.map some ++ List.replicate nl none) [])) : P (fnU np nl body ds []) := by
  replace hw := hw.run
  unfold fnU
  rw [if_pos hl]
  generalize body (ds.map some ++ List.replicate nl none) [] = r at hw ⊢
  cases r with
  | ret d h => exact hw
  | exc x σ h =>
    obtain ⟨e1, e2⟩ := hw
    cases x with
    | mk c p =>
      cases e1
      show P (exitX 0 ⟨c, none⟩ h)
      unfold exitX
      rw [List.take_zero]
      simp only [optAll_nil, Nat.zero_le, if_true]
      exact e2
  | next σ h => exact hw.elim
  | brk σ h => exact hw.elim
  | cont σ h => exact hw.elim
  | stuck => exact hw.elim
theorem callC_ok {sem : List D → Hv → R D} {ds ds' : List D} {h h' : Hv} {d : D} (hp : pureD ds = some ds') (e : sem ds' [] = .ok d h') : callC sem ds h = .ok (shD h.length d) (h ++ h'.map (shC h.length)) := by
  unfold callC
  rw [hp]
  simp only [e]
/-! loops -/
def Lp (Q : RS → Prop) (I : VS → Hv → Prop) (r : RS) : Prop := match r with
  | .next σ h => I σ h
  | .cont σ h => I σ h
  | .brk σ h => Wp Q (.next σ h)
  | .stuck => False
  | r => Wp Q r
section
variable {Q : RS → Prop} {I : VS → Hv → Prop} {σ : VS} {h : Hv} {d : D} {x : Xn}
@[simp] theorem Wp_lp_next : Wp (Lp Q I) (.next σ h) = I σ h := Wp.eq _ _
@[simp] theorem Wp_lp_cont : Wp (Lp Q I) (.cont σ h) = I σ h := Wp.eq _ _
@[simp] theorem Wp_lp_brk : Wp (Lp Q I) (.brk σ h) = Wp Q (.next σ h) := Wp.eq _ _
@[simp] theorem Wp_lp_ret : Wp (Lp Q I) (.ret d h) = Wp Q (.ret d h) := Wp.eq _ _
@[simp] theorem Wp_lp_exc : Wp (Lp Q I) (.exc x σ h) = Wp Q (.exc x σ h) := Wp.eq _ _
@[simp] theorem Wp_lp_stuck : Wp (Lp Q I) .stuck = False := Wp.eq _ _
end
theorem forD_wp {α : Type} {Q : RS → Prop} {chk : Hv → Bool} {gd : GD} {body : SS} (enc : α → D) (xs : List α) (I : Nat → VS → Hv → Prop)
    (hc : ∀ i σ h, I i σ h → chk h = true)
    (step : ∀ i a σ h, xs[i]? = some a → I i σ h → ∃ σ1, gd (enc a) σ = some σ1 ∧ Wp (Lp Q (I (i + 1))) (body σ1 h))
    (fin : ∀ σ h, I xs.length σ h → Wp Q (.next σ h)) {σ : VS} {h : Hv} (i0 : I 0 σ h) : Wp Q (forD chk gd body (xs.map enc) σ h) := by
  have key : ∀ (n : Nat) (i : Nat) σ h, xs.length - i = n → i ≤ xs.length → I i σ h → Wp Q (forD chk gd body ((xs.drop i).map enc) σ h) := by
    intro n
    induction n with
    | zero =>
      intro i σ h hn hi q
      have e : i = xs.length := by omega
      subst e
      rw [List.drop_length, List.map_nil, forD_nil, hc _ _ _ q, if_pos rfl]
      exact fin _ _ q
    | succ n ih =>
      intro i σ h hn hi q
      have hlt : i < xs.length := by omega
      obtain ⟨σ1, e1, e2⟩ := step i xs[i] σ h (List.getElem?_eq_getElem hlt) q
      rw [List.drop_eq_getElem_cons hlt, List.map_cons, forD_cons, hc _ _ _ q, if_pos rfl, e1]
      cases eb : body σ1 h with
      | next σ2 h2 => rw [eb, Wp_lp_next] at e2; simp only [eb]; exact ih (i + 1) σ2 h2 (by omega) (by omega) e2
      | cont σ2 h2 => rw [eb, Wp_lp_cont] at e2; simp only [eb]; exact ih (i + 1) σ2 h2 (by omega) (by omega) e2
      | brk σ2 h2 => rw [eb, Wp_lp_brk] at e2; simp only [eb]; exact e2
      | ret d h2 => rw [eb, Wp_lp_ret] at e2; simp only [eb]; exact e2
      | exc x σ2 h2 => rw [eb, Wp_lp_exc] at e2; simp only [eb]; exact e2
      | stuck => rw [eb, Wp_lp_stuck] at e2; exact e2.elim
  have z := key xs.length 0 σ h (by omega) (by omega) i0
  rw [List.drop_zero] at z
  exact z
theorem Wp.loop {α : Type} {Q : RS → Prop} {is : IS} {gd : GD} {body : SS} {σ : VS} {h : Hv} (enc : α → D) (xs : List α) (I : Nat → VS → Hv → Prop) {chk : Hv → Bool} {h0 : Hv}
    (his : is σ h = .ok (xs.map enc, chk) h0) (i0 : I 0 σ h0)
    (hc : ∀ i σ h, I i σ h → chk h = true)
    (step : ∀ i a σ h, xs[i]? = some a → I i σ h → ∃ σ1, gd (enc a) σ = some σ1 ∧ Wp (Lp Q (I (i + 1))) (body σ1 h))
    (fin : ∀ σ h, I xs.length σ h → Wp Q (.next σ h)) : Wp Q (sFor is gd body σ h) := by
  rw [sFor_ap, his]
  exact forD_wp enc xs I hc step fin i0
/-- a loop that doesn't look at a changing list -/
theorem Wp.loopA {α : Type} {Q : RS → Prop} {is : IS} {gd : GD} {body : SS} {σ : VS} {h : Hv} (enc : α → D) (xs : List α) (I : Nat → VS → Hv → Prop) {h0 : Hv}
    (his : is σ h = .ok (xs.map enc, always) h0) (i0 : I 0 σ h0)
    (step : ∀ i a σ h, xs[i]? = some a → I i σ h → ∃ σ1, gd (enc a) σ = some σ1 ∧ Wp (Lp Q (I (i + 1))) (body σ1 h))
    (fin : ∀ σ h, I xs.length σ h → Wp Q (.next σ h)) : Wp Q (sFor is gd body σ h) := Wp.loop enc xs I his i0 (fun _ _ _ _ => rfl) step fin
theorem Wp.range {Q : RS → Prop} {is : IS} {gd : GD} {body : SS} {σ : VS} {h : Hv} (lo : Int) (n : Nat) (I : Nat → VS → Hv → Prop) {h0 : Hv}
    (his : is σ h = .ok (rgD lo n, always) h0) (i0 : I 0 σ h0)
    (step : ∀ i σ h, i < n → I i σ h → ∃ σ1, gd (.int (lo + i)) σ = some σ1 ∧ Wp (Lp Q (I (i + 1))) (body σ1 h))
    (fin : ∀ σ h, I n σ h → Wp Q (.next σ h)) : Wp Q (sFor is gd body σ h) := by
  refine Wp.loopA (fun i : Nat => D.int (lo + i)) (List.range n) I (his.trans rfl) i0 (fun i a σ h ha hi => ?_) (by rw [List.length_range]; exact fin)
  obtain ⟨hlt, rfl⟩ := List.getElem?_eq_some_iff.mp ha
  rw [List.length_range] at hlt
  rw [List.getElem_range]
  exact step i σ h hlt hi
theorem Wp.while {Q : RS → Prop} {c : CS} {body : SS} (I : VS → Hv → Prop) (μ : VS → Hv → Nat)
    (step : ∀ σ h, I σ h → ∃ b, c σ h = .ok b h ∧ if b = true then Wp (Lp Q fun σ' h' => I σ' h' ∧ μ σ' h' < μ σ h) (body σ h) else Wp Q (.next σ h)) {σ : VS} {h : Hv} (i0 : I σ h) : Wp Q (sLoop c body σ h) := by
  have key : ∀ (m : Nat) σ h, μ σ h < m → I σ h → ∃ n, whileD c body n σ h ≠ .stuck ∧ Wp Q (whileD c body n σ h) := by
    intro m
    induction m with
    | zero => intro σ h hm; exact absurd hm (Nat.not_lt_zero _)
    | succ m ih =>
      intro σ h hm i
      obtain ⟨b, e1, e2⟩ := step σ h i
      cases b with
      | false =>
        refine ⟨1, ?_, ?_⟩
        · simp only [whileD, e1, R.then_ok]
          intro z; cases z
        · simp only [whileD, e1, R.then_ok]
          exact e2
      | true =>
        rw [if_pos rfl] at e2
        cases eb : body σ h with
        | next σ2 h2 =>
          rw [eb, Wp_lp_next] at e2
          obtain ⟨n, n1, n2⟩ := ih σ2 h2 (by omega) e2.1
          refine ⟨n + 1, ?_, ?_⟩
          · simp only [whileD, e1, R.then_ok, if_true, eb]; exact n1
          · simp only [whileD, e1, R.then_ok, if_true, eb]; exact n2
        | cont σ2 h2 =>
          rw [eb, Wp_lp_cont] at e2
          obtain ⟨n, n1, n2⟩ := ih σ2 h2 (by omega) e2.1
          refine ⟨n + 1, ?_, ?_⟩
          · simp only [whileD, e1, R.then_ok, if_true, eb]; exact n1
          · simp only [whileD, e1, R.then_ok, if_true, eb]; exact n2
        | brk σ2 h2 =>
          rw [eb, Wp_lp_brk] at e2
          refine ⟨1, ?_, ?_⟩
          · simp only [whileD, e1, R.then_ok, if_true, eb]
            intro z; cases z
          · simp only [whileD, e1, R.then_ok, if_true, eb]
            exact e2
        | ret d h2 =>
          rw [eb, Wp_lp_ret] at e2
          refine ⟨1, ?_, ?_⟩
          · simp only [whileD, e1, R.then_ok, if_true, eb]
            intro z; cases z
          · simp only [whileD, e1, R.then_ok, if_true, eb]
            exact e2
        | exc x σ2 h2 =>
          rw [eb, Wp_lp_exc] at e2
          refine ⟨1, ?_, ?_⟩
          · simp only [whileD, e1, R.then_ok, if_true, eb]
            intro z; cases z
          · simp only [whileD, e1, R.then_ok, if_true, eb]
            exact e2
        | stuck => rw [eb, Wp_lp_stuck] at e2; exact e2.elim
  obtain ⟨n, n1, n2⟩ := key (μ σ h + 1) σ h (by omega) i0
  rw [sLoop_at n1]
  exact n2
/-- the whole number in a slot -/
def slN (σ : VS) (j : Nat) : Nat := match σ[j]? with
  | some (some (.int y)) => y.toNat
  | _ => 0
/-! comprehensions -/
theorem lLc_map {α : Type} {is : IS} {gd : GD} {el : ES} {own : List Nat} {σ : VS} {h h0 : Hv} {chk : Hv → Bool} (enc : α → D) (f : α → D) (xs : List α) (his : is σ h = .ok (xs.map enc, chk) h0) (hc : chk h0 = true) (hl : xs.length ≤ 16777216)
    (q : ∀ a ∈ xs, ∃ σ1, gd (enc a) (wipeV σ own) = some σ1 ∧ el σ1 h0 = .ok (f a) h0) : lLc is gd cYes el own σ h = .ok (xs.map f) h0 := by
  rw [lLc_ap, his, R.bind_ok, List.length_map, if_pos hl]
  exact lcD_map enc f hc xs q
theorem lLc_filter {α : Type} {is : IS} {gd : GD} {c : CS} {el : ES} {own : List Nat} {σ : VS} {h h0 : Hv} {chk : Hv → Bool} (enc : α → D) (p : α → Bool) (f : α → D) (xs : List α) (his : is σ h = .ok (xs.map enc, chk) h0) (hc : chk h0 = true) (hl : xs.length ≤ 16777216)
    (q : ∀ a ∈ xs, ∃ σ1, gd (enc a) (wipeV σ own) = some σ1 ∧ c σ1 h0 = .ok (p a) h0 ∧ (p a = true → el σ1 h0 = .ok (f a) h0)) : lLc is gd c el own σ h = .ok ((xs.filter p).map f) h0 := by
  rw [lLc_ap, his, R.bind_ok, List.length_map, if_pos hl]
  exact lcD_filter enc p f hc xs q
theorem mul_bd {a u : Int} {k b : Nat} (h0 : 0 ≤ a) (h1 : a ≤ k) (h2 : 0 ≤ u) (h3 : u ≤ b) : 0 ≤ a * u ∧ a * u ≤ ((k * b : Nat) : Int) := by
  refine ⟨Int.mul_nonneg h0 h2, ?_⟩
  rw [Int.natCast_mul]
  exact Int.mul_le_mul h1 h3 h2 (by omega)
theorem lLc_ex {α : Type} {is : IS} {gd : GD} {el : ES} {own : List Nat} {σ : VS} {h h0 : Hv} {chk : Hv → Bool} (enc : α → D) (P : α → D → Prop) (xs : List α) (his : is σ h = .ok (xs.map enc, chk) h0) (hc : chk h0 = true) (hl : xs.length ≤ 16777216)
    (q : ∀ a ∈ xs, ∃ σ1 d, gd (enc a) (wipeV σ own) = some σ1 ∧ el σ1 h0 = .ok d h0 ∧ P a d) : ∃ f : α → D, lLc is gd cYes el own σ h = .ok (xs.map f) h0 ∧ ∀ a ∈ xs, P a (f a) := by
  have key : ∃ f : α → D, ∀ a ∈ xs, ∃ σ1, gd (enc a) (wipeV σ own) = some σ1 ∧ el σ1 h0 = .ok (f a) h0 ∧ P a (f a) := by
    refine ⟨fun a => @dite D (∃ d, ∃ σ1, gd (enc a) (wipeV σ own) = some σ1 ∧ el σ1 h0 = .ok d h0 ∧ P a d) (Classical.propDecidable _) (fun z => Classical.choose z) (fun _ => .non), fun a ha => ?_⟩
    have z : ∃ d, ∃ σ1, gd (enc a) (wipeV σ own) = some σ1 ∧ el σ1 h0 = .ok d h0 ∧ P a d := by
      obtain ⟨σ1, d, e⟩ := q a ha
      exact ⟨d, σ1, e⟩
    simp only [z, dite_true]
    exact Classical.choose_spec z
  obtain ⟨f, hf⟩ := key
  refine ⟨f, lLc_map enc f xs his hc hl fun a ha => ?_, fun a ha => ?_⟩
  · obtain ⟨σ1, e1, e2, _⟩ := hf a ha
    exact ⟨σ1, e1, e2⟩
  · obtain ⟨_, _, _, e⟩ := hf a ha
    exact e
/-- a comprehension whose items are new lists that change later -/
theorem lLc_cells {α : Type} {is : IS} {gd : GD} {el : ES} {own : List Nat} {σ : VS} {h h0 : Hv} (enc : α → D) (f : α → List D) (xs : List α) (his : is σ h = .ok (xs.map enc, always) h0) (hl : xs.length ≤ 16777216)
    (q : ∀ a ∈ xs, ∃ σ1, gd (enc a) (wipeV σ own) = some σ1 ∧ ∀ h1, el σ1 h1 = .ok (.cell h1.length) (h1 ++ [.lst (f a)])) : lLc is gd cYes el own σ h = .ok ((List.range xs.length).map fun i => .cell (h0.length + i)) (h0 ++ xs.map fun a => .lst (f a)) := by
  rw [lLc_ap, his, R.bind_ok, List.length_map, if_pos hl]
  have key : ∀ (xs : List α) (h : Hv), (∀ a ∈ xs, ∃ σ1, gd (enc a) (wipeV σ own) = some σ1 ∧ ∀ h1, el σ1 h1 = .ok (.cell h1.length) (h1 ++ [.lst (f a)])) → lcD always gd cYes el (xs.map enc) (wipeV σ own) h = .ok ((List.range xs.length).map fun i => .cell (h.length + i)) (h ++ xs.map fun a => .lst (f a)) := by
    intro xs
    induction xs with
    | nil =>
      intro h _
      simp [lcD]
    | cons a xs ih =>
      intro h q
      obtain ⟨σ1, e1, e2⟩ := q a List.mem_cons_self
      have ih := ih (h ++ [.lst (f a)]) fun b hb => q b (List.mem_cons_of_mem _ hb)
      rw [List.map_cons]
      simp only [lcD, always_ap, if_true, e1, cYes_ap, R.calm_ok, R.bind_ok, e2, ih]
      rw [List.length_cons, List.range_succ_eq_map, List.map_cons, List.map_map, List.length_append, List.map_cons, List.append_assoc]
      congr 1
      congr 1
      apply List.map_congr_left
      intro i _
      show D.cell _ = D.cell _
      congr 1
      simp
      omega
  exact key xs h0 q
theorem cutD_map {α : Type} (e : α → D) (xs : List α) (lo hi : Option Int) : ∃ ys : List α, cutD (xs.map e) lo hi = ys.map e ∧ ys.length ≤ xs.length := by
  refine ⟨(xs.drop (HT.sIx (xs.map e).length 0 lo)).take (HT.sIx (xs.map e).length (xs.map e).length hi - HT.sIx (xs.map e).length 0 lo), ?_, ?_⟩
  · rw [List.map_take, List.map_drop]; rfl
  · rw [List.length_take, List.length_drop]; omega
theorem set_wp {σ : VS} {i j : Nat} {v : Option D} (h : i ≠ j) : (σ.set j v).set i none = (σ.set i none).set j v := List.set_comm _ _ (Ne.symm h)
/-! ### numbers drawn -/
abbrev scr (ns : List Int) : D := .fz (ns.map .int)
@[simp] theorem pureD_ap {ds : List D} : pureD ds = optAll (frz 0 [] 12) ds := rfl
/-- a call's outcome, from the def's on data without cells -/
theorem cP {sem : List D → Hv → R D} {ds : List D} {d : D} (e : sem ds [] = .ok d []) (hp : pureD ds = some ds := by simp) (h : Hv) : callP sem ds h = .ok d h := callP_ok hp e
theorem cX {sem : List D → Hv → R D} {ds : List D} {x : Xn} (e : sem ds [] = .exc x []) (hp : pureD ds = some ds := by simp) (h : Hv) : callP sem ds h = .exc x h := callP_exc hp e
def drawF (ns : List Int) (k m : Int) : Int := if k < ns.length then ns[k.toNat]?.getD 0 % m else (((k * k + 3 + (if 0 < ns.length then ns[(k % ns.length).toNat]?.getD 0 % 65521 else 0)) * 48271 % 65521 + 5) * 40692 % 65519) % m
theorem drawF_bd (ns : List Int) (k : Int) {m : Int} (h : 0 < m) : 0 ≤ drawF ns k m ∧ drawF ns k m < m := by
  unfold drawF
  split
  · exact ⟨Int.emod_nonneg _ (by omega), Int.emod_lt_of_pos _ h⟩
  · exact ⟨Int.emod_nonneg _ (by omega), Int.emod_lt_of_pos _ h⟩
/-- the draw of k31 and of most laws behind it -/
def drawB : SS := sSeq (sIf (toB (eOp oLt (eVar 1) (eCa bLen (aCons (eVar 0) (aNil))))) (sRet (eOp oMod (eOp oIx (eVar 0) (eVar 1)) (eVar 2))) (sNext)) (sSeq (sSet 3 (eOp oAdd (eOp oMul (eVar 1) (eVar 1)) (eK (.int 3)))) (sSeq (sIf (toB (eOp oGt (eCa bLen (aCons (eVar 0) (aNil))) (eK (.int 0)))) (sSet 3 (eOp oAdd (eVar 3) (eOp oMod (eOp oIx (eVar 0) (eOp oMod (eVar 1) (eCa bLen (aCons (eVar 0) (aNil))))) (eK (.int 65521))))) (sNext)) (sRet (eOp oMod (eOp oMod (eOp oMul (eOp oAdd (eOp oMod (eOp oMul (eVar 3) (eK (.int 48271))) (eK (.int 65521))) (eK (.int 5))) (eK (.int 40692))) (eK (.int 65519))) (eVar 2)))))
def drawM : List D → Hv → R D := fnS 3 1 drawB
@[simp] theorem frz_ints {n0 f : Nat} {h : Hv} {xs : List Int} : optAll (frz n0 h (f + 1)) (xs.map D.int) = some (xs.map D.int) := optAll_map fun _ _ => rfl
@[simp] theorem frz_bls {n0 f : Nat} {h : Hv} {xs : List Bool} : optAll (frz n0 h (f + 1)) (xs.map D.bl) = some (xs.map D.bl) := optAll_map fun _ _ => rfl
@[simp] theorem frz_strs {n0 f : Nat} {h : Hv} {xs : List Str} : optAll (frz n0 h (f + 1)) (xs.map D.str) = some (xs.map D.str) := optAll_map fun _ _ => rfl
section
open PySem.W (Datum T3 T4 Tup)
@[simp] theorem enc_i3 (a : T3 Int Int Int) : (En.enc a : D) = .tup [.int a.a, .int a.b, .int a.c] := rfl
@[simp] theorem enc_i4 (a : T4 Int Int Int Int) : (En.enc a : D) = .tup [.int a.a, .int a.b, .int a.c, .int a.d] := rfl
@[simp] theorem enc_i2 (a : Int × Int) : (En.enc a : D) = .tup [.int a.1, .int a.2] := rfl
@[simp] theorem frz_i3 {n0 f : Nat} {h : Hv} {xs : List (T3 Int Int Int)} : optAll (frz n0 h (f + 2)) (xs.map En.enc) = some (xs.map En.enc) := optAll_map fun _ _ => rfl
@[simp] theorem frz_i4 {n0 f : Nat} {h : Hv} {xs : List (T4 Int Int Int Int)} : optAll (frz n0 h (f + 2)) (xs.map En.enc) = some (xs.map En.enc) := optAll_map fun _ _ => rfl
@[simp] theorem frz_i2 {n0 f : Nat} {h : Hv} {xs : List (Int × Int)} : optAll (frz n0 h (f + 2)) (xs.map En.enc) = some (xs.map En.enc) := optAll_map fun _ _ => rfl
end
theorem bInts_lst {f : List Int → Option D} {ns : List Int} {h : Hv} : bInts f [.lst (ns.map .int)] h = match f ns with
  | some z => .ok z h
  | none => .stuck := by
  show (match (some (ns.map D.int)).bind (optAll toI) with | some ns => (match f ns with | some z => R.ok z h | none => .stuck) | none => .stuck) = _
  rw [Option.bind_some, toI_map]
@[simp] theorem bSum_lst {ns : List Int} {h : Hv} : bSum [.lst (ns.map .int)] h = .ok (.int ns.sum) h := bInts_lst
theorem bInts_cell {f : List Int → Option D} {n : Nat} {h : Hv} {ns : List Int} (e : h[n]? = some (.lst (ns.map .int))) : bInts f [.cell n] h = match f ns with
  | some z => .ok z h
  | none => .stuck := by
  show (match (lOf h (.cell n)).bind (optAll toI) with | some ns => (match f ns with | some z => R.ok z h | none => .stuck) | none => .stuck) = _
  rw [lOf_cell, e]
  simp only [Option.bind_some, toI_map]
@[simp] theorem bSum_c0 {h : Hv} {ns : List Int} : bSum [.cell 0] (.lst (ns.map .int) :: h) = .ok (.int ns.sum) (.lst (ns.map .int) :: h) := bInts_cell rfl
@[simp] theorem bSum_c1 {h : Hv} {c : Cell} {ns : List Int} : bSum [.cell 1] (c :: .lst (ns.map .int) :: h) = .ok (.int ns.sum) (c :: .lst (ns.map .int) :: h) := bInts_cell rfl
theorem bMax_cell {n : Nat} {h : Hv} {ns : List Int} {m : Int} (e : h[n]? = some (.lst (ns.map .int))) (q : maxI ns = some m) : bMax [.cell n] h = .ok (.int m) h := by
  unfold bMax
  rw [bInts_cell e, q]
  rfl
theorem bMax_lst {h : Hv} {ns : List Int} {m : Int} (q : maxI ns = some m) : bMax [.lst (ns.map .int)] h = .ok (.int m) h := by
  unfold bMax
  rw [bInts_lst, q]
  rfl
theorem bMin_cell {n : Nat} {h : Hv} {ns : List Int} {m : Int} (e : h[n]? = some (.lst (ns.map .int))) (q : minI ns = some m) : bMin [.cell n] h = .ok (.int m) h := by
  unfold bMin
  rw [bInts_cell e, q]
  rfl
theorem bMin_lst {h : Hv} {ns : List Int} {m : Int} (q : minI ns = some m) : bMin [.lst (ns.map .int)] h = .ok (.int m) h := by
  unfold bMin
  rw [bInts_lst, q]
  rfl
theorem mIndex_cell {n : Nat} {h : Hv} {ns : List Int} {i : Int} {j : Nat} (e : h[n]? = some (.lst (ns.map .int))) (q : firstIx i ns = some j) : mIndex (.cell n) [.int i] h = .ok (.int (j : Nat)) h := by
  show (match (lOf h (.cell n)).bind (optAll toI) with | some ns => (match firstIx i ns with | some j => R.ok (D.int (j : Nat)) h | none => .stuck) | none => .stuck) = _
  rw [lOf_cell, e]
  simp only [Option.bind_some, toI_map, q]
theorem eqD_same {h : Hv} {x y : D} {p : PyData} (hx : toPy h 12 x = some p) (hy : toPy h 12 y = some p) : eqD h x y = some true := by
  unfold eqD
  rw [hx, hy]
  exact congrArg some (PySem.SeqAt.eqv_refl_plain p (toPy_plain _ _ _ hx).1)
@[simp] theorem toPy_ints {n : Nat} {h : Hv} {xs : List Int} : optAll (toPy h (n + 1)) (xs.map D.int) = some (xs.map PyData.int) := optAll_map fun _ _ => rfl
@[simp] theorem toPy_strs {n : Nat} {h : Hv} {xs : List Str} : optAll (toPy h (n + 1)) (xs.map D.str) = some (xs.map PyData.str) := optAll_map fun _ _ => rfl
@[simp] theorem shL_ints {n : Nat} {xs : List Int} : shL n (xs.map D.int) = xs.map D.int := by
  rw [shL_eq, List.map_map]; rfl
theorem bBools_lst {f : List Bool → Bool} {ns : List Bool} {h : Hv} : bBools f [.lst (ns.map .bl)] h = .ok (.bl (f ns)) h := by
  show (match (some (ns.map D.bl)).bind (optAll toBl) with | some ns => R.ok (D.bl (f ns)) h | none => .stuck) = _
  rw [Option.bind_some, toBl_map]
@[simp] theorem bAll_lst {ns : List Bool} {h : Hv} : bAll [.lst (ns.map .bl)] h = .ok (.bl (ns.all id)) h := bBools_lst
@[simp] theorem bAny_lst {ns : List Bool} {h : Hv} : bAny [.lst (ns.map .bl)] h = .ok (.bl (ns.any id)) h := bBools_lst
theorem cutD_from {xs : List D} {c : Int} (h0 : 0 ≤ c) (h1 : c ≤ xs.length) : cutD xs (some c) none = xs.drop c.toNat := by
  unfold cutD
  have e : HT.sIx xs.length 0 (some c) = c.toNat := by
    show (if c < 0 then _ else min c.toNat xs.length) = _
    rw [if_neg (by omega)]
    omega
  rw [e, HT.sIx_none, List.take_of_length_le (by rw [List.length_drop]; omega)]
theorem cutD_to {xs : List D} {c : Int} (h0 : 0 ≤ c) (h1 : c ≤ xs.length) : cutD xs none (some c) = xs.take c.toNat := by
  unfold cutD
  have e : HT.sIx xs.length xs.length (some c) = c.toNat := by
    show (if c < 0 then _ else min c.toNat xs.length) = _
    rw [if_neg (by omega)]
    omega
  rw [e, HT.sIx_none, List.drop_zero, Nat.sub_zero]
theorem mPopAt_c {α : Type} {e : α → D} {xs : List α} {i : Int} (h0 : 0 ≤ i) (h1 : i < xs.length) (h2 : i < 2 ^ 63) : ∃ y, mPopAt (.cell 0) [.int i] [.lst (xs.map e)] = .ok y [.lst ((xs.eraseIdx i.toNat).map e)] := by
  have h3 : i.toNat < xs.length := by omega
  refine ⟨e xs[i.toNat], ?_⟩
  show (@ite _ (-(2 ^ 63) ≤ i ∧ i < 2 ^ 63) (Classical.propDecidable _) (match seqIndex? i (xs.map e).length with
      | some k => (match (xs.map e)[k]? with
        | some y => R.ok y (([.lst (xs.map e)] : Hv).set 0 (.lst ((xs.map e).eraseIdx k)))
        | none => .stuck)
      | none => .stuck) .stuck) = _
  have es : seqIndex? i (xs.map e).length = some i.toNat := by
    unfold seqIndex?
    have e1 : (if i < 0 then i + ((xs.map e).length : Int) else i) = i := if_neg (by omega)
    simp only [e1]
    rw [if_pos]
    rw [Bool.and_eq_true, decide_eq_true_eq, decide_eq_true_eq, List.length_map]
    exact ⟨h0, by omega⟩
  rw [if_pos ⟨by omega, h2⟩, es]
  simp only [List.getElem?_map, List.getElem?_eq_getElem h3, Option.map_some, List.set_cons_zero]
  rw [List.eraseIdx_eq_take_drop_succ, List.eraseIdx_eq_take_drop_succ, List.map_append, List.map_take, List.map_drop]
theorem mInsert_c {xs : List D} {i : Int} {d : D} (h0 : 0 ≤ i) (h1 : i < 2 ^ 63) (h2 : xs.length < 16777216) : mInsert (.cell 0) [.int i, d] [.lst xs] = .ok .non [.lst (xs.take i.toNat ++ [d] ++ xs.drop i.toNat)] := by
  show (@ite _ ((0 ≤ i ∧ i < 2 ^ 63) ∧ xs.length < 16777216) (Classical.propDecidable _) (R.ok D.non (([.lst xs] : Hv).set 0 (.lst (xs.take i.toNat ++ [d] ++ xs.drop i.toNat)))) .stuck) = _
  rw [if_pos ⟨⟨h0, h1⟩, h2⟩]
  rfl
@[simp] theorem mAppend_ap {n : Nat} {d : D} {h : Hv} : mAppend (.cell n) [d] h = (match h[n]? with
    | some (.lst xs) => if xs.length < 16777216 then .ok .non (h.set n (.lst (xs ++ [d]))) else .stuck
    | _ => .stuck) := rfl
@[simp] theorem mReverse_ap {n : Nat} {h : Hv} : mReverse (.cell n) [] h = (match h[n]? with
    | some (.lst xs) => .ok .non (h.set n (.lst xs.reverse))
    | _ => .stuck) := rfl
@[simp] theorem oCat_ap {x y : D} {h : Hv} : oCat x y h = (match kOf h x, kOf h y with
  | some xs, some ys => if xs.length + ys.length ≤ 16777216 then .ok (xs ++ ys) h else .stuck
  | _, _ => .stuck) := rfl
@[simp] theorem oRep_one {x : D} {k : Int} {h : Hv} (h0 : 0 ≤ k) (h1 : k ≤ 16777216) : oRep (.lst [x]) (.int k) h = .ok (List.replicate k.toNat x) h := by
  show (@ite _ ([x].length * k.toNat ≤ 16777216 ∧ -(2 ^ 63) ≤ k ∧ k < 2 ^ 63) (Classical.propDecidable _) (R.ok (List.replicate k.toNat [x]).flatten h) .stuck) = _
  rw [if_pos ⟨by rw [List.length_singleton]; omega, by omega, by omega⟩, ]
  congr 1
  generalize k.toNat = m
  induction m with
  | zero => rfl
  | succ m ih => rw [List.replicate_succ, List.flatten_cons, ih]; rfl
section
variable {h : Hv} {ds : List D} {d : D} {c c1 : Cell}
theorem eqD_cellL {n : Nat} (e : h[n]? = some (.lst ds)) : eqD h (.cell n) d = eqD h (.lst ds) d := by
  have e2 : toPy h 12 (.cell n) = toPy h 12 (.lst ds) := by rw [toPy_cell, e, toPy_lst]
  unfold eqD
  rw [e2]
theorem eqD_cellR {n : Nat} (e : h[n]? = some (.lst ds)) : eqD h d (.cell n) = eqD h d (.lst ds) := by
  have e2 : toPy h 12 (.cell n) = toPy h 12 (.lst ds) := by rw [toPy_cell, e, toPy_lst]
  unfold eqD
  rw [e2]
@[simp] theorem eqD_cL0 : eqD (.lst ds :: h) (.cell 0) d = eqD (.lst ds :: h) (.lst ds) d := eqD_cellL rfl
@[simp] theorem eqD_cR0 : eqD (.lst ds :: h) d (.cell 0) = eqD (.lst ds :: h) d (.lst ds) := eqD_cellR rfl
@[simp] theorem eqD_cL1 : eqD (c :: .lst ds :: h) (.cell 1) d = eqD (c :: .lst ds :: h) (.lst ds) d := eqD_cellL rfl
@[simp] theorem eqD_cR1 : eqD (c :: .lst ds :: h) d (.cell 1) = eqD (c :: .lst ds :: h) d (.lst ds) := eqD_cellR rfl
@[simp] theorem eqD_ints {xs ys : List Int} : eqD h (.lst (xs.map .int)) (.lst (ys.map .int)) = some (decide (xs = ys)) := eqD_en h xs ys
end
theorem map_app {α β : Type} {f : α → β} {xs ys : List α} : xs.map f ++ ys.map f = (xs ++ ys).map f := List.map_append.symm
theorem map_one {α β : Type} {f : α → β} {x : α} : [f x] = [x].map f := rfl
theorem map_tk {α β : Type} {f : α → β} {xs : List α} {n : Nat} : (xs.map f).take n = (xs.take n).map f := List.map_take.symm
theorem map_dr {α β : Type} {f : α → β} {xs : List α} {n : Nat} : (xs.map f).drop n = (xs.drop n).map f := List.map_drop.symm
theorem map_rv {α β : Type} {f : α → β} {xs : List α} : (xs.map f).reverse = xs.reverse.map f := List.map_reverse.symm
def gI (xs : List Int) (k : Int) : Int := xs[k.toNat]?.getD 0
theorem ix_ints {xs : List Int} {j : Int} (h0 : 0 ≤ j) (h1 : j < xs.length) : atI (xs.map D.int) j = some (.int (gI xs j)) := by
  rw [atI_map (atI_getD h0 h1), List.getD_eq_getElem?_getD]
  rfl
def sI (xs : List Int) (k v : Int) : List Int := xs.set k.toNat v
@[simp] theorem sI_len {xs : List Int} {k v : Int} : (sI xs k v).length = xs.length := List.length_set
theorem set_int {xs : List Int} {k v : Int} : (xs.map D.int).set k.toNat (.int v) = (sI xs k v).map D.int := List.map_set.symm
section
variable {α : Type} {a b c d e f : α} {l : List α}
@[simp] theorem atI_0 : atI (a :: l) 0 = some a := atI_at (j := 0) (by rfl) (by rfl)
@[simp] theorem atI_1 : atI (a :: b :: l) 1 = some b := atI_at (j := 1) (by rfl) (by rfl)
@[simp] theorem atI_2 : atI (a :: b :: c :: l) 2 = some c := atI_at (j := 2) (by rfl) (by rfl)
@[simp] theorem atI_3 : atI (a :: b :: c :: d :: l) 3 = some d := atI_at (j := 3) (by rfl) (by rfl)
@[simp] theorem atI_4 : atI (a :: b :: c :: d :: e :: l) 4 = some e := atI_at (j := 4) (by rfl) (by rfl)
end
theorem drawM_eq {ns : List Int} {k m : Int} (h0 : 0 ≤ k) (h1 : k < 10 ^ 30) (hm : 0 < m) (hl : ns.length ≤ 63) : drawM [scr ns, .int k, .int m] [] = .ok (.int (drawF ns k m)) [] := by
  refine fnS_of (P := fun r => r = .ok (.int (drawF ns k m)) []) rfl ?_
  have hkk : k * k < 10 ^ 61 := by
    have := Int.mul_le_mul (show k ≤ 10 ^ 30 by omega) (show k ≤ 10 ^ 30 by omega) h0 (by decide)
    have e : (10 : Int) ^ 30 * 10 ^ 30 < 10 ^ 61 := by decide
    exact Int.lt_of_le_of_lt this e
  have hk0 : 0 ≤ k * k := Int.mul_nonneg h0 h0
  unfold drawB drawF
  by_cases q : k < ns.length
  · simp [q, ix_ints h0 q, hm, gI]
  · by_cases q2 : 0 < ns.length
    · have e1 : 0 ≤ k % (ns.length : Int) := Int.emod_nonneg _ (by omega)
      have e2 : k % (ns.length : Int) < ns.length := Int.emod_lt_of_pos _ (by omega)
      simp (disch := omega) [q, q2, hm, ix_ints e1 e2, gI]
    · simp (disch := omega) [q, q2, hm]
/-- .. called -/
theorem callP_draw {ns : List Int} {k m : Int} {h : Hv} (h0 : 0 ≤ k) (h1 : k < 10 ^ 30) (hm : 0 < m) (hl : ns.length ≤ 63) : callP drawM [scr ns, .int k, .int m] h = .ok (.int (drawF ns k m)) h := by
  refine callP_ok ?_ (drawM_eq h0 h1 hm hl)
  simp
end
end VD

set_option Elab.async false
set_option linter.all false
set_option maxRecDepth 100000
set_option maxHeartbeats 4000000
namespace VD
open PySem PySem.Spec PyProof.Rows L2
noncomputable section
/-! ### what a def has built is still from here on -/
def sealO (n0 : Nat) (h : Hv) (o : Option D) : Option D := o.bind (frz n0 h 12)
def sSeal (n0 : Nat) (s : SS) : SS := fun σ h => match optAll (frzC n0 h) (h.take n0) with
  | some h' => if n0 ≤ h.length then s (σ.map (sealO n0 h)) h' else .stuck
  | none => .stuck
def sBlk (f : Nat → SS) : SS := fun σ h => f h.length σ h
structure SnP (K : PySem.W.Frag) (W : WX) (ts : TS) (ss : Nat → SS) : Prop where
  run : ∀ {φ0 φ : List Addr} {S0 H0 S H : Hp} {h : Hv} {σv : VS} {σ : L2.St} {D : Ends}, Step φ0 S0 H0 φ S H → Rel K φ S H h → RelS K φ S σv σ → PostS K φ0 S0 H0 (ss φ0.length σv h) D W → ts D σ H
def QP (X : Cx) (W : WX) (st : List Stmt) (ss : Nat → SS) : Prop := ∃ t, PSs X st t ∧ SnP X.K W t ss
section
variable {X : Cx} {W : WX} {st : Stmt} {rest : List Stmt} {s1 : SS} {s2 : Nat → SS}
theorem qp_cons (h1 : QS X W st s1) (h2 : QP X W rest s2) : QP X W (st :: rest) (fun n => sSeq s1 (s2 n)) := by
  obtain ⟨t1, a1, b1⟩ := h1
  obtain ⟨t2, a2, b2⟩ := h2
  refine ⟨_, pss_cons a1 a2, ⟨fun {φ0 φ S0 H0 S H h σv σ D} st0 rl rs post => b1.run rl rs ?_⟩⟩
  unfold sSeq at post
  cases q : s1 σv h with
  | next σ' h' =>
    rw [q] at post
    exact fun σ1 φ1 S1 H1 rl1 rs1 st1 => b2.run (st0.trans st1) rl1 rs1 post
  | _ => rw [q] at post; exact PostS.up st0 post
theorem qp_seal (h2 : QB X W rest s1) : QP X W rest (fun n => sSeal n s1) := by
  obtain ⟨t2, a2, b2⟩ := h2
  refine ⟨_, a2, ⟨fun {φ0 φ S0 H0 S H h σv σ D} st0 rl rs post => ?_⟩⟩
  unfold sSeal at post
  split at post
  · next h' q =>
    split at post
    · next hn =>
      obtain ⟨s3, e3⟩ := exit_step st0 rl
      refine b2.run (exit_rel rl hn q) ?_ (PostS.up s3 post)
      refine ⟨by rw [List.length_map]; exact rs.len, fun i d hd => ?_⟩
      rw [List.getElem?_map] at hd
      cases q1 : σv[i]? with
      | none => rw [q1] at hd; cases hd
      | some o =>
        rw [q1] at hd
        cases o with
        | none => simp [sealO] at hd
        | some d0 =>
          obtain ⟨v, hv, rv⟩ := rs.at_ i d0 q1
          refine ⟨v, hv, frz_ok rl 12 d0 v d rv ?_⟩
          simpa [sealO] using hd
    · exact post.elim
  · exact post.elim
theorem qb_blk (h2 : QP X W rest s2) : QB X W rest (sBlk s2) := by
  obtain ⟨t2, a2, b2⟩ := h2
  refine ⟨_, a2, ⟨fun {φ S H h σv σ D} rl rs post => b2.run (Step.refl _ _ _) rl rs ?_⟩⟩
  unfold sBlk at post
  rw [rl.len]
  exact post
end
@[simp] theorem sBlk_ap {f : Nat → SS} {σ : VS} {h : Hv} : sBlk f σ h = f h.length σ h := rfl
@[simp] theorem sSeal_ap {n : Nat} {s : SS} {σ : VS} {h : Hv} : sSeal n s σ h = match optAll (frzC n h) (h.take n) with
  | some h' => if n ≤ h.length then s (σ.map (sealO n h)) h' else .stuck
  | none => .stuck := rfl
@[simp] theorem sSeal_0 {s : SS} {σ : VS} {h : Hv} : sSeal 0 s σ h = s (σ.map (sealO 0 h)) [] := by
  rw [sSeal_ap, List.take_zero]
  simp
@[simp] theorem sealO_none {n : Nat} {h : Hv} : sealO n h none = none := rfl
@[simp] theorem sealO_some {n : Nat} {h : Hv} {d : D} : sealO n h (some d) = frz n h 12 d := rfl
/-! ### of a call's new objects those alone that its answer holds -/
def ownA (g : Nat → D → Option (D × List Cell × List Nat)) : Nat → List D → Option (List D × List Cell × List Nat)
  | _, [] => some ([], [], [])
  | b, d :: ds => match g b d with
    | some (d', cs, ns) => (match ownA g (b + cs.length) ds with
      | some (ds', cs', ns') => some (d' :: ds', cs ++ cs', ns ++ ns')
      | none => none)
    | none => none
def ownD (h : Hv) : Nat → Nat → D → Option (D × List Cell × List Nat)
  | 0, _, _ => none
  | f + 1, b, .cell n => (match h[n]? with
    | some (.lst ds) => (match ownA (ownD h f) (b + 1) ds with
      | some (ds', cs, ns) => some (.cell b, .lst ds' :: cs, n :: ns)
      | none => none)
    | _ => none)
  | f + 1, b, .tup ds => (match ownA (ownD h f) b ds with
    | some (ds', cs, ns) => some (.tup ds', cs, ns)
    | none => none)
  | f + 1, _, d => (frz 0 [] (f + 1) d).map fun d' => (d', [], [])
def gcR : R D → R D
  | .ok d h => (match ownD h 12 0 d with
    | some (d', cs, ns) => @ite _ ns.Nodup (Classical.propDecidable _) (.ok d' cs) .stuck
    | none => .stuck)
  | .exc x h => .exc x h
  | .stuck => .stuck
def gcS (sem : List D → Hv → R D) : List D → Hv → R D := fun ds h => match h with
  | [] => gcR (sem ds [])
  | _ => .stuck
def OwnOk (K : PySem.W.Frag) (φ ψ : List Addr) (S : Hp) (h : Hv) (cs : List Cell) (ns : List Nat) : Prop := cs.length = ns.length ∧ ∀ (i n : Nat), ns[i]? = some n → ∃ c c' : Cell, h[n]? = some c ∧ cs[i]? = some c' ∧ ∀ o, RpC K φ S c o → RpC K ψ S c' o
section
variable {K : PySem.W.Frag} {φ ψ : List Addr} {S H : Hp} {h : Hv}
theorem OwnOk.append {cs cs' : List Cell} {ns ns' : List Nat} (a : OwnOk K φ ψ S h cs ns) (b : OwnOk K φ ψ S h cs' ns') : OwnOk K φ ψ S h (cs ++ cs') (ns ++ ns') := by
  refine ⟨by rw [List.length_append, List.length_append, a.1, b.1], fun i n hi => ?_⟩
  by_cases q : i < ns.length
  · rw [List.getElem?_append_left q] at hi
    obtain ⟨c, c', h1, h2, h3⟩ := a.2 i n hi
    exact ⟨c, c', h1, by rw [List.getElem?_append_left (by rw [a.1]; exact q)]; exact h2, h3⟩
  · rw [List.getElem?_append_right (by omega)] at hi
    obtain ⟨c, c', h1, h2, h3⟩ := b.2 _ n hi
    exact ⟨c, c', h1, by rw [List.getElem?_append_right (by rw [a.1]; omega), a.1]; exact h2, h3⟩
theorem ownA_ok {g : Nat → D → Option (D × List Cell × List Nat)} (hg : ∀ b d d' cs ns, g b d = some (d', cs, ns) → (∀ i n, ns[i]? = some n → ψ[b + i]? = φ[n]?) → OwnOk K φ ψ S h cs ns ∧ ∀ v, Rp K φ S v d → Rp K ψ S v d')
    (hl : ∀ b d d' cs ns, g b d = some (d', cs, ns) → cs.length = ns.length) :
    ∀ (ds : List D) b ds' cs ns, ownA g b ds = some (ds', cs, ns) → (∀ i n, ns[i]? = some n → ψ[b + i]? = φ[n]?) → OwnOk K φ ψ S h cs ns ∧ ∀ vs, RpA K φ S vs ds → RpA K ψ S vs ds'
  | [], b, ds', cs, ns, e, _ => by
    cases e
    exact ⟨⟨rfl, fun i n z => by simp at z⟩, fun vs r => by cases r; exact .nil⟩
  | d :: ds, b, ds', cs, ns, e, hp => by
    simp only [ownA] at e
    cases q1 : g b d with
    | none => rw [q1] at e; cases e
    | some p1 =>
      obtain ⟨d1, c1, n1⟩ := p1
      rw [q1] at e
      simp only at e
      cases q2 : ownA g (b + c1.length) ds with
      | none => rw [q2] at e; cases e
      | some p2 =>
        obtain ⟨d2, c2, n2⟩ := p2
        rw [q2] at e
        cases e
        have l1 := hl b d d1 c1 n1 q1
        obtain ⟨o1, r1⟩ := hg b d d1 c1 n1 q1 fun i n hi => hp i n (by rw [List.getElem?_append_left (List.getElem?_eq_some_iff.mp hi).1]; exact hi)
        obtain ⟨o2, r2⟩ := ownA_ok hg hl ds (b + c1.length) d2 c2 n2 q2 fun i n hi => by
          have := hp (n1.length + i) n (by rw [List.getElem?_append_right (by omega), Nat.add_sub_cancel_left]; exact hi)
          rw [← this, l1, Nat.add_assoc]
        exact ⟨o1.append o2, fun vs r => by
          cases r with
          | cons ra rb => exact .cons (r1 _ ra) (r2 _ rb)⟩
theorem ownA_len {g : Nat → D → Option (D × List Cell × List Nat)} (hl : ∀ b d d' cs ns, g b d = some (d', cs, ns) → cs.length = ns.length) :
    ∀ (ds : List D) b ds' cs ns, ownA g b ds = some (ds', cs, ns) → cs.length = ns.length
  | [], b, ds', cs, ns, e => by cases e; rfl
  | d :: ds, b, ds', cs, ns, e => by
    simp only [ownA] at e
    cases q1 : g b d with
    | none => rw [q1] at e; cases e
    | some p1 =>
      obtain ⟨d1, c1, n1⟩ := p1
      rw [q1] at e
      simp only at e
      cases q2 : ownA g (b + c1.length) ds with
      | none => rw [q2] at e; cases e
      | some p2 =>
        obtain ⟨d2, c2, n2⟩ := p2
        rw [q2] at e
        cases e
        rw [List.length_append, List.length_append, hl _ _ _ _ _ q1, ownA_len hl ds _ _ _ _ q2]
theorem ownD_len : ∀ (f : Nat) b d d' cs ns, ownD h f b d = some (d', cs, ns) → cs.length = ns.length := by
  intro f
  induction f with
  | zero => intro b d d' cs ns e; simp [ownD] at e
  | succ f ih =>
    intro b d d' cs ns e
    have all := ownA_len ih
    have other : ∀ d0, (frz 0 [] (f + 1) d0).map (fun d' => (d', ([] : List Cell), ([] : List Nat))) = some (d', cs, ns) → cs.length = ns.length := fun d0 e => by
      obtain ⟨_, _, z⟩ := Option.map_eq_some_iff.mp e
      cases z; rfl
    cases d with
    | cell n =>
      simp only [ownD] at e
      split at e
      · split at e
        · next ds' cs' ns' q => cases e; rw [List.length_cons, List.length_cons, all _ _ _ _ _ q]
        · cases e
      · cases e
    | tup ds =>
      simp only [ownD] at e
      split at e
      · next ds' cs' ns' q => cases e; exact all _ _ _ _ _ q
      · cases e
    | _ => exact other _ e
theorem ownD_ok : ∀ (f : Nat) b d d' cs ns, ownD h f b d = some (d', cs, ns) → (∀ i n, ns[i]? = some n → ψ[b + i]? = φ[n]?) → OwnOk K φ ψ S h cs ns ∧ ∀ v, Rp K φ S v d → Rp K ψ S v d' := by
  intro f
  induction f with
  | zero => intro b d d' cs ns e; simp [ownD] at e
  | succ f ih =>
    intro b d d' cs ns e hp
    have all := ownA_ok ih (ownD_len f)
    have other : (frz 0 [] (f + 1) d).map (fun d' => (d', ([] : List Cell), ([] : List Nat))) = some (d', cs, ns) → OwnOk K φ ψ S h cs ns ∧ ∀ v, Rp K φ S v d → Rp K ψ S v d' := fun e => by
      obtain ⟨d1, e1, z⟩ := Option.map_eq_some_iff.mp e
      cases z
      exact ⟨⟨rfl, fun i n z => by simp at z⟩, fun v r => Rp.mono ⟨ψ, rfl⟩ (Ex.refl _) (frz0_ok _ _ _ _ r e1)⟩
    cases d with
    | cell n =>
      simp only [ownD] at e
      split at e
      · next ds q1 =>
        split at e
        · next ds' cs' ns' q =>
          cases e
          obtain ⟨o1, r1⟩ := all _ _ _ _ _ q fun i m hi => by
            have := hp (i + 1) m (by rw [List.getElem?_cons_succ]; exact hi)
            rw [← this, Nat.add_assoc, Nat.add_comm 1 i]
          have h0 := hp 0 n rfl
          rw [Nat.add_zero] at h0
          refine ⟨⟨by rw [List.length_cons, List.length_cons, o1.1], fun i m hi => ?_⟩, fun v r => ?_⟩
          · cases i with
            | zero =>
              rw [List.getElem?_cons_zero] at hi
              cases Option.some.inj hi
              exact ⟨_, _, q1, rfl, fun o ⟨vs, ho, ra⟩ => ⟨vs, ho, r1 vs ra⟩⟩
            | succ i =>
              rw [List.getElem?_cons_succ] at hi ⊢
              exact o1.2 i m hi
          · cases r with
            | cell hc => exact .cell (h0.trans hc)
        · cases e
      · cases e
    | tup ds =>
      simp only [ownD] at e
      split at e
      · next ds' cs' ns' q =>
        cases e
        obtain ⟨o1, r1⟩ := all _ _ _ _ _ q hp
        exact ⟨o1, fun v r => by
          cases r with
          | tup h1 h2 => exact .tup h1 (r1 _ h2)⟩
      · cases e
    | _ => exact other e
theorem Post.gc {S0 H0 : Hp} {r : R D} {Q : VK} {E : XK} (post : Post K (repV K) [] S0 H0 (gcR r) Q E) : Post K (repV K) [] S0 H0 r Q E := by
  cases r with
  | exc x h => exact post
  | stuck => exact post
  | ok d h =>
    intro v φ S H rl st rv
    simp only [gcR] at post
    split at post
    · next d' cs ns q =>
      split at post
      · next nd =>
        have ln := ownD_len _ _ _ _ _ _ q
        have o0 := (ownD_ok (K := K) (φ := φ) (S := S) (ψ := ns.map fun n => φ[n]?.getD 0) _ _ _ _ _ _ q)
        -- all of ns are there
        have lt : ∀ n ∈ ns, n < φ.length := by
          have : ∀ (f : Nat) b d d' cs ns, ownD h f b d = some (d', cs, ns) → ∀ n ∈ ns, n < h.length := by
            intro f
            induction f with
            | zero => intro b d d' cs ns e; simp [ownD] at e
            | succ f ih =>
              have all : ∀ (ds : List D) b ds' cs ns, ownA (ownD h f) b ds = some (ds', cs, ns) → ∀ n ∈ ns, n < h.length := by
                intro ds
                induction ds with
                | nil => intro b ds' cs ns e; cases e; intro n hn; cases hn
                | cons d ds ih2 =>
                  intro b ds' cs ns e
                  simp only [ownA] at e
                  split at e
                  · next q1 =>
                    split at e
                    · next q2 =>
                      cases e
                      intro n hn
                      rcases List.mem_append.mp hn with hn | hn
                      · exact ih _ _ _ _ _ q1 n hn
                      · exact ih2 _ _ _ _ q2 n hn
                    · cases e
                  · cases e
              intro b d d' cs ns e
              have other : ∀ d0, (frz 0 [] (f + 1) d0).map (fun d' => (d', ([] : List Cell), ([] : List Nat))) = some (d', cs, ns) → ∀ n ∈ ns, n < h.length := fun d0 e => by
                obtain ⟨_, _, z⟩ := Option.map_eq_some_iff.mp e
                cases z
                intro n hn; cases hn
              cases d with
              | cell n =>
                simp only [ownD] at e
                split at e
                · next ds q1 =>
                  split at e
                  · next q =>
                    cases e
                    intro m hm
                    cases hm with
                    | head => exact (List.getElem?_eq_some_iff.mp q1).1
                    | tail _ hm => exact all _ _ _ _ _ q m hm
                  · cases e
                · cases e
              | tup ds =>
                simp only [ownD] at e
                split at e
                · next q => cases e; exact all _ _ _ _ _ q
                · cases e
              | _ => exact other _ e
          intro n hn
          rw [rl.len]
          exact this _ _ _ _ _ _ q n hn
        have at_ : ∀ i n, ns[i]? = some n → (ns.map fun n => φ[n]?.getD 0)[0 + i]? = φ[n]? := fun i n hi => by
          rw [Nat.zero_add, List.getElem?_map, hi]
          have := lt n (List.mem_of_getElem? hi)
          rw [Option.map_some, List.getElem?_eq_getElem this]; rfl
        obtain ⟨o1, r1⟩ := o0 at_
        have mem : ∀ a ∈ (ns.map fun n => φ[n]?.getD 0), a ∈ φ := fun a ha => by
          obtain ⟨n, hn, rfl⟩ := List.mem_map.mp ha
          rw [List.getElem?_eq_getElem (lt n hn)]
          exact List.getElem_mem _
        refine post v _ S H ⟨?_, rl.sub, ?_, fun i a c e1 e2 => ?_⟩ ⟨⟨_, (List.nil_append _).symm, fun a ha => ?_⟩, st.sub, st.old, st.keep, st.there⟩ (r1 v rv)
        · rw [List.length_map, ln]
        · rw [List.nodup_iff_pairwise_ne, List.pairwise_map]
          rw [List.nodup_iff_pairwise_ne] at nd
          refine List.Pairwise.imp_of_mem (fun {x y} hx hy hne z => hne ?_) nd
          have hx2 := lt x hx
          have hy2 := lt y hy
          rw [List.getElem?_eq_getElem hx2, List.getElem?_eq_getElem hy2] at z
          exact nd_ix rl.nd (List.getElem?_eq_getElem hx2) (by rw [List.getElem?_eq_getElem hy2]; exact congrArg some z.symm)
        · have hi : i < ns.length := by
            have := (List.getElem?_eq_some_iff.mp e2).1
            omega
          have en := List.getElem?_eq_getElem hi
          obtain ⟨c0, c', h1, h2, h3⟩ := o1.2 i _ en
          rw [e2] at h2
          cases h2
          have e3 := at_ i _ en
          rw [Nat.zero_add, e1] at e3
          obtain ⟨k1, o, k2, k3⟩ := rl.cel _ a c0 e3.symm h1
          exact ⟨k1, o, k2, h3 o k3⟩
        · obtain ⟨ψ, e, hn⟩ := st.pre
          rw [List.nil_append] at e
          exact hn a (by rw [← e]; exact mem a ha)
      · exact post.elim
    · exact post.elim
end
theorem spOf_T {K : PySem.W.Frag} {sem : List D → Hv → R D} {φ : List Addr} {S H : Hp} {h : Hv} {ds : List D} {vs : List V} {Q : VK} {E : XK} (rl : Rel K φ S H h) (ra : RpA K φ S vs ds) (post : Post K (repV K) φ S H (callC (gcS sem) ds h) Q E) : spOf K sem vs H Q E := by
  unfold callC at post
  split at post
  · next ds' q =>
    refine ⟨[], S, [], ds', Rel.bare rl.sub, frzA_of (n0 := 0) (h := []) (fun d v d' r e => frz0_ok 12 d v d' r e) ds vs ds' ra q, ?_⟩
    refine Post.gc ?_
    have e : gcR (sem ds' []) = gcS sem ds' [] := rfl
    rw [e]
    split at post
    · next d h' hs =>
      rw [hs]
      intro v φ' S' H' r2 st rv
      obtain ⟨r3, s3⟩ := join_rel rl r2 st
      rw [← rl.len] at post r3
      exact post v _ _ _ r3 s3 rv.sh
    · next x hs =>
      rw [hs]
      intro cls dd φ' S' H' r2 st rx
      obtain ⟨r3, s3⟩ := join_rel rl r2 st
      have e : φ' = [] := List.length_eq_zero_iff.mp r2.len
      subst e
      rw [List.append_nil] at r3 s3
      rw [List.map_nil, List.append_nil] at r3
      refine post cls dd _ _ _ r3 s3 ⟨rx.1, ?_⟩
      have rx2 := rx.2
      cases hp : x.pay with
      | none => rw [hp] at rx2; exact rx2
      | some p =>
        rw [hp] at rx2
        obtain ⟨dx, v, e2, e3, rv⟩ := rx2
        exact ⟨dx, v, e2, e3, Rp.mono ⟨φ, rfl⟩ (Ex.refl _) rv⟩
    · exact post.elim
  · exact post.elim
theorem se_fnT {X : Cx} {W : WX} {k : Nat} {ps : List Str} {sem : List D → Hv → R D} {x : Str} {p pos : Pos} {e : Expr} {es : List Expr} {la : LS} (o : OkF X.prog X.w X.K X.mg X.base k x ps sem) (hr : Room k X.A) (tk : Takes X W) (ha : SA X W (e :: es) la)
    (hg : Gl X x := by rfl) (hdb : (x == ("__debug__" : Str)) = false := by decide) (he : starEach (e :: es) X.env = (false, eval e X.env) :: starEach es X.env := by rfl) (hpl : (backTo pos (starEach es X.env)).any (·.1) = false := by rfl) : SE X W (.Call (.Name x p) (e :: es) [] pos) (eCa (callC (gcS sem)) la) := by
  obtain ⟨fd, _, F, b, g, kp⟩ := o
  exact se_call spOf_T F hr tk g kp b ha hg hdb he hpl
/-- the end of a def that hands its objects on, with errors that bear values -/
def Rv (P : R D → Prop) (r : RS) : Prop := match r with
  | .ret d h => P (.ok d h)
  | .exc x _ h => (match x.pay with
    | none => P (.exc ⟨x.cls, none⟩ [])
    | some (f, d) => ∃ d', frz 0 h 12 d = some d' ∧ P (.exc ⟨x.cls, some (f, d')⟩ []))
  | _ => False
section
variable {P : R D → Prop} {σ : VS} {h : Hv} {d : D} {C f : Str}
@[simp] theorem Wp_rv_ret : Wp (Rv P) (.ret d h) = P (.ok d h) := Wp.eq _ _
@[simp] theorem Wp_rv_exc : Wp (Rv P) (.exc ⟨C, none⟩ σ h) = P (.exc ⟨C, none⟩ []) := by
  rw [Wp.eq, Rv]
@[simp] theorem Wp_rv_excP : Wp (Rv P) (.exc ⟨C, some (f, d)⟩ σ h) = ∃ d', frz 0 h 12 d = some d' ∧ P (.exc ⟨C, some (f, d')⟩ []) := by
  rw [Wp.eq, Rv]
@[simp] theorem Wp_rv_stuck : Wp (Rv P) .stuck = False := Wp.eq _ _
end
theorem fnU_ofX {P : R D → Prop} {np nl : Nat} {body : SS} {ds : List D} (hl : ds.length = np) (hw : Wp (Rv P) (body (ds.map some ++ List.replicate nl none) [])) : P (fnU np nl body ds []) := by
  replace hw := hw.run
  unfold fnU
  rw [if_pos hl]
  generalize body (ds.map some ++ List.replicate nl none) [] = r at hw ⊢
  cases r with
  | ret d h => exact hw
  | exc x σ h =>
    cases x with
    | mk c p =>
      cases p with
      | none =>
        show P (exitX 0 ⟨c, none⟩ h)
        unfold exitX
        rw [List.take_zero]
        simp only [optAll_nil, Nat.zero_le, if_true]
        exact hw
      | some q =>
        obtain ⟨f, d⟩ := q
        obtain ⟨d', e1, e2⟩ := hw
        show P (exitX 0 ⟨c, some (f, d)⟩ h)
        unfold exitX
        rw [List.take_zero]
        simp only [e1, optAll_nil, Nat.zero_le, if_true]
        exact e2
  | next σ h => exact hw.elim
  | brk σ h => exact hw.elim
  | cont σ h => exact hw.elim
  | stuck => exact hw.elim
end
end VD

set_option Elab.async false
set_option linter.all false
set_option maxRecDepth 100000
set_option maxHeartbeats 4000000
namespace VD
open PySem PySem.Spec PyProof.Rows L2 RT
noncomputable section
/-! ### list(reversed(a list)) -/
section
variable {prog : Program} {w : World} {A : Around} {E : Value → Shared → Prop} {s : Shared}
theorem init_rev {R : Result → Shared → Prop} {it l S : Addr} {items : Array Value} (hh : A.handled = none) (hit : s.heap.IsRevIter it l ((items.size : Int) - 1)) (hl : s.heap.IsList l items) (hne : l ≠ it) (hn : items.size ≤ sizeLine)
    (hSi : S ≠ it) (hSl : S ≠ l) (hS : s.heap.get? S = some { cls := .type "list", data := .seq #[] })
    (hR : ∀ h' tk acc' c', (∀ b o, b ≠ S → b ≠ it → s.heap.get? b = some o → h'.get? b = some o) → h'.get? S = some { cls := .type "list", dict := none, data := .seq acc' c', slots := #[] } →
      ItemsOf (fun i v => items[items.size - 1 - i]? = some v) acc' items.size → R (.ok (.ret .none)) { s with heap := h', toks := tk }) :
    wpAny (model prog w) A.in1 (Builtin.«list.__init__» ⟨[.ref S, .ref it], []⟩)
      (fun fin s' => match fin with | .done f => R (.ok f) s' | .again c' => c'.quiet = true ∧ codeAny (model prog w) A c' R s') (fun e s' => R (.error e) s') s := by
  show wpAny _ _ (do let old ← Builtin.List.listItems (.ref S); Builtin.List.listUpdate (.ref S) (fun _ => #[]); letGo old.toList.reverse; Builtin.List.listExtendWith (.ref S) (.ref it) .none) _ _ s
  refine wpAny_bind ?_
  unfold Builtin.List.listItems
  refine wpAny_bind (wpAny_seqItems hS rfl (wpAny_pure ?_))
  show wpAny _ _ (updateSeq S (fun _ => #[]) >>= fun _ => letGo (#[] : Array Value).toList.reverse >>= fun _ => Builtin.List.listExtendWith (.ref S) (.ref it) .none) _ _ s
  refine wpAny_bind (wpAny_updateSeq hS rfl ?_)
  have hS₂ := Heap.get?_update_self (Obj.mapSeq (fun _ => (#[] : Array Value))) hS rfl
  have oth : ∀ b o, b ≠ S → s.heap.get? b = some o → (s.heap.update S (Obj.mapSeq (fun _ => (#[] : Array Value)))).get? b = some o :=
    fun b o hb e => (Heap.get?_update_other _ _ (Ne.symm hb)).trans e
  refine wpAny_bind (wpAny_letGo ?_)
  have W := (Walks.listRev (prog := prog) (w := w) (A := A.in1) hh it l hne items).toS
  have hit1 : (s.heap.update S (Obj.mapSeq (fun _ => (#[] : Array Value)))).IsRevIter it l ((items.size : Int) - 1) := hit.at fun o e => oth _ _ (Ne.symm hSi) e
  have hl1 : (s.heap.update S (Obj.mapSeq (fun _ => (#[] : Array Value)))).IsList l items := by
    obtain ⟨ol, hol, r⟩ := hl
    exact ⟨ol, oth _ _ (Ne.symm hSl) hol, r⟩
  have hSf : S ∉ [it, l] := by simp only [List.mem_cons, List.not_mem_nil, or_false, not_or]; exact ⟨hSi, hSl⟩
  generalize hh2 : s.heap.update S (Obj.mapSeq (fun _ => (#[] : Array Value))) = h2 at *
  have hT : ({ s with heap := h2 } : Shared).TypeIs (.ref it) "list_reverseiterator" := Heap.IsRevIter.typeIs (s := { s with heap := h2 }) hit1
  have h1 : Builtin.List.listSameRef (.ref S) (.ref it) = false := by simp [Builtin.List.listSameRef, hSi]
  unfold Builtin.List.listExtendWith
  refine wpAny_bind (wpAny_typeOf hT ?_)
  rw [if_neg (by rw [h1]; decide)]
  refine wpAny_bind (wpAny_pyIter_revIter (s := { s with heap := h2 }) hit1 ?_)
  refine wpAny_bind (wpAny_holding ?_)
  unfold Builtin.List.listLengthHint
  refine wpAny_bind (wpAny_specialOf hT nolen_lri ?_)
  show wpAny _ A.in1 (specialOf (Value.ref it) (Str.ofString "__length_hint__") >>= _) _ _ _
  refine wpAny_bind (wpAny_specialOf hT hint_lri ?_)
  generalize hid : ("list_reverseiterator.__length_hint__" : String) = id0
  wp_delta
  rw [show splitId id0 = some ("list_reverseiterator", "__length_hint__") from by subst hid; decide +kernel]
  subst hid
  refine wpAny_bind (wpAny_isInstance (b := true) hT (by rw [isSubtype_type]; kernel_rfl) ?_)
  refine wpAny_pure ?_
  rw [if_neg (by decide)]
  have e0 : ((items.size : Nat) : Int) - 1 - ((0 : Nat) : Int) = (items.size : Int) - 1 := by omega
  refine wpAny_pure ⟨plainId_quiet F.plain_extend_loop _, codeAny_extend_loopS W hn _ hSf _ items.size 0 _ _ _ rfl (Nat.zero_le _) ⟨Nat.zero_le _, by rw [e0]; exact hit1, hl1⟩ hS₂ (ItemsOf.nil _) fun s' acc' c' hm hS' hacc => ?_⟩
  rw [Moved.eq_with hm]
  refine hR s'.heap s'.toks acc' c' (fun b o hb1 hb2 e => hm.heap b o (fun hmem => ?_) (oth b o hb1 e)) hS' hacc
  rcases List.mem_cons.mp hmem with e' | hmem
  · exact hb1 e'
  · exact hb2 (List.mem_singleton.mp hmem)
theorem call_list_rev {Q : Value → Shared → Prop} {it l : Addr} {items : Array Value} (hh : A.handled = none) (hit : s.heap.IsRevIter it l ((items.size : Int) - 1)) (hl : s.heap.IsList l items) (hne : l ≠ it) (hn : items.size ≤ sizeLine)
    (hQ : ∀ h' tk acc' c', (∀ b o, b ≠ it → s.heap.get? b = some o → h'.get? b = some o) → h'.get? s.heap.objs.size = some { cls := .type "list", dict := none, data := .seq acc' c', slots := #[] } →
      ItemsOf (fun i v => items[items.size - 1 - i]? = some v) acc' items.size → Q (.ref s.heap.objs.size) { s with heap := h', toks := tk }) :
    wpAny (model prog w) A (call (.type "list") [.ref it]) Q E s := by
  obtain ⟨oi, hoi, _⟩ := id hit
  obtain ⟨ol, hol, _⟩ := id hl
  refine callType_codes (Q₁ := fun obj s₁ => obj = .ref s.heap.objs.size ∧ s₁ = { s with heap := s.heap.push { cls := .type "list", data := .seq #[] } }) F.called_list (F.typeCall_list_1 _) F.entry_list_init
    (code_list_new _ ⟨rfl, rfl⟩) fun obj s₁ h₁ => ?_
  obtain ⟨rfl, rfl⟩ := h₁
  have hS : (s.heap.push { cls := .type "list", data := .seq #[] }).get? s.heap.objs.size = some { cls := .type "list", data := .seq #[] } := Heap.get?_push_size _ rfl
  refine ⟨⟨_, hS, rfl⟩, F.args_list_init_2 _ _, init_rev (A := A.in1) (s := { s with heap := s.heap.push { cls := .type "list", data := .seq #[] } }) hh (hit.at fun o e => Heap.get?_push_of_some _ e) (hl.push _) hne hn (Nat.ne_of_gt (Heap.lt_size hoi)) (Nat.ne_of_gt (Heap.lt_size hol)) hS fun h' tk acc' c' hk hS' hacc => ?_⟩
  exact ⟨rfl, hQ h' tk acc' c' (fun b o hb e => hk b o (Nat.ne_of_lt (Heap.lt_size e)) hb (Heap.get?_push_of_some _ e)) hS' hacc⟩
end
def tLstRev (K : PySem.W.Frag) (te : TE) : TE := fun σ H Q => te σ H fun v H1 => ∃ (a : Addr) (xs : List V), v = .ref a ∧ SqL K H1 a xs ∧ ∀ q, H1 q = none → Q (.ref q) (upd H1 q (.lst xs.reverse))
section
variable {X : Cx}
theorem pe_listRev {e : Expr} {te : TE} {p p2 pos pos2 : Pos} (hc : X.calm = true) (hg : Gl X "list") (hm : X.mg "list" = none) (hg2 : Gl X "reversed") (hm2 : X.mg "reversed" = none) (he : PE X e te)
    (hs : starEach [e] X.env = (false, eval e X.env) :: starEach [] X.env := by rfl)
    (hs2 : starEach [.Call (.Name "reversed" p2) [e] [] pos2] X.env = (false, eval (.Call (.Name "reversed" p2) [e] [] pos2) X.env) :: starEach [] X.env := by rfl) :
    PE X (.Call (.Name "list" p) [.Call (.Name "reversed" p2) [e] [] pos2] [] pos) (tLstRev X.K te) := by
  refine ⟨fun pins s σ H Q I h => ?_⟩
  refine Call_ (ld_blt I hg hm boot_list (PyProof.Rows.callWith_type1 (args_cons (Call_ (ld_blt I hg2 hm2 PyProof.Rows.boot_reversed (PyProof.Rows.callWith_type1 (args_cons (thn (he.run pins s σ H _ I h) fun u s1 ⟨v, H1, I1, r1, q1⟩ => args_nil ?_) hs) hs rfl))) hs2) hs2 rfl))
  obtain ⟨a, xs, ev, hq, q⟩ := q1
  subst ev
  obtain rfl : u = Value.ref a := r1
  obtain ⟨its, rv, p', hz⟩ := I1.list hq
  refine call_reversed_list p'.isList (args_nil ?_)
  have k0 : ∀ b o, s1.heap.get? b = some o → (s1.heap.push (revObj a ((its.toArray.size : Int) - 1))).get? b = some o := fun b o e => Heap.get?_push_of_some _ e
  have I2 : Inv X pins σ H1 { s1 with heap := s1.heap.push (revObj a ((its.toArray.size : Int) - 1)) } := I1.kept (t' := s1.toks) k0
  obtain ⟨f0, f1, f2, f3, f4, f5⟩ := I1.fpOk (H' := H1) (b := s1.heap.objs.size) (Nat.le_refl _) (I1.hok.fresh (Nat.le_refl _))
  have hl := p'.isList
  obtain ⟨ol, hol, _⟩ := id hl
  have hne : a ≠ s1.heap.objs.size := Nat.ne_of_lt (Heap.lt_size hol)
  have hn : its.toArray.size ≤ sizeLine := by rw [List.size_toArray, ← rv.length]; exact hz
  refine call_list_rev (s := { s1 with heap := s1.heap.push (revObj a ((its.toArray.size : Int) - 1)) }) (I1.ok.hd hc) ⟨_, Heap.get?_push_size _ rfl, rfl, rfl⟩ (hl.push _) hne hn fun h' tk acc c' hk e' hi => ?_
  have hS : s1.heap.objs.size ≤ (s1.heap.push (revObj a ((its.toArray.size : Int) - 1))).objs.size := by
    show s1.heap.objs.size ≤ (s1.heap.objs.push _).size
    rw [Array.size_push]
    exact Nat.le_succ _
  refine ⟨.ref (s1.heap.push (revObj a ((its.toArray.size : Int) - 1))).objs.size, upd H1 (s1.heap.push (revObj a ((its.toArray.size : Int) - 1))).objs.size (.lst xs.reverse), I1.laid (t' := tk) (fun b u e => hk b u (Nat.ne_of_lt (Heap.lt_size e)) (k0 b u e)) hS (show ObjOk X.prog X.w _ _ _ (.lst xs.reverse) from ⟨by rw [List.length_reverse]; exact hz, acc.toList, c', vals_rev rv hi, ?_⟩), rfl, q _ (I1.hok.fresh hS)⟩
  rw [Array.toArray_toList]
  exact e'
end
def lRev (f : ES) : LS := fun σ h => (f σ h).bind fun d h1 => match lOf h1 d with
  | some xs => .ok xs.reverse h1
  | none => .stuck
@[simp] theorem lRev_ap {f : ES} {σ : VS} {h : Hv} : lRev f σ h = (f σ h).bind fun d h1 => match lOf h1 d with
  | some xs => .ok xs.reverse h1
  | none => .stuck := rfl
theorem sl_listRev {X : Cx} {W : WX} {a : Expr} {fa : ES} {p p2 pos pos2 : Pos} (hml : X.mg "list" = none) (hmr : X.mg "reversed" = none) (ha : SE X W a fa) (hgl : Gl X "list" := by rfl) (hgr : Gl X "reversed" := by rfl) (hc : X.calm = true := by rfl)
    (na : starEach [a] X.env = (false, eval a X.env) :: starEach [] X.env := by rfl) (nb : starEach [Expr.Call (.Name "reversed" p2) [a] [] pos2] X.env = (false, eval (Expr.Call (.Name "reversed" p2) [a] [] pos2) X.env) :: starEach [] X.env := by rfl) :
    SL X W (.Call (.Name "list" p) [.Call (.Name "reversed" p2) [a] [] pos2] [] pos) (lRev fa) := by
  obtain ⟨ta, h1, h2⟩ := ha
  refine ⟨_, pe_listRev hc hgl hml hgr hmr h1 na nb, ⟨fun rl rs post => h2.bind rl rs post fun d h1 v φ1 S1 H1 rl1 rs1 st rp post => ?_⟩⟩
  split at post
  · next xs q =>
    obtain ⟨a0, vs, rfl, hs, ra⟩ := lOf_ok rl1 rp q
    refine ⟨a0, vs, rfl, hs, fun p hp => ?_⟩
    obtain ⟨r2, s2⟩ := rl1.hold (o := .lst vs.reverse) hp
    exact post (.ref p) φ1 _ _ r2 s2 ⟨p, vs.reverse, rfl, hp, upd_same, rl1.snone hp, rl1.notin hp, ra.reverse⟩
  · exact post.elim
end
end VD

set_option Elab.async false
set_option linter.all false
set_option maxRecDepth 100000
set_option maxHeartbeats 4000000
namespace VD
open PySem PySem.Spec PyProof.Rows L2
noncomputable section
/-! ### objects with methods -/
section
variable {X : Cx} {CX : CXT} {k : Nat} {f C : Addr} {fd : FuncData} {ps : List Str} {sp : Sp} {E : L2.St → XK} {x m : Str} {p pos apos : Pos} {e o : Expr} {es : List Expr} {ta : TE} {t : TA}
def tMethW (C : Addr) (m : Str) (sp : Sp) (E : L2.St → XK) (ta : TE) (t : TA) : TE := fun σ H Q => ta σ H fun x H1 => ∃ a dx fs, x = .ref a ∧ H1 a = some (.ins C dx fs) ∧ fs.lookup m = none ∧ t σ H1 fun vs H2 => sp (x :: vs) H2 Q (E σ)
theorem pe_methW {pl : Sem Bool} (he : PE X o ta) (c : Cls X.K C) (hm : Meth X.K C m f) (F : FnOk X.prog X.w X.K X.mg X.base CX k f fd ps sp) (hr : Room k X.A) (hb : Binds X.K fd ps []) (hx : ∀ σ, PassesAt CX X σ (E σ)) (ha : PA X (e :: es) t)
    (hst : starEach (e :: es) X.env = (false, eval e X.env) :: starEach es X.env := by rfl) (hpl : (backTo pos (starEach es X.env)).any (·.1) = false := by rfl)
    (ht : eval (.Call (.Attribute o m apos) (e :: es) [] pos) X.env = (do
      let ov ← eval o X.env
      standAt apos.atName
      let (f, first) ← holding [ov] (getMethod ov m pl)
      callWith pos f first (backTo pos (starEach (e :: es) X.env)) (backToKw pos (keywordEach [] X.env))) := by rfl) :
    PE X (.Call (.Attribute o m apos) (e :: es) [] pos) (tMethW C m sp E ta t) := by
  refine ⟨fun pins s σ H Q I h => ?_⟩
  refine PySem.W.methodCall_KW (pl := pl) (thn (he.run pins s σ H _ I h) fun u s1 ⟨x, H1, I1, rx, a, dx, fs, ex, ea, l, q⟩ => ?_) ht
  subst ex
  obtain rfl : u = Value.ref a := rx
  refine getmeth_ok I1 ea c hm l ?_
  refine PySem.W.callWith_K (first := [.ref a]) (h₀ := X.base) I.ok.mod.kin hm.kp (thn (ha.run pos pins s1 σ H1 _ I1 q) fun us s2 ⟨vs, H2, I2, r, q2⟩ => ⟨I2.kIn, ?_⟩) hst hpl
  exact run_fnS (us := .ref a :: us) (vs := .ref a :: vs) F hr hb (hx σ) I2 (.cons rfl r) q2
theorem pe_methW0 {pl : Sem Bool} (he : PE X o ta) (c : Cls X.K C) (hm : Meth X.K C m f) (F : FnOk X.prog X.w X.K X.mg X.base CX k f fd ps sp) (hr : Room k X.A) (hb : Binds X.K fd ps []) (hx : ∀ σ, PassesAt CX X σ (E σ))
    (ht : eval (.Call (.Attribute o m apos) [] [] pos) X.env = (do
      let ov ← eval o X.env
      standAt apos.atName
      let (f, first) ← holding [ov] (getMethod ov m pl)
      callWith pos f first (backTo pos (starEach [] X.env)) (backToKw pos (keywordEach [] X.env))) := by rfl) :
    PE X (.Call (.Attribute o m apos) [] [] pos) (tMethW C m sp E ta tNil) := by
  refine ⟨fun pins s σ H Q I h => ?_⟩
  refine PySem.W.methodCall_KW (pl := pl) (thn (he.run pins s σ H _ I h) fun u s1 ⟨x, H1, I1, rx, a, dx, fs, ex, ea, l, q⟩ => ?_) ht
  subst ex
  obtain rfl : u = Value.ref a := rx
  refine getmeth_ok I1 ea c hm l ?_
  exact PySem.W.callWith_K0 (first := [.ref a]) I1.kIn hm.kp (run_fnS (us := [.ref a]) (vs := [.ref a]) F hr hb (hx σ) I1 (.cons rfl .nil) q)
/-- what making asks -/
def spMk (C : Addr) (sp : Sp) : Sp := fun vs H Q E => ∀ x dx, H x = none → H dx = none → dx ≠ x → sp (.ref x :: vs) (upd (upd H dx (.own x)) x (.ins C dx [])) (fun v H2 => v = .non ∧ Q (.ref x) H2) E
theorem run_makeS {pins : List (Addr × Obj)} {σ : L2.St} {H : Hp} {s : Shared} {Q : VK} {us : List Value} {vs : List V} (M : Mk X.K C f) (F : FnOk X.prog X.w X.K X.mg X.base CX k f fd ps sp) (hr : Room (k + 1) X.A) (hb : Binds X.K fd ps []) (hx : PassesAt CX X σ (E σ))
    (I : Inv X pins σ H s) (r : Vals vs us) (h : spMk C sp vs H Q (E σ)) :
    wpAny (model X.prog X.w) X.A (call (.ref C) us) (EP X pins σ Q) X.xe s := by
  have hq := h (s.heap.objs.size + 1) s.heap.objs.size (I.hok.fresh (Nat.le_succ _)) (I.hok.fresh (Nat.le_refl _)) (Nat.ne_of_lt (Nat.lt_succ_self _))
  have I2 := Inv.made (C := C) I
  have r2 : Vals (V.ref (s.heap.objs.size + 1) :: vs) (Value.ref (s.heap.objs.size + 1) :: us) := .cons rfl r
  have hl : (Value.ref (s.heap.objs.size + 1) :: us).length = ps.length := by
    have e := r2.length
    rw [F.len _ _ _ _ hq] at e
    exact e.symm
  have b := hb _ (Value.ref (s.heap.objs.size + 1) :: us) I2.kIn (by rw [List.append_nil]; exact hl)
  rw [List.append_nil] at b
  refine wpAny_call (make_map (f := f) I.kIn M.makes M.init (beq_iff_eq.mp M.fn) (codeAny_mono (F.run _ X.stack _ _ ⟨Value.ref (s.heap.objs.size + 1) :: us, []⟩ (Value.ref (s.heap.objs.size + 1) :: us) _ _ (E σ) (hr.make C us [])
    (I2.env0.make C us []) b r2 hq) fun r s' hq' => ?_))
  cases r with
  | error e => exact hx pins _ _ e s' I2 hq'
  | ok fl =>
    cases fl with
    | ret u =>
      obtain ⟨v, H', I3, rv, ev, q3⟩ := I2.after hq'
      subst ev
      exact ⟨rv, ⟨V.ref (s.heap.objs.size + 1), H', I3, rfl, q3⟩⟩
    | next => exact False.elim hq'
    | brk => exact False.elim hq'
    | cont => exact False.elim hq'
theorem pe_makeW (M : Mk X.K C f) (F : FnOk X.prog X.w X.K X.mg X.base CX k f fd ps sp) (hr : Room (k + 1) X.A) (hg : Gl X x) (hm : X.mg x = some (.ref C)) (hb : Binds X.K fd ps []) (hx : ∀ σ, PassesAt CX X σ (E σ))
    (ha : PA X (e :: es) t) (hdb : (x == ("__debug__" : Str)) = false := by decide) (he : starEach (e :: es) X.env = (false, eval e X.env) :: starEach es X.env := by rfl) (hpl : (backTo pos (starEach es X.env)).any (·.1) = false := by rfl) :
    PE X (.Call (.Name x p) (e :: es) [] pos) (tCallS (spMk C sp) E t) := by
  refine ⟨fun pins s σ H Q I h => ?_⟩
  refine wpAny_Call_Name_kw (ld_glob I hg hm ?_ hdb)
  refine PySem.W.callWith_K (h₀ := X.base) I.ok.mod.kin M.kp (thn (ha.run pos pins s σ H _ I h) fun us s1 ⟨vs, H1, I1, r, q⟩ => ⟨I1.kIn, ?_⟩) he hpl
  exact run_makeS M F hr hb (hx σ) I1 r q
end
/-! ### fields -/
theorem lookup_ok {K : PySem.W.Frag} {φ : List Addr} {S : Hp} {f : Str} : ∀ {fv : List (Str × V)} {fs : List (Str × D)}, fv.map (·.1) = fs.map (·.1) → RpA K φ S (fv.map (·.2)) (fs.map (·.2)) →
    (∀ d, fs.lookup f = some d → ∃ v, fv.lookup f = some v ∧ Rp K φ S v d) ∧ (fs.lookup f = none → fv.lookup f = none)
  | [], [], _, _ => ⟨fun d h => (by cases h), fun _ => rfl⟩
  | (g, v) :: fv, (g', d) :: fs, ek, ra => by
    injection ek with e1 e2
    rw [List.map_cons, List.map_cons] at ra
    cases ra with
    | cons r t =>
      obtain ⟨h1, h2⟩ := lookup_ok (f := f) e2 t
      have e1' : g = g' := e1
      subst e1'
      rw [List.lookup_cons, List.lookup_cons]
      cases q : f == g with
      | true => exact ⟨fun d' e => by cases e; exact ⟨v, rfl, r⟩, fun e => by cases e⟩
      | false => exact ⟨h1, h2⟩
  | [], _ :: _, ek, _ => by cases ek
  | _ :: _, [], ek, _ => by cases ek
def putS (f : Str) (v : D) : List (Str × D) → List (Str × D)
  | [] => [(f, v)]
  | (g, x) :: r => if g = f then (g, v) :: r else (g, x) :: putS f v r
theorem putS_ok {K : PySem.W.Frag} {φ : List Addr} {S : Hp} {f : Str} {v : V} {d : D} (r : Rp K φ S v d) : ∀ {fv : List (Str × V)} {fs : List (Str × D)}, fv.map (·.1) = fs.map (·.1) → RpA K φ S (fv.map (·.2)) (fs.map (·.2)) →
    (putF f v fv).map (·.1) = (putS f d fs).map (·.1) ∧ RpA K φ S ((putF f v fv).map (·.2)) ((putS f d fs).map (·.2))
  | [], [], _, _ => ⟨rfl, .cons r .nil⟩
  | (g, v0) :: fv, (g', d0) :: fs, ek, ra => by
    injection ek with e1 e2
    rw [List.map_cons, List.map_cons] at ra
    cases ra with
    | cons r0 t =>
      have e1' : g = g' := e1
      subst e1'
      obtain ⟨h1, h2⟩ := putS_ok r e2 t
      unfold putF putS
      by_cases q : g = f
      · rw [if_pos q, if_pos q]
        exact ⟨by rw [List.map_cons, List.map_cons, e2], .cons r t⟩
      · rw [if_neg q, if_neg q]
        exact ⟨by rw [List.map_cons, List.map_cons, h1], .cons r0 h2⟩
  | [], _ :: _, ek, _ => by cases ek
  | _ :: _, [], ek, _ => by cases ek
/-- an object's fields -/
def fldsOf (h : Hv) (C : Str) : D → Option (List (Str × D))
  | .cell n => (match h[n]? with
    | some (.ins c fs) => if c = C then some fs else none
    | _ => none)
  | .obj c ks ds => if c = C then some (ks.zip ds) else none
  | _ => none
theorem RpA.zip {K : PySem.W.Frag} {φ : List Addr} {S : Hp} : ∀ {fv : List (Str × V)} {ks : List Str} {ds : List D}, fv.map (·.1) = ks → RpA K φ S (fv.map (·.2)) ds → fv.map (·.1) = (ks.zip ds).map (·.1) ∧ RpA K φ S (fv.map (·.2)) ((ks.zip ds).map (·.2))
  | [], ks, ds, ek, ra => by
    cases ek
    cases ra
    exact ⟨rfl, .nil⟩
  | (g, v) :: fv, ks, ds, ek, ra => by
    rw [List.map_cons] at ek ra
    cases ek
    cases ra with
    | cons r t =>
      obtain ⟨h1, h2⟩ := RpA.zip (fv := fv) rfl t
      exact ⟨congrArg (List.cons g) h1, .cons r h2⟩
theorem fldsOf_ok {K : PySem.W.Frag} {φ : List Addr} {S H : Hp} {h : Hv} {C : Str} {d : D} {v : V} {fs : List (Str × D)} (rl : Rel K φ S H h) (rp : Rp K φ S v d) (e : fldsOf h C d = some fs) :
    ∃ a dx fv, v = .ref a ∧ H a = some (.ins (He.ga K C) dx fv) ∧ fv.map (·.1) = fs.map (·.1) ∧ RpA K φ S (fv.map (·.2)) (fs.map (·.2)) := by
  cases rp with
  | @cell a n h1 =>
    simp only [fldsOf] at e
    obtain ⟨c, hc⟩ := rl.at h1
    obtain ⟨_, o, ho, rc⟩ := rl.cel _ _ _ h1 hc
    rw [hc] at e
    cases c with
    | ins c fs0 =>
      simp only at e
      split at e
      · next q =>
        cases e
        subst q
        obtain ⟨dx, fv, rfl, ek, ra⟩ := rc
        exact ⟨a, dx, fv, rfl, ho, ek, ra⟩
      · cases e
    | _ => cases e
  | @obj a dx fv c ks ds h1 h2 h3 =>
    simp only [fldsOf] at e
    split at e
    · next q =>
      cases e
      subst q
      obtain ⟨k1, k2⟩ := RpA.zip h2 h3
      exact ⟨a, dx, fv, rfl, rl.sub _ _ h1, k1, k2⟩
    · cases e
  | _ => cases e
section
variable {X : Cx} {W : WX} {e : Expr} {fa fv : ES} {f C : Str} {pos pos' : Pos}
def eFld (C f : Str) (fa : ES) : ES := fun σ h => (fa σ h).bind fun d h1 => match (fldsOf h1 C d).bind fun fs => fs.lookup f with
  | some x => .ok x h1
  | none => .stuck
theorem se_fld (c : Cls X.K (He.ga X.K C)) (n : NoAttr X.K (He.ga X.K C) f) (ha : SE X W e fa) (hb : attributeBase e f X.env (eval e X.env) = eval e X.env := by rfl) : SE X W (.Attribute e f pos) (eFld C f fa) := by
  obtain ⟨ta, k1, k2⟩ := ha
  refine ⟨_, pe_fld k1 hb, ⟨fun rl rs post => k2.bind rl rs post fun d h1 v φ1 S1 H1 rl1 rs1 st rp post2 => ?_⟩⟩
  split at post2
  · next x q =>
    obtain ⟨fs, q1, q2⟩ := Option.bind_eq_some_iff.mp q
    obtain ⟨a, dx, fv, rfl, h1, ek, ra⟩ := fldsOf_ok rl1 rp q1
    obtain ⟨u, hu, ru⟩ := (lookup_ok (f := f) ek ra).1 x q2
    exact ⟨a, _, dx, fv, u, rfl, h1, c, n, hu, post2 u φ1 S1 H1 rl1 (Step.refl _ _ _) ru⟩
  · exact post2.elim
/-- e.f = value -/
def sSetFld (C f : Str) (fa fv : ES) : SS := fun σ h => (fv σ h).then σ fun y h1 => (fa σ h1).then σ fun d h2 => match d with
  | .cell n => (match h2[n]? with
    | some (.ins c fs) => if c = C ∧ fs.length < 1000 then .next σ (h2.set n (.ins c (putS f y fs))) else .stuck
    | _ => .stuck)
  | _ => .stuck
theorem qs_setFld {value : Expr} (c : Cls X.K (He.ga X.K C)) (n : NoAttr X.K (He.ga X.K C) f) (hv : SE X W value fv) (ha : SE X W e fa) (hs : swapsWith value (some (.Attribute e f pos')) pos.line X.env = pure false := by rfl) : QS X W (.Assign [.Attribute e f pos'] value pos) (sSetFld C f fa fv) := by
  obtain ⟨ta, k1, k2⟩ := ha
  obtain ⟨tv, l1, l2⟩ := hv
  refine ⟨_, ps_fld k1 l1 hs, ⟨fun {φ S H h σv σ D} rl rs post => l2.thenS rl rs post fun y h1 u φ1 S1 H1 rl1 rs1 st rp post => k2.thenS rl1 rs1 post fun d h2 v φ2 S2 H2 rl2 rs2 st2 rp2 post3 => ?_⟩⟩
  cases d with
  | cell m =>
    simp only at post3
    cases (show Rp _ _ _ _ _ from rp2) with
    | @cell a _ hm =>
      obtain ⟨c0, hc0⟩ := rl2.at hm
      obtain ⟨_, o, ho, rc⟩ := rl2.cel _ _ _ hm hc0
      rw [hc0] at post3
      cases c0 with
      | ins c' fs =>
        simp only at post3
        split at post3
        · next q =>
          obtain ⟨q1, q2⟩ := q
          subst q1
          obtain ⟨dx, fv', rfl, ek, ra⟩ := rc
          have hl : fv'.length = fs.length := by
            have := congrArg List.length ek
            rw [List.length_map, List.length_map] at this
            exact this
          obtain ⟨p1, p2⟩ := putS_ok (f := f) (Rp.mono st2.prefix st2.sub rp) ek ra
          obtain ⟨r3, s3⟩ := rl2.put (o := .ins (He.ga X.K c') dx (putF f u fv')) (c := .ins c' (putS f y fs)) hm ⟨dx, _, rfl, p1, p2⟩
          exact ⟨a, _, dx, fv', rfl, ho, c, n, by omega, post3 σ φ2 S2 _ r3 (rs2.step s3) s3⟩
        · exact post3.elim
      | _ => exact post3.elim
  | _ => exact post3.elim
end
/-! ### the end of an __init__: its new objects live on -/
def fnI (np nl : Nat) (body : SS) : List D → Hv → R D := fun ds h => if ds.length = np then (match body (ds.map some ++ List.replicate nl none) h with
  | .ret d h' => .ok d h'
  | .next _ h' => .ok .non h'
  | .exc x _ h' => exitX h.length x h'
  | _ => .stuck) else .stuck
theorem fnI_len {np nl : Nat} {body : SS} {ds : List D} {h : Hv} (e : fnI np nl body ds h ≠ .stuck) : ds.length = np := by
  unfold fnI at e
  split at e
  · next q => exact q
  · exact absurd rfl e
section
variable {P : Program} {w : World} {K : PySem.W.Frag} {mg : Str → Option Value} {base : Heap}
theorem fnI_ok {x qual : Str} {st : Stmt} {f : Addr} {fd : FuncData} {N ps : List Str} {k np nl : Nat} {body : SS} (F : Fun K x qual st f fd) (Sc : FnScope N ps (defScope st)) (hps : ps.length = np) (hN : N.length = np + nl)
    (hbody : ∀ (cdv : Value) (A : Around) (outer : List Env) (s : Shared) (H : Hp) (E : XK), Room k (A.deeper (envOfC qual (defScope st) s.heap.objs.size f cdv)) →
      QB (cxOf (L2.CX P w) P w K mg base N qual (defScope st) f cdv A outer s H E) (fun cls d _ H' => E cls d H') (defBody st) body) : FnOk P w K mg base (L2.CX P w) (k + 1) f fd ps (spOf K (fnI np nl body)) := by
  refine F.okX Sc (fun vs H Q E h => ?_) (fun cdv A outer s H vs Q E hr h => ?_)
  · obtain ⟨φ, S, h, ds, rl, ra, post⟩ := h
    rw [ra.length, hps]
    refine fnI_len (nl := nl) (body := body) (h := h) fun z => ?_
    rw [z] at post
    exact post.elim
  · obtain ⟨φ, S, h, ds, rl, ra, post⟩ := h
    obtain ⟨t, h1, h2⟩ := hbody cdv A outer s H E hr
    refine ⟨t, h1, h2.run rl (relS_start ra nl N (by
      have hl : ds.length = np := fnI_len (nl := nl) (body := body) (h := h) fun z => by
        rw [z] at post
        exact post.elim
      rw [hl]
      exact hN)) ?_⟩
    unfold fnI at post
    have hl : ds.length = np := by
      refine Classical.byContradiction fun z => ?_
      rw [if_neg z] at post
      exact post.elim
    rw [if_pos hl] at post
    have en : h.length = φ.length := rl.len.symm
    cases hb : body (ds.map some ++ List.replicate nl none) h with
    | next σ' h' =>
      rw [hb] at post
      exact fun σ1 φ' S' H' r2 _ st => post .non φ' S' H' r2 st .non
    | ret d h' =>
      rw [hb] at post
      exact fun v φ' S' H' r2 st rv => post v φ' S' H' r2 st rv
    | brk σ' h' => rw [hb] at post; exact post.elim
    | cont σ' h' => rw [hb] at post; exact post.elim
    | stuck => rw [hb] at post; exact post.elim
    | exc x σ' h' =>
      rw [hb] at post
      intro σ1 cls dd φ' S' H' r2 _ st rx
      simp only [exitX] at post
      obtain ⟨s2, _⟩ := exit_step st r2
      obtain ⟨e1, rx⟩ := rx
      cases hp : x.pay with
      | none =>
        simp only [hp] at post rx
        split at post
        · next h'' q2 =>
          split at post
          · next hn =>
            rw [en] at q2 hn
            exact post cls dd _ _ H' (exit_rel r2 hn q2) s2 ⟨e1, by rw [hp]; exact rx⟩
          · exact post.elim
        · exact post.elim
      | some p =>
        obtain ⟨fl, d⟩ := p
        simp only [hp] at post rx
        obtain ⟨dx, v, e2, e3, rv⟩ := rx
        split at post
        · next d' h'' q1 q2 =>
          split at post
          · next hn =>
            rw [en] at q1 q2 hn
            exact post cls dd _ _ H' (exit_rel r2 hn q2) s2 ⟨e1, dx, v, e2, still_ex r2 _ _ e3, frz_ok r2 _ _ _ _ rv q1⟩
          · exact post.elim
        · exact post.elim
end
/-! ### methods called -/
def OkM (P : Program) (w : World) (K : PySem.W.Frag) (mg : Str → Option Value) (base : Heap) (k : Nat) (C m : Str) (ps : List Str) (sem : List D → Hv → R D) : Prop :=
  ∃ fd, FnOk P w K mg base (L2.CX P w) k (He.ma K (He.ga K C) m) fd ps (spOf K sem) ∧ Binds K fd ps [] ∧ Meth K (He.ga K C) m (He.ma K (He.ga K C) m)
section
variable {P : Program} {w : World} {K : PySem.W.Frag} {mg : Str → Option Value} {base : Heap}
theorem okM_mk {C m qual : Str} {st : Stmt} {fd : FuncData} {N ps : List Str} {k np nl : Nat} {body : SS} (F : Fun K m qual st (He.ma K (He.ga K C) m) fd) (Sc : FnScope N ps (defScope st)) (hps : ps.length = np) (hN : N.length = np + nl) (hm : Meth K (He.ga K C) m (He.ma K (He.ga K C) m)) (b : Binds K fd ps [])
    (hbody : ∀ (cdv : Value) (A : Around) (outer : List Env) (s : Shared) (H : Hp) (E : XK), Room k (A.deeper (envOfC qual (defScope st) s.heap.objs.size (He.ma K (He.ga K C) m) cdv)) →
      QB (cxOf (L2.CX P w) P w K mg base N qual (defScope st) (He.ma K (He.ga K C) m) cdv A outer s H E) (fun cls d _ H' => E cls d H') (defBody st) body) : OkM P w K mg base (k + 1) C m ps (fnS np nl body) := ⟨fd, fn_ok F Sc hps hN hbody, b, hm⟩
theorem okMI_mk {C m qual : Str} {st : Stmt} {fd : FuncData} {N ps : List Str} {k np nl : Nat} {body : SS} (F : Fun K m qual st (He.ma K (He.ga K C) m) fd) (Sc : FnScope N ps (defScope st)) (hps : ps.length = np) (hN : N.length = np + nl) (hm : Meth K (He.ga K C) m (He.ma K (He.ga K C) m)) (b : Binds K fd ps [])
    (hbody : ∀ (cdv : Value) (A : Around) (outer : List Env) (s : Shared) (H : Hp) (E : XK), Room k (A.deeper (envOfC qual (defScope st) s.heap.objs.size (He.ma K (He.ga K C) m) cdv)) →
      QB (cxOf (L2.CX P w) P w K mg base N qual (defScope st) (He.ma K (He.ga K C) m) cdv A outer s H E) (fun cls d _ H' => E cls d H') (defBody st) body) : OkM P w K mg base (k + 1) C m ps (fnI np nl body) := ⟨fd, fnI_ok F Sc hps hN hbody, b, hm⟩
theorem okMU_mk {C m qual : Str} {st : Stmt} {fd : FuncData} {N ps : List Str} {k np nl : Nat} {body : SS} (F : Fun K m qual st (He.ma K (He.ga K C) m) fd) (Sc : FnScope N ps (defScope st)) (hps : ps.length = np) (hN : N.length = np + nl) (hm : Meth K (He.ga K C) m (He.ma K (He.ga K C) m)) (b : Binds K fd ps [])
    (hbody : ∀ (cdv : Value) (A : Around) (outer : List Env) (s : Shared) (H : Hp) (E : XK), Room k (A.deeper (envOfC qual (defScope st) s.heap.objs.size (He.ma K (He.ga K C) m) cdv)) →
      QB (cxOf (L2.CX P w) P w K mg base N qual (defScope st) (He.ma K (He.ga K C) m) cdv A outer s H E) (fun cls d _ H' => E cls d H') (defBody st) body) : OkM P w K mg base (k + 1) C m ps (fnU np nl body) := ⟨fd, fnU_ok F Sc hps hN hbody, b, hm⟩
end
def eMeth (C m : Str) (sem' : List D → Hv → R D) (fa : ES) (la : LS) : ES := fun σ h => (fa σ h).bind fun d h1 => match fldsOf h1 C d with
  | some fs => if (fs.lookup m).isNone then ((la σ h1).bind fun ds h2 => sem' (d :: ds) h2) else .stuck
  | none => .stuck
section
variable {X : Cx} {W : WX} {k : Nat} {ps : List Str} {sem sem' : List D → Hv → R D} {C m : Str} {o e : Expr} {es : List Expr} {fa : ES} {la : LS} {p apos pos : Pos} {pl : Sem Bool}
theorem se_methG (hsem : ∀ {φ : List Addr} {S H : Hp} {h : Hv} {ds : List D} {vs : List V} {Q : VK} {E : XK}, Rel X.K φ S H h → RpA X.K φ S vs ds → Post X.K (repV X.K) φ S H (sem' ds h) Q E → spOf X.K sem vs H Q E)
    (F : OkM X.prog X.w X.K X.mg X.base k C m ps sem) (c : Cls X.K (He.ga X.K C)) (hr : Room k X.A) (tk : Takes X W) (ho : SE X W o fa) (ha : SA X W (e :: es) la)
    (hst : starEach (e :: es) X.env = (false, eval e X.env) :: starEach es X.env := by rfl) (hpl : (backTo pos (starEach es X.env)).any (·.1) = false := by rfl)
    (ht : eval (.Call (.Attribute o m apos) (e :: es) [] pos) X.env = (do
      let ov ← eval o X.env
      standAt apos.atName
      let (f, first) ← holding [ov] (getMethod ov m pl)
      callWith pos f first (backTo pos (starEach (e :: es) X.env)) (backToKw pos (keywordEach [] X.env))) := by rfl) :
    SE X W (.Call (.Attribute o m apos) (e :: es) [] pos) (eMeth C m sem' fa la) := by
  obtain ⟨fd, G, hb, hm⟩ := F
  obtain ⟨ta, k1, k2⟩ := ho
  obtain ⟨t, h1, h2⟩ := ha
  refine ⟨_, pe_methW k1 c hm G hr hb (fun σ => passAt tk σ) h1 hst hpl ht, ⟨fun rl rs post => k2.bind rl rs post fun d h1 v φ1 S1 H1 rl1 rs1 st rp post2 => ?_⟩⟩
  split at post2
  · next fs q =>
    split at post2
    · next ql =>
      obtain ⟨a, dx, fv, rfl, h1, ek, ra⟩ := fldsOf_ok rl1 rp q
      refine ⟨a, dx, fv, rfl, h1, (lookup_ok (f := m) ek ra).2 (Option.isNone_iff_eq_none.mp ql), h2.bind rl1 rs1 post2 fun ds h3 vs φ2 S2 H2 rl2 rs2 st2 rp2 post3 => ?_⟩
      exact hsem rl2 (.cons (Rp.mono st2.prefix st2.sub rp) rp2) post3
    · exact post2.elim
  · exact post2.elim
theorem se_methG0 (hsem : ∀ {φ : List Addr} {S H : Hp} {h : Hv} {ds : List D} {vs : List V} {Q : VK} {E : XK}, Rel X.K φ S H h → RpA X.K φ S vs ds → Post X.K (repV X.K) φ S H (sem' ds h) Q E → spOf X.K sem vs H Q E)
    (F : OkM X.prog X.w X.K X.mg X.base k C m ps sem) (c : Cls X.K (He.ga X.K C)) (hr : Room k X.A) (tk : Takes X W) (ho : SE X W o fa)
    (ht : eval (.Call (.Attribute o m apos) [] [] pos) X.env = (do
      let ov ← eval o X.env
      standAt apos.atName
      let (f, first) ← holding [ov] (getMethod ov m pl)
      callWith pos f first (backTo pos (starEach [] X.env)) (backToKw pos (keywordEach [] X.env))) := by rfl) :
    SE X W (.Call (.Attribute o m apos) [] [] pos) (eMeth C m sem' fa aNil) := by
  obtain ⟨fd, G, hb, hm⟩ := F
  obtain ⟨ta, k1, k2⟩ := ho
  refine ⟨_, pe_methW0 k1 c hm G hr hb (fun σ => passAt tk σ) ht, ⟨fun rl rs post => k2.bind rl rs post fun d h1 v φ1 S1 H1 rl1 rs1 st rp post2 => ?_⟩⟩
  split at post2
  · next fs q =>
    split at post2
    · next ql =>
      obtain ⟨a, dx, fv, rfl, h1, ek, ra⟩ := fldsOf_ok rl1 rp q
      exact ⟨a, dx, fv, rfl, h1, (lookup_ok (f := m) ek ra).2 (Option.isNone_iff_eq_none.mp ql), hsem rl1 (.cons rp .nil) post2⟩
    · exact post2.elim
  · exact post2.elim
end
/-! ### objects made -/
def mkR (C : Str) (sem : List D → Hv → R D) : List D → Hv → R D := fun ds h1 => match sem (.cell h1.length :: ds) (h1 ++ [.ins C []]) with
  | .ok .non h2 => .ok (.cell h1.length) h2
  | .exc x h2 => exitX h1.length x h2
  | _ => .stuck
/-- .. that stay as they are from then on -/
def fzS (sem : List D → Hv → R D) : List D → Hv → R D := fun ds h => match sem ds h with
  | .ok d h' => exitD h.length d h'
  | .exc x h' => .exc x h'
  | .stuck => .stuck
section
variable {K : PySem.W.Frag} {sem : List D → Hv → R D} {vs : List V} {H : Hp} {Q : VK} {E : XK} {C : Str}
theorem exitX_post {φ φ' : List Addr} {S S' H' : Hp} {h h' : Hv} {x : Xn} {cls : Value} {dd : Option Addr} (rl : Rel K φ S H h) (st : Step φ S H φ' S' H') (r2 : Rel K φ' S' H' h') (rx : RpX K φ' S' H' x cls dd) (post : Post K (repV K) φ S H (exitX h.length x h') Q E) : E cls dd H' := by
  have en : h.length = φ.length := rl.len.symm
  simp only [exitX] at post
  obtain ⟨s2, _⟩ := exit_step st r2
  obtain ⟨e1, rx⟩ := rx
  cases hp : x.pay with
  | none =>
    simp only [hp] at post rx
    split at post
    · next h'' q2 =>
      split at post
      · next hn =>
        rw [en] at q2 hn
        exact post cls dd _ _ H' (exit_rel r2 hn q2) s2 ⟨e1, by rw [hp]; exact rx⟩
      · exact post.elim
    · exact post.elim
  | some p =>
    obtain ⟨fl, d⟩ := p
    simp only [hp] at post rx
    obtain ⟨dx, v, e2, e3, rv⟩ := rx
    split at post
    · next d' h'' q1 q2 =>
      split at post
      · next hn =>
        rw [en] at q1 q2 hn
        exact post cls dd _ _ H' (exit_rel r2 hn q2) s2 ⟨e1, dx, v, e2, still_ex r2 _ _ e3, frz_ok r2 _ _ _ _ rv q1⟩
      · exact post.elim
    · exact post.elim
theorem spOf_mk (z : spOf K (mkR C sem) vs H Q E) : spMk (He.ga K C) (spOf K sem) vs H Q E := by
  obtain ⟨φ, S, h, ds, rl, ra, post⟩ := z
  intro x dx hx hdx ne
  obtain ⟨r1, s1⟩ := rl.hold (o := .own x) hdx
  have hx1 : upd H dx (.own x) x = none := by rw [upd_ne (fun z => ne z.symm)]; exact hx
  obtain ⟨r2, s2⟩ := r1.hold (o := .ins (He.ga K C) dx []) hx1
  have r3 := r2.celled (c := .ins C []) upd_same (rl.snone hx) (rl.notin hx) ⟨dx, [], rfl, rfl, .nil⟩
  have s3 : Step φ S H (φ ++ [x]) S (upd (upd H dx (.own x)) x (.ins (He.ga K C) dx [])) := (s1.trans s2).celled hx
  refine ⟨φ ++ [x], S, h ++ [.ins C []], .cell h.length :: ds, r3, .cons (.cell ?_) (ra.mono ⟨[x], rfl⟩ (Ex.refl _)), ?_⟩
  · rw [← rl.len, List.getElem?_append_right (Nat.le_refl _), Nat.sub_self]; rfl
  have at_ : ∀ φ', Pre (φ ++ [x]) φ' → φ'[h.length]? = some x := fun φ' p => p.at (by rw [← rl.len, List.getElem?_append_right (Nat.le_refl _), Nat.sub_self]; rfl)
  unfold mkR at post
  split at post
  · next h2 hs =>
    rw [hs]
    intro v φ2 S2 H2 r4 st4 rv
    cases (show Rp _ _ _ _ _ from rv)
    exact ⟨rfl, post (.ref x) φ2 S2 H2 r4 (s3.trans st4) (.cell (at_ φ2 st4.prefix))⟩
  · next x' h2 hs =>
    rw [hs]
    intro cls dd φ2 S2 H2 r4 st4 rx
    exact exitX_post rl (s3.trans st4) r4 rx post
  · exact post.elim
theorem spOf_fz (z : spOf K (fzS sem) vs H Q E) : spOf K sem vs H Q E := by
  obtain ⟨φ, S, h, ds, rl, ra, post⟩ := z
  refine ⟨φ, S, h, ds, rl, ra, ?_⟩
  have en : h.length = φ.length := rl.len.symm
  unfold fzS at post
  split at post
  · next d h' hs =>
    rw [hs]
    intro v φ2 S2 H2 r2 st2 rv
    unfold exitD at post
    split at post
    · next d' h'' q1 q2 =>
      split at post
      · next hn =>
        rw [en] at q1 q2 hn
        exact post v _ _ H2 (exit_rel r2 hn q2) (exit_step st2 r2).1 (frz_ok r2 _ _ _ _ rv q1)
      · exact post.elim
    · exact post.elim
  · next x h' hs => rw [hs]; exact post
  · exact post.elim
end
section
variable {X : Cx} {W : WX} {k : Nat} {ps : List Str} {sem sem' : List D → Hv → R D} {C : Str} {e : Expr} {es : List Expr} {la : LS} {p pos : Pos}
theorem se_mkG (hsem : ∀ {φ : List Addr} {S H : Hp} {h : Hv} {ds : List D} {vs : List V} {Q : VK} {E : XK}, Rel X.K φ S H h → RpA X.K φ S vs ds → Post X.K (repV X.K) φ S H (sem' ds h) Q E → spOf X.K (mkR C sem) vs H Q E)
    (M : Mk X.K (He.ga X.K C) (He.ma X.K (He.ga X.K C) "__init__")) (F : OkM X.prog X.w X.K X.mg X.base k C "__init__" ps sem) (hr : Room (k + 1) X.A) (tk : Takes X W) (hm : X.mg C = some (.ref (He.ga X.K C))) (ha : SA X W (e :: es) la)
    (hg : Gl X C := by rfl) (hdb : (C == ("__debug__" : Str)) = false := by decide) (he : starEach (e :: es) X.env = (false, eval e X.env) :: starEach es X.env := by rfl) (hpl : (backTo pos (starEach es X.env)).any (·.1) = false := by rfl) :
    SE X W (.Call (.Name C p) (e :: es) [] pos) (eCa sem' la) := by
  obtain ⟨fd, G, hb, _⟩ := F
  obtain ⟨t, h1, h2⟩ := ha
  exact ⟨_, pe_makeW M G hr hg hm hb (fun σ => passAt tk σ) h1 hdb he hpl, ⟨fun rl rs post => h2.bind rl rs post fun ds h1 vs φ1 S1 H1 rl1 rs1 st rp post => spOf_mk (hsem rl1 rp post)⟩⟩
/-- by the caller's heap, its cells among the arguments -/
theorem se_mkM (M : Mk X.K (He.ga X.K C) (He.ma X.K (He.ga X.K C) "__init__")) (F : OkM X.prog X.w X.K X.mg X.base k C "__init__" ps sem) (hr : Room (k + 1) X.A) (tk : Takes X W) (hm : X.mg C = some (.ref (He.ga X.K C))) (ha : SA X W (e :: es) la)
    (hg : Gl X C := by rfl) (hdb : (C == ("__debug__" : Str)) = false := by decide) (he : starEach (e :: es) X.env = (false, eval e X.env) :: starEach es X.env := by rfl) (hpl : (backTo pos (starEach es X.env)).any (·.1) = false := by rfl) :
    SE X W (.Call (.Name C p) (e :: es) [] pos) (eCa (callM (mkR C sem)) la) := se_mkG spOf_M M F hr tk hm ha hg hdb he hpl
/-- of plain things -/
theorem se_mkC (M : Mk X.K (He.ga X.K C) (He.ma X.K (He.ga X.K C) "__init__")) (F : OkM X.prog X.w X.K X.mg X.base k C "__init__" ps sem) (hr : Room (k + 1) X.A) (tk : Takes X W) (hm : X.mg C = some (.ref (He.ga X.K C))) (ha : SA X W (e :: es) la)
    (hg : Gl X C := by rfl) (hdb : (C == ("__debug__" : Str)) = false := by decide) (he : starEach (e :: es) X.env = (false, eval e X.env) :: starEach es X.env := by rfl) (hpl : (backTo pos (starEach es X.env)).any (·.1) = false := by rfl) :
    SE X W (.Call (.Name C p) (e :: es) [] pos) (eCa (callC (mkR C sem)) la) := se_mkG spOf_C M F hr tk hm ha hg hdb he hpl
/-- one that stays as it is -/
theorem se_mkF (M : Mk X.K (He.ga X.K C) (He.ma X.K (He.ga X.K C) "__init__")) (F : OkM X.prog X.w X.K X.mg X.base k C "__init__" ps sem) (hr : Room (k + 1) X.A) (tk : Takes X W) (hm : X.mg C = some (.ref (He.ga X.K C))) (ha : SA X W (e :: es) la)
    (hg : Gl X C := by rfl) (hdb : (C == ("__debug__" : Str)) = false := by decide) (he : starEach (e :: es) X.env = (false, eval e X.env) :: starEach es X.env := by rfl) (hpl : (backTo pos (starEach es X.env)).any (·.1) = false := by rfl) :
    SE X W (.Call (.Name C p) (e :: es) [] pos) (eCa (callP (fzS (mkR C sem))) la) := se_mkG (fun rl ra post => spOf_fz (spOf_P rl ra post)) M F hr tk hm ha hg hdb he hpl
end
section
variable {X : Cx} {W : WX} {k : Nat} {ps : List Str} {sem : List D → Hv → R D} {C m : Str} {o e : Expr} {es : List Expr} {fa : ES} {la : LS} {p apos pos : Pos} {pl : Sem Bool} (q : Cm)
theorem se_meth (F : OkM X.prog X.w X.K X.mg X.base k C m ps sem) (c : Cls X.K (He.ga X.K C)) (hr : Room k X.A) (tk : Takes X W) (ho : SE X W o fa) (ha : SA X W (e :: es) la)
    (hst : starEach (e :: es) X.env = (false, eval e X.env) :: starEach es X.env := by rfl) (hpl : (backTo pos (starEach es X.env)).any (·.1) = false := by rfl)
    (ht : eval (.Call (.Attribute o m apos) (e :: es) [] pos) X.env = (do
      let ov ← eval o X.env
      standAt apos.atName
      let (f, first) ← holding [ov] (getMethod ov m pl)
      callWith pos f first (backTo pos (starEach (e :: es) X.env)) (backToKw pos (keywordEach [] X.env))) := by rfl) :
    SE X W (.Call (.Attribute o m apos) (e :: es) [] pos) (eMeth C m (q.f sem) fa la) := se_methG (cm_ok q) F c hr tk ho ha hst hpl ht
theorem se_meth0 (F : OkM X.prog X.w X.K X.mg X.base k C m ps sem) (c : Cls X.K (He.ga X.K C)) (hr : Room k X.A) (tk : Takes X W) (ho : SE X W o fa)
    (ht : eval (.Call (.Attribute o m apos) [] [] pos) X.env = (do
      let ov ← eval o X.env
      standAt apos.atName
      let (f, first) ← holding [ov] (getMethod ov m pl)
      callWith pos f first (backTo pos (starEach [] X.env)) (backToKw pos (keywordEach [] X.env))) := by rfl) :
    SE X W (.Call (.Attribute o m apos) [] [] pos) (eMeth C m (q.f sem) fa aNil) := se_methG0 (cm_ok q) F c hr tk ho ht
end
end
end VD

set_option Elab.async false
set_option linter.all false
set_option maxRecDepth 100000
set_option maxHeartbeats 4000000
namespace VD
open PySem PySem.Spec PyProof.Rows L2
noncomputable section
/-! ### data without cells, of any depth -/
mutual
def noC : D → Bool
  | .non => true
  | .bl _ => true
  | .int _ => true
  | .str _ => true
  | .raw _ => true
  | .lst ds => noCL ds
  | .fz ds => noCL ds
  | .tup ds => noCL ds
  | .dct _ ds => noCL ds
  | .obj _ _ ds => noCL ds
  | .cell _ => false
  | .exv _ _ _ _ => false
def noCL : List D → Bool
  | [] => true
  | d :: ds => noC d && noCL ds
end
section
variable {K : PySem.W.Frag} {φ : List Addr} {S : Hp}
mutual
theorem noC_rp : ∀ {v : V} {d : D}, noC d = true → Rp K φ S v d → Rp K [] S v d
  | _, _, _, .non => .non
  | _, _, _, .bl b => .bl b
  | _, _, _, .int i => .int i
  | _, _, _, .str x => .str x
  | _, .lst ds, e, .lst h r => .lst h (noCL_rp (by rw [noC] at e; exact e) r)
  | _, .fz ds, e, .fz h r => .fz h (noCL_rp (by rw [noC] at e; exact e) r)
  | _, .tup ds, e, .tup h r => .tup h (noCL_rp (by rw [noC] at e; exact e) r)
  | _, _, e, .cell _ => by rw [noC] at e; cases e
  | _, _, _, .raw v => .raw v
  | _, .dct ks ds, e, .dct h k r => .dct h k (noCL_rp (by rw [noC] at e; exact e) r)
  | _, .obj c ks ds, e, .obj h k r => .obj h k (noCL_rp (by rw [noC] at e; exact e) r)
  | _, _, e, .exv _ _ => by rw [noC] at e; cases e
theorem noCL_rp : ∀ {vs : List V} {ds : List D}, noCL ds = true → RpA K φ S vs ds → RpA K [] S vs ds
  | _, _, _, .nil => .nil
  | _, d :: ds, e, .cons r t => by
    rw [noCL, Bool.and_eq_true] at e
    exact .cons (noC_rp e.1 r) (noCL_rp e.2 t)
end
end
theorem noCL_all {ds : List D} : noCL ds = ds.all noC := by
  induction ds with
  | nil => rfl
  | cons d ds ih => rw [noCL, ih, List.all_cons]
def frzQ (n0 : Nat) (h : Hv) (d : D) : Option D := if noC d = true then some d else frz n0 h 12 d
theorem frzQ_ok {K : PySem.W.Frag} {φ : List Addr} {S H : Hp} {h : Hv} {n0 : Nat} {v : V} {d d' : D} (rl : Rel K φ S H h) (rp : Rp K φ S v d) (e : frzQ n0 h d = some d') : Rp K (φ.take n0) (still φ n0 S H) v d' := by
  unfold frzQ at e
  split at e
  · next q =>
    cases e
    exact Rp.mono ⟨φ.take n0, rfl⟩ (still_ex rl) (noC_rp q rp)
  · exact frz_ok rl _ _ _ _ rp e
def exitQ (n0 : Nat) (d : D) (h : Hv) : R D := match frzQ n0 h d, optAll (frzC n0 h) (h.take n0) with
  | some d', some h' => if n0 ≤ h.length then .ok d' h' else .stuck
  | _, _ => .stuck
def fnQ (np nl : Nat) (body : SS) : List D → Hv → R D := fun ds h => if ds.length = np then (match body (ds.map some ++ List.replicate nl none) h with
  | .ret d h' => exitQ h.length d h'
  | .next _ h' => exitQ h.length .non h'
  | .exc x _ h' => exitX h.length x h'
  | _ => .stuck) else .stuck
theorem fnQ_len {np nl : Nat} {body : SS} {ds : List D} {h : Hv} (e : fnQ np nl body ds h ≠ .stuck) : ds.length = np := by
  unfold fnQ at e
  split at e
  · next q => exact q
  · exact absurd rfl e
section
variable {P : Program} {w : World} {K : PySem.W.Frag} {mg : Str → Option Value} {base : Heap}
theorem fnQ_ok {x qual : Str} {st : Stmt} {f : Addr} {fd : FuncData} {N ps : List Str} {k np nl : Nat} {body : SS} (F : Fun K x qual st f fd) (Sc : FnScope N ps (defScope st)) (hps : ps.length = np) (hN : N.length = np + nl)
    (hbody : ∀ (cdv : Value) (A : Around) (outer : List Env) (s : Shared) (H : Hp) (E : XK), Room k (A.deeper (envOfC qual (defScope st) s.heap.objs.size f cdv)) →
      QB (cxOf (L2.CX P w) P w K mg base N qual (defScope st) f cdv A outer s H E) (fun cls d _ H' => E cls d H') (defBody st) body) : FnOk P w K mg base (L2.CX P w) (k + 1) f fd ps (spOf K (fnQ np nl body)) := by
  refine F.okX Sc (fun vs H Q E h => ?_) (fun cdv A outer s H vs Q E hr h => ?_)
  · obtain ⟨φ, S, h, ds, rl, ra, post⟩ := h
    rw [ra.length, hps]
    refine fnQ_len (nl := nl) (body := body) (h := h) fun z => ?_
    rw [z] at post
    exact post.elim
  · obtain ⟨φ, S, h, ds, rl, ra, post⟩ := h
    obtain ⟨t, h1, h2⟩ := hbody cdv A outer s H E hr
    refine ⟨t, h1, h2.run rl (relS_start ra nl N (by
      have hl : ds.length = np := fnQ_len (nl := nl) (body := body) (h := h) fun z => by
        rw [z] at post
        exact post.elim
      rw [hl]
      exact hN)) ?_⟩
    unfold fnQ at post
    have hl : ds.length = np := by
      refine Classical.byContradiction fun z => ?_
      rw [if_neg z] at post
      exact post.elim
    rw [if_pos hl] at post
    have en : h.length = φ.length := rl.len.symm
    have out : ∀ {φ' S' H' h' d v}, Rel K φ' S' H' h' → Step φ S H φ' S' H' → Rp K φ' S' v d → Post K (repV K) φ S H (exitQ h.length d h') Q E → Q v H' := fun {φ' S' H' h' d v} r2 st rv post => by
      unfold exitQ at post
      split at post
      · next d' h'' q1 q2 =>
        split at post
        · next hn =>
          rw [en] at q1 q2 hn
          obtain ⟨s2, _⟩ := exit_step st r2
          exact post v _ _ H' (exit_rel r2 hn q2) s2 (frzQ_ok r2 rv q1)
        · exact post.elim
      · exact post.elim
    cases hb : body (ds.map some ++ List.replicate nl none) h with
    | next σ' h' =>
      rw [hb] at post
      exact fun σ1 φ' S' H' r2 _ st => out r2 st .non post
    | ret d h' =>
      rw [hb] at post
      exact fun v φ' S' H' r2 st rv => out r2 st rv post
    | brk σ' h' => rw [hb] at post; exact post.elim
    | cont σ' h' => rw [hb] at post; exact post.elim
    | stuck => rw [hb] at post; exact post.elim
    | exc x σ' h' =>
      rw [hb] at post
      intro σ1 cls dd φ' S' H' r2 _ st rx
      simp only [exitX] at post
      obtain ⟨s2, _⟩ := exit_step st r2
      obtain ⟨e1, rx⟩ := rx
      cases hp : x.pay with
      | none =>
        simp only [hp] at post rx
        split at post
        · next h'' q2 =>
          split at post
          · next hn =>
            rw [en] at q2 hn
            exact post cls dd _ _ H' (exit_rel r2 hn q2) s2 ⟨e1, by rw [hp]; exact rx⟩
          · exact post.elim
        · exact post.elim
      | some p =>
        obtain ⟨fl, d⟩ := p
        simp only [hp] at post rx
        obtain ⟨dx, v, e2, e3, rv⟩ := rx
        split at post
        · next d' h'' q1 q2 =>
          split at post
          · next hn =>
            rw [en] at q1 q2 hn
            exact post cls dd _ _ H' (exit_rel r2 hn q2) s2 ⟨e1, dx, v, e2, still_ex r2 _ _ e3, frz_ok r2 _ _ _ _ rv q1⟩
          · exact post.elim
        · exact post.elim
theorem okQ_mk {x : Str} {st : Stmt} {fd : FuncData} {N ps : List Str} {k np nl : Nat} {body : SS} (F : Fun K x x st (He.ga K x) fd) (Sc : FnScope N ps (defScope st)) (hps : ps.length = np) (hN : N.length = np + nl) (g : mg x = some (.ref (He.ga K x))) (b : Binds K fd ps [])
    (hbody : ∀ (cdv : Value) (A : Around) (outer : List Env) (s : Shared) (H : Hp) (E : XK), Room k (A.deeper (envOfC x (defScope st) s.heap.objs.size (He.ga K x) cdv)) →
      QB (cxOf (L2.CX P w) P w K mg base N x (defScope st) (He.ga K x) cdv A outer s H E) (fun cls d _ H' => E cls d H') (defBody st) body) : OkF P w K mg base (k + 1) x ps (fnQ np nl body) := ⟨fd, let ⟨oc, od, _, _, _, _, _, _, osl, _, lk, _⟩ := F.ex; ⟨oc, od, osl, lk⟩, fnQ_ok F Sc hps hN hbody, b, g, F.kp⟩
end
/-- a call of plain things, of any depth -/
def callQ (sem : List D → Hv → R D) (ds : List D) (h : Hv) : R D := if noCL ds = true then (match sem ds [] with
    | .ok d [] => .ok d h
    | .exc x [] => .exc x h
    | _ => .stuck) else .stuck
theorem spOf_Q {K : PySem.W.Frag} {sem : List D → Hv → R D} {φ : List Addr} {S H : Hp} {h : Hv} {ds : List D} {vs : List V} {Q : VK} {E : XK} (rl : Rel K φ S H h) (ra : RpA K φ S vs ds) (post : Post K (repV K) φ S H (callQ sem ds h) Q E) : spOf K sem vs H Q E := by
  unfold callQ at post
  split at post
  · next q =>
    refine ⟨[], S, [], ds, Rel.bare rl.sub, noCL_rp q ra, ?_⟩
    split at post
    · next d hs =>
      rw [hs]
      intro v φ' S' H' r2 st rv
      obtain ⟨rfl, r3, s3⟩ := rl.frame r2 st
      exact post v φ S' H' r3 s3 (Rp.mono ⟨φ, rfl⟩ (Ex.refl _) rv)
    · next x hs =>
      rw [hs]
      intro cls dd φ' S' H' r2 st rx
      obtain ⟨rfl, r3, s3⟩ := rl.frame r2 st
      refine post cls dd φ S' H' r3 s3 ⟨rx.1, ?_⟩
      have rx2 := rx.2
      cases hp : x.pay with
      | none => rw [hp] at rx2; exact rx2
      | some p =>
        rw [hp] at rx2
        obtain ⟨dx, v, e2, e3, rv⟩ := rx2
        exact ⟨dx, v, e2, e3, Rp.mono ⟨φ, rfl⟩ (Ex.refl _) rv⟩
    · exact post.elim
  · exact post.elim
theorem se_fnQ {X : Cx} {W : WX} {k : Nat} {ps : List Str} {sem : List D → Hv → R D} {x : Str} {p pos : Pos} {e : Expr} {es : List Expr} {la : LS}
    (o : OkF X.prog X.w X.K X.mg X.base k x ps sem) (hr : Room k X.A) (tk : Takes X W) (ha : SA X W (e :: es) la)
    (hg : Gl X x := by rfl) (hdb : (x == ("__debug__" : Str)) = false := by decide) (he : starEach (e :: es) X.env = (false, eval e X.env) :: starEach es X.env := by rfl) (hpl : (backTo pos (starEach es X.env)).any (·.1) = false := by rfl) :
    SE X W (.Call (.Name x p) (e :: es) [] pos) (eCa (callQ sem) la) := by
  obtain ⟨fd, _, F, b, g, kp⟩ := o
  exact se_call spOf_Q F hr tk g kp b ha hg hdb he hpl
/-! the end of such a def -/
def Rq (P : R D → Prop) (r : RS) : Prop := match r with
  | .ret d h => ∃ d', frzQ 0 h d = some d' ∧ P (.ok d' [])
  | .next _ _ => P (.ok .non [])
  | .exc x _ h => match x.pay with
    | none => P (.exc ⟨x.cls, none⟩ [])
    | some (f, d) => ∃ d', frz 0 h 12 d = some d' ∧ P (.exc ⟨x.cls, some (f, d')⟩ [])
  | _ => False
section
variable {P : R D → Prop} {σ : VS} {h : Hv} {d : D} {C f : Str} {n0 : Nat}
@[simp] theorem Wp_rq_ret : Wp (Rq P) (.ret d h) = ∃ d', frzQ 0 h d = some d' ∧ P (.ok d' []) := Wp.eq _ _
@[simp] theorem Wp_rq_next : Wp (Rq P) (.next σ h) = P (.ok .non []) := Wp.eq _ _
@[simp] theorem Wp_rq_exc : Wp (Rq P) (.exc ⟨C, none⟩ σ h) = P (.exc ⟨C, none⟩ []) := by
  rw [Wp.eq, Rq]
@[simp] theorem Wp_rq_excP : Wp (Rq P) (.exc ⟨C, some (f, d)⟩ σ h) = ∃ d', frz 0 h 12 d = some d' ∧ P (.exc ⟨C, some (f, d')⟩ []) := by
  rw [Wp.eq, Rq]
@[simp] theorem Wp_rq_stuck : Wp (Rq P) .stuck = False := Wp.eq _ _
theorem frzQ_y (e : noC d = true) : frzQ n0 h d = some d := by unfold frzQ; rw [if_pos e]
theorem frzQ_n (e : noC d = false) : frzQ n0 h d = frz n0 h 12 d := by unfold frzQ; rw [if_neg (by rw [e]; simp)]
@[simp] theorem frzQ_non : frzQ n0 h .non = some .non := rfl
@[simp] theorem frzQ_bl {b : Bool} : frzQ n0 h (.bl b) = some (.bl b) := rfl
@[simp] theorem frzQ_int {i : Int} : frzQ n0 h (.int i) = some (.int i) := rfl
@[simp] theorem frzQ_str {x : Str} : frzQ n0 h (.str x) = some (.str x) := rfl
@[simp] theorem frzQ_cell {n : Nat} : frzQ n0 h (.cell n) = frz n0 h 12 (.cell n) := rfl
end
theorem fnQ_of {P : R D → Prop} {np nl : Nat} {body : SS} {ds : List D} (hl : ds.length = np) (hw : Wp (Rq P) (body (ds.map some ++ List.replicate nl none) [])) : P (fnQ np nl body ds []) := by
  replace hw := hw.run
  unfold fnQ
  rw [if_pos hl]
  generalize body (ds.map some ++ List.replicate nl none) [] = r at hw ⊢
  cases r with
  | ret d h =>
    obtain ⟨d', e1, e2⟩ := hw
    show P (exitQ 0 d h)
    unfold exitQ
    rw [List.take_zero]
    simp only [e1, optAll_nil, Nat.zero_le, if_true]
    exact e2
  | next σ h =>
    show P (exitQ 0 .non h)
    unfold exitQ
    rw [List.take_zero]
    simp only [frzQ_non, optAll_nil, Nat.zero_le, if_true]
    exact hw
  | exc x σ h =>
    cases x with
    | mk c p =>
      cases p with
      | none =>
        show P (exitX 0 ⟨c, none⟩ h)
        unfold exitX
        rw [List.take_zero]
        simp only [optAll_nil, Nat.zero_le, if_true]
        exact hw
      | some q =>
        obtain ⟨f, d⟩ := q
        obtain ⟨d', e1, e2⟩ := hw
        show P (exitX 0 ⟨c, some (f, d)⟩ h)
        unfold exitX
        rw [List.take_zero]
        simp only [e1, optAll_nil, Nat.zero_le, if_true]
        exact e2
  | brk σ h => exact hw.elim
  | cont σ h => exact hw.elim
  | stuck => exact hw.elim
theorem cQ {sem : List D → Hv → R D} {ds : List D} {d : D} (e : sem ds [] = .ok d []) (hp : noCL ds = true) (h : Hv) : callQ sem ds h = .ok d h := by
  unfold callQ
  rw [if_pos hp, e]
theorem cQX {sem : List D → Hv → R D} {ds : List D} {x : Xn} (e : sem ds [] = .exc x []) (hp : noCL ds = true) (h : Hv) : callQ sem ds h = .exc x h := by
  unfold callQ
  rw [if_pos hp, e]
/-! xs.index(s), texts -/
def firstIxS (n : Str) : List Str → Option Nat
  | [] => none
  | x :: xs => if x = n then some 0 else (firstIxS n xs).map (· + 1)
theorem firstIxS_ok {n : Str} : ∀ {xs : List Str} {j : Nat}, firstIxS n xs = some j → xs[j]? = some n ∧ ∀ m z, m < j → xs[m]? = some z → z ≠ n
  | [], j, h => by cases h
  | x :: xs, j, h => by
    simp only [firstIxS] at h
    split at h
    · next q =>
      cases h
      subst q
      exact ⟨rfl, fun m z hm => by omega⟩
    · next q =>
      obtain ⟨k, hk, rfl⟩ := Option.map_eq_some_iff.mp h
      obtain ⟨h1, h2⟩ := firstIxS_ok hk
      refine ⟨by rw [List.getElem?_cons_succ]; exact h1, fun m z hm hz => ?_⟩
      cases m with
      | zero =>
        rw [List.getElem?_cons_zero] at hz
        cases hz
        exact q
      | succ m =>
        rw [List.getElem?_cons_succ] at hz
        exact h2 m z (by omega) hz
def mIndexS : D → List D → Hv → R D := fun x ds h => match ds with
  | [.str i] => (match (lOf h x).bind (optAll toS) with
    | some ns => (match firstIxS i ns with
      | some j => .ok (.int (j : Nat)) h
      | none => .stuck)
    | none => .stuck)
  | _ => .stuck
theorem ms_indexS {K : PySem.W.Frag} : MtS K (rIndex K) mIndexS := by
  intro φ S H h x v ds vs Q E rl rx ra post
  unfold mIndexS at post
  split at post
  · next i =>
    split at post
    · next ns hn =>
      split at post
      · next j hj =>
        obtain ⟨xs, q1, q2⟩ := Option.bind_eq_some_iff.mp hn
        obtain ⟨a, vs, rfl, h2, h3⟩ := lOf_ok rl rx q1
        rw [toSs_ok h3 q2] at h2
        obtain ⟨u, rfl, ru⟩ := ra.one
        cases ru
        obtain ⟨f1, f2⟩ := firstIxS_ok hj
        refine ⟨a, ns.map V.str, .str i, j, .str i, rfl, rfl, h2, rfl, List.all_eq_true.mpr fun z hz => ?_, by rw [List.getElem?_map, f1]; rfl, (by simp [eqV]), fun m z' hm hz' => ?_, post _ φ S H rl (Step.refl _ _ _) (.int _)⟩
        · obtain ⟨k, _, rfl⟩ := List.mem_map.mp hz
          rfl
        · rw [List.getElem?_map] at hz'
          obtain ⟨k, hk, rfl⟩ := Option.map_eq_some_iff.mp hz'
          have := f2 m k hm hk
          simp [eqV, this]
      · exact post.elim
    · exact post.elim
  · exact post.elim
end
end VD

set_option Elab.async false
set_option linter.all false
set_option maxRecDepth 100000
set_option maxHeartbeats 4000000
namespace VD
open PySem PySem.Spec PyProof.Rows L2
noncomputable section
/-! ### several except clauses, each with the caught error's name (slot i) -/
abbrev Cls := Addr → Value → Option Addr → TS
/-- behind a clause its name is forgotten -/
def gone (i : Nat) (D : Ends) : Ends := { nx := fun σ H => D.nx (σ.set i none) H, rt := D.rt, bk := fun σ H => D.bk (σ.set i none) H, ct := fun σ H => D.ct (σ.set i none) H }
/-- what the clauses wish of an error -/
def wMs (K : PySem.W.Frag) (i : Nat) (Wout : WX) (D : Ends) : List (Value × Cls) → WX
  | [] => Wout
  | (c, ts) :: r => fun cls d σ H => ∃ b, PySem.W.exmOne K cls c = some b ∧ (b = true → ∀ a, H a = none → ts a cls d (gone i D) (σ.set i (some (.ref a))) H) ∧ (b = false → wMs K i Wout D r cls d σ H)
inductive HdsM (X : Cx) (n : Str) : List ExceptHandler → List (Value × Cls) → Prop
  | nil : HdsM X n [] []
  | cons {x : Str} {c : Value} {ts : Cls} {b₀ : Stmt} {suite : List Stmt} {np pos' : Pos} {hds : List ExceptHandler} {l : List (Value × Cls)} (hc : Names X x c)
      (hsu : ∀ (a : Addr) (oe : Obj) (cls : Value) (d : Option Addr) (pn : List (Addr × Obj)), Zc cls d oe → (∃ vs, oe.data = .fields vs) → PSs (X.suite a ((a, oe) :: pn)) (b₀ :: suite) (ts a cls d)) (r : HdsM X n hds l) :
      HdsM X n (.ExceptHandler (some (.Name x np)) (some n) (b₀ :: suite) pos' :: hds) ((c, ts) :: l)
/-- an error in the air: what is known of it while the clauses are tried -/
structure Air (X : Cx) (pins : List (Addr × Obj)) (σ : L2.St) (H : Hp) (B : Heap) (sI s : Shared) (a : Addr) (cls : Value) (d : Option Addr) : Prop where
  I : Inv X pins σ H sI
  nb : ∀ b o, sI.heap.get? b = some o → b ∉ frs X.stack → B.get? b = some o
  up : sI.heap.UpToSlots s.heap
  fl : HandSPX.FlyingZ B (X.env :: X.outer) a (Zc cls d) s.heap
  na : H a = none
  os : sI.os = s.os
  ag : AllBare s.gens
section
variable {X : Cx} {n : Str} {i : Nat} {hds : List ExceptHandler} {l : List (Value × Cls)} {pos : Pos} {tb : WX → TS} {Wout : WX} {pins : List (Addr × Obj)} {σ : L2.St} {H : Hp} {B : Heap} {sI s : Shared} {a : Addr} {cls : Value} {d : Option Addr} {D : Ends}
theorem Air.inv (x : Air X pins σ H B sI s a cls d) : Inv X pins σ H s := by
  obtain ⟨hp, os, gs, ds, ts⟩ := s
  exact x.I.landed x.nb x.fl.1 x.up x.os.symm x.ag
/-- the error's object lies apart from the frames -/
theorem Air.apart (x : Air X pins σ H B sI s a cls d) (hs : X.stack = X.env :: X.outer) (hf : X.env.frame = some X.env.locals) : ∃ oe vs, s.heap.get? a = some oe ∧ Zc cls d oe ∧ oe.data = .fields vs ∧ a ≠ X.env.locals ∧ a ∉ X.fs := by
  obtain ⟨oe, vs, he, hz, hd⟩ := x.fl.there
  have nfr : a ∉ frs (X.env :: X.outer) := fun hm => by
    obtain ⟨_, o', e', hnf⟩ := x.fl.2.2.1.mem hm
    rw [he] at e'; cases e'
    exact hnf _ hd
  refine ⟨oe, vs, he, hz, hd, fun z => nfr (List.mem_filterMap.mpr ⟨X.env, List.mem_cons_self, by rw [hf, z]⟩), fun hm => ?_⟩
  obtain ⟨e, he, q⟩ := List.mem_filterMap.mp hm
  exact nfr (List.mem_filterMap.mpr ⟨e, List.mem_cons_of_mem _ he, q⟩)
/-- the suite of the clause that takes it -/
theorem Air.suite (x : Air X pins σ H B sI s a cls d) (hs : X.stack = X.env :: X.outer) (hf : X.env.frame = some X.env.locals) (hN : X.N.Nodup) (hi : X.N[i]? = some n) (hln : X.env.kindOf n = some .local)
    {ts : Cls} {b₀ : Stmt} {suite : List Stmt} {pos' : Pos} {E : Value → Shared → Prop} {R : Flow → Shared → Prop}
    (hsu : ∀ (oe : Obj) (pn : List (Addr × Obj)), Zc cls d oe → (∃ vs, oe.data = .fields vs) → PSs (X.suite a ((a, oe) :: pn)) (b₀ :: suite) (ts a cls d)) (w : ts a cls d (gone i D) (σ.set i (some (.ref a))) H)
    (hR : ∀ f s', wpAny (model X.prog X.w) X.A (do bindName X.env n .none; unbindBehindTheSuite X.env n pos') (fun _ s2 => L2.SP X pins D f s2) X.xe s' → R f s') :
    wpAny (model X.prog X.w) (X.A.mark (some (.ref a))) (storeName X.env n (.ref a)) (fun _ s2 => wpAny (model X.prog X.w) (X.A.mark (some (.ref a))) (execs (b₀ :: suite) X.env) R E s2) E s := by
  obtain ⟨oe, vs, he, hz, hd, nL, nF⟩ := x.apart hs hf
  have ok := x.I.ok
  refine store_ok (X := X.suite a ((a, oe) :: (X.pn ++ pins))) (v := .ref a) (x.inv.suite he hd x.na nL nF) hN hi (.inl hln) rfl (fun s5 S5 => ?_) (.inr hln)
  refine wpAny_mono ((hsu oe (X.pn ++ pins) hz ⟨_, hd⟩).run [] s5 _ H _ S5 w) (fun f s6 q => hR f s6 ?_) (fun _ _ z => False.elim z)
  cases f with
  | next =>
    obtain ⟨_, _, S6, q6⟩ := q
    exact gone_ok (S6.unsuite ok) hN hi hln fun s7 J7 => ⟨_, _, J7, q6⟩
  | brk =>
    obtain ⟨_, _, S6, q6⟩ := q
    exact gone_ok (S6.unsuite ok) hN hi hln fun s7 J7 => ⟨_, _, J7, q6⟩
  | cont =>
    obtain ⟨_, _, S6, q6⟩ := q
    exact gone_ok (S6.unsuite ok) hN hi hln fun s7 J7 => ⟨_, _, J7, q6⟩
  | ret u =>
    obtain ⟨_, _, _, S6, r6, q6⟩ := q
    exact gone_ok (S6.unsuite ok) hN hi hln fun s7 J7 => ⟨_, _, _, J7, r6, q6⟩
/-- no clause takes it -/
theorem Air.on (x : Air X pins σ H B sI s a cls d) (hs : X.stack = X.env :: X.outer) (hf : X.env.frame = some X.env.locals) (tk : Takes X Wout) (w : Wout cls d σ H) {Q : Flow → Shared → Prop} :
    wpAny (model X.prog X.w) X.A (handleBy (.ref a) X.env []) Q X.xe s := by
  refine wpAny_handleBy_nil ?_
  obtain ⟨_, _, _, oe, vs, T, oT, ts', he, hz, hd, h1, hr⟩ := id x.fl
  unfold PySem.passOn
  refine wpAny_bind (wpAny_field he hd h1 ?_)
  rw [if_neg (show ¬ ((Value.ref T == Value.none) = true) from by simp)]
  have fin : wpAny (model X.prog X.w) X.A (setFlight (.ref a) X.env.frame) (fun _ s4 => wpAny (model X.prog X.w) X.A (throw (.ref a) : Sem Flow) Q X.xe s4) X.xe s := by
    rw [hf]
    refine HandSPX.setFlight_upZ x.fl fun h4 hh4 up4 => wpAny_throw (tk _ _ ?_)
    exact ⟨a, B, sI, pins, σ, H, cls, d, rfl, x.I, x.nb, x.up.trans up4, .inr (.inr (by rw [hs]; exact hh4)), x.na, x.os.symm, x.ag, w⟩
  first
    | exact wpAny_bind (wpAny_pure (wpAny_bind fin))
    | exact wpAny_bind fin
theorem Air.hand (hs : X.stack = X.env :: X.outer) (hf : X.env.frame = some X.env.locals) (hN : X.N.Nodup) (hi : X.N[i]? = some n) (hln : X.env.kindOf n = some .local) (tk : Takes X Wout) (hk : HdsM X n hds l) :
    ∀ {s : Shared}, Air X pins σ H B sI s a cls d → wMs X.K i Wout D l cls d σ H → wpAny (model X.prog X.w) X.A (handleBy (.ref a) X.env hds) (L2.SP X pins D) X.xe s := by
  induction hk with
  | nil => exact fun {s} x w => x.on hs hf tk w
  | @cons x c ts b₀ suite np pos' hds2 l2 hc hsu r ih =>
    intro s y w
    obtain ⟨b, hb1, hyes, hno⟩ := w
    obtain ⟨oe, vs, he, hz, hd, nL, nF⟩ := y.apart hs hf
    refine wpAny_handleBy_cons (codeAny_handlers_test ?_) (by intro q; cases q)
    have LM := PySem.W.exm_one (M := model X.prog X.w) y.inv.kIn (fun A Q E s k q => wpAny_typeOf_ref (k _ _ he) (by rw [hz.1]; exact q)) hb1
    have S := y.inv.suite he hd y.na nL nF
    have test : ∀ {Q : Value → Shared → Prop} {E : Value → Shared → Prop}, Q c s → wpAny (model X.prog X.w) (X.A.mark (some (.ref a))) (eval (.Name x np) X.env) Q E s := fun {Q E} q => by
      obtain ⟨hg, hdbg, hm | ⟨hm, hv, hnn⟩⟩ := hc
      · exact ld_glob (X := X.suite a ((a, oe) :: (X.pn ++ pins))) S hg hm q hdbg
      · exact ld_blt (X := X.suite a ((a, oe) :: (X.pn ++ pins))) S hg hm hv q hnn hdbg
    refine test (LM.here ?_)
    cases b with
    | false =>
      show wpAny _ X.A (handleBy (.ref a) X.env hds2) _ _ _
      exact ih y (hno rfl)
    | true =>
      refine codeAny_handlers_suite_as ?_
      refine HandSPX.lands_againZ y.fl fun h4 fl4 up4 => ?_
      have y4 : Air X pins σ H B sI { s with heap := h4 } a cls d := ⟨y.I, y.nb, y.up.trans up4, fl4, y.na, y.os, y.ag⟩
      refine wpAny_mono (y4.suite (pos' := pos') (E := fun _ _ => False) hs hf hN hi hln (fun oe pn => hsu a oe cls d pn) (hyes rfl a y.na) (fun f s' z => z)) (fun _ s2 z => wpAny_mono z (fun f s3 q => ?_) fun _ _ z => z.elim) fun _ _ z => z.elim
      cases f <;> exact q
theorem ps_try_ms (hs : X.stack = X.env :: X.outer) (hf : X.env.frame = some X.env.locals) (hN : X.N.Nodup) (hi : X.N[i]? = some n) (hln : X.env.kindOf n = some .local) (tk : Takes X Wout) {h₀ : ExceptHandler} {body : List Stmt}
    (hb : ∀ (W : WX) (pn : List (Addr × Obj)) (xe : Value → Shared → Prop), Takes (X.tr pn xe) W → PassesOwn (model X.prog X.w) X.A X.env xe → PSs (X.tr pn xe) body (tb W))
    (hh : HdsM X n (h₀ :: hds) l) : PS X (.Try body (h₀ :: hds) [] [] pos) (fun D σ H => tb (wMs X.K i Wout D l) D σ H) := by
  refine ⟨fun pins s σ H D I h => ?_⟩
  have ok := I.ok
  refine wpAny_Try_except ?_
  have caught : ∀ u s', XE (X.tr (X.pn ++ pins) (fun e s₁ => wpAny (model X.prog X.w) X.A (noteFrame e X.env) (fun _ s₂ => wpAny (model X.prog X.w) X.A (setFlight e none) (fun _ s₃ =>
      wpAny (model X.prog X.w) X.A (handleBy e X.env (h₀ :: hds)) (L2.SP X pins D) X.xe s₃) X.xe s₂) X.xe s₁)) (wMs X.K i Wout D l) u s' → wpAny (model X.prog X.w) X.A (noteFrame u X.env) (fun _ s₂ => wpAny (model X.prog X.w) X.A (setFlight u none) (fun _ s₃ =>
      wpAny (model X.prog X.w) X.A (handleBy u X.env (h₀ :: hds)) (L2.SP X pins D) X.xe s₃) X.xe s₂) X.xe s' := fun u s' xx => by
    obtain ⟨a, B, sI, pins', σ', H', cls, d, rfl, J', nb, up, sky, na, os, ag, w⟩ := xx
    have sky' : Sky B (X.env :: X.outer) a (Zc cls d) X.env.locals s'.heap := by rw [← hs]; exact sky
    refine Sky.land Zc.steady (by rw [ok.frames, hs]) hf sky' fun h3 fl3 up3 => ?_
    exact Air.hand hs hf hN hi hln tk hh (s := { s' with heap := h3 }) ⟨J'.ofTry ok, nb, up.trans up3, fl3, na, os.symm, ag⟩ w
  refine wpAny_mono ((hb _ (X.pn ++ pins) _ (fun u s' xx => caught u s' xx) PassesOwn.looking).run [] s σ H D (I.toTry _) h) (fun f s1 q => ?_) (fun e s1 he => he)
  cases f with
  | next =>
    obtain ⟨_, _, J, q⟩ := q
    exact wpAny_execs_nil ⟨_, _, J.ofTry ok, q⟩
  | brk =>
    obtain ⟨_, _, J, q⟩ := q
    exact ⟨_, _, J.ofTry ok, q⟩
  | cont =>
    obtain ⟨_, _, J, q⟩ := q
    exact ⟨_, _, J.ofTry ok, q⟩
  | ret u =>
    obtain ⟨_, _, _, J, r, q⟩ := q
    exact ⟨_, _, _, J.ofTry ok, r, q⟩
end
/-- what the clauses make of an error -/
def hdsR (tb : Str → Str → Option Bool) (i : Nat) : List (Str × (Xn → Addr → Addr → SS)) → Xn → VS → Hv → RS
  | [], x, σ, h => .exc x σ h
  | (y, den) :: r, x, σ, h => match tb x.cls y with
    | some true => tryA i x.pay (den x) σ h
    | some false => hdsR tb i r x σ h
    | none => .stuck
def sTryMs (tb : Str → Str → Option Bool) (i : Nat) (l : List (Str × (Xn → Addr → Addr → SS))) (body : SS) : SS := fun σ h => match body σ h with
  | .exc x σ' h' => hdsR tb i l x σ' h'
  | r => r
def clsOf (K : PySem.W.Frag) (tb : Str → Str → Option Bool) (p : Str × (Xn → Addr → Addr → SS)) : Value × Cls :=
  (.ref (He.ga K p.1), fun a cls d D σ H => ∃ (x : Xn) (dd : Addr), tb x.cls p.1 = some true ∧ cls = .ref (He.ga K x.cls) ∧ d = exA dd x.pay ∧ TSof K W00 (p.2 x a dd) D σ H)
inductive HdsQ (X : Cx) (n : Str) (tb : Str → Str → Option Bool) : List ExceptHandler → List (Str × (Xn → Addr → Addr → SS)) → Prop
  | nil : HdsQ X n tb [] []
  | cons {y : Str} {den : Xn → Addr → Addr → SS} {b₀ : Stmt} {suite : List Stmt} {np pos' : Pos} {hds : List ExceptHandler} {l : List (Str × (Xn → Addr → Addr → SS))} (g : X.mg y = some (.ref (He.ga X.K y)))
      (hsu : ∀ (x : Xn) (a dd : Addr) (oe : Obj) (pn : List (Addr × Obj)), tb x.cls y = some true → Zc (.ref (He.ga X.K x.cls)) (exA dd x.pay) oe → (∃ vs, oe.data = .fields vs) → QB (X.suite a ((a, oe) :: pn)) W00 (b₀ :: suite) (den x a dd))
      (r : HdsQ X n tb hds l) (hg : Gl X y := by rfl) (hdb : (y == ("__debug__" : Str)) = false := by decide) :
      HdsQ X n tb (.ExceptHandler (some (.Name y np)) (some n) (b₀ :: suite) pos' :: hds) ((y, den) :: l)
theorem HdsQ.hm {X : Cx} {n : Str} {tb : Str → Str → Option Bool} {hds : List ExceptHandler} {l : List (Str × (Xn → Addr → Addr → SS))} (q : HdsQ X n tb hds l) : HdsM X n hds (l.map (clsOf X.K tb)) := by
  induction q with
  | nil => exact .nil
  | @cons y den b₀ suite np pos' hds l g hsu r hg hdb ih =>
    refine .cons ⟨hg, hdb, .inl g⟩ (fun a oe cls d pn z hfl => ⟨fun pins s σ H D I h => ?_⟩) ih
    obtain ⟨x, dd, hc, rfl, rfl, h⟩ := h
    exact (psof (hsu x a dd oe pn hc z hfl)).run pins s σ H D I h
theorem post_hds {K : PySem.W.Frag} {tb : Str → Str → Option Bool} (tok : TabOk K tb) {W : WX} {i : Nat} {D : Ends} {x : Xn} {cls : Value} {dd : Option Addr} {φ φ' : List Addr} {S S' H H' : Hp} {σ' : VS} {h' : Hv} {σ1 : L2.St}
    (r2 : Rel K φ' S' H' h') (rs2 : RelS K φ' S' σ' σ1) (st : Step φ S H φ' S' H') (rx : RpX K φ' S' H' x cls dd) : ∀ l : List (Str × (Xn → Addr → Addr → SS)), PostS K φ S H (hdsR tb i l x σ' h') D W → wMs K i W D (l.map (clsOf K tb)) cls dd σ1 H'
  | [], post => post σ1 cls dd φ' S' H' r2 rs2 st rx
  | (y, den) :: l, post => by
    have e1 := rx.1
    have rx2 := rx.2
    unfold hdsR at post
    cases qt : tb x.cls y with
    | none => simp only [qt] at post; exact post.elim
    | some b =>
      refine ⟨b, by rw [e1]; exact tok _ _ _ qt, fun hb1 a ha => ?_, fun hb1 => ?_⟩
      · subst hb1
        simp only [qt] at post
        have nst : tryA i x.pay (den x) σ' h' ≠ .stuck := fun z => by rw [z] at post; exact post.elim
        obtain ⟨d0, ed, rm⟩ : ∃ d0, dd = exA d0 x.pay ∧ Rp K φ' S' (.ref a) (exD a d0 x.pay) := by
          cases qp : x.pay with
          | none =>
            rw [qp] at rx2
            exact ⟨0, rx2, .raw _⟩
          | some p =>
            obtain ⟨f, d⟩ := p
            rw [qp] at rx2
            obtain ⟨dx, v, e1, e2, e3⟩ := rx2
            exact ⟨dx, e1, .exv e2 e3⟩
        refine ⟨x, d0, qt, e1, ed, φ', S', h', σ'.set i (exM a d0 x.pay), r2, rs2.set rm i, ?_⟩
        rw [← tryA_at nst a d0] at post
        show PostS K φ' S' H' (den x a d0 (σ'.set i (exM a d0 x.pay)) h') (gone i D) W00
        cases qd : den x a d0 (σ'.set i (exM a d0 x.pay)) h' with
        | next σ2 h2 =>
          simp only [qd, wipeR] at post
          exact fun σ3 φ3 S3 H3 r3 rs3 st3 => post _ φ3 S3 H3 r3 (rs3.unset i none) (st.trans st3)
        | brk σ2 h2 =>
          simp only [qd, wipeR] at post
          exact fun σ3 φ3 S3 H3 r3 rs3 st3 => post _ φ3 S3 H3 r3 (rs3.unset i none) (st.trans st3)
        | cont σ2 h2 =>
          simp only [qd, wipeR] at post
          exact fun σ3 φ3 S3 H3 r3 rs3 st3 => post _ φ3 S3 H3 r3 (rs3.unset i none) (st.trans st3)
        | ret d h2 =>
          simp only [qd, wipeR] at post
          exact fun v φ3 S3 H3 r3 st3 rv => post v φ3 S3 H3 r3 (st.trans st3) rv
        | exc x2 σ2 h2 => simp only [qd, wipeR] at post; exact post.elim
        | stuck => simp only [qd, wipeR] at post; exact post.elim
      · subst hb1
        simp only [qt] at post
        exact post_hds tok r2 rs2 st rx l post
theorem qs_try_ms {X : Cx} {W : WX} {n : Str} {i : Nat} {body : List Stmt} {h₀ : ExceptHandler} {hds : List ExceptHandler} {pos : Pos} {tb : Str → Str → Option Bool} {bs : SS} {l : List (Str × (Xn → Addr → Addr → SS))} (tk : Takes X W) (tok : TabOk X.K tb)
    (hb : ∀ (W : WX) (pn : List (Addr × Obj)) (xe : Value → Shared → Prop), Takes (X.tr pn xe) W → PassesOwn (model X.prog X.w) X.A X.env xe → QB (X.tr pn xe) W body bs)
    (hh : HdsQ X n tb (h₀ :: hds) l)
    (hN : X.N.Nodup) (hi : X.N[i]? = some n := by rfl) (hs : X.stack = X.env :: X.outer := by rfl) (hf : X.env.frame = some X.env.locals := by rfl) (hln : X.env.kindOf n = some .local := by rfl) :
    QS X W (.Try body (h₀ :: hds) [] [] pos) (sTryMs tb i l bs) := by
  refine ⟨_, ps_try_ms (tb := fun W => TSof X.K W bs) (Wout := W) hs hf hN hi hln tk (fun W pn xe t1 t2 => psof (hb W pn xe t1 t2)) hh.hm, ⟨fun {φ S H h σv σ D} rl rs post => ?_⟩⟩
  refine ⟨φ, S, h, σv, rl, rs, ?_⟩
  unfold sTryMs at post
  cases qb : bs σv h with
  | next σ' h' => simp only [qb] at post; exact post
  | brk σ' h' => simp only [qb] at post; exact post
  | cont σ' h' => simp only [qb] at post; exact post
  | ret d h' => simp only [qb] at post; exact post
  | stuck => simp only [qb] at post; exact post.elim
  | exc x σ' h' =>
    simp only [qb] at post
    exact fun σ1 cls dd φ' S' H' r2 rs2 st rx => post_hds tok r2 rs2 st rx l post
/-! Wp -/
def Tm (Q : RS → Prop) (tb : Str → Str → Option Bool) (i : Nat) (l : List (Str × (Xn → Addr → Addr → SS))) (r : RS) : Prop := match r with
  | .exc x σ h => Wp Q (hdsR tb i l x σ h)
  | r => Wp Q r
section
variable {Q : RS → Prop} {tb : Str → Str → Option Bool} {y : Str} {i : Nat} {l : List (Str × (Xn → Addr → Addr → SS))} {suite : Xn → Addr → Addr → SS} {body : SS} {σ : VS} {h : Hv} {x : Xn} {d : D} {r : RS}
@[simp] theorem Wp_tryms : Wp Q (sTryMs tb i l body σ h) = Wp (Tm Q tb i l) (body σ h) := by
  unfold sTryMs
  cases body σ h <;> (rw [Wp.eq (Tm Q tb i l)]; rfl)
@[simp] theorem Wp_tm_next : Wp (Tm Q tb i l) (.next σ h) = Wp Q (.next σ h) := Wp.eq _ _
@[simp] theorem Wp_tm_ret : Wp (Tm Q tb i l) (.ret d h) = Wp Q (.ret d h) := Wp.eq _ _
@[simp] theorem Wp_tm_brk : Wp (Tm Q tb i l) (.brk σ h) = Wp Q (.brk σ h) := Wp.eq _ _
@[simp] theorem Wp_tm_cont : Wp (Tm Q tb i l) (.cont σ h) = Wp Q (.cont σ h) := Wp.eq _ _
@[simp] theorem Wp_tm_stuck : Wp (Tm Q tb i l) .stuck = Wp Q .stuck := Wp.eq _ _
@[simp] theorem Wp_tm_exc : Wp (Tm Q tb i l) (.exc x σ h) = Wp Q (hdsR tb i l x σ h) := Wp.eq _ _
theorem hdsR_no {x : Xn} (e : tb x.cls y = some false) : hdsR tb i ((y, suite) :: l) x σ h = hdsR tb i l x σ h := by
  rw [hdsR]; simp only [e]
@[simp] theorem hdsR_nil {x : Xn} : hdsR tb i [] x σ h = .exc x σ h := rfl
theorem Wp_hdsR {x : Xn} (r : RS) (t : tb x.cls y = some true) (hr : ∀ a dd, Wp (Wy (Is r) i) (suite x a dd (σ.set i (exM a dd x.pay)) h)) (q : Wp Q r) : Wp Q (hdsR tb i ((y, suite) :: l) x σ h) := by
  have z := Wp_tryR (Q := Q) (tb := tb) (y := y) (suite := suite) r t hr q
  unfold tryR at z
  rw [t] at z
  rw [hdsR]; simp only [t]
  exact z
end
theorem lLc_pick {α β : Type} {is : IS} {gd : GD} {el : ES} {own : List Nat} {σ : VS} {h h0 : Hv} {chk : Hv → Bool} (enc : α → D) (e2 : β → D) (P : α → β → Prop) (xs : List α) (his : is σ h = .ok (xs.map enc, chk) h0) (hc : chk h0 = true) (hl : xs.length ≤ 16777216)
    (q : ∀ a ∈ xs, ∃ (σ1 : VS) (b : β), gd (enc a) (wipeV σ own) = some σ1 ∧ el σ1 h0 = .ok (e2 b) h0 ∧ P a b) : ∃ ys : List β, lLc is gd cYes el own σ h = .ok (ys.map e2) h0 ∧ ys.length = xs.length ∧ ∀ (i : Nat) a b, xs[i]? = some a → ys[i]? = some b → P a b := by
  obtain ⟨f, e, hf⟩ := lLc_ex enc (fun a d => ∃ b, d = e2 b ∧ P a b) xs his hc hl fun a ha => by
    obtain ⟨σ1, b, e1, e2', p⟩ := q a ha
    exact ⟨σ1, _, e1, e2', b, rfl, p⟩
  clear q his
  have key : ∃ ys : List β, xs.map f = ys.map e2 ∧ ys.length = xs.length ∧ ∀ (i : Nat) a b, xs[i]? = some a → ys[i]? = some b → P a b := by
    clear e hl
    induction xs with
    | nil => exact ⟨[], rfl, rfl, fun i a b h => by simp at h⟩
    | cons a xs ih =>
      obtain ⟨ys, y1, y2, y3⟩ := ih fun a ha => hf a (List.mem_cons_of_mem _ ha)
      obtain ⟨b, b1, b2⟩ := hf a List.mem_cons_self
      refine ⟨b :: ys, by rw [List.map_cons, List.map_cons, y1, b1], by rw [List.length_cons, List.length_cons, y2], fun i a' b' h1 h2 => ?_⟩
      cases i with
      | zero => cases h1; cases h2; exact b2
      | succ i => exact y3 i a' b' h1 h2
  obtain ⟨ys, y1, y2, y3⟩ := key
  exact ⟨ys, by rw [e, y1], y2, y3⟩
end
end VD

set_option Elab.async false
set_option linter.all false
set_option maxRecDepth 100000
set_option maxHeartbeats 4000000
namespace VD
open PySem PySem.Spec PyProof.Rows L2
noncomputable section
/-! ### len(set(xs)), xs a list of whole numbers and texts -/
section
variable {κ : Type} [DecidableEq κ]
def met1 (σ : List κ) (v : κ) : List κ := if v ∈ σ then σ else σ ++ [v]
/-- each thing once, as first met -/
def once (xs : List κ) : List κ := xs.foldl met1 []
def inK (σ : List κ) (k : κ) : Bool := decide (k ∈ σ)
theorem inK_iff {σ : List κ} {k : κ} : inK σ k = true ↔ k ∈ σ := decide_eq_true_iff
theorem once_snoc (xs : List κ) (v : κ) : once (xs ++ [v]) = met1 (once xs) v := by unfold once; rw [List.foldl_append]; rfl
theorem met1_mem {σ : List κ} {v k : κ} : k ∈ met1 σ v ↔ k ∈ σ ∨ k = v := by
  unfold met1
  split
  · next q => exact ⟨.inl, fun z => z.elim id fun z => by rw [z]; exact q⟩
  · simp
theorem met1_len {σ : List κ} {v : κ} : (met1 σ v).length = if v ∈ σ then σ.length else σ.length + 1 := by unfold met1; split <;> simp
theorem once_len (xs : List κ) : (once xs).length ≤ xs.length := by
  have key : ∀ n (xs : List κ), xs.length = n → (once xs).length ≤ xs.length := by
    intro n
    induction n with
    | zero => intro xs h; rw [List.length_eq_zero_iff.mp h]; exact Nat.le_refl _
    | succ n ih =>
      intro xs h
      rcases List.eq_nil_or_concat xs with z | ⟨ys, y, z⟩
      · rw [z]; exact Nat.le_refl _
      · subst z
        rw [List.concat_eq_append] at h ⊢
        rw [once_snoc, met1_len]
        have := ih ys (by simpa using h)
        simp
        split <;> omega
  exact key _ xs rfl
theorem once_mem {xs : List κ} {k : κ} : k ∈ once xs ↔ k ∈ xs := by
  have key : ∀ n (xs : List κ), xs.length = n → (k ∈ once xs ↔ k ∈ xs) := by
    intro n
    induction n with
    | zero => intro xs h; rw [List.length_eq_zero_iff.mp h]; exact Iff.rfl
    | succ n ih =>
      intro xs h
      rcases List.eq_nil_or_concat xs with z | ⟨ys, y, z⟩
      · rw [z]; exact Iff.rfl
      · subst z
        rw [List.concat_eq_append] at h ⊢
        rw [once_snoc, met1_mem, ih ys (by simpa using h)]
        simp
  exact key _ xs rfl
theorem once_nd (xs : List κ) : (once xs).Nodup := by
  have key : ∀ n (xs : List κ), xs.length = n → (once xs).Nodup := by
    intro n
    induction n with
    | zero => intro xs h; rw [List.length_eq_zero_iff.mp h]; exact List.nodup_nil
    | succ n ih =>
      intro xs h
      rcases List.eq_nil_or_concat xs with z | ⟨ys, y, z⟩
      · rw [z]; exact List.nodup_nil
      · subst z
        rw [List.concat_eq_append] at h ⊢
        rw [once_snoc]
        have := ih ys (by simpa using h)
        unfold met1
        split
        · exact this
        · next q =>
          rw [List.nodup_append]
          exact ⟨this, by simp, fun a ha b hb z => by rw [List.mem_singleton.mp hb] at z; exact q (z ▸ ha)⟩
  exact key _ xs rfl
end
section
variable {prog : Program} {w : World} {A : Around} {R : Result → Shared → Prop} {I : Addr} {fp wr : List Addr} {G : Array GenState → Array GenState → Prop} {n : Nat} {PV : Nat → Value → Prop} {St : Nat → Shared → Prop}
abbrev MSet (prog : Program) (w : World) (h : Heap) (a : Addr) (ks : List Key) : Prop := h.SetOf (mixKind prog w) a (fun k => inK (once ks) k) (once ks).length
theorem MSet.moved {prog : Program} {w : World} {h h' : Heap} {a : Addr} {ks : List Key} (m : MSet prog w h a ks) (k : ∀ o, h.get? a = some o → h'.get? a = some o) : MSet prog w h' a ks := setOf_at m k
theorem MSet.more {prog : Program} {w : World} {h : Heap} {a : Addr} {ks : List Key} {x : Key} (m : h.SetOf (mixKind prog w) a (fun k => inK (once ks) k || decide (k = x)) (if inK (once ks) x = true then (once ks).length else (once ks).length + 1)) : MSet prog w h a (ks ++ [x]) := by
  have e1 : (fun k => inK (once ks) k || decide (k = x)) = fun k => inK (once (ks ++ [x])) k := funext fun k => by
    rw [once_snoc]
    apply Bool.eq_iff_iff.mpr
    rw [Bool.or_eq_true, inK_iff, inK_iff, met1_mem, decide_eq_true_iff]
  have e2 : (if inK (once ks) x = true then (once ks).length else (once ks).length + 1) = (once (ks ++ [x])).length := by
    rw [once_snoc, met1_len]
    by_cases q : x ∈ once ks
    · rw [if_pos (inK_iff.mpr q), if_pos q]
    · rw [if_neg (fun z => q (inK_iff.mp z)), if_neg q]
  unfold MSet
  rw [← e1, ← e2]
  exact m
theorem upd_keys (W : WalksS prog w A.in1 I fp wr G n PV St) (b : Addr) (nb : b ∉ fp) (ks : List Key) (hl : ks.length = n) (hv : ∀ i v k, PV i v → ks[i]? = some k → (mixKind prog w).is k v = true ∧ v.scannable = true) (few : n + 1 < scanBound) :
    ∀ (m i : Nat) (z : Shared), n - i = m → i ≤ n → St i z → MSet prog w z.heap b (ks.take i) →
      (∀ z2, Moved (b :: wr) G z z2 → MSet prog w z2.heap b ks → R (.ok (.ret .none)) z2) → codeAny (model prog w) A (.builtin "set.update.loop" ⟨[.ref b, .ref I], []⟩) R z := by
  have nw : b ∉ wr := fun q => nb (W.sub _ q)
  have sb : ∀ c ∈ wr, c ∈ b :: wr := fun c hc => List.mem_cons_of_mem _ hc
  intro m
  induction m with
  | zero =>
    intro i z hm hi st hs hr
    have : i = n := by omega
    subst this
    refine codeAny_builtin PyProof.Rows.F.entry_set_update_loop ?_
    rw [Around.under_plainId PyProof.Rows.F.plain_set_update_loop _]
    show wpAny _ A.in1 (pyNext (.ref I) >>= _) _ _ z
    refine wpAny_bind (W.done z _ _ st fun z2 mv => ?_)
    show wpAny _ A.in1 (ret Value.none) _ _ z2
    rw [List.take_of_length_le (by omega)] at hs
    exact wpAny_pure (hr z2 (mv.mono sb) (hs.moved fun o e => mv.heap b o nw e))
  | succ m ih =>
    intro i z hm hi st hs hr
    have lt : i < n := by omega
    have lk : i < ks.length := by omega
    refine codeAny_builtin PyProof.Rows.F.entry_set_update_loop ?_
    rw [Around.under_plainId PyProof.Rows.F.plain_set_update_loop _]
    show wpAny _ A.in1 (pyNext (.ref I) >>= _) _ _ z
    refine wpAny_bind (W.item i z _ _ lt st fun v z1 pv st1 mv => ?_)
    obtain ⟨hk, hsc⟩ := hv i v ks[i] pv (List.getElem?_eq_getElem lk)
    have s1 : MSet prog w z1.heap b (ks.take i) := hs.moved fun o e => mv.heap b o nw e
    show wpAny _ A.in1 (holding [v] (setAdd b v) >>= _) _ _ z1
    refine wpAny_bind (wpAny_holding ?_)
    unfold setAdd
    refine wpAny_holding (wpAny_bind ((mixKind prog w).pyHash (k := ks[i]) hk ?_))
    have room : (once (ks.take i)).length + 1 < scanBound := by
      have := once_len (ks.take i)
      rw [List.length_take] at this
      omega
    refine wpAny_setAddHashed_of (knd := mixKind prog w) (s := { z1 with toks := z1.toks + 1 }) hk hsc s1 room fun h2 same s2 => ?_
    have s3 : MSet prog w h2 b (ks.take (i + 1)) := by
      rw [List.take_succ, List.getElem?_eq_getElem lk]
      exact MSet.more s2
    refine wpAny_pure ⟨plainId_quiet PyProof.Rows.F.plain_set_update_loop _, ih (i + 1) _ (by omega) lt (W.frame _ z1 _ _ st1 (Nat.le_succ _) fun c hc o e => ?_) s3 fun z3 mv3 s4 => ?_⟩
    · rw [same.2 c (fun q : c = b => nb (by rw [← q]; exact hc))]; exact e
    · refine hr z3 (Moved.trans W.gtrans ((mv.mono sb).then_heap (Nat.le_succ _) fun c o hc e => ?_) mv3) s4
      rw [same.2 c (fun q : c = b => hc (by rw [q]; exact List.mem_cons_self))]; exact e
end
section
variable {prog : Program} {w : World} {A : Around} {E : Value → Shared → Prop} {s : Shared}
abbrev o0 (z : Bool) : Obj := { cls := .type "set", dict := none, data := .set #[] 0 (.fresh 0 0 z) }
theorem items_get {P : Program} {w : World} : ∀ {ks : List Key} {vs : List Value} {i : Nat} {k : Key} {v : Value}, ItemsAre (mixKind P w) ks vs → ks[i]? = some k → vs[i]? = some v → (mixKind P w).is k v = true
  | _, _, i, _, _, .nil, h, _ => by simp at h
  | _, _, 0, _, _, .cons a t, h1, h2 => by cases h1; cases h2; exact a
  | _, _, i + 1, _, _, .cons a t, h1, h2 => items_get (i := i) t h1 h2
theorem call_setK {l : Addr} {items : Array Value} {ks : List Key} {Q : Value → Shared → Prop} (nh : A.handled = none) (il : s.heap.IsList l items) (ik : ItemsAre (mixKind prog w) ks items.toList) (sc : ∀ v ∈ items.toList, v.scannable = true) (few : items.size + 1 < scanBound)
    (q : ∀ (h2 : Heap) (tk : Nat), MSet prog w h2 s.heap.objs.size ks → (∀ b o, b < s.heap.objs.size → s.heap.get? b = some o → h2.get? b = some o) → Q (.ref s.heap.objs.size) { s with heap := h2, toks := tk }) :
    wpAny (model prog w) A (call (.type "set") [.ref l]) Q E s := by
  obtain ⟨c, tl, hmro⟩ := PySem.F.called_set.mro; have hmade := PySem.F.called_set.made
  have hsub := PySem.F.called_set.sub; refine wpAny_call (codeAny_of_tree ?_)
  show wpAny _ _ (callAny (.type "set") _) _ _ _; refine wpAny_pure ⟨Code.quiet_builtin _ (by decide +kernel), codeAny_builtin PySem.F.entry_type_call ?_⟩
  rw [Around.under_plain (weight_type_call_type "set" [.ref l] []) rfl]; have h1 := PySem.F.called_set.notType
  have h2 := PySem.F.called_set.canCreate; have hct := PySem.F.typeCall_set_1 (.ref l)
  repeat (any_goals (first | assumption | wp_step))
  refine codeAny_mono (code_set_new_1 (.ref l) (E := E) (Q₁ := fun v z => ∃ b : Bool, v = .ref s.heap.objs.size ∧ z = { s with heap := s.heap.push (o0 b) }) fun b => ⟨b, rfl, rfl⟩) fun r z hr => ?_
  cases r with
  | error e => exact hr
  | ok fl =>
    cases fl with
    | ret v =>
      obtain ⟨bb, rfl, rfl⟩ := hr
      have gs : (s.heap.push (o0 bb)).get? s.heap.objs.size = some (o0 bb) := Heap.get?_push_size _ rfl
      have ts : Shared.TypeIs { s with heap := s.heap.push (o0 bb) } (.ref s.heap.objs.size) "set" := ⟨_, gs, rfl⟩
      have hli := PySem.F.called_set.init.lookup; have hbi := PySem.F.called_set.init.bind (.ref s.heap.objs.size)
      repeat (any_goals (first | assumption | wp_step))
      refine codeAny_mono (codeAny_call_builtin (R := wants (fun r z2 => r = .none ∧ ∃ h2 tk, z2 = { s with heap := h2, toks := tk } ∧ MSet prog w h2 s.heap.objs.size ks ∧ (∀ b o, b < s.heap.objs.size → s.heap.get? b = some o → h2.get? b = some o)) E) PySem.F.called_set.init.plain PySem.F.entry_set_init (check_set_init_1 ts ?_)) fun r₂ z2 hr₂ => ?_
      · obtain ⟨ol, hol, hcl, nl, hdl⟩ := il
        obtain ⟨xcls, xdict, xdata, xslots⟩ := ol
        simp only at hcl hdl
        subst hcl; subst hdl
        have hol' : (s.heap.push (o0 bb)).get? l = some { cls := .type "list", dict := xdict, data := .seq items nl, slots := xslots } := Heap.get?_push_of_some _ hol
        have hsls := PySem.F.sub_list_set; have hslf := PySem.F.sub_list_frozenset
        have ndc : (Value.type "list" == Value.type "dict") = false := by decide
        have hl1 : (s.heap.push (o0 bb)).IsList l items := ⟨_, hol', rfl, nl, rfl⟩
        unfold Builtin.«set.__init__» noKeywords Builtin.Frozenset.updateFrom
        generalize hPI : pyIter = PI
        wp_walk
        subst hPI
        refine wpAny_pyIter_list hl1 ?_
        refine wpAny_bind (wpAny_runValue ?_)
        have ls : l < s.heap.objs.size := Heap.lt_size hol
        have nh3 : A.in1.in1.in1.handled = none := by simp [nh]
        have ni : l ≠ (s.heap.push (o0 bb)).objs.size := by rw [Heap.size_push]; exact Nat.ne_of_lt (Nat.lt_succ_of_lt ls)
        have nf : s.heap.objs.size ∉ [(s.heap.push (o0 bb)).objs.size, l] := by
          rw [Heap.size_push]; simp only [List.mem_cons, List.mem_singleton, List.not_mem_nil, or_false, not_or]; exact ⟨Nat.ne_of_lt (Nat.lt_succ_self _), Nat.ne_of_gt ls⟩
        have lk : ks.length = items.size := by rw [← Array.length_toList]; exact ItemsAre.length ik
        have vk : ∀ (i : Nat) (v : Value) (k : Key), items[i]? = some v → ks[i]? = some k → (mixKind prog w).is k v = true ∧ v.scannable = true := fun i v k hv hk => by
          rw [← Array.getElem?_toList] at hv
          exact ⟨items_get ik hk hv, sc v (List.mem_of_getElem? hv)⟩
        refine upd_keys ((Walks.list nh3 _ l ni items).toS) s.heap.objs.size nf ks lk vk few (items.size - 0) 0 _ (by omega) (Nat.zero_le _) ⟨⟨_, Heap.get?_push_size _ rfl, rfl, rfl⟩, (hl1.push _)⟩ ?s0 ?s1
        case s0 =>
          have e0 : (fun k : Key => inK (once (ks.take 0)) k) = fun _ => false := funext fun k => rfl
          show Heap.SetOf _ _ _ (fun k : Key => inK (once (ks.take 0)) k) _
          rw [e0]
          exact ⟨_, #[], 0, _, Heap.get?_push_of_some _ gs, ⟨rfl, rfl, rfl⟩, rfl, (fun e he => by simp at he), (fun k => by simp), (by decide), (by rfl), rfl⟩
        case s1 =>
          intro z3 mv s3
          obtain ⟨y1, y2, y3, y4, y5⟩ := z3
          have eg : y2 = s.gens := mv.gens
          have ed : y3 = s.drawn := mv.drawn
          have eo : y5 = s.os := mv.os
          subst eg; subst ed; subst eo
          show wpAny _ _ _ _ _ _
          refine wpAny_pure ?_
          show wpAny _ _ (ret Value.none) _ _ _
          refine wpAny_pure ⟨rfl, y1, y4, rfl, s3, fun b o hb e => ?_⟩
          have g1 : b ≠ s.heap.objs.size := Nat.ne_of_lt hb
          have g2 : b ≠ (s.heap.push (o0 bb)).objs.size := by rw [Heap.size_push]; exact Nat.ne_of_lt (Nat.lt_succ_of_lt hb)
          exact mv.heap b o (by simp only [List.mem_cons, List.mem_singleton, List.not_mem_nil, or_false, not_or]; exact ⟨g1, g2⟩) (Heap.get?_push_of_some _ (Heap.get?_push_of_some _ e))
      · cases r₂ with
        | error e => exact hr₂
        | ok fl₂ =>
          cases fl₂ with
          | ret r =>
            obtain ⟨rfl, y1, tk, rfl, s3, k3⟩ := hr₂
            repeat (any_goals (first | assumption | wp_step))
            exact q _ _ s3 k3
          | _ => exact hr₂.elim
    | _ => exact hr.elim
end
section
variable {X : Cx} {K : PySem.W.Frag}
def SetM (P : Program) (w : World) (a : Addr) (ks : List Key) : HO := SetK P w a (fun k => inK (once ks) k) (once ks).length
def rSetL (K : PySem.W.Frag) (P : Program) (w : World) : List V → Hp → VK → Prop := fun xs H Q => ∃ (l : Addr) (ks : List Key), xs = [V.ref l] ∧ SqL K H l (ks.map kV) ∧ ks.length < 4000 ∧ ∀ p, H p = none → Q (.ref p) (upd H p (SetM P w p ks))
theorem scan_of : ∀ {ks : List Key} {us : List Value}, Vals (ks.map kV) us → ∀ v ∈ us, v.scannable = true
  | [], _, .nil, v, h => nomatch h
  | k :: ks, _, .cons r t, v, h => by
    cases h with
    | head => exact key_scan r
    | tail _ h => exact scan_of t v h
theorem cr_setL (hc : X.calm = true) : CallR X (.type "set") (rSetL X.K X.prog X.w) := by
  intro pins s σ H xs us Q I r h
  obtain ⟨l, ks, rfl, hl, few, q⟩ := h
  rw [Vals.ref1 r]
  obtain ⟨its, rv, pl, hz⟩ := I.list hl
  have hn : H s.heap.objs.size = none := I.hok.fresh (Nat.le_refl _)
  have e1 : its.toArray.size = ks.length := by rw [List.size_toArray, ← rv.length, List.length_map]
  refine call_setK (prog := X.prog) (w := X.w) (ks := ks) (I.ok.hd hc) pl.isList (by simpa using items_are rv) (by simpa using scan_of rv) (by rw [e1]; unfold scanBound; omega) fun h' tk m k => ?_
  exact ⟨.ref s.heap.objs.size, upd H s.heap.objs.size (SetM X.prog X.w s.heap.objs.size ks), I.laid (t' := tk) (fun b u e => k b u (Heap.lt_size e) e) (Nat.le_refl _) (setK_new m), rfl, q _ hn⟩
def rLenM (P : Program) (w : World) : List V → Hp → VK → Prop := fun xs H Q => ∃ (a : Addr) (ks : List Key), xs = [V.ref a] ∧ H a = some (SetM P w a ks) ∧ Q (.int (once ks).length) H
theorem cr_lenM : CallR X (.builtin "len") (rLenM X.prog X.w) := by
  intro pins s σ H xs us Q I r h
  obtain ⟨a, ks, rfl, ha, q⟩ := h
  rw [Vals.ref1 r]
  obtain ⟨o, es, ep, t, ho, hex, hd, hel, hmem, hb, hf, hn⟩ := setK_get I ha
  refine call_len_set ho hex hd hf (by unfold scanBound at hb; omega) ?_
  exact ⟨.int (once ks).length, H, I.tok _, ⟨s.toks + 1, by rw [hn]⟩, q⟩
/-- the keys that some data are -/
def toKy : D → Option Key
  | .int i => some (.inl i)
  | .str x => some (.inr x)
  | _ => none
theorem toKys_ok {φ : List Addr} {S : Hp} : ∀ {vs : List V} {ds : List D} {ks : List Key}, RpA K φ S vs ds → optAll toKy ds = some ks → vs = ks.map kV
  | _, _, ks, .nil, e => by
    cases e; rfl
  | _, _, ks, .cons (d := d) (ds := ds) r t, e => by
    simp only [optAll] at e
    cases q : toKy d with
    | none => rw [q] at e; cases e
    | some k =>
      rw [q] at e
      cases q2 : optAll toKy ds with
      | none => simp only [q2] at e; cases e
      | some ks2 =>
      simp only [q2] at e
      cases e
      rw [toKys_ok t q2]
      cases r <;> first
        | (cases q; rfl)
        | cases q
def bLenSet : List D → Hv → R D := fun ds h => match ds with
  | [d] => (match (lOf h d).bind (optAll toKy) with
    | some ks => if ks.length < 4000 then .ok (.int ((once ks).length : Nat)) h else .stuck
    | none => .stuck)
  | _ => .stuck
/-- both calls as one -/
def rLS (K : PySem.W.Frag) (P : Program) (w : World) (t : TA) : TE := tCB (rLenM P w) (tCons (tCB (rSetL K P w) t) tNil)
theorem sn_lenset {P : Program} {w : World} {W : WX} {t : TA} {la : LS} (h2 : Sn K (repA K) W t la) : Sn K (repV K) W (rLS K P w t) (eCa bLenSet la) := ⟨fun rl rs post => h2.bind rl rs post fun ds h1 vs φ1 S1 H1 rl1 rs1 st rp post => by
  unfold bLenSet at post
  split at post
  · next d =>
    obtain ⟨v, rfl, r⟩ := rp.one
    split at post
    · next ks hk =>
      obtain ⟨xs, q1, q2⟩ := Option.bind_eq_some_iff.mp hk
      split at post
      · next few =>
        obtain ⟨a, us, rfl, h3, h4⟩ := lOf_ok rl1 r q1
        rw [toKys_ok h4 q2] at h3
        refine ⟨a, ks, rfl, h3, few, fun p hp => ?_⟩
        obtain ⟨r2, s2⟩ := rl1.lay (o := SetM P w p ks) hp
        exact ⟨p, ks, rfl, upd_same, post _ φ1 _ _ r2 s2 (.int _)⟩
      · exact post.elim
    · exact post.elim
  · exact post.elim⟩
end
section
variable {X : Cx} {W : WX} {e : Expr} {p pos p2 pos2 : Pos} {la : LS}
theorem se_lenset (hc : X.calm = true) (n1 : X.mg "len" = none) (n2 : X.mg "set" = none) (ha : SA X W [e] la) (hg : Gl X "len" := by rfl) (hg2 : Gl X "set" := by rfl)
    (he : starEach [.Call (.Name "set" p2) [e] [] pos2] X.env = (false, eval (.Call (.Name "set" p2) [e] [] pos2) X.env) :: starEach [] X.env := by rfl) (hpl : (backTo pos (starEach [] X.env)).any (·.1) = false := by rfl)
    (he2 : starEach [e] X.env = (false, eval e X.env) :: starEach [] X.env := by rfl) (hpl2 : (backTo pos2 (starEach [] X.env)).any (·.1) = false := by rfl) : SE X W (.Call (.Name "len" p) [.Call (.Name "set" p2) [e] [] pos2] [] pos) (eCa bLenSet la) := by
  obtain ⟨ta, h1, h2⟩ := ha
  exact ⟨_, pe_callB cr_lenM hg n1 rfl (pa_cons (pe_callTy (cr_setL hc) hg2 n2 rfl h1 (by decide) (by decide) he2 hpl2) pa_nil) (by decide) (by decide) he hpl, sn_lenset h2⟩
end
end
end VD

set_option Elab.async false
set_option linter.all false
set_option maxRecDepth 100000
set_option maxHeartbeats 4000000
namespace VD
open PySem PySem.Spec PyProof.Rows L2
noncomputable section
/-! ### dict(xs), xs a list of pairs -/
section
variable {X : Cx} {K : PySem.W.Frag}
/-- a pair with a key ahead -/
def pairD : D → Option (Key × D)
  | .tup [k, d] => (keyOf k).map fun k => (k, d)
  | _ => none
def bDictP : List D → Hv → R D := fun ds h => match ds with
  | [d] => (match (lOf h d).bind (optAll pairD) with
    | some kd => .ok (.cell h.length) (h ++ [.dK (mergeD [] kd)])
    | none => .stuck)
  | _ => .stuck
def rDictP (K : PySem.W.Frag) : List V → Hp → VK → Prop := fun xs H Q => ∃ (a : Addr) (ps : List Addr) (kvs : List (Key × V)), xs = [.ref a] ∧ SqL K H a (ps.map V.ref) ∧ Paired (fun p kv => SqT K H p [kV kv.1, kv.2]) ps kvs ∧
    ∀ p, H p = none → Q (.ref p) (upd H p (.dK (mergeK [] kvs)))
theorem cr_dictP (hc : X.calm = true) : CallR X (.type "dict") (rDictP X.K) := call_dictP hc
theorem pairs_ok {φ : List Addr} {S H : Hp} (sub : Ex S H) : ∀ {vs : List V} {ds : List D} {kd : List (Key × D)}, RpA K φ S vs ds → optAll pairD ds = some kd → ∃ (ps : List Addr) (kvs : List (Key × V)), vs = ps.map V.ref ∧ Paired (fun p kv => SqT K H p [kV kv.1, kv.2]) ps kvs ∧ RpK K φ S kvs kd
  | _, _, kd, .nil, e => by
    cases e
    exact ⟨[], [], rfl, .nil, .nil⟩
  | _, _, kd, .cons (d := d) (ds := ds) r t, e => by
    simp only [optAll] at e
    cases q : pairD d with
    | none => rw [q] at e; cases e
    | some p =>
      rw [q] at e
      cases q2 : optAll pairD ds with
      | none => simp only [q2] at e; cases e
      | some kd2 =>
        simp only [q2] at e
        cases e
        obtain ⟨ps, kvs, e1, e2, e3⟩ := pairs_ok sub t q2
        unfold pairD at q
        split at q
        · next k d' =>
          obtain ⟨key, hk, rfl⟩ := Option.map_eq_some_iff.mp q
          obtain ⟨a, us, rfl, g1, g2⟩ := tup_of r
          obtain ⟨u1, u2, rfl, r1, r2⟩ := g2.two
          have ek := keyOf_ok r1 hk
          subst ek
          exact ⟨a :: ps, (key, u2) :: kvs, by rw [e1]; rfl, .cons (sub.sqt g1) e2, .cons r2 e3⟩
        · cases q
theorem cs_dictP : CaS K (rDictP K) bDictP := by
  intro φ S H h ds vs Q E rl ra post
  unfold bDictP at post
  split at post
  · next d =>
    obtain ⟨v, rfl, r⟩ := ra.one
    split at post
    · next kd hk =>
      obtain ⟨xs, q1, q2⟩ := Option.bind_eq_some_iff.mp hk
      obtain ⟨a, us, rfl, h3, h4⟩ := lOf_ok rl r q1
      obtain ⟨ps, kvs, rfl, e2, e3⟩ := pairs_ok rl.sub h4 q2
      refine ⟨a, ps, kvs, rfl, h3, e2, fun p hp => ?_⟩
      obtain ⟨r2, s2⟩ := rl.hold (o := .dK (mergeK [] kvs)) hp
      obtain ⟨m1, m2⟩ := (RpK.merge e3 (kv := []) (kd := []) .nil).to
      have r3 := r2.celled (c := .dK (mergeD [] kd)) upd_same (rl.snone hp) (rl.notin hp) ⟨_, rfl, m1, m2⟩
      exact post (.ref p) _ _ _ r3 (s2.celled hp) (.cell (by rw [← rl.len, List.getElem?_append_right (Nat.le_refl _), Nat.sub_self]; rfl))
    · exact post.elim
  · exact post.elim
end
/-! ### xs[::-1] -/
theorem sl_revS {X : Cx} {W : WX} {a : Expr} {fa : ES} {k : Nat} {p1 p2 p3 pos : Pos} (ha : SE X W a fa) : SL X W (.Subscript a (.Slice none none (some (.UnaryOp .USub (.Constant (.int 1) k p1) p2)) p3) pos) (lRev fa) := by
  obtain ⟨ta, h1, h2⟩ := ha
  refine ⟨_, pe_revL h1, ⟨fun rl rs post => h2.bind rl rs post fun d h1 v φ1 S1 H1 rl1 rs1 st rp post => ?_⟩⟩
  split at post
  · next xs q =>
    obtain ⟨a0, vs, rfl, hs, ra⟩ := lOf_ok rl1 rp q
    refine ⟨a0, vs, rfl, hs, fun p hp => ?_⟩
    obtain ⟨r2, s2⟩ := rl1.hold (o := .lst vs.reverse) hp
    exact post (.ref p) φ1 _ _ r2 s2 ⟨p, vs.reverse, rfl, hp, upd_same, rl1.snone hp, rl1.notin hp, ra.reverse⟩
  · exact post.elim
end
end VD

set_option Elab.async false
set_option linter.all false
set_option maxRecDepth 100000
set_option maxHeartbeats 4000000
namespace VD
open PySem PySem.Spec PyProof.Rows L2
noncomputable section
/-! ### xs.pop(), xs.clear() -/
def mPop : D → List D → Hv → R D := fun x ds h => match x, ds with
  | .cell n, [] => (match h[n]? with
    | some (.lst xs) => (match xs[xs.length - 1]? with
      | some y => .ok y (h.set n (.lst xs.dropLast))
      | none => .stuck)
    | _ => .stuck)
  | _, _ => .stuck
theorem RpA.last {K : PySem.W.Frag} {φ : List Addr} {S : Hp} {vs : List V} {ds : List D} (r : RpA K φ S vs ds) : RpA K φ S vs.dropLast ds.dropLast := by
  rw [List.dropLast_eq_take, List.dropLast_eq_take, r.length]
  exact r.take _
theorem ms_pop {K : PySem.W.Frag} : MtS K rPop mPop := by
  intro φ S H h x v ds vs Q E rl rx ra post
  unfold mPop at post
  split at post
  · next n =>
    split at post
    · next xs hx =>
      split at post
      · next y hy =>
        obtain ⟨a, ws, rfl, hn, ho, rw_⟩ := rl.cell rx hx
        cases ra
        obtain ⟨u, h1, h2⟩ := rw_.at hy
        obtain ⟨r2, s2⟩ := rl.put hn (c := .lst xs.dropLast) (o := .lst ws.dropLast) ⟨_, rfl, rw_.last⟩
        exact ⟨a, ws, u, rfl, rfl, ho, by rw [rw_.length]; exact h1, post _ φ S _ r2 s2 h2⟩
      · exact post.elim
    · exact post.elim
  · exact post.elim
def mClear : D → List D → Hv → R D := fun x ds h => match x, ds with
  | .cell n, [] => (match h[n]? with
    | some (.lst xs) => .ok .non (h.set n (.lst []))
    | _ => .stuck)
  | _, _ => .stuck
theorem ms_clear {K : PySem.W.Frag} : MtS K rClear mClear := by
  intro φ S H h x v ds vs Q E rl rx ra post
  unfold mClear at post
  split at post
  · next n =>
    split at post
    · next xs hx =>
      obtain ⟨a, ws, rfl, hn, ho, rw_⟩ := rl.cell rx hx
      cases ra
      obtain ⟨r2, s2⟩ := rl.put hn (c := .lst []) (o := .lst []) ⟨_, rfl, .nil⟩
      exact ⟨a, ws, rfl, rfl, ho, post _ φ S _ r2 s2 .non⟩
    · exact post.elim
  · exact post.elim
@[simp] theorem mPop_ap {n : Nat} {h : Hv} : mPop (.cell n) [] h = (match h[n]? with
  | some (.lst xs) => (match xs[xs.length - 1]? with
    | some y => .ok y (h.set n (.lst xs.dropLast))
    | none => .stuck)
  | _ => .stuck) := rfl
@[simp] theorem mClear_ap {n : Nat} {h : Hv} : mClear (.cell n) [] h = (match h[n]? with
  | some (.lst xs) => .ok .non (h.set n (.lst []))
  | _ => .stuck) := rfl
/-! ### an __init__, a method: told from its end -/
def Ri (P : R D → Prop) (n0 : Nat) (r : RS) : Prop := match r with
  | .ret d h => P (.ok d h)
  | .next _ h => P (.ok .non h)
  | .exc x _ h => P (exitX n0 x h)
  | _ => False
def Rm (P : R D → Prop) (n0 : Nat) (r : RS) : Prop := match r with
  | .ret d h => P (.ok d h)
  | .exc x _ h => P (exitX n0 x h)
  | _ => False
section
variable {P : R D → Prop} {n0 : Nat} {σ : VS} {h : Hv} {d : D} {x : Xn}
@[simp] theorem Wp_ri_ret : Wp (Ri P n0) (.ret d h) = P (.ok d h) := Wp.eq _ _
@[simp] theorem Wp_ri_next : Wp (Ri P n0) (.next σ h) = P (.ok .non h) := Wp.eq _ _
@[simp] theorem Wp_ri_exc : Wp (Ri P n0) (.exc x σ h) = P (exitX n0 x h) := Wp.eq _ _
@[simp] theorem Wp_ri_stuck : Wp (Ri P n0) .stuck = False := Wp.eq _ _
@[simp] theorem Wp_rm_ret : Wp (Rm P n0) (.ret d h) = P (.ok d h) := Wp.eq _ _
@[simp] theorem Wp_rm_exc : Wp (Rm P n0) (.exc x σ h) = P (exitX n0 x h) := Wp.eq _ _
@[simp] theorem Wp_rm_stuck : Wp (Rm P n0) .stuck = False := Wp.eq _ _
end
theorem fnI_of {P : R D → Prop} {np nl : Nat} {body : SS} {ds : List D} {h : Hv} (hl : ds.length = np) (hw : Wp (Ri P h.length) (body (ds.map some ++ List.replicate nl none) h)) : P (fnI np nl body ds h) := by
  replace hw := hw.run
  unfold fnI
  rw [if_pos hl]
  generalize body (ds.map some ++ List.replicate nl none) h = r at hw ⊢
  cases r <;> first
    | exact hw
    | exact hw.elim
theorem fnU_at {P : R D → Prop} {np nl : Nat} {body : SS} {ds : List D} {h : Hv} (hl : ds.length = np) (hw : Wp (Rm P h.length) (body (ds.map some ++ List.replicate nl none) h)) : P (fnU np nl body ds h) := by
  replace hw := hw.run
  unfold fnU
  rw [if_pos hl]
  generalize body (ds.map some ++ List.replicate nl none) h = r at hw ⊢
  cases r <;> first
    | exact hw
    | exact hw.elim
@[simp] theorem callM_ap {sem : List D → Hv → R D} {ds : List D} {h : Hv} : callM sem ds h = sem ds h := rfl
@[simp] theorem eMeth_ap {C m : Str} {sem' : List D → Hv → R D} {fa : ES} {la : LS} {σ : VS} {h : Hv} : eMeth C m sem' fa la σ h = (fa σ h).bind fun d h1 => (match fldsOf h1 C d with
  | some fs => if (fs.lookup m).isNone then ((la σ h1).bind fun ds h2 => sem' (d :: ds) h2) else .stuck
  | none => .stuck) := rfl
@[simp] theorem eFld_ap {C f : Str} {fa : ES} {σ : VS} {h : Hv} : eFld C f fa σ h = (fa σ h).bind fun d h1 => (match (fldsOf h1 C d).bind fun fs => fs.lookup f with
  | some x => .ok x h1
  | none => .stuck) := rfl
def kSF (C f : Str) (fa : ES) (σ : VS) (y : D) (h1 : Hv) : RS := (fa σ h1).then σ fun d h2 => (match d with
  | .cell n => (match h2[n]? with
    | some (.ins c fs) => if c = C ∧ fs.length < 1000 then .next σ (h2.set n (.ins c (putS f y fs))) else .stuck
    | _ => .stuck)
  | _ => .stuck)
@[simp] theorem sSetFld_ap {C f : Str} {fa fv : ES} {σ : VS} {h : Hv} : sSetFld C f fa fv σ h = (fv σ h).then σ (kSF C f fa σ) := rfl
@[simp] theorem kSF_ap {C f : Str} {fa : ES} {σ : VS} {y : D} {h1 : Hv} : kSF C f fa σ y h1 = (fa σ h1).then σ fun d h2 => (match d with
  | .cell n => (match h2[n]? with
    | some (.ins c fs) => if c = C ∧ fs.length < 1000 then RS.next σ (h2.set n (.ins c (putS f y fs))) else .stuck
    | _ => .stuck)
  | _ => .stuck) := rfl
@[simp] theorem fldsOf_cell {h : Hv} {C : Str} {n : Nat} : fldsOf h C (.cell n) = (match h[n]? with
  | some (.ins c fs) => if c = C then some fs else none
  | _ => none) := rfl
theorem mkR_ok {C : Str} {sem : List D → Hv → R D} {ds : List D} {h h2 : Hv} (e : sem (.cell h.length :: ds) (h ++ [.ins C []]) = .ok .non h2) : mkR C sem ds h = .ok (.cell h.length) h2 := by
  unfold mkR
  rw [e]
theorem mkR_exc {C : Str} {sem : List D → Hv → R D} {ds : List D} {h h2 : Hv} {x : Xn} (e : sem (.cell h.length :: ds) (h ++ [.ins C []]) = .exc x h2) : mkR C sem ds h = exitX h.length x h2 := by
  unfold mkR
  rw [e]
theorem callC_exc {sem : List D → Hv → R D} {ds ds' : List D} {h : Hv} {x : Xn} (hp : pureD ds = some ds') (e : sem ds' [] = .exc x []) : callC sem ds h = .exc x h := by
  unfold callC
  rw [hp]
  simp only [e]
end
end VD

set_option Elab.async false
set_option linter.all false
set_option maxRecDepth 100000
set_option maxHeartbeats 4000000
namespace VD
open PySem PySem.Spec PyProof.Rows L2
noncomputable section
/-! ### a def that is handed what an except suite holds -/
theorem pss_noxS {X : Cx} {a : Addr} {oe : Obj} {E : Value → Shared → Prop} {st : List Stmt} {t : TS} (h : PSs (X.suite a [(a, oe)]) st t) : PSs ({ (X.suite a [(a, oe)]) with xe := E }) st t := PSs.nox (X := { (X.suite a [(a, oe)]) with xe := E }) h
/-- its promise, for the one object -/
structure FnP (P : Program) (w : World) (K : PySem.W.Frag) (mg : Str → Option Value) (base : Heap) (k : Nat) (f : Addr) (fd : FuncData) (ps : List Str) (sp : Sp) (a : Addr) (oe : Obj) : Prop where
  len : ∀ vs H Q E, sp vs H Q E → vs.length = ps.length
  run : ∀ (A : Around) (outer : List Env) (s : Shared) (H : Hp) (us : List Value) (vs : List V) (Q : VK) (E : XK), L2H.RoomH k (A.mark (some (.ref a))) → L2H.PinOk outer H s (a, oe) → Env0 P w K mg base (A.mark (some (.ref a))) outer s H →
    BindsTo s fd ⟨us, []⟩ (ps.zip us) → Vals vs us → sp vs H Q E → codeAny (model P w) (A.mark (some (.ref a))) (.call (.ref f) ⟨us, []⟩) (CR (L2.CX P w) outer P w H s Q E) s
theorem fnP_of {P : Program} {w : World} {K : PySem.W.Frag} {mg : Str → Option Value} {base : Heap} {k : Nat} {f a : Addr} {oe : Obj} {x qual : Str} {st : Stmt} {fd : FuncData} {N ps : List Str} {sp : Sp} (F : Fun K x qual st f fd) (Sc : FnScope N ps (defScope st))
    (len : ∀ vs H Q E, sp vs H Q E → vs.length = ps.length)
    (hb : ∀ (cdv : Value) (A : Around) (outer : List Env) (s : Shared) (H : Hp) (vs : List V) (Q : VK) (E : XK), sp vs H Q E →
      ∃ t, PSs ((cxOf (L2.CX P w) P w K mg base N qual (defScope st) f cdv A outer s H E).suite a [(a, oe)]) (defBody st) t ∧ t { nx := fun _ H' => Q .non H', rt := Q } (L2.start N vs) H) : FnP P w K mg base (k + 1) f fd ps sp a oe := by
  obtain ⟨oc, od, kV, doc, pm, an, cdv, ct, osl, rfl, lk, hcd⟩ := F.ex
  refine ⟨len, fun A outer s H us vs Q E room pin e0 bd rv want => ?_⟩
  have inK : K.In s.heap := e0.mod.kin.keeps fun b o e => (e0.bs b o e).1
  have nolim : s.heap.NoLimit := e0.mod.nolimit.keeps fun b o e => (e0.bs b o e).1
  have kinds : ∀ y ∈ ps.zip us, (defScope st).names.lookup y.1 = some .local ∨ ((defScope st).names.lookup y.1 = some .cell ∧ ((cellsFrom (s.heap.objs.size + 1) (defScope st).names []).lookup y.1).isSome = true) := by
    rintro ⟨n, v⟩ hy
    exact (Sc.par n (List.of_mem_zip hy).1).imp id fun q => ⟨q, PySem.W.cellsFrom_some _ _ _ (.inl q)⟩
  refine codeAny_call_function room.depth (inK _ _ lk) rfl Sc.co Sc.gen rfl (PySem.W.codeRec_of inK hcd) (bd _ _ _ _ (wpAny_newFunctionEnv_cells Sc.kind kinds fun env he s1 call => ?_))
  subst he
  refine ⟨nolim.keeps call.toInCall.keep, codeAny_func ?_⟩
  obtain ⟨t, ht, hq⟩ := hb cdv A outer s H vs Q E want
  have I := L2H.inv_startH (CX := L2.CX P w) (A := A.mark (some (.ref a))) (E := E) Sc pin e0 (len _ _ _ _ want) rv call
  refine wpAny_mono ((pss_noxS ht).run [] s1 (L2.start N vs) H _ I hq) (fun fl s' done => ?_) fun _ _ z => z
  cases fl with
  | ret u =>
    obtain ⟨v, σ', H', J, r, q⟩ := done
    exact ⟨v, H', J.os, J.bare, J.base, J.hok, r, q⟩
  | next =>
    obtain ⟨σ', H', J, q⟩ := done
    exact ⟨.non, H', J.os, J.bare, J.base, J.hok, rfl, q⟩
  | brk => exact done.choose_spec.choose_spec.2.elim
  | cont => exact done.choose_spec.choose_spec.2.elim
/-! its reading -/
def spN (K : PySem.W.Frag) (sem : List D → Hv → R D) : Sp := fun vs H Q E => ∃ S ds d, Ex S H ∧ RpA K [] S vs ds ∧ sem ds [] = .ok d [] ∧ Post K (repV K) [] S H (.ok d []) Q E
theorem fnS_ok {np nl : Nat} {body : SS} {ds : List D} {h h2 : Hv} {d : D} (e : fnS np nl body ds h = .ok d h2) : ds.length = np := fnS_len (nl := nl) (body := body) (h := h) fun z => by rw [z] at e; cases e
theorem fnP_ok {P : Program} {w : World} {K : PySem.W.Frag} {mg : Str → Option Value} {base : Heap} {k np nl : Nat} {f a : Addr} {oe : Obj} {x qual : Str} {st : Stmt} {fd : FuncData} {N ps : List Str} {body : SS} (F : Fun K x qual st f fd) (Sc : FnScope N ps (defScope st)) (hps : ps.length = np) (hN : N.length = np + nl)
    (hb : ∀ (cdv : Value) (A : Around) (outer : List Env) (s : Shared) (H : Hp) (E : XK), QB ((cxOf (L2.CX P w) P w K mg base N qual (defScope st) f cdv A outer s H E).suite a [(a, oe)]) W00 (defBody st) body) : FnP P w K mg base (k + 1) f fd ps (spN K (fnS np nl body)) a oe := by
  refine fnP_of F Sc (fun vs H Q E h => ?_) fun cdv A outer s H vs Q E h => ?_
  · obtain ⟨S, ds, d, _, ra, e, _⟩ := h
    rw [ra.length, hps, fnS_ok e]
  · obtain ⟨S, ds, d, sub, ra, e, post⟩ := h
    obtain ⟨t, h1, h2⟩ := hb cdv A outer s H E
    have hl := fnS_ok e
    refine ⟨t, h1, h2.run (Rel.bare sub) (relS_start ra nl N (by rw [hl]; exact hN)) ?_⟩
    unfold fnS at e
    rw [if_pos hl] at e
    have out : ∀ {φ' S' H' h' d0 v}, Rel K φ' S' H' h' → Step [] S H φ' S' H' → Rp K φ' S' v d0 → exitD 0 d0 h' = .ok d [] → Q v H' := fun {φ' S' H' h' d0 v} r2 st rv e => by
      unfold exitD at e
      split at e
      · next d' h'' q1 q2 =>
        split at e
        · next hn =>
          cases e
          obtain ⟨s2, _⟩ := exit_step st r2
          exact post v _ _ H' (exit_rel r2 hn q2) s2 (frz_ok r2 _ _ _ _ rv q1)
        · cases e
      · cases e
    cases hq : body (ds.map some ++ List.replicate nl none) [] with
    | next σ' h' =>
      simp only [hq] at e
      exact fun σ1 φ' S' H' r2 _ st => out r2 st .non e
    | ret d0 h' =>
      simp only [hq] at e
      exact fun v φ' S' H' r2 st rv => out r2 st rv e
    | brk σ' h' => simp only [hq] at e; cases e
    | cont σ' h' => simp only [hq] at e; cases e
    | stuck => simp only [hq] at e; cases e
    | exc x σ' h' =>
      simp only [hq] at e
      unfold exitX at e
      split at e
      · split at e
        · split at e <;> cases e
        · cases e
      · split at e
        · split at e <;> cases e
        · cases e
def OkX (P : Program) (w : World) (K : PySem.W.Frag) (mg : Str → Option Value) (base : Heap) (k : Nat) (f : Str) (ps : List Str) (sem : Xn → Addr → Addr → List D → Hv → R D) : Prop :=
  ∃ fd, (∀ (x : Xn) (a dd : Addr) (oe : Obj), Zc (.ref (He.ga K x.cls)) (exA dd x.pay) oe → (∃ vs, oe.data = .fields vs) → FnP P w K mg base k (He.ga K f) fd ps (spN K (sem x a dd)) a oe) ∧ Binds K fd ps [] ∧ mg f = some (.ref (He.ga K f)) ∧ PySem.W.keepIn K (.ref (He.ga K f)) = true
theorem okX_mk {P : Program} {w : World} {K : PySem.W.Frag} {mg : Str → Option Value} {base : Heap} {f : Str} {st : Stmt} {fd : FuncData} {N ps : List Str} {k np nl : Nat} {body : Xn → Addr → Addr → SS} (F : Fun K f f st (He.ga K f) fd) (Sc : FnScope N ps (defScope st)) (hps : ps.length = np) (hN : N.length = np + nl)
    (g : mg f = some (.ref (He.ga K f))) (b : Binds K fd ps [])
    (hb : ∀ (x : Xn) (a dd : Addr) (oe : Obj), Zc (.ref (He.ga K x.cls)) (exA dd x.pay) oe → (∃ vs, oe.data = .fields vs) → ∀ (cdv : Value) (A : Around) (outer : List Env) (s : Shared) (H : Hp) (E : XK),
      QB ((cxOf (L2.CX P w) P w K mg base N f (defScope st) (He.ga K f) cdv A outer s H E).suite a [(a, oe)]) W00 (defBody st) (body x a dd)) : OkX P w K mg base (k + 1) f ps (fun x a dd => fnS np nl (body x a dd)) :=
  ⟨fd, fun x a dd oe hz hf => fnP_ok F Sc hps hN (hb x a dd oe hz hf), b, g, F.kp⟩
/-! its call -/
def bareX : D → Option D
  | .raw v => some (.raw v)
  | .exv a dd f d => (frz 0 [] 12 d).map (.exv a dd f)
  | _ => none
theorem bareX_ok {K : PySem.W.Frag} {φ : List Addr} {S : Hp} {v : V} {d d' : D} (r : Rp K φ S v d) (e : bareX d = some d') : Rp K [] S v d' := by
  cases r with
  | raw v => cases e; exact .raw v
  | @exv a dd f v d h1 h2 =>
    obtain ⟨p, q, rfl⟩ := Option.map_eq_some_iff.mp (show (frz 0 [] 12 d).map (.exv _ dd f) = some d' from e)
    exact .exv h1 (frz0_ok _ _ _ _ h2 q)
  | _ => cases e
def callX (sem : List D → Hv → R D) (ds : List D) (h : Hv) : R D := match ds with
  | [d] => (match bareX d with
    | some d' => (match sem [d'] [] with
      | .ok r [] => .ok r h
      | _ => .stuck)
    | none => .stuck)
  | _ => .stuck
theorem spN_ok {K : PySem.W.Frag} {sem : List D → Hv → R D} {φ : List Addr} {S H : Hp} {h : Hv} {ds : List D} {vs : List V} {Q : VK} {E : XK} (rl : Rel K φ S H h) (ra : RpA K φ S vs ds) (post : Post K (repV K) φ S H (callX sem ds h) Q E) : spN K sem vs H Q (fun _ _ _ => False) := by
  unfold callX at post
  split at post
  · next d =>
    split at post
    · next d' q =>
      split at post
      · next r hs =>
        cases ra with
        | cons r1 r2 =>
          cases r2
          refine ⟨S, [d'], r, rl.sub, .cons (bareX_ok r1 q) .nil, hs, ?_⟩
          intro v φ' S' H' r2 st rv
          obtain ⟨rfl, r3, s3⟩ := rl.frame r2 st
          exact post v φ S' H' r3 s3 (Rp.mono ⟨φ, rfl⟩ (Ex.refl _) rv)
      · exact post.elim
    · exact post.elim
  · exact post.elim
section
variable {X : Cx} {W : WX} {k : Nat} {f : Str} {ps : List Str} {sem : Xn → Addr → Addr → List D → Hv → R D} {x : Xn} {a dd : Addr} {oe : Obj} {pn : List (Addr × Obj)} {p pos : Pos} {e : Expr} {es : List Expr} {la : LS}
theorem se_fnX (o : OkX X.prog X.w X.K X.mg X.base k f ps sem) (hr : Room k X.A) (hz : Zc (.ref (He.ga X.K x.cls)) (exA dd x.pay) oe) (hfl : ∃ vs, oe.data = .fields vs) (ha : SA (X.suite a ((a, oe) :: pn)) W (e :: es) la)
    (hg : Gl (X.suite a ((a, oe) :: pn)) f := by rfl) (hdb : (f == ("__debug__" : Str)) = false := by decide) (he : starEach (e :: es) (X.suite a ((a, oe) :: pn)).env = (false, eval e (X.suite a ((a, oe) :: pn)).env) :: starEach es (X.suite a ((a, oe) :: pn)).env := by rfl)
    (hpl : (backTo pos (starEach es (X.suite a ((a, oe) :: pn)).env)).any (·.1) = false := by rfl) :
    SE (X.suite a ((a, oe) :: pn)) W (.Call (.Name f p) (e :: es) [] pos) (eCa (callX (sem x a dd)) la) := by
  obtain ⟨fd, F, b, g, kp⟩ := o
  obtain ⟨t, h1, h2⟩ := ha
  have Fx := F x a dd oe hz hfl
  refine ⟨tCallS (fun vs H Q _ => spN X.K (sem x a dd) vs H Q (fun _ _ _ => False)) (fun _ _ _ _ => False) t, ⟨fun pins s σ H Q I h => ?_⟩, ⟨fun rl rs post => h2.bind rl rs post fun ds hh vs φ1 S1 H1 rl1 rs1 st rp post => spN_ok rl1 rp post⟩⟩
  refine wpAny_Call_Name_kw (ld_glob I hg g ?_ hdb)
  refine PySem.W.callWith_K (h₀ := X.base) I.ok.mod.kin kp (thn (h1.run pos pins s σ H _ I h) fun us s1 ⟨vs, H1, I1, r, q⟩ => ⟨I1.kIn, ?_⟩) he hpl
  have hl : us.length = ps.length := by rw [← r.length]; exact Fx.len _ _ _ _ q
  have bd := b s1 us I1.kIn (by rw [List.append_nil]; exact hl)
  rw [List.append_nil] at bd
  obtain ⟨p1, p2, p3, p4, p5⟩ := I1.pin (a, oe) (List.mem_append_left _ List.mem_cons_self)
  have pin : L2H.PinOk X.stack H1 s1 (a, oe) := ⟨p1, p2, fun hm => (List.mem_cons.mp (I1.stkSub a hm)).elim p3 p4, p5⟩
  refine wpAny_call (codeAny_mono (Fx.run X.A X.stack s1 H1 us vs Q _ ⟨hr.dp, hr.un⟩ pin I1.env0 bd r q) fun r s' hq => ?_)
  cases r with
  | error e => exact (cx_false hq).elim
  | ok fl =>
    cases fl with
    | ret u => exact I1.after hq
    | next => exact hq.elim
    | brk => exact hq.elim
    | cont => exact hq.elim
end
end
end VD

set_option Elab.async false
set_option linter.all false
set_option maxRecDepth 100000
set_option maxHeartbeats 4000000
namespace VD
open PySem PySem.Spec PyProof.Rows L2
noncomputable section
/-! ### zip of two tuples, to the end of the shorter one -/
theorem zipD_min : ∀ xs ys : List D, (zipD xs ys).length = min xs.length ys.length
  | [], [] => rfl
  | [], _ :: _ => by show 0 = _; simp
  | _ :: _, [] => by show 0 = _; simp
  | x :: xs, y :: ys => by
    show (zipD xs ys).length + 1 = min (xs.length + 1) (ys.length + 1)
    rw [zipD_min xs ys]; omega
def iZT (g : LS) : IS := fun σ h => (g σ h).bind fun ds h1 => match ds with
  | [.tup xs, .tup ys] => .ok (zipD xs ys, always) h1
  | _ => .stuck
@[simp] theorem iZT_ap {g : LS} {σ : VS} {h : Hv} : iZT g σ h = (g σ h).bind fun ds h1 => (match ds with
  | [.tup xs, .tup ys] => VD.R.ok (zipD xs ys, always) h1
  | _ => .stuck) := rfl
section
variable {X : Cx} {W : WX} {e e2 : Expr} {la : LS} {p pos : Pos}
theorem qi_zipT {elts : List Expr} {kk : Nat} {tpos : Pos} (hm : X.mg "zip" = none) (ha : SA X W [e, e2] la) (hg : Gl X "zip" := by rfl) (hs : starEach [e, e2] X.env = (false, eval e X.env) :: starEach [e2] X.env := by rfl) (hpl : (backTo pos (starEach [e2] X.env)).any (·.1) = false := by rfl) :
    QI X W (.Tuple elts kk tpos) (.Call (.Name "zip" p) [e, e2] [] pos) (iZT la) := by
  obtain ⟨ta, h1, h2⟩ := ha
  refine ⟨_, RZ.pi_zipA hg hm h1 hs hpl, ⟨fun rl rs post => h2.bind rl rs post fun ds h1 vs φ1 S1 H1 rl1 rs1 st rp post => ?_⟩⟩
  have ra : RpA X.K φ1 S1 vs ds := rp
  split at post
  · next xs ys =>
    obtain ⟨v, w, rfl, r, r2⟩ := ra.two
    obtain ⟨a, vs, rfl, a1, a2⟩ := tup_of r
    obtain ⟨b, ws, rfl, b1, b2⟩ := tup_of r2
    refine ⟨a, b, vs, ws, rfl, .inr ⟨rl1.sub.sqt a1, rl1.sub.sqt b1, post (RZ.ItzT X.K a b) φ1 S1 H1 rl1 (Step.refl _ _ _) ⟨fun {i φ S H h} r2 pr ex _ hi => ?_, fun {φ S H h} r2 pr ex _ => ?_⟩⟩⟩
    · rw [zipD_min] at hi
      have hi1 : i < xs.length := by omega
      have hi2 : i < ys.length := by omega
      have s1 : SqT X.K H a vs := r2.sub.sqt (ex.sqt a1)
      have s2 : SqT X.K H b ws := r2.sub.sqt (ex.sqt b1)
      obtain ⟨u1, hu1, ru1⟩ := a2.at (List.getElem?_eq_getElem hi1)
      obtain ⟨u2, hu2, ru2⟩ := b2.at (List.getElem?_eq_getElem hi2)
      refine ⟨⟨vs, ws, u1, u2, s1, s2, hu1, hu2⟩, fun z H' yl => ?_⟩
      obtain ⟨T, x1, x2, rfl, nT, rfl, f1, f2⟩ := yl
      have e1 := f1 vs s1
      rw [hu1] at e1
      cases e1
      have e2 := f2 ws s2
      rw [hu2] at e2
      cases e2
      obtain ⟨r3, s3⟩ := r2.lay (o := .tup [u1, u2]) nT
      exact ⟨upd S T (.tup [u1, u2]), _, zipD_at (List.getElem?_eq_getElem hi1) (List.getElem?_eq_getElem hi2), r3, s3, .tup (.inl (.inl upd_same)) (.cons (Rp.mono pr (ex.trans s3.sub) ru1) (.cons (Rp.mono pr (ex.trans s3.sub) ru2) .nil))⟩
    · refine ⟨vs, ws, r2.sub.sqt (ex.sqt a1), r2.sub.sqt (ex.sqt b1), ?_⟩
      rw [zipD_min, a2.length, b2.length]
      omega
  · exact post.elim
end
end
end VD

set_option Elab.async false
set_option linter.all false
set_option maxRecDepth 100000
set_option maxHeartbeats 4000000
namespace VD
open PySem PySem.Spec PyProof.Rows L2
noncomputable section
/-! ### texts as lists of signs; cells mixed -/
abbrev sx (cs : List Nat) : Str := ⟨cs.toArray⟩
abbrev tx (cs : List Nat) : D := .str (sx cs)
theorem sx_len (cs : List Nat) : (sx cs).length = cs.length := by
  show (cs.toArray).size = _
  simp
theorem sx_inj {a b : List Nat} : sx a = sx b ↔ a = b := by
  constructor
  · intro e
    have := congrArg (fun z : Str => z.cps.toList) e
    simpa using this
  · intro e; rw [e]
theorem sx_app (a b : List Nat) : (sx a ++ sx b : Str) = sx (a ++ b) := by
  show Str.mk _ = Str.mk _
  simp
@[simp] theorem oAdd_tx {a b : List Nat} {h : Hv} (hl : a.length + b.length ≤ 16777216) : oAdd (tx a) (tx b) h = .ok (tx (a ++ b)) h := by
  rw [oAdd_str, sx_len, sx_len, if_pos hl, sx_app]
@[simp] theorem signsD_tx (cs : List Nat) : signsD (sx cs) = cs.map fun c => tx [c] := by
  unfold signsD
  simp
@[simp] theorem ixD_tx {cs : List Nat} {h : Hv} {k : Int} (hl : cs.length ≤ 16777216) (h0 : 0 ≤ k) (h1 : k < cs.length) : ixD h (tx cs) k = some (tx [cs[k.toNat]?.getD 0]) := by
  rw [ixD_str, sx_len, if_pos hl]
  have e : (sx cs).cps.toList = cs := by simp
  rw [e]
  obtain ⟨a, _, h3, h4⟩ := atI_get (xs := cs) h0 h1
  rw [h4, h3]
  rfl
theorem slD_tx_to {cs : List Nat} {n : Int} (hl : cs.length ≤ 16777216) (h0 : 0 ≤ n) : slD (tx cs) none (some n) = some (tx (cs.take n.toNat)) := by
  show (if (sx cs).length ≤ 16777216 then some (D.str (cutS (sx cs) none (some n))) else none) = _
  rw [sx_len, if_pos hl]
  have e : cutS (sx cs) none (some n) = sx (cs.take n.toNat) := by
    unfold cutS
    have e1 : HT.sIx (sx cs).length (sx cs).length (some n) = min n.toNat cs.length := by
      show (if n < 0 then _ else min n.toNat (sx cs).length) = _
      rw [if_neg (by omega), sx_len]
    rw [e1, HT.sIx_none]
    have e2 : (sx cs).cps.toList = cs := by simp
    rw [e2, List.drop_zero, Nat.sub_zero]
    show Str.mk _ = Str.mk _
    congr 2
    rw [List.take_eq_take_iff]
    omega
  rw [e]
theorem slD_tx_from {cs : List Nat} {n : Int} (hl : cs.length ≤ 16777216) (h0 : 0 ≤ n) : slD (tx cs) (some n) none = some (tx (cs.drop n.toNat)) := by
  show (if (sx cs).length ≤ 16777216 then some (D.str (cutS (sx cs) (some n) none)) else none) = _
  rw [sx_len, if_pos hl]
  have e : cutS (sx cs) (some n) none = sx (cs.drop n.toNat) := by
    unfold cutS
    have e1 : HT.sIx (sx cs).length 0 (some n) = min n.toNat cs.length := by
      show (if n < 0 then _ else min n.toNat (sx cs).length) = _
      rw [if_neg (by omega), sx_len]
    have e2 : (sx cs).cps.toList = cs := by simp
    rw [e1, HT.sIx_none, e2, sx_len]
    show Str.mk _ = Str.mk _
    congr 1
    rw [List.take_of_length_le (by rw [List.length_drop]; exact Nat.le_refl _)]
    by_cases q : n.toNat ≤ cs.length
    · rw [Nat.min_eq_left q]
    · rw [Nat.min_eq_right (by omega), List.drop_of_length_le (Nat.le_refl _), List.drop_of_length_le (by omega)]
  rw [e]
@[simp] theorem lenD_tx {cs : List Nat} {h : Hv} (hl : cs.length ≤ 16777216) : lenD h (tx cs) = some (cs.length : Int) := by rw [lenD_str, sx_len, if_pos hl]
@[simp] theorem oLt_tx {a b : List Nat} {h : Hv} : oLt (tx a) (tx b) h = .ok (.bl (decide (a < b))) h := by
  rw [oLt_str]
theorem eqD_tx {a b : List Nat} {h : Hv} : eqD h (tx a) (tx b) = some (decide (a = b)) := by
  rw [eqD_str]
  congr 1
  rw [decide_eq_decide, sx_inj]
/-- signs of words -/
def alnum : List Nat := [48, 49, 50, 51, 52, 53, 54, 55, 56, 57, 97, 98, 99, 100, 101, 102, 103, 104, 105, 106, 107, 108, 109, 110, 111, 112, 113, 114, 115, 116, 117, 118, 119, 120, 121, 122]

def AN : Str := sx [48, 49, 50, 51, 52, 53, 54, 55, 56, 57, 97, 98, 99, 100, 101, 102, 103, 104, 105, 106, 107, 108, 109, 110, 111, 112, 113, 114, 115, 116, 117, 118, 119, 120, 121, 122]
def plc (c : Nat) : Int := if c < 58 then (c : Int) - 48 else (c : Int) - 87
theorem find_an : ∀ c ∈ alnum, Txt.find "0123456789abcdefghijklmnopqrstuvwxyz" (sx [c]) = plc c := by decide +kernel
theorem an_cases {c : Nat} (h : c ∈ alnum) : (48 ≤ c ∧ c ≤ 57) ∨ (97 ≤ c ∧ c ≤ 122) := by
  have key : ∀ c ∈ alnum, (48 ≤ c ∧ c ≤ 57) ∨ (97 ≤ c ∧ c ≤ 122) := by decide
  exact key c h
theorem plc_lt {c d : Nat} (h : c ∈ alnum) (k : d ∈ alnum) : (plc c < plc d ↔ c < d) ∧ (plc c = plc d ↔ c = d) := by
  have := an_cases h
  have := an_cases k
  unfold plc
  split <;> split <;> omega
theorem lit_ix {s : Str} {cs : List Nat} {P : Nat → Prop} (es : s = sx cs) (hl : cs.length ≤ 16777216) (hp : ∀ c ∈ cs, P c) {k : Int} {h : Hv} (h0 : 0 ≤ k) (h1 : k < cs.length) : ∃ c, ixD h (.str s) k = some (tx [c]) ∧ P c := by
  rw [es, ixD_tx hl h0 h1]
  refine ⟨_, rfl, hp _ ?_⟩
  have h2 : k.toNat < cs.length := by omega
  rw [List.getElem?_eq_getElem h2]
  exact List.getElem_mem h2
theorem alph_eq : ("abcdefghijklmnopqrstuvwxyz0123456789" : Str) = sx [97, 98, 99, 100, 101, 102, 103, 104, 105, 106, 107, 108, 109, 110, 111, 112, 113, 114, 115, 116, 117, 118, 119, 120, 121, 122, 48, 49, 50, 51, 52, 53, 54, 55, 56, 57] := by decide +kernel
/-! cells -/
def cellF (ns : List Int) (k : Int) : Int := if k < ns.length then gI ns k else 0
def cellB : SS := sSeq (sIf (toB (eOp oLt (eVar 1) (eCa bLen (aCons (eVar 0) (aNil))))) (sRet (eOp oIx (eVar 0) (eVar 1))) (sNext)) (sRet (eK (.int 0)))
def cellM : List D → Hv → R D := fnS 2 0 cellB
theorem cellM_eq {ns : List Int} {k : Int} (h0 : 0 ≤ k) : cellM [scr ns, .int k] [] = .ok (.int (cellF ns k)) [] := by
  refine fnS_of (P := fun r => r = .ok (.int (cellF ns k)) []) rfl ?_
  unfold cellB cellF
  by_cases q : k < ns.length
  · simp [q, ix_ints h0 q]
  · simp [q]
theorem callP_cell {ns : List Int} {k : Int} {h : Hv} (h0 : 0 ≤ k) : callP cellM [scr ns, .int k] h = .ok (.int (cellF ns k)) h := callP_ok (by simp) (cellM_eq h0)
def mixT (s k : Int) : Int := (s % 2147483647 * 48271 + k * 7919 + 11) % 2147483647
def mixF (s k : Int) : Int := mixT s k * mixT s k % 2147483629 * 69621 % 2147483647
theorem mixF_bd (s k : Int) : 0 ≤ mixF s k ∧ mixF s k < 2147483647 := ⟨Int.emod_nonneg _ (by decide), Int.emod_lt_of_pos _ (by decide)⟩
def mixB : SS := sSeq (sSet 2 (eOp oMod (eOp oAdd (eOp oAdd (eOp oMul (eOp oMod (eVar 0) (eK (.int 2147483647))) (eK (.int 48271))) (eOp oMul (eVar 1) (eK (.int 7919)))) (eK (.int 11))) (eK (.int 2147483647)))) (sRet (eOp oMod (eOp oMul (eOp oMod (eOp oMul (eVar 2) (eVar 2)) (eK (.int 2147483629))) (eK (.int 69621))) (eK (.int 2147483647))))
def mixM : List D → Hv → R D := fnS 2 1 mixB
theorem mixM_eq {s k : Int} (h0 : 0 ≤ k) (h1 : k < 10 ^ 30) : mixM [.int s, .int k] [] = .ok (.int (mixF s k)) [] := by
  refine fnS_of (P := fun r => r = .ok (.int (mixF s k)) []) rfl ?_
  unfold mixB
  have b1 : 0 ≤ s % 2147483647 := Int.emod_nonneg _ (by decide)
  have b2 : s % 2147483647 < 2147483647 := Int.emod_lt_of_pos _ (by decide)
  have b3 : 0 ≤ mixT s k := Int.emod_nonneg _ (by decide)
  have b4 : mixT s k < 2147483647 := Int.emod_lt_of_pos _ (by decide)
  have e1 : (s % 2147483647 * 48271 + k * 7919 + 11) % 2147483647 = mixT s k := rfl
  have b5 : 0 ≤ mixT s k * mixT s k % 2147483629 := Int.emod_nonneg _ (by decide)
  have b6 : mixT s k * mixT s k % 2147483629 < 2147483629 := Int.emod_lt_of_pos _ (by decide)
  simp (disch := omega) [e1, mixF]
theorem callP_mix {s k : Int} {h : Hv} (h0 : 0 ≤ k) (h1 : k < 10 ^ 30) : callP mixM [.int s, .int k] h = .ok (.int (mixF s k)) h := callP_ok (by simp) (mixM_eq h0 h1)
/-! more of texts -/
@[simp] theorem oIn_sign {c : Nat} {ss : List Nat} {h : Hv} : oIn (tx [c]) (tx ss) h = .ok (.bl (decide (c ∈ ss))) h := by
  show (match inD h (tx [c]) (tx ss) with | some b => R.ok (D.bl b) h | none => .stuck) = _
  have e : inD h (tx [c]) (tx ss) = some (decide (c ∈ (sx ss).cps.toList)) := rfl
  rw [e]
@[simp] theorem oNotIn_sign {c : Nat} {ss : List Nat} {h : Hv} : oNotIn (tx [c]) (tx ss) h = .ok (.bl (!decide (c ∈ ss))) h := by
  show (match inD h (tx [c]) (tx ss) with | some b => R.ok (D.bl (!b)) h | none => .stuck) = _
  have e : inD h (tx [c]) (tx ss) = some (decide (c ∈ (sx ss).cps.toList)) := rfl
  rw [e]
theorem join_sx (s : List Nat) (ps : List (List Nat)) : Txt.join (sx s) (ps.map sx) = sx (TL.joinL s ps) := by
  show Builtin.Str.glued _ _ = _
  rw [StrLaws.glued_eq_join]
  have e := TL.tl_join (sx s) (ps.map sx)
  rw [List.map_map] at e
  have e2 : (TL.tl ∘ sx) = fun p : List Nat => p := by funext p; show (sx p).cps.toList = p; simp
  rw [e2, List.map_id'] at e
  have e3 : TL.tl (sx s) = s := by show (sx s).cps.toList = s; simp
  rw [e3] at e
  show Str.join (sx s) (ps.map sx) = sx (TL.joinL s ps)
  have key : ∀ z : Str, z = sx (TL.tl z) := fun z => by
    cases z with
    | mk a => show Str.mk a = Str.mk (a.toList).toArray; simp
  rw [key (Str.join (sx s) (ps.map sx)), e]
theorem joinL_signs : ∀ cs : List Nat, TL.joinL [] (cs.map fun c => [c]) = cs
  | [] => rfl
  | [_] => rfl
  | c :: d :: r => by
    have ih := joinL_signs (d :: r)
    show [c] ++ ([] ++ TL.joinL [] ((d :: r).map fun c => [c])) = _
    rw [ih]; rfl
theorem toS_tx (ps : List (List Nat)) : optAll toS (ps.map tx) = some (ps.map sx) := by
  have := optAll_map (g := toS) (e := tx) (e' := sx) (xs := ps) fun _ _ => rfl
  exact this
theorem oJoin_ap {s : List Nat} {ps : List (List Nat)} {y : D} {h : Hv} (e : sqOf h y = some (ps.map tx)) (hl : (ps.map (·.length)).sum + ps.length * s.length ≤ 16777216) : oJoin (tx s) y h = .ok (tx (TL.joinL s ps)) h := by
  unfold oJoin
  rw [e]
  simp only [Option.bind_some, toS_tx]
  rw [if_pos, join_sx]
  have e2 : (ps.map sx).map (·.length) = ps.map (·.length) := by
    rw [List.map_map]
    exact List.map_congr_left fun p _ => sx_len p
  rw [e2, List.length_map, sx_len]
  exact hl
theorem frz_txs {n0 n : Nat} {h : Hv} {ps : List (List Nat)} : optAll (frz n0 h (n + 1)) (ps.map tx) = some (ps.map tx) := optAll_map fun _ _ => rfl
def smL : List Nat := [97, 98, 99, 100, 101, 102, 103, 104, 105, 106, 107, 108, 109, 110, 111, 112, 113, 114, 115, 116, 117, 118, 119, 120, 121, 122]
def fgL : List Nat := [48, 49, 50, 51, 52, 53, 54, 55, 56, 57]
theorem sm_eq : ("abcdefghijklmnopqrstuvwxyz" : Str) = sx smL := by decide +kernel
theorem fg_eq : ("0123456789" : Str) = sx fgL := by decide +kernel
theorem smfg_eq : ("abcdefghijklmnopqrstuvwxyz0123456789" : Str) = sx (smL ++ fgL) := by decide +kernel
theorem nil_eq : ("" : Str) = sx [] := by decide +kernel
@[simp] theorem lenD_tx0 {h : Hv} : lenD h (tx []) = some 0 := lenD_tx (cs := []) (by decide)
theorem toPy_signs {h : Hv} {n : Nat} (xs : List Nat) : optAll (toPy h (n + 1)) (xs.map fun c => tx [c]) = some (xs.map fun c => PyData.str (sx [c])) := optAll_map (g := toPy h (n + 1)) (e := fun c => tx [c]) (e' := fun c => PyData.str (sx [c])) fun _ _ => rfl
theorem nw_ne : ¬ (("number" : Str) = "word") := by decide
end
end VD

set_option Elab.async false
set_option linter.all false
set_option maxRecDepth 100000
set_option maxHeartbeats 4000000
/-! Values, fields, rows, sieves: as data of their own, and as the layer's data. -/
namespace WT
open PySem PySem.Spec PyProof.Rows L2 VD
noncomputable section
abbrev Tx := List Nat
inductive Val where
  | no | wd (cs : Tx) | nm (i : Int)
deriving DecidableEq
def valD : Val → D
  | .no => .non
  | .wd cs => tx cs
  | .nm i => .int i
abbrev Fd := Tx × Bool
def kindS (b : Bool) : Str := if b = true then "word" else "number"
def fdD (f : Fd) : D := .tup [tx f.1, .str (kindS f.2)]
def fdsD (fs : List Fd) : D := .lst (fs.map fdD)
def rowD (r : List Val) : D := .tup (r.map valD)
inductive Sv where
  | lacks (n : Tx) | is (n : Tx) (v : Val) | under (n : Tx) (v : Val) | over (n : Tx) (v : Val) | not (s : Sv) | all (l : List Sv) | some (l : List Sv)
mutual
def svD : Sv → D
  | .lacks n => .tup [.str "lacks", tx n]
  | .is n v => .tup [.str "is", tx n, valD v]
  | .under n v => .tup [.str "under", tx n, valD v]
  | .over n v => .tup [.str "over", tx n, valD v]
  | .not s => .tup [.str "not", svD s]
  | .all l => .tup [.str "all", .tup (svL l)]
  | .some l => .tup [.str "some", .tup (svL l)]
def svL : List Sv → List D
  | [] => []
  | s :: l => svD s :: svL l
end
theorem svL_map : ∀ l : List Sv, svL l = l.map svD
  | [] => rfl
  | s :: l => by rw [svL, svL_map l]; rfl
mutual
def dep : Sv → Nat
  | .not s => dep s + 1
  | .all l => depL l + 1
  | .some l => depL l + 1
  | _ => 0
def depL : List Sv → Nat
  | [] => 0
  | s :: l => max (dep s) (depL l)
end
theorem dep_mem : ∀ {l : List Sv} {s : Sv}, s ∈ l → dep s ≤ depL l
  | t :: l, s, h => by
    rw [depL]
    cases h with
    | head => omega
    | tail _ h => have := dep_mem h; omega
mutual
theorem noC_sv : ∀ s : Sv, noC (svD s) = true
  | .lacks n => rfl
  | .is n v => by cases v <;> rfl
  | .under n v => by cases v <;> rfl
  | .over n v => by cases v <;> rfl
  | .not s => by simp [svD, noC, noCL, noC_sv s]
  | .all l => by simp [svD, noC, noCL, noC_svL l]
  | .some l => by simp [svD, noC, noCL, noC_svL l]
theorem noC_svL : ∀ l : List Sv, noCL (svL l) = true
  | [] => rfl
  | s :: l => by rw [svL, noCL, noC_sv s, noC_svL l]; rfl
end
theorem noC_val (v : Val) : noC (valD v) = true := by cases v <;> rfl
theorem noC_row (r : List Val) : noC (rowD r) = true := by
  unfold rowD
  rw [noC, noCL_all, List.all_map]
  exact List.all_eq_true.mpr fun v _ => noC_val v
theorem noC_fds (fs : List Fd) : noC (fdsD fs) = true := by
  unfold fdsD
  rw [noC, noCL_all, List.all_map]
  exact List.all_eq_true.mpr fun v _ => rfl
theorem frz_val {n0 n : Nat} {h : Hv} (v : Val) : frz n0 h (n + 1) (valD v) = some (valD v) := by cases v <;> rfl
theorem frz_row {n0 n : Nat} {h : Hv} (r : List Val) : frz n0 h (n + 2) (rowD r) = some (rowD r) := by
  show (optAll (frz n0 h (n + 1)) (r.map valD)).map D.tup = _
  rw [optAll_map (g := frz n0 h (n + 1)) (e := valD) (e' := valD) fun v _ => frz_val v]; rfl
theorem frz_fd {n0 n : Nat} {h : Hv} (f : Fd) : frz n0 h (n + 2) (fdD f) = some (fdD f) := rfl
theorem frz_fds {n0 n : Nat} {h : Hv} (fs : List Fd) : frz n0 h (n + 3) (fdsD fs) = some (fdsD fs) := by
  show (optAll (frz n0 h (n + 2)) (fs.map fdD)).map D.lst = _
  rw [optAll_map (g := frz n0 h (n + 2)) (e := fdD) (e' := fdD) fun v _ => frz_fd v]; rfl
/-! what is right -/
def okName (w : Tx) : Prop := 1 ≤ w.length ∧ w.length ≤ 12 ∧ ∀ c ∈ w, c ∈ smL
def okWord (w : Tx) : Prop := 1 ≤ w.length ∧ w.length ≤ 12 ∧ ∀ c ∈ w, c ∈ smL ++ fgL
theorem okName.word {w : Tx} (h : okName w) : okWord w := ⟨h.1, h.2.1, fun c hc => List.mem_append_left _ (h.2.2 c hc)⟩
def ValOk (b : Bool) : Val → Prop
  | .no => True
  | .wd cs => b = true ∧ okWord cs
  | .nm i => b = false ∧ -(10 ^ 60) < i ∧ i < 10 ^ 60
structure FdsOk (fs : List Fd) : Prop where
  lo : 1 ≤ fs.length
  hi : fs.length ≤ 8
  nd : (fs.map (·.1)).Nodup
  nm : ∀ f ∈ fs, okName f.1
structure RowOk (fs : List Fd) (r : List Val) : Prop where
  len : r.length = fs.length
  at_ : ∀ (i : Nat) (f : Fd) (v : Val), fs[i]? = some f → r[i]? = some v → ValOk f.2 v
theorem RowOk.get {fs : List Fd} {r : List Val} (h : RowOk fs r) {i : Nat} {f : Fd} (hi : fs[i]? = some f) : ∃ v, r[i]? = some v ∧ ValOk f.2 v := by
  have hl : i < r.length := by rw [h.len]; exact (List.getElem?_eq_some_iff.mp hi).1
  exact ⟨r[i], List.getElem?_eq_getElem hl, h.at_ i f _ hi (List.getElem?_eq_getElem hl)⟩
/-- the place of a name -/
def plN (fs : List Fd) (n : Tx) : Option Nat := match fs with
  | [] => none
  | f :: r => if f.1 = n then some 0 else (plN r n).map (· + 1)
theorem plN_some {n : Tx} : ∀ {fs : List Fd} {i : Nat}, plN fs n = some i → ∃ b, fs[i]? = some (n, b)
  | [], i, h => by cases h
  | f :: r, i, h => by
    unfold plN at h
    split at h
    · next q => cases h; exact ⟨f.2, by rw [List.getElem?_cons_zero, ← q]⟩
    · obtain ⟨j, hj, rfl⟩ := Option.map_eq_some_iff.mp h
      obtain ⟨b, hb⟩ := plN_some hj
      exact ⟨b, by rw [List.getElem?_cons_succ]; exact hb⟩
theorem plN_first {n : Tx} : ∀ {fs : List Fd} {i : Nat}, plN fs n = some i → ∀ (j : Nat) (f : Fd), j < i → fs[j]? = some f → f.1 ≠ n
  | [], i, h => by cases h
  | f :: r, i, h => by
    unfold plN at h
    split at h
    · next q => cases h; intro j g hj; omega
    · next q =>
      obtain ⟨k, hk, rfl⟩ := Option.map_eq_some_iff.mp h
      intro j g hj hg
      cases j with
      | zero => rw [List.getElem?_cons_zero] at hg; cases hg; exact q
      | succ j => rw [List.getElem?_cons_succ] at hg; exact plN_first hk j g (by omega) hg
theorem plN_none {n : Tx} : ∀ {fs : List Fd}, plN fs n = none ↔ ∀ f ∈ fs, f.1 ≠ n
  | [] => ⟨fun _ f h => (by cases h), fun _ => rfl⟩
  | f :: r => by
    unfold plN
    split
    · next q => exact ⟨fun h => (by cases h), fun h => absurd q (h f List.mem_cons_self)⟩
    · next q =>
      rw [Option.map_eq_none_iff, plN_none]
      constructor
      · intro h g hg
        cases hg with
        | head => exact q
        | tail _ hg => exact h g hg
      · exact fun h g hg => h g (List.mem_cons_of_mem _ hg)
theorem plN_at {fs : List Fd} (nd : (fs.map (·.1)).Nodup) {i : Nat} {f : Fd} (h : fs[i]? = some f) : plN fs f.1 = some i := by
  cases q : plN fs f.1 with
  | none => exact absurd rfl (plN_none.mp q f (List.mem_of_getElem? h))
  | some j =>
    obtain ⟨b, hb⟩ := plN_some q
    have e1 : (fs.map (·.1))[i]? = some f.1 := by rw [List.getElem?_map, h]; rfl
    have e2 : (fs.map (·.1))[j]? = some f.1 := by rw [List.getElem?_map, hb]; rfl
    have := (List.getElem?_inj (List.getElem?_eq_some_iff.mp e1).1 nd).mp (e1.trans e2.symm)
    rw [this]
theorem firstIxS_names {n : Tx} : ∀ {fs : List Fd}, firstIxS (sx n) (fs.map fun f => sx f.1) = plN fs n
  | [] => rfl
  | f :: r => by
    rw [List.map_cons]
    unfold firstIxS plN
    rw [firstIxS_names]
    by_cases q : f.1 = n
    · rw [if_pos q, if_pos (by rw [q])]
    · rw [if_neg q, if_neg (fun z => q (sx_inj.mp z))]
/-! a sieve's own reading -/
def rowAt (fs : List Fd) (r : List Val) (n : Tx) : Val := ((plN fs n).bind fun i => r[i]?).getD .no
def letV : Sv → Val → Bool
  | .lacks _, v => decide (v = .no)
  | .is _ u, v => decide (v ≠ .no ∧ v = u)
  | .under _ u, v => match v, u with
    | .nm a, .nm b => decide (a < b)
    | .wd a, .wd b => decide (a < b)
    | _, _ => false
  | .over _ u, v => match v, u with
    | .nm a, .nm b => decide (b < a)
    | .wd a, .wd b => decide (b < a)
    | _, _ => false
  | _, _ => false
mutual
def lets (fs : List Fd) (r : List Val) : Sv → Bool
  | .not s => !lets fs r s
  | .all l => letsAll fs r l
  | .some l => letsSome fs r l
  | .lacks n => letV (.lacks n) (rowAt fs r n)
  | .is n u => letV (.is n u) (rowAt fs r n)
  | .under n u => letV (.under n u) (rowAt fs r n)
  | .over n u => letV (.over n u) (rowAt fs r n)
def letsAll (fs : List Fd) (r : List Val) : List Sv → Bool
  | [] => true
  | s :: l => lets fs r s && letsAll fs r l
def letsSome (fs : List Fd) (r : List Val) : List Sv → Bool
  | [] => false
  | s :: l => lets fs r s || letsSome fs r l
end
section
variable {fs : List Fd} {r : List Val}
theorem letsAll_all : ∀ l : List Sv, letsAll fs r l = l.all (lets fs r)
  | [] => rfl
  | s :: l => by rw [letsAll, letsAll_all l]; rfl
theorem letsSome_any : ∀ l : List Sv, letsSome fs r l = l.any (lets fs r)
  | [] => rfl
  | s :: l => by rw [letsSome, letsSome_any l]; rfl
end
/-! sieves that fit some fields -/
mutual
def SvOk (fs : List Fd) : Sv → Prop
  | .lacks n => ∃ (i : Nat) (b : Bool), fs[i]? = some (n, b)
  | .is n v => ∃ (i : Nat) (b : Bool), fs[i]? = some (n, b) ∧ v ≠ .no ∧ ValOk b v
  | .under n v => ∃ (i : Nat) (j : Int), fs[i]? = some (n, false) ∧ v = .nm j ∧ ValOk false v
  | .over n v => ∃ (i : Nat) (j : Int), fs[i]? = some (n, false) ∧ v = .nm j ∧ ValOk false v
  | .not s => SvOk fs s
  | .all l => SvOkL fs l
  | .some l => SvOkL fs l
def SvOkL (fs : List Fd) : List Sv → Prop
  | [] => True
  | s :: l => SvOk fs s ∧ SvOkL fs l
end
mutual
/-- no more than so many parts in any of it -/
def wid (k : Nat) : Sv → Prop
  | .not s => wid k s
  | .all l => l.length ≤ k ∧ widL k l
  | .some l => l.length ≤ k ∧ widL k l
  | _ => True
def widL (k : Nat) : List Sv → Prop
  | [] => True
  | s :: l => wid k s ∧ widL k l
end
theorem SvOkL_mem {fs : List Fd} : ∀ {l : List Sv}, SvOkL fs l ↔ ∀ s ∈ l, SvOk fs s
  | [] => ⟨fun _ s h => (by cases h), fun _ => by simp only [SvOkL]⟩
  | s :: l => by
    rw [SvOkL, SvOkL_mem]
    constructor
    · rintro ⟨h1, h2⟩ t ht
      cases ht with
      | head => exact h1
      | tail _ ht => exact h2 t ht
    · exact fun h => ⟨h s List.mem_cons_self, fun t ht => h t (List.mem_cons_of_mem _ ht)⟩
theorem widL_mem {k : Nat} : ∀ {l : List Sv}, widL k l ↔ ∀ s ∈ l, wid k s
  | [] => ⟨fun _ s h => (by cases h), fun _ => by simp only [widL]⟩
  | s :: l => by
    rw [widL, widL_mem]
    constructor
    · rintro ⟨h1, h2⟩ t ht
      cases ht with
      | head => exact h1
      | tail _ ht => exact h2 t ht
    · exact fun h => ⟨h s List.mem_cons_self, fun t ht => h t (List.mem_cons_of_mem _ ht)⟩
/-! slices that may reach beyond the end -/
theorem cutD_tk {xs : List D} {c : Int} (h0 : 0 ≤ c) : VD.cutD xs none (some c) = xs.take c.toNat := by
  unfold VD.cutD
  have e : HT.sIx xs.length xs.length (some c) = min c.toNat xs.length := by
    show (if c < 0 then _ else min c.toNat xs.length) = _
    rw [if_neg (by omega)]
  rw [e, HT.sIx_none, List.drop_zero, Nat.sub_zero, ← List.take_eq_take_min]
theorem cutD_dr {xs : List D} {c : Int} (h0 : 0 ≤ c) : VD.cutD xs (some c) none = xs.drop c.toNat := by
  unfold VD.cutD
  have e : HT.sIx xs.length 0 (some c) = min c.toNat xs.length := by
    show (if c < 0 then _ else min c.toNat xs.length) = _
    rw [if_neg (by omega)]
  rw [e, HT.sIx_none, List.take_of_length_le (by rw [List.length_drop]; omega)]
  by_cases q : c.toNat ≤ xs.length
  · rw [Nat.min_eq_left q]
  · rw [Nat.min_eq_right (by omega), List.drop_of_length_le (Nat.le_refl _), List.drop_of_length_le (by omega)]
@[simp] theorem bTuple_lst {xs : List D} {h : Hv} : bTuple [.lst xs] h = .ok (.tup xs) h := rfl
@[simp] theorem bTuple_fz {xs : List D} {h : Hv} : bTuple [.fz xs] h = .ok (.tup xs) h := rfl
@[simp] theorem bTuple_tup {xs : List D} {h : Hv} : bTuple [.tup xs] h = .ok (.tup xs) h := rfl
theorem bTuple_cell {xs : List D} {n : Nat} {h : Hv} (e : h[n]? = some (.lst xs)) : bTuple [.cell n] h = .ok (.tup xs) h := by
  show (match lOf h (.cell n) with
    | some xs => VD.R.ok (D.tup xs) h
    | none => (match tOf (.cell n) with
      | some xs => .ok (.tup xs) h
      | none => .stuck)) = _
  rw [lOf_cell, e]
end
end WT

set_option Elab.async false
set_option linter.all false
set_option maxRecDepth 100000
set_option maxHeartbeats 4000000
namespace PS
open PySem PySem.Spec PyProof.Rows L2 VD
noncomputable section
def l_field_at_1 : SS := sFor (iR1 (aCons (eCa bLen (aCons (eVar 0) (aNil))) (aNil))) (gN 2) (sIf (toB (eOp oEq (eOp oIx (eOp oIx (eVar 0) (eVar 2)) (eK (.int 0))) (eVar 1))) (sRet (eVar 2)) (sNext))
def b_field_at : SS := sSeq (l_field_at_1) (sRaiseP "NoField" "name" (eVar 1))
def m_field_at : List D → Hv → R D := fnS 2 1 b_field_at
def b_lets_value_by : SS := sSeq (sIf (cOr (toB (eOp oEq (eOp oIx (eVar 0) (eK (.int 0))) (eK (.str "lacks")))) (toB (eOp oIs (eVar 1) (eK .non)))) (sRet (eAndV (eOp oEq (eOp oIx (eVar 0) (eK (.int 0))) (eK (.str "lacks"))) (eOp oIs (eVar 1) (eK .non)))) (sNext)) (sSeq (sIf (toB (eOp oEq (eOp oIx (eVar 0) (eK (.int 0))) (eK (.str "is")))) (sRet (eOp oEq (eVar 1) (eOp oIx (eVar 0) (eK (.int 2))))) (sNext)) (sSeq (sIf (toB (eOp oEq (eOp oIx (eVar 0) (eK (.int 0))) (eK (.str "under")))) (sRet (eOp oLt (eVar 1) (eOp oIx (eVar 0) (eK (.int 2))))) (sNext)) (sRet (eOp oGt (eVar 1) (eOp oIx (eVar 0) (eK (.int 2)))))))
def m_lets_value_by : List D → Hv → R D := fnQ 2 0 b_lets_value_by
def c_lets_by_1 (rc : List D → Hv → R D) : LS := lLc (iT (eOp oIx (eVar 1) (eK (.int 1)))) (gN 3) (cYes) (eCa (callQ rc) (aCons (eVar 0) (aCons (eVar 3) (aCons (eVar 2) (aNil))))) [3]
def c_lets_by_2 (rc : List D → Hv → R D) : LS := lLc (iT (eOp oIx (eVar 1) (eK (.int 1)))) (gN 3) (cYes) (eCa (callQ rc) (aCons (eVar 0) (aCons (eVar 3) (aCons (eVar 2) (aNil))))) [3]
def b_lets_by (rc : List D → Hv → R D) : SS := sSeq (sIf (toB (eOp oEq (eOp oIx (eVar 1) (eK (.int 0))) (eK (.str "not")))) (sRet (eNotV (eCa (callQ rc) (aCons (eVar 0) (aCons (eOp oIx (eVar 1) (eK (.int 1))) (aCons (eVar 2) (aNil))))))) (sNext)) (sSeq (sIf (toB (eOp oEq (eOp oIx (eVar 1) (eK (.int 0))) (eK (.str "all")))) (sRet (eCa bAll (aCons (eV ((c_lets_by_1 rc))) (aNil)))) (sNext)) (sSeq (sIf (toB (eOp oEq (eOp oIx (eVar 1) (eK (.int 0))) (eK (.str "some")))) (sRet (eCa bAny (aCons (eV ((c_lets_by_2 rc))) (aNil)))) (sNext)) (sRet (eCa (callQ m_lets_value_by) (aCons (eVar 1) (aCons (eOp oIx (eVar 2) (eCa (Cm.f .P m_field_at) (aCons (eVar 0) (aCons (eOp oIx (eVar 1) (eK (.int 1))) (aNil))))) (aNil)))))))
def m_lets_by : Nat → List D → Hv → R D
  | 0 => fnQ 3 1 sNever
  | n + 1 => fnQ 3 1 (b_lets_by (m_lets_by n))
open WT
theorem field_eq {fs : List Fd} {n : Tx} (hl : fs.length ≤ 100) : (∀ i, plN fs n = some i → m_field_at [fdsD fs, tx n] [] = .ok (.int (i : Nat)) []) ∧ (plN fs n = none → m_field_at [fdsD fs, tx n] [] = .exc ⟨"NoField", some ("name", tx n)⟩ []) := by
  have key : ∀ Q : VD.R D → Prop, (∀ i, plN fs n = some i → Q (.ok (.int (i : Nat)) [])) → (plN fs n = none → Q (.exc ⟨"NoField", some ("name", tx n)⟩ [])) → Q (m_field_at [fdsD fs, tx n] []) := by
    intro Q h1 h2
    refine fnS_of (P := Q) rfl ?_
    unfold b_field_at
    simp only [Wp_seq]
    unfold l_field_at_1
    have lf : ∀ h, lenD h (fdsD fs) = some (fs.length : Int) := fun h => by unfold fdsD; rw [lenD_lst, List.length_map]
    obtain ⟨I, hI⟩ : ∃ I : Nat → VS → Hv → Prop, I = fun i σ h => ∃ x2 : Option D, σ = [some (fdsD fs), some (tx n), x2] ∧ h = [] ∧ ∀ (j : Nat) f, j < i → fs[j]? = some f → f.1 ≠ n := ⟨_, rfl⟩
    refine Wp.range 0 fs.length I (h0 := []) (by simp (disch := omega) [lf]) (by rw [hI]; exact ⟨_, rfl, rfl, fun j f hj => by omega⟩) ?_ ?_
    · intro i σ h hi hh
      rw [hI] at hh
      obtain ⟨x2, rfl, rfl, al⟩ := hh
      refine ⟨_, rfl, ?_⟩
      have e1 : ixD [] (fdsD fs) (i : Int) = some (fdD fs[i]) := atI_map (atI_at rfl (List.getElem?_eq_getElem hi))
      have e2 : ∀ h, ixD h (fdD fs[i]) 0 = some (tx fs[i].1) := fun _ => rfl
      by_cases q : fs[i].1 = n
      · have e3 : plN fs n = some i := by
          cases z : plN fs n with
          | none => exact absurd q (plN_none.mp z _ (List.getElem_mem hi))
          | some j =>
            obtain ⟨b, hb⟩ := plN_some z
            by_cases q1 : j < i
            · exact absurd rfl (al j _ q1 hb)
            · by_cases q2 : i < j
              · exact absurd q (plN_first z i _ q2 (List.getElem?_eq_getElem hi))
              · rw [show j = i by omega]
        simp [e1, e2, eqD_tx, q]
        exact h1 i e3
      · simp [e1, e2, eqD_tx, q]
        rw [hI]
        refine ⟨_, rfl, rfl, fun j f hj hf => ?_⟩
        by_cases q1 : j = i
        · subst q1
          rw [List.getElem?_eq_getElem hi] at hf
          cases hf; exact q
        · exact al j f (by omega) hf
    · intro σ h hh
      rw [hI] at hh
      obtain ⟨x2, rfl, rfl, al⟩ := hh
      simp
      refine h2 (plN_none.mpr fun f hf => ?_)
      obtain ⟨j, hj⟩ := List.getElem?_of_mem hf
      exact al j f (List.getElem?_eq_some_iff.mp hj).1 hj
  refine ⟨fun i e => key (fun x => x = .ok (.int (i : Nat)) []) (fun j e2 => ?_) (fun e2 => ?_), fun e => key (fun x => x = .exc ⟨"NoField", some ("name", tx n)⟩ []) (fun j e2 => ?_) (fun _ => rfl)⟩
  · rw [e] at e2; cases e2; rfl
  · rw [e] at e2; cases e2
  · rw [e] at e2; cases e2
theorem frz_tx {n0 n : Nat} {h : Hv} {cs : Tx} : frz n0 h (n + 1) (tx cs) = some (tx cs) := rfl
theorem field_call {fs : List Fd} {n : Tx} {i : Nat} (hl : fs.length ≤ 100) (e : plN fs n = some i) (h : Hv) : callP m_field_at [fdsD fs, tx n] h = .ok (.int (i : Nat)) h := cP ((field_eq hl).1 i e) (by simp [frz_fds]) h
theorem eqD_val {h : Hv} (a b : Val) : eqD h (valD a) (valD b) = some (decide (a = b)) := by
  cases a with
  | no => cases b <;> rfl
  | wd x =>
    cases b with
    | no => rfl
    | wd y => show eqD h (tx x) (tx y) = _; rw [eqD_tx]; congr 1; rw [decide_eq_decide]; exact ⟨fun e => by rw [e], fun e => by cases e; rfl⟩
    | nm j => rfl
  | nm i =>
    cases b with
    | no => rfl
    | wd y => rfl
    | nm j => show eqD h (.int i) (.int j) = _; simp
theorem isD_val {v : Val} : isD (valD v) .non = some (decide (v = .no)) := by cases v <;> rfl
theorem s_il : ¬ (("is" : Str) = "lacks") := by decide
theorem s_ul : ¬ (("under" : Str) = "lacks") := by decide
theorem s_ol : ¬ (("over" : Str) = "lacks") := by decide
theorem s_ui : ¬ (("under" : Str) = "is") := by decide
theorem s_oi : ¬ (("over" : Str) = "is") := by decide
theorem s_ou : ¬ (("over" : Str) = "under") := by decide
/-- a plain sieve fits a value -/
def fits (s : Sv) (v : Val) : Prop := match s with
  | .lacks _ => True
  | .is _ _ => True
  | .under _ u => (v = .no ∨ ∃ i, v = .nm i) ∧ ∃ j, u = .nm j
  | .over _ u => (v = .no ∨ ∃ i, v = .nm i) ∧ ∃ j, u = .nm j
  | _ => False
theorem value_eq {s : Sv} {v : Val} (f : fits s v) : m_lets_value_by [svD s, valD v] [] = .ok (.bl (letV s v)) [] := by
  refine fnQ_of (P := fun x => x = .ok (.bl (letV s v)) []) rfl ?_
  unfold b_lets_value_by
  cases s with
  | lacks n =>
    simp [svD, isD_val, letV]
  | is n u =>
    by_cases q : v = .no
    · subst q
      simp [svD, isD_val, letV, s_il]
    · simp [svD, isD_val, letV, s_il, q, eqD_val]
  | under n u =>
    obtain ⟨f1, j, rfl⟩ := f
    rcases f1 with rfl | ⟨i, rfl⟩
    · simp [svD, isD_val, letV, s_ul]
    · simp [svD, isD_val, letV, s_ul, s_ui, valD]
  | over n u =>
    obtain ⟨f1, j, rfl⟩ := f
    rcases f1 with rfl | ⟨i, rfl⟩
    · simp [svD, isD_val, letV, s_ol]
    · simp [svD, isD_val, letV, s_ol, s_oi, s_ou, valD]
  | not s => exact f.elim
  | all l => exact f.elim
  | some l => exact f.elim
theorem s_an : ¬ (("all" : Str) = "not") := by decide
theorem s_sn : ¬ (("some" : Str) = "not") := by decide
theorem s_sa : ¬ (("some" : Str) = "all") := by decide
theorem s_ln : ¬ (("lacks" : Str) = "not") := by decide
theorem s_la : ¬ (("lacks" : Str) = "all") := by decide
theorem s_ls : ¬ (("lacks" : Str) = "some") := by decide
theorem s_in : ¬ (("is" : Str) = "not") := by decide
theorem s_ia : ¬ (("is" : Str) = "all") := by decide
theorem s_is : ¬ (("is" : Str) = "some") := by decide
theorem s_un : ¬ (("under" : Str) = "not") := by decide
theorem s_ua : ¬ (("under" : Str) = "all") := by decide
theorem s_us : ¬ (("under" : Str) = "some") := by decide
theorem s_on : ¬ (("over" : Str) = "not") := by decide
theorem s_oa : ¬ (("over" : Str) = "all") := by decide
theorem s_os : ¬ (("over" : Str) = "some") := by decide
theorem row_ix {r : List Val} {i : Nat} {v : Val} {h : Hv} (e : r[i]? = some v) : ixD h (rowD r) (i : Int) = some (valD v) := atI_map (atI_at rfl e)
theorem row_at {fs : List Fd} {r : List Val} (ro : RowOk fs r) (nd : (fs.map (·.1)).Nodup) {n : Tx} {i : Nat} {b : Bool} (e : fs[i]? = some (n, b)) : plN fs n = some i ∧ r[i]? = some (rowAt fs r n) ∧ ValOk b (rowAt fs r n) := by
  have k := plN_at nd e
  obtain ⟨v, hv, ok⟩ := ro.get e
  have : rowAt fs r n = v := by
    unfold rowAt
    simp only at k
    rw [k, Option.bind_some, hv]; rfl
  rw [this]
  exact ⟨k, hv, ok⟩
theorem val_num {v : Val} (h : ValOk false v) : v = .no ∨ ∃ i, v = .nm i := by
  cases v with
  | no => exact .inl rfl
  | wd cs => exact absurd h.1 (by decide)
  | nm i => exact .inr ⟨i, rfl⟩
/-- the name of a plain sieve, where it stands, and that it fits the row's value there -/
theorem plain_at {fs : List Fd} {r : List Val} (fo : FdsOk fs) (ro : RowOk fs r) : ∀ {s : Sv}, SvOk fs s → (∃ t, s = .not t) ∨ (∃ l, s = .all l) ∨ (∃ l, s = .some l) ∨
    (∃ n i, plN fs n = some i ∧ r[i]? = some (rowAt fs r n) ∧ fits s (rowAt fs r n) ∧ lets fs r s = letV s (rowAt fs r n) ∧ (∃ rest, (svD s = .tup (.str "lacks" :: tx n :: rest) ∨ svD s = .tup (.str "is" :: tx n :: rest) ∨ svD s = .tup (.str "under" :: tx n :: rest) ∨ svD s = .tup (.str "over" :: tx n :: rest))))
  | .not t, _ => .inl ⟨t, rfl⟩
  | .all l, _ => .inr (.inl ⟨l, rfl⟩)
  | .some l, _ => .inr (.inr (.inl ⟨l, rfl⟩))
  | .lacks n, h => by
    rw [SvOk] at h
    obtain ⟨i, b, h⟩ := h
    obtain ⟨k1, k2, k3⟩ := row_at ro fo.nd h
    exact .inr (.inr (.inr ⟨n, i, k1, k2, trivial, by rw [lets], [], .inl (by rw [svD])⟩))
  | .is n u, h => by
    rw [SvOk] at h
    obtain ⟨i, b, h, _⟩ := h
    obtain ⟨k1, k2, k3⟩ := row_at ro fo.nd h
    exact .inr (.inr (.inr ⟨n, i, k1, k2, trivial, by rw [lets], [valD u], .inr (.inl (by rw [svD]))⟩))
  | .under n u, h => by
    rw [SvOk] at h
    obtain ⟨i, j, h, hu, _⟩ := h
    obtain ⟨k1, k2, k3⟩ := row_at ro fo.nd h
    exact .inr (.inr (.inr ⟨n, i, k1, k2, ⟨val_num k3, j, hu⟩, by rw [lets], [valD u], .inr (.inr (.inl (by rw [svD])))⟩))
  | .over n u, h => by
    rw [SvOk] at h
    obtain ⟨i, j, h, hu, _⟩ := h
    obtain ⟨k1, k2, k3⟩ := row_at ro fo.nd h
    exact .inr (.inr (.inr ⟨n, i, k1, k2, ⟨val_num k3, j, hu⟩, by rw [lets], [valD u], .inr (.inr (.inr (by rw [svD])))⟩))
theorem lets_eq {fs : List Fd} {r : List Val} (fo : FdsOk fs) (ro : RowOk fs r) : ∀ (k : Nat) (s : Sv), dep s < k → SvOk fs s → wid 1000 s → m_lets_by k [fdsD fs, svD s, rowD r] [] = .ok (.bl (lets fs r s)) [] := by
  intro k
  induction k with
  | zero => intro s h; exact absurd h (Nat.not_lt_zero _)
  | succ k ih =>
    intro s hd ok hw
    refine fnQ_of (P := fun x => x = .ok (.bl (lets fs r s)) []) rfl ?_
    unfold b_lets_by
    have nc : ∀ t : Sv, noCL [fdsD fs, svD t, rowD r] = true := fun t => by simp [noCL, noC_fds, noC_sv, noC_row]
    have fl : fs.length ≤ 100 := by have := fo.hi; omega
    rcases plain_at fo ro ok with ⟨t, rfl⟩ | ⟨l, rfl⟩ | ⟨l, rfl⟩ | ⟨n, i, k1, k2, k3, k4, rest, k5⟩
    · rw [dep] at hd
      rw [SvOk] at ok
      rw [wid] at hw
      have e := cQ (ih t (by omega) ok hw) (nc t)
      simp [svD, e, lets]
    · rw [dep] at hd
      rw [SvOk, SvOkL_mem] at ok
      rw [wid, widL_mem] at hw
      have e1 : c_lets_by_1 (m_lets_by k) [some (fdsD fs), some (.tup [.str "all", .tup (svL l)]), some (rowD r), none] [] = .ok ((l.map (lets fs r)).map .bl) [] := by
        unfold c_lets_by_1
        rw [List.map_map]
        refine lLc_map svD _ l (chk := always) (h0 := []) (by simp [svL_map]) rfl (by have := hw.1; omega) fun t ht => ⟨_, rfl, ?_⟩
        have e := cQ (ih t (by have := dep_mem ht; omega) (ok t ht) (hw.2 t ht)) (nc t)
        simp [e]
      have e2 : bAll [.lst ((l.map (lets fs r)).map .bl)] [] = .ok (.bl (letsAll fs r l)) [] := by rw [bAll_lst, letsAll_all, List.all_map]; rfl
      simp [svD, s_an, e1, e2, lets, -List.map_map]
    · rw [dep] at hd
      rw [SvOk, SvOkL_mem] at ok
      rw [wid, widL_mem] at hw
      have e1 : c_lets_by_2 (m_lets_by k) [some (fdsD fs), some (.tup [.str "some", .tup (svL l)]), some (rowD r), none] [] = .ok ((l.map (lets fs r)).map .bl) [] := by
        unfold c_lets_by_2
        rw [List.map_map]
        refine lLc_map svD _ l (chk := always) (h0 := []) (by simp [svL_map]) rfl (by have := hw.1; omega) fun t ht => ⟨_, rfl, ?_⟩
        have e := cQ (ih t (by have := dep_mem ht; omega) (ok t ht) (hw.2 t ht)) (nc t)
        simp [e]
      have e2 : bAny [.lst ((l.map (lets fs r)).map .bl)] [] = .ok (.bl (letsSome fs r l)) [] := by rw [bAny_lst, letsSome_any, List.any_map]; rfl
      simp [svD, s_sn, s_sa, e1, e2, lets, -List.map_map]
    · have fc := field_call fl k1
      have rx := fun h => row_ix (h := h) k2
      have ve := cQ (value_eq k3) (by simp [noCL, noC_sv, noC_val])
      rw [k4]
      rcases k5 with k5 | k5 | k5 | k5
      · rw [k5] at ve ⊢
        simp [s_ln, s_la, s_ls, fc, rx, ve]
      · rw [k5] at ve ⊢
        simp [s_in, s_ia, s_is, fc, rx, ve]
      · rw [k5] at ve ⊢
        simp [s_un, s_ua, s_us, fc, rx, ve]
      · rw [k5] at ve ⊢
        simp [s_on, s_oa, s_os, fc, rx, ve]
end
end PS

set_option Elab.async false
set_option linter.all false
set_option maxRecDepth 100000
set_option maxHeartbeats 4000000
namespace WD
open PySem PySem.Spec PyProof.Rows L2 VD
noncomputable section
def c__law_heads_1 : LS := lLc (iR1 (aCons (eVar 3) (aNil))) (gN 8) (cYes) (eOp oIx (eVar 1) (eOp oMod (eOp oAdd (eOp oFdiv (eVar 0) (eK (.int 1664))) (eOp oMul (eOp oMul (eK (.int 5)) (eVar 8)) (eVar 8))) (eCa bLen (aCons (eVar 1) (aNil))))) [8]
def c__law_heads_2 : LS := lLc (iR1 (aCons (eVar 2) (aNil))) (gN 8) (cYes) (eSl (eVar 9) (pNo) (pAt (eOp oAdd (eVar 8) (eK (.int 1))))) [8]
def l__law_heads_1 : SS := sFor (iR1 (aCons (eVar 2) (aNil))) (gN 8) (sSeq (sSet 10 (eOp oIx (eVar 1) (eOp oMod (eOp oAdd (eOp oFdiv (eVar 0) (eK (.int 1664))) (eOp oMul (eK (.int 5)) (eVar 8))) (eCa bLen (aCons (eVar 1) (aNil)))))) (sDrop (eBM mAppend (eVar 7) (aCons (eOp oAdd (eOp oAdd (eOp oMulS (eVar 6) (eVar 5)) (eVar 10)) (eOp oMulS (eVar 6) (eOp oSub (eOp oSub (eVar 4) (eVar 5)) (eK (.int 1))))) (aNil)))))
def b__law_heads : SS := sSeq (sIf (cAnd (toB (eOp oEq (eOp oMod (eOp oFdiv (eVar 0) (eK (.int 43264))) (eK (.int 4))) (eK (.int 3)))) (toB (eOp oLe (eVar 2) (eVar 3)))) (sSeq (sSet 9 (eStr1 oJoin (eK (.str "")) (eV (c__law_heads_1)))) (sRet (eV (c__law_heads_2)))) (sNext)) (sSeq (sSet 4 (eOp oAdd (eK (.int 1)) (eOp oMod (eVar 0) (eVar 3)))) (sSeq (sSet 5 (eOp oMod (eOp oFdiv (eVar 0) (eK (.int 12))) (eVar 4))) (sSeq (sSet 6 (eOp oIx (eVar 1) (eOp oMod (eOp oFdiv (eVar 0) (eK (.int 64))) (eCa bLen (aCons (eVar 1) (aNil)))))) (sSeq (sSet 7 (eC (lLst (aNil)))) (sSeq (l__law_heads_1) (sRet (eVar 7)))))))
def m__law_heads : List D → Hv → R D := fnS 4 7 b__law_heads
def c__law_world_1 : LS := lLc (iR1 (aCons (eVar 2) (aNil))) (gN 7) (cYes) (eTup (aCons (eOp oIx (eVar 3) (eVar 7)) (aCons (eOp oIx (eV (lLst (aCons (eK (.str "word")) (aCons (eK (.str "number")) (aNil))))) (eOp oMod (eCa (Cm.f .P mixM) (aCons (eVar 1) (aCons (eOp oAdd (eVar 7) (eK (.int 30))) (aNil)))) (eK (.int 2)))) (aNil)))) [7]
def b__law_world : SS := sSeq (sSet 1 (eCa (Cm.f .P mixM) (aCons (eCa (Cm.f .P cellM) (aCons (eVar 0) (aCons (eK (.int 0)) (aNil)))) (aCons (eK (.int 1)) (aNil))))) (sSeq (sSet 2 (eOp oAdd (eK (.int 1)) (eOp oMod (eVar 1) (eK (.int 8))))) (sSeq (sSet 3 (eCa (Cm.f .P m__law_heads) (aCons (eCa (Cm.f .P mixM) (aCons (eVar 1) (aCons (eK (.int 2)) (aNil)))) (aCons (eK (.str "abcdefghijklmnopqrstuvwxyz")) (aCons (eVar 2) (aCons (eK (.int 12)) (aNil))))))) (sSeq (sSet 4 (eV (c__law_world_1))) (sSeq (sSet 5 (eCa (Cm.f .P m__law_heads) (aCons (eCa (Cm.f .P mixM) (aCons (eVar 1) (aCons (eK (.int 3)) (aNil)))) (aCons (eK (.str "abcdefghijklmnopqrstuvwxyz0123456789")) (aCons (eK (.int 4)) (aCons (eK (.int 12)) (aNil))))))) (sSeq (sIf (toB (eOp oEq (eOp oMod (eOp oFdiv (eVar 1) (eK (.int 8))) (eK (.int 3))) (eK (.int 1)))) (sSet 5 (eV (eOp oCat (eV (lSl (eVar 3) (pNo) (pAt (eK (.int 3))))) (eV (lSl (eVar 5) (pNo) (pAt (eK (.int 1)))))))) (sNext)) (sSeq (sSet 6 (eOp oIx (eV (lLst (aCons (eK (.int 0)) (aCons (eOp oMul (eK (.int 9)) (eOp oPow (eK (.int 10)) (eK (.int 59)))) (aCons (eOp oSub (eK (.int 0)) (eOp oMul (eK (.int 9)) (eOp oPow (eK (.int 10)) (eK (.int 59))))) (aCons (eK (.int 98)) (aNil))))))) (eOp oMod (eOp oFdiv (eVar 1) (eK (.int 24))) (eK (.int 4))))) (sRet (eDispF (pCons (eK (.str "fields")) (eVar 4) (pCons (eK (.str "words")) (eVar 5) (pCons (eK (.str "base")) (eVar 6) (pNil))))))))))))
def m__law_world : List D → Hv → R D := fnS 1 7 b__law_world
def b__law_sure_value : SS := sSeq (sIf (toB (eOp oEq (eVar 1) (eK (.str "word")))) (sRet (eOp oIx (eOp oDget (eVar 2) (eK (.str "words"))) (eOp oMod (eVar 0) (eCa bLen (aCons (eOp oDget (eVar 2) (eK (.str "words"))) (aNil)))))) (sNext)) (sRet (eOp oSub (eOp oAdd (eOp oDget (eVar 2) (eK (.str "base"))) (eOp oMod (eVar 0) (eK (.int 6)))) (eK (.int 2))))
def m__law_sure_value : List D → Hv → R D := fnS 3 0 b__law_sure_value
def b__law_value : SS := sSeq (sIf (toB (eOp oEq (eOp oMod (eVar 0) (eK (.int 6))) (eK (.int 0)))) (sRet (eK .non)) (sNext)) (sRet (eCa (Cm.f .P m__law_sure_value) (aCons (eOp oFdiv (eVar 0) (eK (.int 6))) (aCons (eVar 1) (aCons (eVar 2) (aNil))))))
def m__law_value : List D → Hv → R D := fnS 3 0 b__law_value
def c__law_row_1 : LS := lLc (iR1 (aCons (eCa bLen (aCons (eVar 2) (aNil))) (aNil))) (gN 3) (cYes) (eCa (Cm.f .P m__law_value) (aCons (eCa (Cm.f .P mixM) (aCons (eVar 0) (aCons (eOp oAdd (eVar 3) (eK (.int 60))) (aNil)))) (aCons (eOp oIx (eOp oIx (eVar 2) (eVar 3)) (eK (.int 1))) (aCons (eVar 1) (aNil))))) [3]
def b__law_row : SS := sSeq (sSet 2 (eOp oDget (eVar 1) (eK (.str "fields")))) (sRet (eCa bTuple (aCons (eV (c__law_row_1)) (aNil))))
def m__law_row : List D → Hv → R D := fnS 2 2 b__law_row
def b__law_plain : SS := sSeq (sAsg (eOp oIx (eOp oDget (eVar 1) (eK (.str "fields"))) (eOp oMod (eVar 0) (eCa bLen (aCons (eOp oDget (eVar 1) (eK (.str "fields"))) (aNil))))) (gT 2 (gsCons (gN 3) (gsCons (gN 4) (gsNil))))) (sSeq (sSet 2 (eOp oMod (eOp oFdiv (eVar 0) (eK (.int 8))) (eK (.int 4)))) (sSeq (sIf (toB (eOp oEq (eVar 2) (eK (.int 0)))) (sRet (eTup (aCons (eK (.str "lacks")) (aCons (eVar 3) (aNil))))) (sNext)) (sSeq (sIf (cOr (toB (eOp oEq (eVar 2) (eK (.int 1)))) (toB (eOp oEq (eVar 4) (eK (.str "word"))))) (sRet (eTup (aCons (eK (.str "is")) (aCons (eVar 3) (aCons (eCa (Cm.f .P m__law_sure_value) (aCons (eOp oFdiv (eVar 0) (eK (.int 32))) (aCons (eVar 4) (aCons (eVar 1) (aNil))))) (aNil)))))) (sNext)) (sRet (eTup (aCons (eOp oIx (eV (lLst (aCons (eK (.str "under")) (aCons (eK (.str "over")) (aNil))))) (eOp oSub (eVar 2) (eK (.int 2)))) (aCons (eVar 3) (aCons (eCa (Cm.f .P m__law_sure_value) (aCons (eOp oFdiv (eVar 0) (eK (.int 32))) (aCons (eVar 4) (aCons (eVar 1) (aNil))))) (aNil)))))))))
def m__law_plain : List D → Hv → R D := fnQ 2 3 b__law_plain
def l__law_sieve_1 (rc : List D → Hv → R D) : SS := sFor (iR1 (aCons (eOp oMod (eOp oFdiv (eVar 0) (eK (.int 8))) (eK (.int 4))) (aNil))) (gN 5) (sDrop (eBM mAppend (eVar 4) (aCons (eCa (callQ rc) (aCons (eCa (Cm.f .P mixM) (aCons (eVar 0) (aCons (eOp oAdd (eVar 5) (eK (.int 3))) (aNil)))) (aCons (eVar 1) (aCons (eOp oSub (eVar 2) (eK (.int 1))) (aNil))))) (aNil))))
def b__law_sieve (rc : List D → Hv → R D) : SS := sSeq (sSet 3 (eOp oMod (eVar 0) (eK (.int 8)))) (sSeq (sIf (cOr (toB (eOp oLt (eVar 3) (eK (.int 4)))) (toB (eOp oEq (eVar 2) (eK (.int 0))))) (sRet (eCa (callQ m__law_plain) (aCons (eCa (Cm.f .P mixM) (aCons (eVar 0) (aCons (eK (.int 1)) (aNil)))) (aCons (eVar 1) (aNil))))) (sNext)) (sSeq (sIf (toB (eOp oEq (eVar 3) (eK (.int 4)))) (sRet (eTup (aCons (eK (.str "not")) (aCons (eCa (callQ rc) (aCons (eCa (Cm.f .P mixM) (aCons (eVar 0) (aCons (eK (.int 2)) (aNil)))) (aCons (eVar 1) (aCons (eOp oSub (eVar 2) (eK (.int 1))) (aNil))))) (aNil))))) (sNext)) (sBlk (fun n => sSeq (sSet 4 (eC (lLst (aNil)))) (sSeq ((l__law_sieve_1 rc)) (sSeal n (sRet (eTup (aCons (eOp oIx (eV (lLst (aCons (eK (.str "all")) (aCons (eK (.str "some")) (aNil))))) (eOp oMod (eOp oFdiv (eVar 0) (eK (.int 32))) (eK (.int 2)))) (aCons (eCa bTuple (aCons (eVar 4) (aNil))) (aNil)))))))))))
def m__law_sieve : Nat → List D → Hv → R D
  | 0 => fnQ 3 3 sNever
  | n + 1 => fnQ 3 3 (b__law_sieve (m__law_sieve n))
open WT PS
/-! names and words that are alike but at one place, or begin one another -/
theorem rep_sx {c : Nat} {n : Int} : repS (sx [c]) n = sx (List.replicate n.toNat c) := by
  unfold repS
  have e : (sx [c]).cps.toList = [c] := by simp
  rw [e]
  show Str.mk _ = Str.mk _
  congr 2
  induction n.toNat with
  | zero => rfl
  | succ m ih => rw [List.replicate_succ, List.flatten_cons, ih]; rfl
def sg (ss : List Nat) (k : Int) : Nat := ss[k.toNat]?.getD 0
theorem sg_mem {ss : List Nat} {k : Int} (h0 : 0 ≤ k) (h1 : k < ss.length) : sg ss k ∈ ss := by
  have h2 : k.toNat < ss.length := by omega
  unfold sg
  rw [List.getElem?_eq_getElem h2]
  exact List.getElem_mem h2
theorem sg_inj {ss : List Nat} (nd : ss.Nodup) {i j : Int} (h0 : 0 ≤ i) (h1 : i < ss.length) (k0 : 0 ≤ j) (k1 : j < ss.length) (h : sg ss i = sg ss j) : i = j := by
  have h2 : i.toNat < ss.length := by omega
  have k2 : j.toNat < ss.length := by omega
  unfold sg at h
  rw [List.getElem?_eq_getElem h2, List.getElem?_eq_getElem k2] at h
  have := (List.getElem_inj nd).mp h
  omega
theorem ix_sg {ss : List Nat} {k : Int} {h : Hv} (hl : ss.length ≤ 100) (h0 : 0 ≤ k) (h1 : k < ss.length) : ixD h (tx ss) k = some (tx [sg ss k]) := ixD_tx (by omega) h0 h1
structure Heads (ss : List Nat) (many most : Nat) (ws : List Tx) : Prop where
  len : ws.length = many
  nd : ws.Nodup
  ok : ∀ w ∈ ws, 1 ≤ w.length ∧ w.length ≤ most ∧ ∀ c ∈ w, c ∈ ss
def headW (ss : List Nat) (seed : Int) (most : Nat) : Tx := (List.range most).map fun k : Nat => sg ss ((seed / 1664 + 5 * (k : Int) * (k : Int)) % ss.length)
def headV (ss : List Nat) (seed few at_ : Int) (k : Nat) : Tx := List.replicate at_.toNat (sg ss (seed / 64 % ss.length)) ++ [sg ss ((seed / 1664 + 5 * (k : Int)) % ss.length)] ++ List.replicate (few - at_ - 1).toNat (sg ss (seed / 64 % ss.length))
theorem joinS {ws : List Nat} {h : Hv} (hl : ws.length ≤ 1000) : oJoin (tx []) (.lst (ws.map fun c => tx [c])) h = .ok (tx ws) h := by
  have e := oJoin_ap (s := []) (ps := ws.map fun c => [c]) (y := .lst (ws.map fun c => tx [c])) (h := h) (by rw [List.map_map]; rfl) (by
    rw [List.map_map]
    have : ((ws.map ((fun x => x.length) ∘ fun c => [c]))).sum = ws.length := by
      clear hl
      induction ws with
      | nil => rfl
      | cons a ws ih => rw [List.map_cons, List.sum_cons, ih]; simp; omega
    rw [this]; simp; omega)
  rw [e, joinL_signs]
theorem mid {a b n : Nat} {c : List Nat} : (List.replicate n a ++ [b] ++ c)[n]? = some b := by
  rw [List.append_assoc, List.getElem?_append_right (by simp)]
  simp
theorem heads_eq {ss : List Nat} {seed : Int} {many most : Nat} (nd : ss.Nodup) (l1 : 1 ≤ ss.length) (l2 : ss.length ≤ 100) (s0 : 0 ≤ seed) (s1 : seed < 10 ^ 20) (hm : many ≤ 10) (h1 : 1 ≤ most) (h2 : most ≤ 12)
    (h5 : ∀ a i j : Int, 0 ≤ i → i < 10 → 0 ≤ j → j < 10 → (a + 5 * i) % ss.length = (a + 5 * j) % ss.length → i = j) :
    ∃ ws, m__law_heads [.int seed, tx ss, .int many, .int most] [] = .ok (.lst (ws.map tx)) [] ∧ Heads ss many most ws := by
  refine fnS_of (P := fun x => ∃ ws, x = .ok (.lst (ws.map tx)) [] ∧ Heads ss many most ws) rfl ?_
  unfold b__law_heads
  have hL : (0 : Int) < (ss.length : Int) := by omega
  have lss : ∀ h, lenD h (tx ss) = some (ss.length : Int) := fun h => lenD_tx (by omega)
  have md : ∀ x : Int, 0 ≤ x % (ss.length : Int) ∧ x % (ss.length : Int) < ss.length := fun x => ⟨Int.emod_nonneg _ (by omega), Int.emod_lt_of_pos _ hL⟩
  have big : (10 : Int) ^ 20 < 10 ^ 77 := by decide
  have second : Wp (Rt fun x => ∃ ws, x = .ok (.lst (ws.map tx)) [] ∧ Heads ss many most ws) ((sSeq (sSet 4 (eOp oAdd (eK (.int 1)) (eOp oMod (eVar 0) (eVar 3)))) (sSeq (sSet 5 (eOp oMod (eOp oFdiv (eVar 0) (eK (.int 12))) (eVar 4))) (sSeq (sSet 6 (eOp oIx (eVar 1) (eOp oMod (eOp oFdiv (eVar 0) (eK (.int 64))) (eCa bLen (aCons (eVar 1) (aNil)))))) (sSeq (sSet 7 (eC (lLst (aNil)))) (sSeq (l__law_heads_1) (sRet (eVar 7))))))) [some (.int seed), some (tx ss), some (.int (many : Int)), some (.int (most : Int)), none, none, none, none, none, none, none] []) := by
    have hp : (0 : Int) < (most : Int) := by omega
    have m1 := Int.emod_nonneg seed (show (most : Int) ≠ 0 by omega)
    have m2 := Int.emod_lt_of_pos seed hp
    obtain ⟨few, hf⟩ : ∃ few : Int, 1 + seed % (most : Int) = few := ⟨_, rfl⟩
    have fp : (0 : Int) < few := by omega
    have a1 := Int.emod_nonneg (seed / 12) (show few ≠ 0 by omega)
    have a2 := Int.emod_lt_of_pos (seed / 12) fp
    obtain ⟨at_, ha⟩ : ∃ at_ : Int, seed / 12 % few = at_ := ⟨_, rfl⟩
    rw [ha] at a1 a2
    have r1 := fun h => ix_sg (h := h) l2 (md (seed / 64)).1 (md (seed / 64)).2
    obtain ⟨rest, hr⟩ : ∃ rest, sg ss (seed / 64 % ss.length) = rest := ⟨_, rfl⟩
    simp (disch := omega) [hf, ha, lss, r1, hr, if_pos]
    unfold l__law_heads_1
    obtain ⟨I, hI⟩ : ∃ I : Nat → VS → Hv → Prop, I = fun i σ h => ∃ (x8 x10 : Option D), σ = [some (.int seed), some (tx ss), some (.int (many : Int)), some (.int (most : Int)), some (.int few), some (.int at_), some (tx [rest]), some (.cell 0), x8, none, x10] ∧ h = [.lst (((List.range i).map (headV ss seed few at_)).map tx)] := ⟨_, rfl⟩
    refine Wp.range 0 many I (h0 := [.lst []]) (by simp (disch := omega)) (by rw [hI]; exact ⟨_, _, rfl, rfl⟩) ?_ ?_
    · intro i σ h hi hh
      rw [hI] at hh
      obtain ⟨x8, x10, rfl, rfl⟩ := hh
      refine ⟨_, rfl, ?_⟩
      have r2 := fun h => ix_sg (h := h) l2 (md (seed / 1664 + 5 * (i : Int))).1 (md (seed / 1664 + 5 * (i : Int))).2
      have m3 : ∀ h, oMulS (tx [rest]) (.int at_) h = .ok (tx (List.replicate at_.toNat rest)) h := fun h => by rw [oMulS_ap (by omega) (by omega) (by rw [sx_len]; simp), rep_sx]
      obtain ⟨n2, hn2⟩ : ∃ n2 : Nat, (few - at_ - 1).toNat = n2 := ⟨_, rfl⟩
      have m4 : ∀ h, oMulS (tx [rest]) (.int (few - at_ - 1)) h = .ok (tx (List.replicate n2 rest)) h := fun h => by rw [oMulS_ap (by omega) (by omega) (by rw [sx_len]; simp), rep_sx, hn2]
      have m5 := fun h => oAdd_tx (a := List.replicate at_.toNat rest) (b := [sg ss ((seed / 1664 + 5 * (i : Int)) % ss.length)]) (h := h) (by simp; omega)
      have m6 := fun h => oAdd_tx (a := List.replicate at_.toNat rest ++ [sg ss ((seed / 1664 + 5 * (i : Int)) % ss.length)]) (b := List.replicate n2 rest) (h := h) (by simp; omega)
      have hv : headV ss seed few at_ i = List.replicate at_.toNat rest ++ [sg ss ((seed / 1664 + 5 * (i : Int)) % ss.length)] ++ List.replicate n2 rest := by unfold headV; rw [hr, hn2]
      have lv : (headV ss seed few at_ i).length ≤ 100 := by rw [hv]; simp; omega
      have ek : ((List.range i).map (headV ss seed few at_)).map tx ++ [tx (headV ss seed few at_ i)] = ((List.range (i + 1)).map (headV ss seed few at_)).map tx := by rw [List.range_succ, List.map_append, List.map_append]; rfl
      simp (disch := omega) [lss, r2, m3, m4, m5, m6, if_pos, ← hv, ek, -List.map_append, -List.map_map, -List.append_assoc]
      rw [hI]
      exact ⟨_, _, rfl, rfl⟩
    · intro σ h hh
      rw [hI] at hh
      obtain ⟨x8, x10, rfl, rfl⟩ := hh
      simp [frz_txs, -List.map_map]
      refine ⟨_, rfl, by simp, ?_, fun w hw => ?_⟩
      · rw [List.nodup_iff_pairwise_ne, List.pairwise_map]
        refine List.Pairwise.imp_of_mem (fun {i j} hi hj hne z => hne ?_) (List.nodup_iff_pairwise_ne.mp List.nodup_range)
        have hi := List.mem_range.mp hi
        have hj := List.mem_range.mp hj
        have z2 := congrArg (fun l => l[at_.toNat]?) z
        unfold headV at z2
        simp only [mid] at z2
        have z2 := Option.some.inj z2
        have := sg_inj nd (md _).1 (md _).2 (md _).1 (md _).2 z2
        have := h5 _ _ _ (by omega) (by omega) (by omega) (by omega) this
        omega
      · obtain ⟨k, _, rfl⟩ := List.mem_map.mp hw
        refine ⟨by unfold headV; simp; omega, by unfold headV; simp; omega, fun c hc => ?_⟩
        unfold headV at hc
        rcases List.mem_append.mp hc with hc | hc
        · rcases List.mem_append.mp hc with hc | hc
          · rw [(List.mem_replicate.mp hc).2]; exact sg_mem (md _).1 (md _).2
          · rw [List.mem_singleton.mp hc]; exact sg_mem (md _).1 (md _).2
        · rw [(List.mem_replicate.mp hc).2]; exact sg_mem (md _).1 (md _).2
  by_cases q : seed / 43264 % 4 = 3 ∧ many ≤ most
  · obtain ⟨q1, q2⟩ := q
    have q2' : (many : Int) ≤ (most : Int) := by omega
    have e1 : c__law_heads_1 [some (.int seed), some (tx ss), some (.int (many : Int)), some (.int (most : Int)), none, none, none, none, none, none, none] [] = .ok ((headW ss seed most).map fun c => tx [c]) [] := by
      unfold c__law_heads_1 headW
      rw [List.map_map]
      refine lLc_map (fun j : Nat => D.int (0 + (j : Int))) _ (List.range most) (chk := always) (h0 := []) (show iR1 _ _ _ = .ok (rgD 0 most, always) [] by simp (disch := omega)) rfl (by rw [List.length_range]; omega) fun j hj => ⟨_, rfl, ?_⟩
      have hj := List.mem_range.mp hj
      have r2 := fun h => ix_sg (h := h) l2 (md (seed / 1664 + 5 * (j : Int) * (j : Int))).1 (md (seed / 1664 + 5 * (j : Int) * (j : Int))).2
      have b5 : 0 ≤ 5 * (j : Int) * (j : Int) ∧ 5 * (j : Int) * (j : Int) ≤ 1000 := by
        refine ⟨Int.mul_nonneg (by omega) (by omega), ?_⟩
        have := Int.mul_le_mul (show 5 * (j : Int) ≤ 60 by omega) (show (j : Int) ≤ 12 by omega) (by omega) (by omega)
        omega
      simp (disch := omega) [lss, r2, if_pos]
    have lw : (headW ss seed most).length = most := by unfold headW; simp
    have e2 : c__law_heads_2 [some (.int seed), some (tx ss), some (.int (many : Int)), some (.int (most : Int)), none, none, none, none, none, some (tx (headW ss seed most)), none] [] = .ok (((List.range many).map fun k => (headW ss seed most).take (k + 1)).map tx) [] := by
      unfold c__law_heads_2
      rw [List.map_map]
      refine lLc_map (fun j : Nat => D.int (0 + (j : Int))) _ (List.range many) (chk := always) (h0 := []) (show iR1 _ _ _ = .ok (rgD 0 many, always) [] by simp (disch := omega)) rfl (by rw [List.length_range]; omega) fun j hj => ⟨_, rfl, ?_⟩
      have hj := List.mem_range.mp hj
      have sl := slD_tx_to (cs := headW ss seed most) (n := (j : Int) + 1) (by omega) (by omega)
      have t1 : ((j : Int) + 1).toNat = j + 1 := by omega
      rw [t1] at sl
      simp [sl]
    have js := fun h => joinS (ws := headW ss seed most) (h := h) (by omega)
    have n0 := nil_eq
    simp [q1, q2', e1, n0, js, e2, frz_txs, -List.map_map]
    refine ⟨_, rfl, by simp, ?_, fun w hw => ?_⟩
    · rw [List.nodup_iff_pairwise_ne, List.pairwise_map]
      refine List.Pairwise.imp_of_mem (fun {i j} hi hj hne z => hne ?_) (List.nodup_iff_pairwise_ne.mp List.nodup_range)
      have hi := List.mem_range.mp hi
      have hj := List.mem_range.mp hj
      have := congrArg List.length z
      rw [List.length_take, List.length_take, lw] at this
      omega
    · obtain ⟨k, hk, rfl⟩ := List.mem_map.mp hw
      have hk := List.mem_range.mp hk
      refine ⟨by rw [List.length_take, lw]; omega, by rw [List.length_take, lw]; omega, fun c hc => ?_⟩
      have hc := List.mem_of_mem_take hc
      unfold headW at hc
      obtain ⟨j, _, rfl⟩ := List.mem_map.mp hc
      exact sg_mem (md _).1 (md _).2
  · by_cases q1 : seed / 43264 % 4 = 3
    · have q2 : ¬ (many : Int) ≤ (most : Int) := fun z => q ⟨q1, by omega⟩
      simp only [Wp_seq]
      simp (disch := omega) only [Wp_if] at second ⊢
      simp [q1, q2]
      simpa using second
    · simp only [Wp_seq]
      simp [q1]
      simpa using second
/-! the world -/
def worldD (fs : List Fd) (ws : List Tx) (base : Int) : D := .dct [.inr "fields", .inr "words", .inr "base"] [fdsD fs, .lst (ws.map tx), .int base]
structure WorldOk (fs : List Fd) (ws : List Tx) (base : Int) : Prop where
  fs : FdsOk fs
  wlo : 1 ≤ ws.length
  whi : ws.length ≤ 4
  wok : ∀ w ∈ ws, okWord w
  blo : -(9 * 10 ^ 59) ≤ base
  bhi : base ≤ 9 * 10 ^ 59
def fldF (seed : Int) (ws : List Tx) (k : Nat) : Fd := (ws[k]?.getD [], decide (mixF seed ((k : Int) + 30) % 2 = 0))
theorem kind_pick {x : Int} : atI [D.str "word", D.str "number"] (x % 2) = some (.str (kindS (decide (x % 2 = 0)))) := by
  have h0 := Int.emod_nonneg x (show (2 : Int) ≠ 0 by decide)
  have h1 := Int.emod_lt_of_pos x (show (0 : Int) < 2 by decide)
  obtain q | q : x % 2 = 0 ∨ x % 2 = 1 := by omega
  · rw [q]; rfl
  · rw [q]; rfl
theorem world_merge {a b c : D} : mergeD [] [(.inr "fields", a), (.inr "words", b), (.inr "base", c)] = [(.inr "fields", a), (.inr "words", b), (.inr "base", c)] := rfl
theorem world_eq {ns : List Int} : ∃ fs ws base, m__law_world [scr ns] [] = .ok (worldD fs ws base) [] ∧ WorldOk fs ws base := by
  refine fnS_of (P := fun x => ∃ fs ws base, x = .ok (worldD fs ws base) [] ∧ WorldOk fs ws base) rfl ?_
  unfold b__law_world
  have c0 := fun h => callP_cell (ns := ns) (k := 0) (h := h) (by decide)
  have x0 := fun h => callP_mix (s := cellF ns 0) (k := 1) (h := h) (by decide) (by decide)
  have b0 := mixF_bd (cellF ns 0) 1
  obtain ⟨seed, hs⟩ : ∃ seed, mixF (cellF ns 0) 1 = seed := ⟨_, rfl⟩
  rw [hs] at b0 x0
  have x2 := fun h => callP_mix (s := seed) (k := 2) (h := h) (by decide) (by decide)
  have x3 := fun h => callP_mix (s := seed) (k := 3) (h := h) (by decide) (by decide)
  have b2 := mixF_bd seed 2
  have b3 := mixF_bd seed 3
  obtain ⟨many, hm⟩ : ∃ many : Nat, 1 + seed % 8 = many := ⟨(1 + seed % 8).toNat, by omega⟩
  obtain ⟨names, h1, n1⟩ := heads_eq (ss := smL) (seed := mixF seed 2) (many := many) (most := 12) (by decide) (by decide) (by decide) b2.1 (by omega) (by omega) (by decide) (by decide) (by intro a i j; simp only [smL, List.length_cons, List.length_nil]; omega)
  obtain ⟨words, h2, n2⟩ := heads_eq (ss := smL ++ fgL) (seed := mixF seed 3) (many := 4) (most := 12) (by decide) (by decide) (by decide) b3.1 (by omega) (by decide) (by decide) (by decide) (by intro a i j; simp only [smL, fgL, List.length_append, List.length_cons, List.length_nil]; omega)
  have h1 : ∀ h, callP m__law_heads [.int (mixF seed 2), tx smL, .int (many : Int), .int 12] h = .ok (.lst (names.map tx)) h := cP h1
  have h2 : ∀ h, callP m__law_heads [.int (mixF seed 3), tx (smL ++ fgL), .int 4, .int 12] h = .ok (.lst (words.map tx)) h := cP h2
  have p59 : powOk 10 59 = true := by decide
  have lm : many ≤ 8 := by omega
  have ln : names.length = many := n1.len
  have e1 : c__law_world_1 [some (scr ns), some (.int seed), some (.int (many : Int)), some (.lst (names.map tx)), none, none, none, none] [] = .ok (((List.range many).map (fldF seed names)).map fdD) [] := by
    unfold c__law_world_1
    rw [List.map_map]
    refine lLc_map (fun j : Nat => D.int (0 + (j : Int))) _ (List.range many) (chk := always) (h0 := []) (show iR1 _ _ _ = .ok (rgD 0 many, always) [] by simp (disch := omega)) rfl (by rw [List.length_range]; omega) fun j hj => ⟨_, rfl, ?_⟩
    have hj := List.mem_range.mp hj
    have hl : j < names.length := by omega
    have i1 : atI (names.map tx) (j : Int) = some (tx names[j]) := atI_map (atI_at rfl (List.getElem?_eq_getElem hl))
    simp (disch := omega) [callP_mix, i1, kind_pick]
    simp [fdD, fldF, hl]
  obtain ⟨fs, hfs⟩ : ∃ fs, (List.range many).map (fldF seed names) = fs := ⟨_, rfl⟩
  rw [hfs] at e1
  have efs : D.lst (fs.map fdD) = fdsD fs := rfl
  have fsn : fs.map (·.1) = names := by
    rw [← hfs, List.map_map]
    apply List.ext_getElem?
    intro i
    rw [List.getElem?_map]
    by_cases q : i < many
    · rw [List.getElem?_range q, List.getElem?_eq_getElem (show i < names.length by omega)]
      show some (names[i]?.getD []) = _
      rw [List.getElem?_eq_getElem (show i < names.length by omega)]; rfl
    · rw [List.getElem?_eq_none (by simp; omega), List.getElem?_eq_none (by omega)]; rfl
  have lfs : fs.length = many := by rw [← hfs]; simp
  have fo : FdsOk fs := ⟨by omega, by omega, by rw [fsn]; exact n1.nd, fun f hf => by
    have : f.1 ∈ names := by rw [← fsn]; exact List.mem_map.mpr ⟨f, hf, rfl⟩
    obtain ⟨a, b, c⟩ := n1.ok _ this
    exact ⟨a, b, c⟩⟩
  obtain ⟨base, hb, hb0, hb1⟩ : ∃ base : Int, atI [D.int 0, D.int 900000000000000000000000000000000000000000000000000000000000, D.int (-900000000000000000000000000000000000000000000000000000000000), D.int 98] (seed / 24 % 4) = some (.int base) ∧ -(9 * 10 ^ 59) ≤ base ∧ base ≤ 9 * 10 ^ 59 := by
    have h0 := Int.emod_nonneg (seed / 24) (show (4 : Int) ≠ 0 by decide)
    have h1 := Int.emod_lt_of_pos (seed / 24) (show (0 : Int) < 4 by decide)
    obtain q | q | q | q : seed / 24 % 4 = 0 ∨ seed / 24 % 4 = 1 ∨ seed / 24 % 4 = 2 ∨ seed / 24 % 4 = 3 := by omega
    · exact ⟨0, by rw [q]; rfl, by decide, by decide⟩
    · exact ⟨9 * 10 ^ 59, by rw [q]; rfl, by decide, by decide⟩
    · exact ⟨-(9 * 10 ^ 59), by rw [q]; rfl, by decide, by decide⟩
    · exact ⟨98, by rw [q]; rfl, by decide, by decide⟩
  have ct1 : VD.cutD (names.map tx) none (some 3) = (names.take 3).map tx := by rw [cutD_tk (by decide), List.map_take]; rfl
  have ct2 : VD.cutD (words.map tx) none (some 1) = (words.take 1).map tx := by rw [cutD_tk (by decide), List.map_take]; rfl
  have ct3 : (names.take 3).map tx ++ (words.take 1).map tx = (names.take 3 ++ words.take 1).map tx := List.map_append.symm
  have lw : words.length = 4 := n2.len
  have zz : (names.take 3).length + (words.take 1).length ≤ 16777216 := by rw [List.length_take, List.length_take]; omega
  have wok : ∀ w ∈ names.take 3 ++ words.take 1, okWord w := fun w hw => by
    rcases List.mem_append.mp hw with hw | hw
    · obtain ⟨a, b, c⟩ := n1.ok _ (List.mem_of_mem_take hw)
      exact (show okName w from ⟨a, b, c⟩).word
    · obtain ⟨a, b, c⟩ := n2.ok _ (List.mem_of_mem_take hw)
      exact ⟨a, b, c⟩
  by_cases q : seed / 8 % 3 = 1
  · simp (disch := omega) [c0, x0, x2, x3, hm, sm_eq, smfg_eq, h1, h2, e1, efs, q, ct1, ct2, ct3, zz, p59, hb, if_pos, world_merge, frz_fds, frz_txs, -List.map_append, -List.map_take, -List.length_take]
    exact ⟨fs, names.take 3 ++ words.take 1, base, rfl, fo, by simp; omega, by simp; omega, wok, hb0, hb1⟩
  · simp (disch := omega) [c0, x0, x2, x3, hm, sm_eq, smfg_eq, h1, h2, e1, efs, q, p59, hb, if_pos, world_merge, frz_fds, frz_txs]
    refine ⟨fs, words, base, rfl, fo, by omega, by omega, fun w hw => ?_, hb0, hb1⟩
    obtain ⟨a, b, c⟩ := n2.ok _ hw
    exact ⟨a, b, c⟩
section
variable {fs : List Fd} {ws : List Tx} {base : Int}
theorem dgk {h : Hv} : kvOf h (worldD fs ws base) = some [(.inr "fields", fdsD fs), (.inr "words", .lst (ws.map tx)), (.inr "base", .int base)] := rfl
theorem dg_f {a b c : D} : getD [(Sum.inr "fields", a), (.inr "words", b), (.inr "base", c)] (.inr "fields") = some a := rfl
theorem dg_w {a b c : D} : getD [(Sum.inr "fields", a), (.inr "words", b), (.inr "base", c)] (.inr "words") = some b := rfl
theorem dg_b {a b c : D} : getD [(Sum.inr "fields", a), (.inr "words", b), (.inr "base", c)] (.inr "base") = some c := rfl
theorem noC_world : noC (worldD fs ws base) = true := by
  unfold worldD
  simp [noC, noCL, noC_fds]
  rw [noCL_all, List.all_map]
  exact List.all_eq_true.mpr fun _ _ => rfl
theorem frz_world {n0 n : Nat} {h : Hv} : frz n0 h (n + 4) (worldD fs ws base) = some (worldD fs ws base) := by
  unfold worldD
  simp [frz_fds, frz_txs]
def sureF (ws : List Tx) (base : Int) (seed : Int) (b : Bool) : Val := if b = true then .wd (ws[(seed % ws.length).toNat]?.getD []) else .nm (base + seed % 6 - 2)
def valF (ws : List Tx) (base : Int) (seed : Int) (b : Bool) : Val := if seed % 6 = 0 then .no else sureF ws base (seed / 6) b
def kindAt (fs : List Fd) (k : Nat) : Bool := (fs[k]?.getD ([], true)).2
def rowF (fs : List Fd) (ws : List Tx) (base : Int) (seed : Int) : List Val := (List.range fs.length).map fun k : Nat => valF ws base (mixF seed ((k : Int) + 60)) (kindAt fs k)
theorem kind_w : (("word" : Str) = "word") = True := by simp
theorem kind_n : (("number" : Str) = "word") = False := eq_false nw_ne
theorem sure_ok (w : WorldOk fs ws base) {seed : Int} {b : Bool} : ValOk b (sureF ws base seed b) ∧ sureF ws base seed b ≠ .no := by
  cases b with
  | true =>
    have hp : (0 : Int) < ws.length := by have := w.wlo; omega
    have m1 := Int.emod_nonneg seed (show (ws.length : Int) ≠ 0 by omega)
    have m2 := Int.emod_lt_of_pos seed hp
    have hl : (seed % ws.length).toNat < ws.length := by omega
    refine ⟨⟨rfl, ?_⟩, fun z => by cases z⟩
    rw [List.getElem?_eq_getElem hl]
    exact w.wok _ (List.getElem_mem hl)
  | false =>
    have m1 := Int.emod_nonneg seed (show (6 : Int) ≠ 0 by decide)
    have m2 := Int.emod_lt_of_pos seed (show (0 : Int) < 6 by decide)
    have b1 := w.blo
    have b2 := w.bhi
    have e : (10 : Int) ^ 60 = 10 * 10 ^ 59 := by decide
    have p : (10 : Int) ^ 59 > 1000 := by decide
    refine ⟨⟨rfl, ?_, ?_⟩, fun z => by cases z⟩
    · omega
    · omega
theorem sure_eq (w : WorldOk fs ws base) {seed : Int} {b : Bool} : m__law_sure_value [.int seed, .str (kindS b), worldD fs ws base] [] = .ok (valD (sureF ws base seed b)) [] := by
  refine fnS_of (P := fun x => x = .ok (valD (sureF ws base seed b)) []) rfl ?_
  unfold b__law_sure_value
  cases b with
  | true =>
    have hp : (0 : Int) < ws.length := by have := w.wlo; omega
    have m1 := Int.emod_nonneg seed (show (ws.length : Int) ≠ 0 by omega)
    have m2 := Int.emod_lt_of_pos seed hp
    have hl : (seed % ws.length).toNat < ws.length := by omega
    obtain ⟨a, _, q1, q2⟩ := atI_get (xs := ws) m1 m2
    have q3 : atI (ws.map tx) (seed % ws.length) = some (tx a) := atI_map q2
    have q4 : sureF ws base seed true = .wd a := by unfold sureF; rw [if_pos rfl]; rw [show ws[(seed % ws.length).toNat]? = some a from q1]; rfl
    simp (disch := omega) [kindS, dgk, dg_w, q3, q4, valD, if_pos]
  | false =>
    simp [kindS, kind_n, dgk, dg_b, sureF, valD]
theorem val_ok (w : WorldOk fs ws base) {seed : Int} {b : Bool} : ValOk b (valF ws base seed b) := by
  unfold valF
  split
  · trivial
  · exact (sure_ok w).1
theorem val_eq (w : WorldOk fs ws base) {seed : Int} {b : Bool} : m__law_value [.int seed, .str (kindS b), worldD fs ws base] [] = .ok (valD (valF ws base seed b)) [] := by
  refine fnS_of (P := fun x => x = .ok (valD (valF ws base seed b)) []) rfl ?_
  unfold b__law_value
  have e := cP (sure_eq w (seed := seed / 6) (b := b)) (by simp [frz_world])
  unfold valF
  by_cases q : seed % 6 = 0
  · simp [q]; rfl
  · simp [q, e, frz_val]
theorem row_ok (w : WorldOk fs ws base) {seed : Int} : RowOk fs (rowF fs ws base seed) := by
  refine ⟨by unfold rowF; simp, fun i f v hf hv => ?_⟩
  unfold rowF at hv
  have hi := (List.getElem?_eq_some_iff.mp hf).1
  rw [List.getElem?_map, List.getElem?_range hi] at hv
  cases hv
  have : kindAt fs i = f.2 := by unfold kindAt; rw [hf]; rfl
  show ValOk f.2 (valF ws base (mixF seed ((i : Int) + 60)) (kindAt fs i))
  rw [this]
  exact val_ok w
theorem row_eq (w : WorldOk fs ws base) {seed : Int} : m__law_row [.int seed, worldD fs ws base] [] = .ok (rowD (rowF fs ws base seed)) [] := by
  refine fnS_of (P := fun x => x = .ok (rowD (rowF fs ws base seed)) []) rfl ?_
  unfold b__law_row
  have fh := w.fs.hi
  have lf : ∀ h, lenD h (fdsD fs) = some (fs.length : Int) := fun h => by unfold fdsD; rw [lenD_lst, List.length_map]
  have e1 : c__law_row_1 [some (.int seed), some (worldD fs ws base), some (fdsD fs), none] [] = .ok ((rowF fs ws base seed).map valD) [] := by
    unfold c__law_row_1 rowF
    rw [List.map_map]
    refine lLc_map (fun j : Nat => D.int (0 + (j : Int))) _ (List.range fs.length) (chk := always) (h0 := []) (show iR1 _ _ _ = .ok (rgD 0 fs.length, always) [] by simp (disch := omega) [lf]) rfl (by rw [List.length_range]; omega) fun j hj => ⟨_, rfl, ?_⟩
    have hj := List.mem_range.mp hj
    have i1 : ∀ h, ixD h (fdsD fs) (j : Int) = some (fdD fs[j]) := fun h => atI_map (atI_at rfl (List.getElem?_eq_getElem hj))
    have i2 : ∀ h, ixD h (fdD fs[j]) 1 = some (.str (kindS fs[j].2)) := fun _ => rfl
    have ka : kindAt fs j = fs[j].2 := by unfold kindAt; rw [List.getElem?_eq_getElem hj]; rfl
    have e := cP (val_eq w (seed := mixF seed ((j : Int) + 60)) (b := fs[j].2)) (by simp [frz_world])
    simp (disch := omega) [callP_mix, i1, i2, e, ka]
  have e2 : D.tup ((rowF fs ws base seed).map valD) = rowD (rowF fs ws base seed) := rfl
  have lr : (rowF fs ws base seed).length ≤ 16777216 := by unfold rowF; simp; omega
  simp [dgk, dg_f, e1, e2, frz_row, lr]
/-! sieves -/
def plainF (fs : List Fd) (ws : List Tx) (base : Int) (seed : Int) : Sv :=
  let f := fs[(seed % fs.length).toNat]?.getD ([], true)
  if seed / 8 % 4 = 0 then .lacks f.1
  else if seed / 8 % 4 = 1 ∨ f.2 = true then .is f.1 (sureF ws base (seed / 32) f.2)
  else if seed / 8 % 4 = 2 then .under f.1 (sureF ws base (seed / 32) f.2)
  else .over f.1 (sureF ws base (seed / 32) f.2)
theorem fd_pick (w : WorldOk fs ws base) (seed : Int) : ∃ f, fs[(seed % fs.length).toNat]? = some f ∧ fs[(seed % fs.length).toNat]?.getD ([], true) = f ∧ (∀ h, ixD h (fdsD fs) (seed % fs.length) = some (fdD f)) := by
  have hp : (0 : Int) < fs.length := by have := w.fs.lo; omega
  have m1 := Int.emod_nonneg seed (show (fs.length : Int) ≠ 0 by omega)
  have m2 := Int.emod_lt_of_pos seed hp
  obtain ⟨a, _, q1, q2⟩ := atI_get (xs := fs) m1 m2
  exact ⟨a, q1, by rw [q1]; rfl, fun h => atI_map q2⟩
theorem plain_ok (w : WorldOk fs ws base) (seed : Int) : SvOk fs (plainF fs ws base seed) ∧ dep (plainF fs ws base seed) = 0 ∧ ∀ k, wid k (plainF fs ws base seed) := by
  obtain ⟨f, q1, q2, _⟩ := fd_pick w seed
  obtain ⟨n, b⟩ := f
  unfold plainF
  rw [q2]
  simp only
  split
  · exact ⟨by rw [SvOk]; exact ⟨_, b, q1⟩, by simp [dep], fun k => by simp [wid]⟩
  · split
    · obtain ⟨a1, a2⟩ := sure_ok w (seed := seed / 32) (b := b)
      exact ⟨by rw [SvOk]; exact ⟨_, b, q1, a2, a1⟩, by simp [dep], fun k => by simp [wid]⟩
    · next hb =>
      have hb : b = false := by
        cases b with
        | false => rfl
        | true => exact absurd (.inr rfl) hb
      subst hb
      obtain ⟨a1, a2⟩ := sure_ok w (seed := seed / 32) (b := false)
      have a3 : sureF ws base (seed / 32) false = .nm (base + seed / 32 % 6 - 2) := rfl
      split
      · exact ⟨by rw [SvOk]; exact ⟨_, _, q1, a3, a1⟩, by simp [dep], fun k => by simp [wid]⟩
      · exact ⟨by rw [SvOk]; exact ⟨_, _, q1, a3, a1⟩, by simp [dep], fun k => by simp [wid]⟩
theorem plain_eq (w : WorldOk fs ws base) {seed : Int} : m__law_plain [.int seed, worldD fs ws base] [] = .ok (svD (plainF fs ws base seed)) [] := by
  obtain ⟨PP, hPP⟩ : ∃ PP : VD.R D → Prop, PP = fun x => x = .ok (svD (plainF fs ws base seed)) [] := ⟨_, rfl⟩
  have fin : PP (m__law_plain [.int seed, worldD fs ws base] []) := by
    refine fnQ_of (P := PP) rfl ?_
    unfold b__law_plain
    obtain ⟨f, q1, q2, q3⟩ := fd_pick w seed
    obtain ⟨n, b⟩ := f
    have hp : (0 : Int) < fs.length := by have := w.fs.lo; omega
    have lf : ∀ h, lenD h (fdsD fs) = some (fs.length : Int) := fun h => by unfold fdsD; rw [lenD_lst, List.length_map]
    have e := cP (sure_eq w (seed := seed / 32) (b := b)) (by simp [frz_world])
    have out : ∀ s : Sv, s = plainF fs ws base seed → Wp (Rq PP) (.ret (svD s) []) := fun s hs => by
      rw [Wp_rq_ret]
      exact ⟨_, frzQ_y (noC_sv s), by rw [hPP, hs]⟩
    have w0 := Int.emod_nonneg (seed / 8) (show (4 : Int) ≠ 0 by decide)
    have w1 := Int.emod_lt_of_pos (seed / 8) (show (0 : Int) < 4 by decide)
    have fd : fdD (n, b) = .tup [tx n, .str (kindS b)] := rfl
    simp (disch := omega) [dgk, dg_f, lf, q3, fd, if_pos]
    by_cases z0 : seed / 8 % 4 = 0
    · have o := out (.lacks n) (by unfold plainF; rw [q2]; simp [z0])
      rw [svD] at o
      simp [z0]
      simpa using o
    · by_cases z1 : seed / 8 % 4 = 1 ∨ b = true
      · have o := out (.is n (sureF ws base (seed / 32) b)) (by unfold plainF; rw [q2]; simp only; rw [if_neg z0, if_pos z1])
        rw [svD] at o
        rcases z1 with z1 | rfl
        · simp [z0, z1, e]
          simpa using o
        · by_cases z2 : seed / 8 % 4 = 1
          · simp [z0, z2, e]
            simpa using o
          · simp [z0, z2, kindS]
            simp [kindS] at e
            simp [e]
            simpa using o
      · have z1a : ¬ seed / 8 % 4 = 1 := fun z => z1 (.inl z)
        have hb : b = false := by
          cases b with
          | false => rfl
          | true => exact absurd (.inr rfl) z1
        subst hb
        simp [kindS] at e
        by_cases z2 : seed / 8 % 4 = 2
        · have o := out (.under n (sureF ws base (seed / 32) false)) (by unfold plainF; rw [q2]; simp [z0, z1a, z2])
          rw [svD] at o
          simp [z0, z1a, z2, kindS, kind_n, e]
          simpa using o
        · have z3 : seed / 8 % 4 = 3 := by omega
          have o := out (.over n (sureF ws base (seed / 32) false)) (by unfold plainF; rw [q2]; simp [z0, z1a, z2])
          rw [svD] at o
          simp [z0, z1a, z2, z3, kindS, kind_n, e]
          simpa using o
  rw [hPP] at fin
  exact fin
def sieveF (fs : List Fd) (ws : List Tx) (base : Int) : Nat → Int → Sv
  | 0, seed => plainF fs ws base (mixF seed 1)
  | d + 1, seed => if seed % 8 < 4 then plainF fs ws base (mixF seed 1) else if seed % 8 = 4 then .not (sieveF fs ws base d (mixF seed 2))
    else if seed / 32 % 2 = 0 then .all ((List.range (seed / 8 % 4).toNat).map fun k : Nat => sieveF fs ws base d (mixF seed ((k : Int) + 3)))
    else .some ((List.range (seed / 8 % 4).toNat).map fun k : Nat => sieveF fs ws base d (mixF seed ((k : Int) + 3)))
theorem sieve_ok (w : WorldOk fs ws base) : ∀ (d : Nat) (seed : Int), SvOk fs (sieveF fs ws base d seed) ∧ dep (sieveF fs ws base d seed) ≤ d ∧ ∀ j, 3 ≤ j → wid j (sieveF fs ws base d seed) := by
  intro d
  induction d with
  | zero => intro seed; obtain ⟨a, b, c⟩ := plain_ok w (mixF seed 1); exact ⟨a, Nat.le_of_eq b, fun j _ => c j⟩
  | succ d ih =>
    intro seed
    have w1 := Int.emod_nonneg (seed / 8) (show (4 : Int) ≠ 0 by decide)
    have w2 := Int.emod_lt_of_pos (seed / 8) (show (0 : Int) < 4 by decide)
    have l0 : ((List.range (seed / 8 % 4).toNat).map fun k : Nat => sieveF fs ws base d (mixF seed ((k : Int) + 3))).length ≤ 3 := by simp; omega
    have m0 : ∀ s ∈ ((List.range (seed / 8 % 4).toNat).map fun k : Nat => sieveF fs ws base d (mixF seed ((k : Int) + 3))), SvOk fs s ∧ dep s ≤ d ∧ ∀ j, 3 ≤ j → wid j s := fun s hs => by
      obtain ⟨k, _, rfl⟩ := List.mem_map.mp hs
      exact ih _
    have dl : ∀ l : List Sv, (∀ s ∈ l, dep s ≤ d) → depL l ≤ d := by
      intro l
      induction l with
      | nil => intro _; rw [depL]; omega
      | cons s l ih2 =>
        intro h
        rw [depL]
        have := h s List.mem_cons_self
        have := ih2 fun t ht => h t (List.mem_cons_of_mem _ ht)
        omega
    unfold sieveF
    split
    · obtain ⟨a, b, c⟩ := plain_ok w (mixF seed 1); exact ⟨a, by omega, fun j _ => c j⟩
    · split
      · obtain ⟨a, b, c⟩ := ih (mixF seed 2)
        exact ⟨by rw [SvOk]; exact a, by rw [dep]; omega, fun j hj => by rw [wid]; exact c j hj⟩
      · split
        · exact ⟨by rw [SvOk, SvOkL_mem]; exact fun s hs => (m0 s hs).1, by rw [dep]; have := dl _ fun s hs => (m0 s hs).2.1; omega, fun j hj => by rw [wid, widL_mem]; exact ⟨by omega, fun s hs => (m0 s hs).2.2 j hj⟩⟩
        · exact ⟨by rw [SvOk, SvOkL_mem]; exact fun s hs => (m0 s hs).1, by rw [dep]; have := dl _ fun s hs => (m0 s hs).2.1; omega, fun j hj => by rw [wid, widL_mem]; exact ⟨by omega, fun s hs => (m0 s hs).2.2 j hj⟩⟩
theorem frz_svs {n0 : Nat} {h : Hv} (l : List Sv) : frzQ n0 h (.tup [.str "all", .tup (l.map svD)]) = some (svD (.all l)) := by
  rw [← svL_map]
  exact frzQ_y (noC_sv (.all l))
/-- a list of deep things, sealed -/
def Flat (d : D) : Prop := ∀ n0 h, frz n0 h 10 d = some d
mutual
theorem frz_dep : ∀ (s : Sv) (k : Nat) {n0 : Nat} {h : Hv}, 2 * dep s + 3 ≤ k → frz n0 h k (svD s) = some (svD s)
  | .lacks n, k, n0, h, hk => by
    obtain ⟨j, rfl⟩ : ∃ j, k = j + 3 := ⟨k - 3, by omega⟩
    simp [svD]
  | .is n v, k, n0, h, hk => by
    obtain ⟨j, rfl⟩ : ∃ j, k = j + 3 := ⟨k - 3, by omega⟩
    simp [svD, frz_val]
  | .under n v, k, n0, h, hk => by
    obtain ⟨j, rfl⟩ : ∃ j, k = j + 3 := ⟨k - 3, by omega⟩
    simp [svD, frz_val]
  | .over n v, k, n0, h, hk => by
    obtain ⟨j, rfl⟩ : ∃ j, k = j + 3 := ⟨k - 3, by omega⟩
    simp [svD, frz_val]
  | .not s, k, n0, h, hk => by
    rw [dep] at hk
    obtain ⟨j, rfl⟩ : ∃ j, k = j + 1 := ⟨k - 1, by omega⟩
    have e := frz_dep s j (n0 := n0) (h := h) (by omega)
    obtain ⟨i, rfl⟩ : ∃ i, j = i + 1 := ⟨j - 1, by omega⟩
    simp [svD, e]
  | .all l, k, n0, h, hk => by
    rw [dep] at hk
    obtain ⟨j, rfl⟩ : ∃ j, k = j + 2 := ⟨k - 2, by omega⟩
    have e := frz_depL l j (n0 := n0) (h := h) (by omega)
    simp [svD, e]
  | .some l, k, n0, h, hk => by
    rw [dep] at hk
    obtain ⟨j, rfl⟩ : ∃ j, k = j + 2 := ⟨k - 2, by omega⟩
    have e := frz_depL l j (n0 := n0) (h := h) (by omega)
    simp [svD, e]
theorem frz_depL : ∀ (l : List Sv) (k : Nat) {n0 : Nat} {h : Hv}, 2 * depL l + 3 ≤ k → optAll (frz n0 h k) (svL l) = some (svL l)
  | [], k, n0, h, hk => by simp [svL]
  | s :: l, k, n0, h, hk => by
    rw [depL] at hk
    have e1 := frz_dep s k (n0 := n0) (h := h) (by omega)
    have e2 := frz_depL l k (n0 := n0) (h := h) (by omega)
    simp [svL, e1, e2]
end
theorem allsome_pick {x : Int} : ∃ s : Str, atI [D.str "all", D.str "some"] (x % 2) = some (.str s) ∧ s = if x % 2 = 0 then "all" else "some" := by
  have h0 := Int.emod_nonneg x (show (2 : Int) ≠ 0 by decide)
  have h1 := Int.emod_lt_of_pos x (show (0 : Int) < 2 by decide)
  obtain q | q : x % 2 = 0 ∨ x % 2 = 1 := by omega
  · exact ⟨"all", by rw [q]; rfl, by rw [if_pos q]⟩
  · exact ⟨"some", by rw [q]; rfl, by rw [if_neg (by omega)]⟩
theorem sieve_eq (w : WorldOk fs ws base) : ∀ (k d : Nat) (seed : Int), d < k → d ≤ 3 → 0 ≤ seed → m__law_sieve k [.int seed, worldD fs ws base, .int (d : Int)] [] = .ok (svD (sieveF fs ws base d seed)) [] := by
  intro k
  induction k with
  | zero => intro d seed h; exact absurd h (Nat.not_lt_zero _)
  | succ k ih =>
    intro d seed hd h3 s0
    obtain ⟨PP, hPP⟩ : ∃ PP : VD.R D → Prop, PP = fun x => x = .ok (svD (sieveF fs ws base d seed)) [] := ⟨_, rfl⟩
    have fin : PP (m__law_sieve (k + 1) [.int seed, worldD fs ws base, .int (d : Int)] []) := by
      refine fnQ_of (P := PP) rfl ?_
      unfold b__law_sieve
      have nc : ∀ x y : Int, noCL [.int x, worldD fs ws base, .int y] = true := fun x y => by simp [noCL, noC, noC_world]
      have pe := fun sd => cQ (plain_eq w (seed := sd)) (by simp [noCL, noC, noC_world])
      have w1 := Int.emod_nonneg seed (show (8 : Int) ≠ 0 by decide)
      have w2 := Int.emod_lt_of_pos seed (show (0 : Int) < 8 by decide)
      have v1 := Int.emod_nonneg (seed / 8) (show (4 : Int) ≠ 0 by decide)
      have v2 := Int.emod_lt_of_pos (seed / 8) (show (0 : Int) < 4 by decide)
      have out : ∀ s : Sv, s = sieveF fs ws base d seed → Wp (Rq PP) (.ret (svD s) []) := fun s hs => by
        rw [Wp_rq_ret]
        exact ⟨_, frzQ_y (noC_sv s), by rw [hPP, hs]⟩
      by_cases z0 : seed % 8 < 4
      · have o := out (plainF fs ws base (mixF seed 1)) (by cases d <;> simp [sieveF, z0])
        simp (disch := omega) [z0, callP_mix, pe]
        simpa using o
      · cases d with
        | zero =>
          have o := out (plainF fs ws base (mixF seed 1)) (by simp [sieveF])
          simp (disch := omega) [z0, callP_mix, pe]
          simpa using o
        | succ d =>
          have dd : ((d + 1 : Nat) : Int) - 1 = (d : Int) := by omega
          have dn : ¬ (((d + 1 : Nat) : Int) = 0) := by omega
          have rc := fun (sd : Int) (hs : 0 ≤ sd) => cQ (ih d sd (by omega) (by omega) hs) (nc sd d)
          by_cases z1 : seed % 8 = 4
          · have o := out (.not (sieveF fs ws base d (mixF seed 2))) (by simp [sieveF, z1])
            rw [svD] at o
            have r1 := rc (mixF seed 2) (mixF_bd _ _).1
            simp (disch := omega) only [Wp_seq] 
            simp (disch := omega) [z1, callP_mix, dd, dn, r1, -Int.natCast_add]
            simpa using o
          · obtain ⟨st, p1, p2⟩ := allsome_pick (x := seed / 32)
            simp (disch := omega) [z0, z1, dn, -Int.natCast_add]
            unfold l__law_sieve_1
            obtain ⟨I, hI⟩ : ∃ I : Nat → VS → Hv → Prop, I = fun i σ h => ∃ (x5 : Option D), σ = [some (.int seed), some (worldD fs ws base), some (.int ((d + 1 : Nat) : Int)), some (.int (seed % 8)), some (.cell 0), x5] ∧ h = [.lst (((List.range i).map fun k : Nat => sieveF fs ws base d (mixF seed ((k : Int) + 3))).map svD)] := ⟨_, rfl⟩
            refine Wp.range 0 (seed / 8 % 4).toNat I (h0 := [.lst []]) (by simp (disch := omega)) (by rw [hI]; exact ⟨_, rfl, rfl⟩) ?_ ?_
            · intro i σ h hi hh
              rw [hI] at hh
              obtain ⟨x5, rfl, rfl⟩ := hh
              refine ⟨_, rfl, ?_⟩
              have r1 := rc (mixF seed ((i : Int) + 3)) (mixF_bd _ _).1
              have ek : ((List.range i).map fun k : Nat => sieveF fs ws base d (mixF seed ((k : Int) + 3))).map svD ++ [svD (sieveF fs ws base d (mixF seed ((i : Int) + 3)))] = ((List.range (i + 1)).map fun k : Nat => sieveF fs ws base d (mixF seed ((k : Int) + 3))).map svD := by rw [List.range_succ, List.map_append, List.map_append]; rfl
              simp (disch := omega) [callP_mix, dd, r1, if_pos, ek, -Int.natCast_add, -List.map_append, -List.map_map]
              rw [hI]
              exact ⟨_, rfl, rfl⟩
            · intro σ h hh
              rw [hI] at hh
              obtain ⟨x5, rfl, rfl⟩ := hh
              obtain ⟨l, hl⟩ : ∃ l, ((List.range (seed / 8 % 4).toNat).map fun k : Nat => sieveF fs ws base d (mixF seed ((k : Int) + 3))) = l := ⟨_, rfl⟩
              rw [hl]
              have ld : 2 * depL l + 3 ≤ 11 := by
                have dl : ∀ l : List Sv, (∀ s ∈ l, dep s ≤ 2) → depL l ≤ 2 := by
                  intro l
                  induction l with
                  | nil => intro _; rw [depL]; omega
                  | cons s l ih2 =>
                    intro h
                    rw [depL]
                    have := h s List.mem_cons_self
                    have := ih2 fun t ht => h t (List.mem_cons_of_mem _ ht)
                    omega
                have := dl l fun s hs => by
                  rw [← hl] at hs
                  obtain ⟨k, _, rfl⟩ := List.mem_map.mp hs
                  have := (sieve_ok w d (mixF seed ((k : Int) + 3))).2.1
                  omega
                omega
              have fz := frz_depL l 11 (n0 := 0) (h := [Cell.lst (l.map svD)]) ld
              rw [svL_map] at fz
              by_cases z2 : seed / 32 % 2 = 0
              · have o := out (.all l) (by rw [sieveF, if_neg z0, if_neg z1, if_pos z2, hl])
                rw [svD, svL_map] at o
                rw [if_pos z2] at p2
                subst p2
                simp [fz, frz_world, p1]
                simpa using o
              · have o := out (.some l) (by rw [sieveF, if_neg z0, if_neg z1, if_neg z2, hl])
                rw [svD, svL_map] at o
                rw [if_neg z2] at p2
                subst p2
                simp [fz, frz_world, p1]
                simpa using o
    rw [hPP] at fin
    exact fin
end
end
end WD

set_option Elab.async false
set_option linter.all false
set_option maxRecDepth 100000
set_option maxHeartbeats 4000000
namespace PV
open PySem PySem.Spec PyProof.Rows L2 VD
noncomputable section
def l_made_of_1 : SS := sFor (iS (eVar 0)) (gN 3) (sIf (toB (eOp oNotIn (eVar 3) (eVar 1))) (sRet (eK (.bl false))) (sNext))
def b_made_of : SS := sSeq (sIf (cOr (cNot (toB (eIsi "str" (eVar 0)))) (cOr (toB (eOp oLt (eCa bLen (aCons (eVar 0) (aNil))) (eK (.int 1)))) (toB (eOp oGt (eCa bLen (aCons (eVar 0) (aNil))) (eVar 2))))) (sRet (eK (.bl false))) (sNext)) (sSeq (l_made_of_1) (sRet (eK (.bl true))))
def m_made_of : List D → Hv → R D := fnS 3 1 b_made_of
def b_is_word : SS := sRet (eCa (Cm.f .P m_made_of) (aCons (eVar 0) (aCons (eOp oAdd (eK (.str "abcdefghijklmnopqrstuvwxyz")) (eK (.str "0123456789"))) (aCons (eK (.int 12)) (aNil)))))
def m_is_word : List D → Hv → R D := fnS 1 0 b_is_word
def b_written : SS := sSeq (sIf (toB (eOp oIs (eVar 0) (eK .non))) (sRet (eK (.str "-"))) (sNext)) (sRet (eCa bStrA (aCons (eVar 0) (aNil))))
def m_written : List D → Hv → R D := fnS 1 0 b_written
def b_is_number_text : SS := sSeq (sSet 1 (eVar 0)) (sSeq (sIf (toB (eOp oEq (eSl (eVar 0) (pNo) (pAt (eK (.int 1)))) (eK (.str "-")))) (sSet 1 (eSl (eVar 0) (pAt (eK (.int 1))) (pNo))) (sNext)) (sSeq (sIf (cNot (toB (eCa (Cm.f .P m_made_of) (aCons (eVar 1) (aCons (eK (.str "0123456789")) (aCons (eK (.int 60)) (aNil))))))) (sRet (eK (.bl false))) (sNext)) (sRet (eOrV (eOp oNe (eOp oIx (eVar 1) (eK (.int 0))) (eK (.str "0"))) (eOp oEq (eVar 0) (eK (.str "0")))))))
def m_is_number_text : List D → Hv → R D := fnS 1 1 b_is_number_text
def b_read_value : SS := sSeq (sIf (toB (eOp oEq (eVar 0) (eK (.str "word")))) (sSeq (sIf (toB (eCa (Cm.f .P m_is_word) (aCons (eVar 1) (aNil)))) (sRet (eVar 1)) (sNext)) (sRet (eK .non))) (sNext)) (sSeq (sIf (toB (eCa (Cm.f .P m_is_number_text) (aCons (eVar 1) (aNil)))) (sRet (eCa bIntA (aCons (eVar 1) (aNil)))) (sNext)) (sRet (eK .non)))
def m_read_value : List D → Hv → R D := fnS 2 0 b_read_value
def b_is_name : SS := sRet (eCa (Cm.f .P m_made_of) (aCons (eVar 0) (aCons (eK (.str "abcdefghijklmnopqrstuvwxyz")) (aCons (eK (.int 12)) (aNil)))))
def m_is_name : List D → Hv → R D := fnS 1 0 b_is_name
def b_is_whole : SS := sSeq (sIf (cOr (cNot (toB (eIsi "int" (eVar 0)))) (toB (eIsi "bool" (eVar 0)))) (sRet (eK (.bl false))) (sNext)) (sRet (eOp oLt (eCa bAbs (aCons (eVar 0) (aNil))) (eOp oPow (eK (.int 10)) (eK (.int 60)))))
def m_is_whole : List D → Hv → R D := fnS 1 0 b_is_whole
def b_is_value : SS := sSeq (sIf (toB (eOp oIs (eVar 1) (eK .non))) (sRet (eK (.bl true))) (sNext)) (sSeq (sIf (toB (eOp oEq (eVar 0) (eK (.str "word")))) (sRet (eCa (Cm.f .P m_is_word) (aCons (eVar 1) (aNil)))) (sNext)) (sRet (eCa (Cm.f .P m_is_whole) (aCons (eVar 1) (aNil)))))
def m_is_value : List D → Hv → R D := fnS 2 0 b_is_value
def b_ahead : SS := sSeq (sIf (cOr (toB (eOp oIs (eVar 0) (eK .non))) (toB (eOp oIs (eVar 1) (eK .non)))) (sRet (eAndV (eOp oIs (eVar 1) (eK .non)) (eOp oIsNot (eVar 0) (eK .non)))) (sNext)) (sRet (eOp oLt (eVar 0) (eVar 1)))
def m_ahead : List D → Hv → R D := fnS 2 0 b_ahead
def okW (cs ss : List Nat) (most : Int) : Bool := decide (1 ≤ cs.length ∧ (cs.length : Int) ≤ most) && cs.all fun c => decide (c ∈ ss)
theorem kss : kitB "str" "str" = some true := by decide +kernel
theorem made_eq {cs ss : List Nat} {most : Int} (hl : cs.length ≤ 1000) : m_made_of [tx cs, tx ss, .int most] [] = .ok (.bl (okW cs ss most)) [] := by
  refine fnS_of (P := fun x => x = .ok (.bl (okW cs ss most)) []) rfl ?_
  unfold b_made_of
  by_cases q1 : cs.length < 1
  · have : okW cs ss most = false := by unfold okW; rw [decide_eq_false (by omega)]; rfl
    have q1' : (cs.length : Int) < 1 := by omega
    have q1'' : cs = [] := List.length_eq_zero_iff.mp (by omega)
    rw [q1''] at this
    simp (disch := omega) [kss, this, q1'']
  by_cases q2 : most < (cs.length : Int)
  · have : okW cs ss most = false := by unfold okW; rw [decide_eq_false (by omega)]; rfl
    have q1' : ¬ (cs.length : Int) < 1 := by omega
    simp (disch := omega) [kss, q1', q2, this]
  have q1' : ¬ (cs.length : Int) < 1 := by omega
  simp (disch := omega) [kss, q1', q2]
  obtain ⟨I, hI⟩ : ∃ I : Nat → VS → Hv → Prop, I = fun i σ h => ∃ (x3 : Option D), σ = [some (tx cs), some (tx ss), some (.int most), x3] ∧ h = [] ∧ ∀ c ∈ cs.take i, c ∈ ss := ⟨_, rfl⟩
  refine Wp.loopA (fun c => tx [c]) cs I (h0 := []) (by simp) (by rw [hI]; exact ⟨_, rfl, rfl, fun c hc => by simp at hc⟩) ?_ ?_
  · intro i c σ h hp hh
    rw [hI] at hh
    obtain ⟨x3, rfl, rfl, al⟩ := hh
    refine ⟨_, rfl, ?_⟩
    by_cases q : c ∈ ss
    · simp [q]
      rw [hI]
      refine ⟨_, rfl, rfl, fun b hb => ?_⟩
      rw [List.take_add_one, hp] at hb
      rcases List.mem_append.mp hb with hb | hb
      · exact al b hb
      · cases List.mem_singleton.mp hb; exact q
    · have : okW cs ss most = false := by
        unfold okW
        rw [Bool.and_eq_false_iff]
        refine .inr (Bool.eq_false_iff.mpr fun z => q ?_)
        exact of_decide_eq_true (List.all_eq_true.mp z c (List.mem_of_getElem? hp))
      simp [q, this]
  · intro σ h hh
    rw [hI] at hh
    obtain ⟨x3, rfl, rfl, al⟩ := hh
    rw [List.take_length] at al
    have : okW cs ss most = true := by
      unfold okW
      rw [decide_eq_true (by omega), Bool.true_and, List.all_eq_true]
      exact fun c hc => decide_eq_true (al c hc)
    simp [this]
/-- a thing that is no text -/
structure NoStr (d : D) : Prop where
  pure : frz 0 [] 12 d = some d
  ty : ∃ t, tyName [] d = some t ∧ kitB t "str" = some false
theorem made_no {d : D} {s : Str} {most : Int} (n : NoStr d) : m_made_of [d, .str s, .int most] [] = .ok (.bl false) [] := by
  refine fnS_of (P := fun x => x = .ok (.bl false) []) rfl ?_
  unfold b_made_of
  obtain ⟨t, h1, h2⟩ := n.ty
  simp [h1, h2]
theorem name_eq {cs : List Nat} (hl : cs.length ≤ 1000) : m_is_name [tx cs] [] = .ok (.bl (okW cs smL 12)) [] := by
  refine fnS_of (P := fun x => x = .ok (.bl (okW cs smL 12)) []) rfl ?_
  unfold b_is_name
  have e := cP (made_eq (ss := smL) (most := 12) hl)
  simp [e, sm_eq]
theorem word_eq {cs : List Nat} (hl : cs.length ≤ 1000) : m_is_word [tx cs] [] = .ok (.bl (okW cs (smL ++ fgL) 12)) [] := by
  refine fnS_of (P := fun x => x = .ok (.bl (okW cs (smL ++ fgL) 12)) []) rfl ?_
  unfold b_is_word
  have e := cP (made_eq (ss := smL ++ fgL) (most := 12) hl)
  have ea : ∀ h, oAdd (tx smL) (tx fgL) h = .ok (tx (smL ++ fgL)) h := fun h => oAdd_tx (by decide)
  simp [e, sm_eq, fg_eq, ea, -oAdd_tx]
theorem name_no {d : D} (n : NoStr d) : m_is_name [d] [] = .ok (.bl false) [] := by
  refine fnS_of (P := fun x => x = .ok (.bl false) []) rfl ?_
  unfold b_is_name
  have hp := n.pure
  have e := cP (made_no (s := sx smL) (most := 12) n) (by simp [hp])
  simp [e, sm_eq]
theorem word_no {d : D} (n : NoStr d) : m_is_word [d] [] = .ok (.bl false) [] := by
  refine fnS_of (P := fun x => x = .ok (.bl false) []) rfl ?_
  unfold b_is_word
  have hp := n.pure
  have e := cP (made_no (s := sx (smL ++ fgL)) (most := 12) n) (by simp [hp])
  have ea : ∀ h, oAdd (tx smL) (tx fgL) h = .ok (tx (smL ++ fgL)) h := fun h => oAdd_tx (by decide)
  simp [e, sm_eq, fg_eq, ea, -oAdd_tx]
theorem kii : kitB "int" "int" = some true := by decide +kernel
theorem kib : kitB "int" "bool" = some false := by decide +kernel
theorem kbb : kitB "bool" "bool" = some true := by decide +kernel
theorem kbi : kitB "bool" "int" = some true := by decide +kernel
def okN (i : Int) : Bool := decide ((if i < 0 then -i else i) < 10 ^ 60)
theorem whole_int {i : Int} : m_is_whole [.int i] [] = .ok (.bl (okN i)) [] := by
  refine fnS_of (P := fun x => x = .ok (.bl (okN i)) []) rfl ?_
  unfold b_is_whole
  have p : powOk 10 60 = true := by decide
  have e : (10 : Int) ^ (60 : Int).toNat = 10 ^ 60 := rfl
  simp [kii, kib, p, okN]
/-- a thing that is no whole number -/
def NoInt (d : D) : Prop := frz 0 [] 12 d = some d ∧ ∃ t, tyName [] d = some t ∧ (kitB t "int" = some false ∨ (kitB t "int" = some true ∧ kitB t "bool" = some true))
theorem whole_no {d : D} (n : NoInt d) : m_is_whole [d] [] = .ok (.bl false) [] := by
  refine fnS_of (P := fun x => x = .ok (.bl false) []) rfl ?_
  unfold b_is_whole
  obtain ⟨_, t, h1, h2⟩ := n
  rcases h2 with h2 | ⟨h2, h3⟩
  · simp [h1, h2]
  · simp [h1, h2, h3]
/-- a thing and what the three ask -/
structure Th (d : D) (a b c : Bool) : Prop where
  pure : frz 0 [] 12 d = some d
  nn : isD d .non = some false
  nm : m_is_name [d] [] = .ok (.bl a) []
  wd : m_is_word [d] [] = .ok (.bl b) []
  wh : m_is_whole [d] [] = .ok (.bl c) []
theorem value_eq {d : D} {a b c : Bool} (t : Th d a b c) : m_is_value [.str "word", d] [] = .ok (.bl b) [] ∧ m_is_value [.str "number", d] [] = .ok (.bl c) [] := by
  have hp := t.pure
  have hn := t.nn
  have e1 := cP t.wd (by simp [hp])
  have e2 := cP t.wh (by simp [hp])
  constructor
  · refine fnS_of (P := fun x => x = .ok (.bl b) []) rfl ?_
    unfold b_is_value
    simp [hn, e1]
  · refine fnS_of (P := fun x => x = .ok (.bl c) []) rfl ?_
    unfold b_is_value
    simp [hn, e2, nw_ne]
theorem ksi : kitB "str" "int" = some false := by decide +kernel
theorem th_text {cs : List Nat} (hl : cs.length ≤ 1000) : Th (tx cs) (okW cs smL 12) (okW cs (smL ++ fgL) 12) false := ⟨rfl, rfl, name_eq hl, word_eq hl, whole_no ⟨rfl, "str", rfl, .inl ksi⟩⟩
theorem th_int {i : Int} : Th (.int i) false false (okN i) := by
  have n : NoStr (.int i) := ⟨rfl, "int", rfl, by decide +kernel⟩
  exact ⟨rfl, rfl, name_no n, word_no n, whole_int⟩
theorem th_other {d : D} (t : String) (hp : frz 0 [] 12 d = some d) (hn : isD d .non = some false) (ht : tyName [] d = some t) (h1 : kitB t "str" = some false) (h2 : kitB t "int" = some false ∨ (kitB t "int" = some true ∧ kitB t "bool" = some true)) : Th d false false false := by
  have n : NoStr d := ⟨hp, t, ht, h1⟩
  exact ⟨hp, hn, name_no n, word_no n, whole_no ⟨hp, t, ht, h2⟩⟩
theorem value_non {k : Str} : m_is_value [.str k, .non] [] = .ok (.bl true) [] := by
  refine fnS_of (P := fun x => x = .ok (.bl true) []) rfl ?_
  unfold b_is_value
  simp

/-! numbers written -/
def numT (n : Int) : List Nat := if n < 0 then 45 :: TL.numL n.natAbs else TL.numL n.natAbs
theorem of_tl (z : Str) : z = sx (TL.tl z) := by
  cases z with
  | mk a => show Str.mk a = Str.mk (a.toList).toArray; simp
theorem str_int (n : Int) : (Str.ofString (toString n)) = sx (numT n) := by
  unfold numT
  by_cases q : n < 0
  · rw [if_pos q]
    obtain ⟨m, rfl⟩ : ∃ m : Nat, n = Int.negSucc m := by
      cases n with
      | ofNat k => exact absurd q (by simp)
      | negSucc m => exact ⟨m, rfl⟩
    have e : toString (Int.negSucc m) = "-" ++ toString ((m + 1 : Nat) : Int) := rfl
    have e2 := TL.tl_num (m + 1)
    rw [e, Str.ofString_eq_toList]
    rw [Str.ofString_eq_toList] at e2
    have e2 : ((toString ((m + 1 : Nat) : Int)).toList.map Char.toNat) = TL.numL (m + 1) := by simpa using e2
    have e3 : ("-" ++ toString ((m + 1 : Nat) : Int)).toList = '-' :: (toString ((m + 1 : Nat) : Int)).toList := by
      rw [String.toList_append]; rfl
    rw [e3, List.map_cons, e2]
    rfl
  · rw [if_neg q]
    obtain ⟨m, rfl⟩ : ∃ m : Nat, n = m := ⟨n.toNat, by omega⟩
    have e2 := TL.tl_num m
    rw [of_tl (Str.ofString (toString (m : Int))), e2]
    rfl
theorem numT_len {n : Int} (h1 : -(10 ^ 60) < n) (h2 : n < 10 ^ 60) : (numT n).length ≤ 61 ∧ (TL.numL n.natAbs).length ≤ 60 := by
  have l : (TL.numL n.natAbs).length ≤ 60 := TL.numL_len (by decide) (by
    have : (n.natAbs : Int) < ((10 ^ 60 : Nat) : Int) := by
      have e : ((10 ^ 60 : Nat) : Int) = 10 ^ 60 := by decide
      rw [e]; omega
    omega)
  unfold numT
  split
  · rw [List.length_cons]; exact ⟨by omega, l⟩
  · exact ⟨by omega, l⟩
/-- a value's text -/
theorem written_int {n : Int} (h1 : -(10 ^ 77) < n) (h2 : n < 10 ^ 77) : m_written [.int n] [] = .ok (tx (numT n)) [] := by
  refine fnS_of (P := fun x => x = .ok (tx (numT n)) []) rfl ?_
  unfold b_written
  have e : ∀ h, bStrA [.int n] h = .ok (tx (numT n)) h := fun h => by rw [bStrA_int h1 h2, str_int]
  simp [e]
theorem written_str {s : Str} : m_written [.str s] [] = .ok (.str s) [] := by
  refine fnS_of (P := fun x => x = .ok (.str s) []) rfl ?_
  unfold b_written
  simp
theorem written_non : m_written [.non] [] = .ok (.str "-") [] := by
  refine fnS_of (P := fun x => x = .ok (.str "-") []) rfl ?_
  unfold b_written
  simp
/-! numbers read -/
def figs (cs : List Nat) : List Nat := if cs.take 1 = [45] then cs.drop 1 else cs
def isNum (cs : List Nat) : Bool := okW (figs cs) fgL 60 && (decide ((figs cs)[0]?.getD 0 ≠ 48) || decide (cs = [48]))
def valN (cs : List Nat) : Int := if cs.take 1 = [45] then -((NumText.digitsVal (cs.drop 1) : Nat) : Int) else ((NumText.digitsVal cs : Nat) : Int)
theorem min_eq : ("-" : Str) = sx [45] := by decide +kernel
theorem zero_eq : ("0" : Str) = sx [48] := by decide +kernel
theorem eqD_txs {a b : List Nat} {h : Hv} : eqD h (tx a) (tx b) = some (decide (a = b)) := eqD_tx
theorem number_text_eq {cs : List Nat} (hl : cs.length ≤ 1000) : m_is_number_text [tx cs] [] = .ok (.bl (isNum cs)) [] := by
  refine fnS_of (P := fun x => x = .ok (.bl (isNum cs)) []) rfl ?_
  unfold b_is_number_text
  have fl : (figs cs).length ≤ 1000 := by
    unfold figs
    split
    · rw [List.length_drop]; omega
    · omega
  have e1 := cP (made_eq (cs := figs cs) (ss := fgL) (most := 60) fl)
  have s1 : ∀ h : Hv, slD (tx cs) none (some 1) = some (tx (cs.take 1)) := fun _ => slD_tx_to (by omega) (by decide)
  have s2 : ∀ h : Hv, slD (tx cs) (some 1) none = some (tx (cs.drop 1)) := fun _ => slD_tx_from (by omega) (by decide)
  have s1 := s1 []
  have s2 := s2 []
  have go : ∀ x : List Nat, x = figs cs → Wp (Rt fun x => x = .ok (.bl (isNum cs)) []) (sSeq (sIf (cNot (toB (eCa (Cm.f .P m_made_of) (aCons (eVar 1) (aCons (eK (.str "0123456789")) (aCons (eK (.int 60)) (aNil))))))) (sRet (eK (.bl false))) (sNext)) (sRet (eOrV (eOp oNe (eOp oIx (eVar 1) (eK (.int 0))) (eK (.str "0"))) (eOp oEq (eVar 0) (eK (.str "0"))))) [some (tx cs), some (tx x)] []) := by
    rintro _ rfl
    by_cases q : okW (figs cs) fgL 60 = true
    · have pos : 0 < (figs cs).length := by
        unfold okW at q
        rw [Bool.and_eq_true, decide_eq_true_eq] at q
        omega
      have ix := ixD_tx (cs := figs cs) (h := []) (k := 0) (by omega) (by decide) (by omega)
      have e0 : (0 : Int).toNat = 0 := rfl
      rw [e0] at ix
      have e2 : ([(figs cs)[0]?.getD 0] = [48]) = ((figs cs)[0]?.getD 0 = 48) := by simp
      by_cases q2 : (figs cs)[0]?.getD 0 = 48
      · have : isNum cs = decide (cs = [48]) := by unfold isNum; rw [q, decide_eq_false (by simp [q2])]; rfl
        rw [this]
        simp [fg_eq, e1, q, ix, zero_eq, eqD_txs, q2, -eqD_str, -ixD_tx]
      · have : isNum cs = true := by unfold isNum; rw [q, decide_eq_true q2]; rfl
        rw [this]
        simp [fg_eq, e1, q, ix, zero_eq, eqD_txs, q2, -eqD_str, -ixD_tx]
    · have q : okW (figs cs) fgL 60 = false := by simpa using q
      have : isNum cs = false := by unfold isNum; rw [q]; rfl
      simp [fg_eq, e1, q, this]
  by_cases q0 : cs.take 1 = [45]
  · have ef : figs cs = cs.drop 1 := if_pos q0
    have := go (cs.drop 1) ef.symm
    simp only [Wp_seq, Wp_if, sSet_ap, eVar_ap, at0, List.map_cons, List.map_nil, List.cons_append, List.nil_append, List.replicate, R.then_ok, Wp_sq_next, List.set_cons_succ, List.set_cons_zero] at this ⊢
    simp [s1, s2, min_eq, eqD_txs, q0, -eqD_str]
    simpa using this
  · have ef : figs cs = cs := if_neg q0
    have := go cs ef.symm
    simp [s1, s2, min_eq, eqD_txs, q0, -eqD_str]
    simpa using this

theorem fgL_dig {cs : List Nat} {most : Int} (h : okW cs fgL most = true) : NumText.AllDigits cs ∧ cs ≠ [] ∧ (cs.length : Int) ≤ most := by
  unfold okW at h
  rw [Bool.and_eq_true, decide_eq_true_eq, List.all_eq_true] at h
  obtain ⟨⟨l0, l1⟩, al⟩ := h
  refine ⟨fun c hc => ?_, fun z => by rw [z] at l0; simp at l0, l1⟩
  have := of_decide_eq_true (al c hc)
  have key : ∀ c ∈ fgL, 48 ≤ c ∧ c ≤ 57 := by decide
  exact key c this
theorem int_text {cs : List Nat} (h : isNum cs = true) : PySem.intText? (sx cs) = some (valN cs) ∧ (sx cs).length ≤ 640 := by
  unfold isNum at h
  rw [Bool.and_eq_true] at h
  obtain ⟨dg, ne, le⟩ := fgL_dig h.1
  have ex : (sx cs).cps.toList = cs := by simp
  unfold figs at dg ne le
  unfold valN
  by_cases q : cs.take 1 = [45]
  · rw [if_pos q] at dg ne le ⊢
    obtain ⟨d, rfl⟩ : ∃ d, cs = 45 :: d := by
      cases cs with
      | nil => simp at q
      | cons c d => simp at q; exact ⟨d, by rw [q]⟩
    simp at dg ne le ⊢
    have hl : (sx (45 :: d)).length ≤ 4300 := by rw [sx_len]; simp; omega
    exact ⟨intText_neg ex dg ne hl, by rw [sx_len]; simp; omega⟩
  · rw [if_neg q] at dg ne le ⊢
    have hl : (sx cs).length ≤ 4300 := by rw [sx_len]; omega
    refine ⟨?_, by rw [sx_len]; omega⟩
    have := intText_digits (x := sx cs) (by rw [ex]; exact dg) (by rw [ex]; exact ne) hl
    rw [this, ex]
theorem read_word {cs : List Nat} (hl : cs.length ≤ 1000) : m_read_value [.str "word", tx cs] [] = .ok (if okW cs (smL ++ fgL) 12 = true then tx cs else .non) [] := by
  refine fnS_of (P := fun x => x = .ok (if okW cs (smL ++ fgL) 12 = true then tx cs else .non) []) rfl ?_
  unfold b_read_value
  have e := cP (word_eq hl)
  by_cases q : okW cs (smL ++ fgL) 12 = true
  · simp [e, q]
  · have q' : okW cs (smL ++ fgL) 12 = false := by simpa using q
    simp [e, q']
def readN (cs : List Nat) : D := if isNum cs = true then .int (valN cs) else .non
theorem read_number {cs : List Nat} (hl : cs.length ≤ 1000) : m_read_value [.str "number", tx cs] [] = .ok (readN cs) [] := by
  refine fnS_of (P := fun x => x = .ok (readN cs) []) rfl ?_
  unfold b_read_value readN
  have e := cP (number_text_eq hl)
  by_cases q : isNum cs = true
  · obtain ⟨t1, t2⟩ := int_text q
    have e2 := fun h => bIntA_str (h := h) t1 t2
    simp [e, q, nw_ne, e2]
  · have q' : isNum cs = false := by simpa using q
    simp [e, q', nw_ne]
/-! a number's text reads back -/
theorem numL_head : ∀ (n : Nat), 0 < n → (TL.numL n)[0]?.getD 0 ≠ 48 := by
  intro n
  induction n using Nat.strongRecOn with
  | ind n ih =>
    intro h
    by_cases q : n < 10
    · rw [TL.numL_lt q]; simp; omega
    · rw [TL.numL_step (by omega)]
      have := ih (n / 10) (Nat.div_lt_self (by omega) (by decide)) (Nat.div_pos (by omega) (by decide))
      have ne := TL.numL_ne (n / 10)
      have hp : 0 < (TL.numL (n / 10)).length := List.length_pos_iff.mpr ne
      rw [List.getElem?_append_left hp]
      exact this
theorem numL_zero : TL.numL 0 = [48] := by rw [TL.numL_lt (by decide)]
theorem numL_not45 (n : Nat) : (TL.numL n).take 1 ≠ [45] := by
  intro z
  have : 45 ∈ TL.numL n := List.mem_of_mem_take (i := 1) (by rw [z]; exact List.mem_cons_self)
  exact TL.numL_free (by omega) this
theorem okW_numL {n : Nat} (h : (TL.numL n).length ≤ 60) : okW (TL.numL n) fgL 60 = true := by
  unfold okW
  have ne : 0 < (TL.numL n).length := List.length_pos_iff.mpr (TL.numL_ne n)
  rw [Bool.and_eq_true, decide_eq_true_eq, List.all_eq_true]
  refine ⟨⟨by omega, by omega⟩, fun c hc => decide_eq_true ?_⟩
  have := TL.numL_digits n c hc
  have key : ∀ c : Nat, 48 ≤ c ∧ c ≤ 57 → c ∈ fgL := by
    intro c hc
    obtain rfl | rfl | rfl | rfl | rfl | rfl | rfl | rfl | rfl | rfl : c = 48 ∨ c = 49 ∨ c = 50 ∨ c = 51 ∨ c = 52 ∨ c = 53 ∨ c = 54 ∨ c = 55 ∨ c = 56 ∨ c = 57 := by omega
    all_goals decide
  exact key c this
theorem figs_numT (n : Int) : figs (numT n) = TL.numL n.natAbs := by
  unfold figs numT
  by_cases q : n < 0
  · rw [if_pos q]; rfl
  · rw [if_neg q, if_neg (numL_not45 _)]
theorem isNum_numT {n : Int} (h1 : -(10 ^ 60) < n) (h2 : n < 10 ^ 60) : isNum (numT n) = true := by
  unfold isNum
  rw [figs_numT, okW_numL (numT_len h1 h2).2, Bool.true_and, Bool.or_eq_true]
  by_cases q : n = 0
  · subst q
    exact .inr (by unfold numT; rw [if_neg (by omega)]; exact decide_eq_true numL_zero)
  · exact .inl (decide_eq_true (numL_head _ (by omega)))
theorem valN_numT (n : Int) : valN (numT n) = n := by
  unfold valN numT
  by_cases q : n < 0
  · rw [if_pos q, if_pos (show List.take 1 (45 :: TL.numL n.natAbs) = [45] from rfl)]
    have := TL.numL_val n.natAbs
    show -((NumText.digitsVal (TL.numL n.natAbs) : Nat) : Int) = n
    rw [this]; omega
  · rw [if_neg q, if_neg (numL_not45 _), TL.numL_val]; omega

theorem eqD_signs (xs : List Nat) (h : Hv) : eqD h (.lst (xs.map fun c => tx [c])) (.lst []) = some (decide (xs = [])) := by
  cases xs with
  | nil => exact eqD_same (p := .list []) (by simp) (by simp)
  | cons x xs =>
    unfold eqD
    have e1 : toPy h 12 (.lst ((x :: xs).map fun c => tx [c])) = some (.list ((x :: xs).map fun c => PyData.str (sx [c]))) := by
      rw [toPy_lst, toPy_signs]; rfl
    rw [e1]
    have e2 : toPy h 12 (.lst []) = some (.list []) := rfl
    rw [e2]
    rfl
theorem filter_all {cs ss : List Nat} : (cs.filter fun c => !decide (c ∈ ss)) = [] ↔ cs.all (fun c => decide (c ∈ ss)) = true := by
  rw [List.filter_eq_nil_iff, List.all_eq_true]
  constructor
  · intro z c hc
    have := z c hc
    simp at this
    exact decide_eq_true this
  · intro z c hc
    have := z c hc
    simp at this ⊢
    exact this
theorem digits_lt : ∀ (cs : List Nat), (∀ c ∈ cs, c ≤ 57) → NumText.digitsVal cs < 10 ^ cs.length := by
  intro cs h
  have key : ∀ (cs : List Nat) (acc k : Nat), (∀ c ∈ cs, c ≤ 57) → acc < 10 ^ k → cs.foldl (fun acc c => acc * 10 + (c - 48)) acc < 10 ^ (k + cs.length) := by
    intro cs
    induction cs with
    | nil => intro acc k _ h; exact h
    | cons c cs ih =>
      intro acc k hc ha
      rw [List.foldl_cons, List.length_cons]
      have := ih (acc * 10 + (c - 48)) (k + 1) (fun d hd => hc d (List.mem_cons_of_mem _ hd)) (by
        have := hc c List.mem_cons_self
        rw [Nat.pow_succ]; omega)
      rw [show k + (cs.length + 1) = k + 1 + cs.length by omega]
      exact this
  have := key cs 0 0 h (by decide)
  rw [Nat.zero_add] at this
  exact this
end
end PV

set_option Elab.async false
set_option linter.all false
set_option maxRecDepth 100000
set_option maxHeartbeats 4000000
namespace PT
open PySem PySem.Spec PyProof.Rows L2 VD
noncomputable section
def l_asked_sieve_1 (rc : List D → Hv → R D) : SS := sFor (iT (eOp oIx (eVar 1) (eK (.int 1)))) (gN 3) (sDrop (eCa (callQ rc) (aCons (eVar 0) (aCons (eVar 3) (aNil)))))
def b_asked_sieve (rc : List D → Hv → R D) : SS := sSeq (sIf (toB (eOp oEq (eOp oIx (eVar 1) (eK (.int 0))) (eK (.str "not")))) (sRet (eCa (callQ rc) (aCons (eVar 0) (aCons (eOp oIx (eVar 1) (eK (.int 1))) (aNil))))) (sNext)) (sSeq (sIf (cOr (toB (eOp oEq (eOp oIx (eVar 1) (eK (.int 0))) (eK (.str "all")))) (toB (eOp oEq (eOp oIx (eVar 1) (eK (.int 0))) (eK (.str "some"))))) (sSeq ((l_asked_sieve_1 rc)) (sRet (eK (.bl true)))) (sNext)) (sSeq (sSet 2 (eOp oIx (eOp oIx (eVar 0) (eCa (Cm.f .P PS.m_field_at) (aCons (eVar 0) (aCons (eOp oIx (eVar 1) (eK (.int 1))) (aNil))))) (eK (.int 1)))) (sSeq (sIf (cAnd (cOr (toB (eOp oEq (eOp oIx (eVar 1) (eK (.int 0))) (eK (.str "under")))) (toB (eOp oEq (eOp oIx (eVar 1) (eK (.int 0))) (eK (.str "over"))))) (toB (eOp oEq (eVar 2) (eK (.str "word"))))) (sRaiseP "NoKind" "name" (eOp oIx (eVar 1) (eK (.int 1)))) (sNext)) (sSeq (sIf (cAnd (toB (eOp oEq (eOp oIx (eVar 1) (eK (.int 0))) (eK (.str "is")))) (cNot (toB (eCa (Cm.f .P PV.m_is_value) (aCons (eVar 2) (aCons (eOp oIx (eVar 1) (eK (.int 2))) (aNil))))))) (sRaiseP "NoKind" "name" (eOp oIx (eVar 1) (eK (.int 1)))) (sNext)) (sRet (eK (.bl true)))))))
def m_asked_sieve : Nat → List D → Hv → R D
  | 0 => fnQ 2 2 sNever
  | n + 1 => fnQ 2 2 (b_asked_sieve (m_asked_sieve n))
open WT PS
/-! what is wrong with a sieve, met first -/
inductive Due where
  | right | field (n : Tx) | kind (n : Tx)
deriving DecidableEq
def isWd : Val → Bool
  | .wd _ => true
  | _ => false
def dueP (fs : List Fd) (n : Tx) (bad : Bool → Bool) : Due := match (plN fs n).bind fun i => fs[i]? with
  | none => .field n
  | some f => if bad f.2 = true then .kind n else .right
mutual
def due (fs : List Fd) : Sv → Due
  | .not s => due fs s
  | .all l => dueL fs l
  | .some l => dueL fs l
  | .lacks n => dueP fs n fun _ => false
  | .is n v => dueP fs n fun b => isWd v != b
  | .under n _ => dueP fs n id
  | .over n _ => dueP fs n id
def dueL (fs : List Fd) : List Sv → Due
  | [] => .right
  | s :: l => match due fs s with
    | .right => dueL fs l
    | e => e
end
theorem dueL_at {fs : List Fd} : ∀ {l : List Sv} {i : Nat} {t : Sv}, (∀ (j : Nat) s, j < i → l[j]? = some s → due fs s = .right) → l[i]? = some t → due fs t ≠ .right → dueL fs l = due fs t
  | [], i, t, _, h, _ => by cases h
  | s :: l, 0, t, _, h, n => by
    cases h
    rw [dueL]
    revert n
    cases due fs s <;> intro n
    · exact absurd rfl n
    · rfl
    · rfl
  | s :: l, i + 1, t, al, h, n => by
    have e := al 0 s (by omega) rfl
    rw [dueL, e]
    exact dueL_at (i := i) (fun j s hj hs => al (j + 1) s (by omega) hs) h n
theorem dueL_right {fs : List Fd} : ∀ {l : List Sv}, (∀ s ∈ l, due fs s = .right) → dueL fs l = .right
  | [], _ => rfl
  | s :: l, h => by
    rw [dueL, h s List.mem_cons_self]
    exact dueL_right fun t ht => h t (List.mem_cons_of_mem _ ht)
/-- a value of one of the two kinds -/
def ValB : Val → Prop
  | .no => False
  | .wd cs => okWord cs
  | .nm i => -(10 ^ 60) < i ∧ i < 10 ^ 60
mutual
/-- a sieve of names that may be none, and of values of either kind -/
def SvB : Sv → Prop
  | .not s => SvB s
  | .all l => SvBL l
  | .some l => SvBL l
  | .lacks n => n.length ≤ 1000
  | .is n v => n.length ≤ 1000 ∧ ValB v
  | .under n v => n.length ≤ 1000 ∧ ValB v
  | .over n v => n.length ≤ 1000 ∧ ValB v
def SvBL : List Sv → Prop
  | [] => True
  | s :: l => SvB s ∧ SvBL l
end
theorem SvBL_mem : ∀ {l : List Sv}, SvBL l ↔ ∀ s ∈ l, SvB s
  | [] => ⟨fun _ s h => (by cases h), fun _ => by simp only [SvBL]⟩
  | s :: l => by
    rw [SvBL, SvBL_mem]
    constructor
    · rintro ⟨h1, h2⟩ t ht
      cases ht with
      | head => exact h1
      | tail _ ht => exact h2 t ht
    · exact fun h => ⟨h s List.mem_cons_self, fun t ht => h t (List.mem_cons_of_mem _ ht)⟩
theorem okW_word {cs : Tx} (h : okWord cs) : PV.okW cs (smL ++ fgL) 12 = true := by
  obtain ⟨h1, h2, h3⟩ := h
  unfold PV.okW
  rw [decide_eq_true ⟨h1, by omega⟩, Bool.true_and]
  exact List.all_eq_true.mpr fun c hc => decide_eq_true (h3 c hc)
/-- whether a value is of a field's kind -/
theorem value_call {v : Val} {b : Bool} (h : ValB v) (hv : Hv) : callP PV.m_is_value [.str (kindS b), valD v] hv = .ok (.bl (isWd v == b)) hv := by
  refine cP ?_ (by simp [frz_val]) hv
  cases v with
  | no => exact h.elim
  | wd cs =>
    have e := PV.value_eq (PV.th_text (cs := cs) (by have := h.2.1; omega))
    rw [okW_word h] at e
    cases b
    · exact e.2
    · exact e.1
  | nm i =>
    have e := PV.value_eq (PV.th_int (i := i))
    have k : PV.okN i = true := by unfold PV.okN; exact decide_eq_true (by have := h.1; have := h.2; split <;> omega)
    rw [k] at e
    cases b
    · exact e.2
    · exact e.1
def dueR : Due → VD.R D
  | .right => .ok (.bl true) []
  | .field n => .exc ⟨"NoField", some ("name", tx n)⟩ []
  | .kind n => .exc ⟨"NoKind", some ("name", tx n)⟩ []
def dueX (h : Hv) : Due → VD.R D
  | .right => .ok (.bl true) h
  | .field n => .exc ⟨"NoField", some ("name", tx n)⟩ h
  | .kind n => .exc ⟨"NoKind", some ("name", tx n)⟩ h
theorem cQdue {sem : List D → Hv → VD.R D} {ds : List D} {u : Due} (e : sem ds [] = dueR u) (hp : noCL ds = true) (h : Hv) : callQ sem ds h = dueX h u := by
  cases u with
  | right => exact cQ e hp h
  | field n => exact cQX e hp h
  | kind n => exact cQX e hp h
theorem s_lu : ¬ (("lacks" : Str) = "under") := by decide
theorem s_lo : ¬ (("lacks" : Str) = "over") := by decide
theorem s_li : ¬ (("lacks" : Str) = "is") := by decide
theorem s_iu : ¬ (("is" : Str) = "under") := by decide
theorem s_io : ¬ (("is" : Str) = "over") := by decide
theorem fd_ix {fs : List Fd} {i : Nat} {f : Fd} {h : Hv} (e : fs[i]? = some f) : ixD h (fdsD fs) (i : Int) = some (fdD f) := atI_map (atI_at rfl e)
theorem plD {fs : List Fd} {n : Tx} : (plN fs n = none ∧ ∀ bad, dueP fs n bad = .field n) ∨ ∃ i b, plN fs n = some i ∧ fs[i]? = some (n, b) ∧ ∀ bad, dueP fs n bad = if bad b = true then .kind n else .right := by
  cases q : plN fs n with
  | none => exact .inl ⟨rfl, fun bad => by unfold dueP; rw [q]; rfl⟩
  | some i =>
    obtain ⟨b, hb⟩ := plN_some q
    exact .inr ⟨i, b, rfl, hb, fun bad => by unfold dueP; rw [q, Option.bind_some, hb]⟩
theorem kw_true : (kindS true = ("word" : Str)) = True := eq_true rfl
theorem kw_false : (kindS false = ("word" : Str)) = False := eq_false (by decide)
theorem fx (i : Int) (f : Fd) (h : Hv) : ixD h (fdD f) 1 = some (.str (kindS f.2)) := rfl
theorem asked_eq {fs : List Fd} (hl : fs.length ≤ 100) : ∀ (k : Nat) (s : Sv), dep s < k → SvB s → wid 1000 s → m_asked_sieve k [fdsD fs, svD s] [] = dueR (due fs s) := by
  intro k
  induction k with
  | zero => intro s h; exact absurd h (Nat.not_lt_zero _)
  | succ k ih =>
    intro s hd ok hw
    obtain ⟨PP, hPP⟩ : ∃ PP : VD.R D → Prop, PP = fun x => x = dueR (due fs s) := ⟨_, rfl⟩
    have fin : PP (m_asked_sieve (k + 1) [fdsD fs, svD s] []) := by
      refine fnQ_of (P := PP) rfl ?_
      unfold b_asked_sieve
      have nc : ∀ t : Sv, noCL [fdsD fs, svD t] = true := fun t => by simp [noCL, noC_fds, noC_sv]
      have lst : ∀ l : List Sv, (∀ s ∈ l, dep s < k) → (∀ s ∈ l, SvB s) → (∀ s ∈ l, wid 1000 s) → due fs s = dueL fs l → ∀ (x : Str) (s2 : SS),
          Wp (Sq (Sq (Rq PP) s2) (sRet (eK (.bl true)))) (l_asked_sieve_1 (m_asked_sieve k) [some (fdsD fs), some (.tup [.str x, .tup (svL l)]), none, none] []) := by
        intro l h1 h2 h3 h4 x s2
        unfold l_asked_sieve_1
        obtain ⟨I, hI⟩ : ∃ I : Nat → VS → Hv → Prop, I = fun i σ h => ∃ (x3 : Option D), σ = [some (fdsD fs), some (.tup [.str x, .tup (svL l)]), none, x3] ∧ h = [] ∧ ∀ (j : Nat) s, j < i → l[j]? = some s → due fs s = .right := ⟨_, rfl⟩
        refine Wp.loopA svD l I (h0 := []) (by simp [svL_map]) (by rw [hI]; exact ⟨_, rfl, rfl, fun j s hj => by omega⟩) ?_ ?_
        · intro i t σ h hi hh
          rw [hI] at hh
          obtain ⟨x3, rfl, rfl, al⟩ := hh
          refine ⟨_, rfl, ?_⟩
          have mt := List.mem_of_getElem? hi
          have e := cQdue (ih t (h1 t mt) (h2 t mt) (h3 t mt)) (nc t)
          cases q : due fs t with
          | right =>
            rw [q] at e
            simp [e, dueX]
            rw [hI]
            refine ⟨_, rfl, rfl, fun j s hj hs => ?_⟩
            by_cases q1 : j = i
            · subst q1
              rw [hi] at hs
              cases hs; exact q
            · exact al j s (by omega) hs
          | field n =>
            have d := dueL_at al hi (by rw [q]; exact fun z => by cases z)
            rw [q] at e
            simp [e, dueX, frz_tx]
            rw [hPP, h4, d, q]; rfl
          | kind n =>
            have d := dueL_at al hi (by rw [q]; exact fun z => by cases z)
            rw [q] at e
            simp [e, dueX, frz_tx]
            rw [hPP, h4, d, q]; rfl
        · intro σ h hh
          rw [hI] at hh
          obtain ⟨x3, rfl, rfl, al⟩ := hh
          have d : dueL fs l = .right := dueL_right fun s hs => by
            obtain ⟨j, hj⟩ := List.getElem?_of_mem hs
            exact al j s (List.getElem?_eq_some_iff.mp hj).1 hj
          simp
          rw [hPP, h4, d]; rfl
      cases s with
      | not s =>
        rw [dep] at hd
        rw [SvB] at ok
        rw [wid] at hw
        have e := cQdue (ih s (by omega) ok hw) (nc s)
        have e0 : due fs (.not s) = due fs s := by rw [due]
        rw [e0] at hPP
        cases q : due fs s with
        | right => rw [q] at e; simp [svD, e, dueX]; rw [hPP, q]; rfl
        | field n => rw [q] at e; simp [svD, e, dueX, frz_tx]; rw [hPP, q]; rfl
        | kind n => rw [q] at e; simp [svD, e, dueX, frz_tx]; rw [hPP, q]; rfl
      | all l =>
        rw [dep] at hd
        rw [SvB, SvBL_mem] at ok
        rw [wid, widL_mem] at hw
        have o := lst l (fun t ht => by have := dep_mem ht; omega) ok hw.2 (by rw [due]) "all"
        simp [svD, s_an]
        simpa using o _
      | some l =>
        rw [dep] at hd
        rw [SvB, SvBL_mem] at ok
        rw [wid, widL_mem] at hw
        have o := lst l (fun t ht => by have := dep_mem ht; omega) ok hw.2 (by rw [due]) "some"
        simp [svD, s_sn, s_sa]
        simpa using o _
      | lacks n =>
        rcases plD (fs := fs) (n := n) with ⟨p1, p2⟩ | ⟨i, b, p1, p2, p3⟩
        · have fc := cX ((field_eq hl).2 p1) (by simp [frz_fds])
          simp [svD, s_ln, s_la, s_ls, s_lu, s_lo, s_li, fc]
          rw [hPP, due, p2]; rfl
        · have fc := field_call hl p1
          have ix := fun h => fd_ix (h := h) p2
          simp [svD, s_ln, s_la, s_ls, s_lu, s_lo, s_li, fc, ix, fx]
          rw [hPP, due, p3]; rfl
      | is n v =>
        rcases plD (fs := fs) (n := n) with ⟨p1, p2⟩ | ⟨i, b, p1, p2, p3⟩
        · have fc := cX ((field_eq hl).2 p1) (by simp [frz_fds])
          simp [svD, s_in, s_ia, s_is, s_iu, s_io, fc]
          rw [hPP, due, p2]; rfl
        · have fc := field_call hl p1
          have ix := fun h => fd_ix (h := h) p2
          have vc := fun h => value_call (b := b) ok.2 h
          have p3 := p3 fun b => isWd v != b
          cases q : isWd v == b with
          | true =>
            have q2 : (isWd v != b) = false := by rw [bne, q]; rfl
            simp only [q2] at p3
            rw [q] at vc
            simp [svD, s_in, s_ia, s_is, s_iu, s_io, fc, ix, fx, vc]
            rw [hPP, due, p3]; rfl
          | false =>
            have q2 : (isWd v != b) = true := by rw [bne, q]; rfl
            simp only [q2] at p3
            rw [q] at vc
            simp [svD, s_in, s_ia, s_is, s_iu, s_io, fc, ix, fx, vc]
            rw [hPP, due, p3]; rfl
      | under n v =>
        rcases plD (fs := fs) (n := n) with ⟨p1, p2⟩ | ⟨i, b, p1, p2, p3⟩
        · have fc := cX ((field_eq hl).2 p1) (by simp [frz_fds])
          simp [svD, s_un, s_ua, s_us, s_ui, fc]
          rw [hPP, due, p2]; rfl
        · have fc := field_call hl p1
          have ix := fun h => fd_ix (h := h) p2
          have p3 := p3 id
          cases b with
          | true =>
            simp [svD, s_un, s_ua, s_us, s_ui, fc, ix, fx, kw_true]
            rw [hPP, due, p3]; rfl
          | false =>
            simp [svD, s_un, s_ua, s_us, s_ui, fc, ix, fx, kw_false]
            rw [hPP, due, p3]; rfl
      | over n v =>
        rcases plD (fs := fs) (n := n) with ⟨p1, p2⟩ | ⟨i, b, p1, p2, p3⟩
        · have fc := cX ((field_eq hl).2 p1) (by simp [frz_fds])
          simp [svD, s_on, s_oa, s_os, s_ou, s_oi, fc]
          rw [hPP, due, p2]; rfl
        · have fc := field_call hl p1
          have ix := fun h => fd_ix (h := h) p2
          have p3 := p3 id
          cases b with
          | true =>
            simp [svD, s_on, s_oa, s_os, s_ou, s_oi, fc, ix, fx, kw_true]
            rw [hPP, due, p3]; rfl
          | false =>
            simp [svD, s_on, s_oa, s_os, s_ou, s_oi, fc, ix, fx, kw_false]
            rw [hPP, due, p3]; rfl
    rw [hPP] at fin
    exact fin
end
end PT

set_option Elab.async false
set_option linter.all false
set_option maxRecDepth 100000
set_option maxHeartbeats 4000000
namespace WV
open PySem PySem.Spec PyProof.Rows L2 VD PS
noncomputable section
def l_asked_view_1 : SS := sFor (iL (eVar 2)) (gN 3) (sDrop (eCa (Cm.f .P m_field_at) (aCons (eVar 0) (aCons (eVar 3) (aNil)))))
def l_asked_view_2 : SS := sFor (iT (eVar 7)) (gN 4) (sIf (toB (eOp oNe (eOp oIx (eVar 4) (eK (.int 0))) (eK (.str "count")))) (sSeq (sSet 8 (eOp oIx (eOp oIx (eVar 0) (eCa (Cm.f .P m_field_at) (aCons (eVar 0) (aCons (eOp oIx (eVar 4) (eK (.int 1))) (aNil))))) (eK (.int 1)))) (sIf (cAnd (toB (eOp oEq (eOp oIx (eVar 4) (eK (.int 0))) (eK (.str "sum")))) (toB (eOp oEq (eVar 8) (eK (.str "word"))))) (sRaiseP "NoKind" "name" (eOp oIx (eVar 4) (eK (.int 1)))) (sNext))) (sNext))
def b_asked_view : SS := sSeq (sAsg (eVar 1) (gT 3 (gsCons (gN 5) (gsCons (gN 6) (gsCons (gN 7) (gsNil)))))) (sSeq (sSet 2 (eV (eOp oCat (eV (eCa bList (aCons (eVar 5) (aNil)))) (eV (eCa bList (aCons (eVar 6) (aNil))))))) (sSeq (sIf (cOr (toB (eOp oGt (eCa bLen (aCons (eVar 5) (aNil))) (eK (.int 3)))) (cOr (toB (eOp oGt (eCa bLen (aCons (eVar 6) (aNil))) (eK (.int 3)))) (toB (eOp oLt (eCa bLenSet (aCons (eVar 2) (aNil))) (eCa bLen (aCons (eVar 2) (aNil))))))) (sRaise "NoView") (sNext)) (sSeq (sIf (cOr (toB (eOp oLt (eCa bLen (aCons (eVar 7) (aNil))) (eK (.int 1)))) (toB (eOp oGt (eCa bLen (aCons (eVar 7) (aNil))) (eK (.int 4))))) (sRaise "NoView") (sNext)) (sSeq (l_asked_view_1) (sSeq (l_asked_view_2) (sRet (eK (.bl true))))))))
def m_asked_view : List D → Hv → R D := fnS 2 7 b_asked_view
open WT PS PT
/-! views: what is right of them, what is wrong first -/
inductive Fg where
  | count | sum (n : Tx) | great (n : Tx) | least (n : Tx) | unlike (n : Tx)
deriving DecidableEq
def figD : Fg → D
  | .count => .tup [.str "count"]
  | .sum n => .tup [.str "sum", tx n]
  | .great n => .tup [.str "greatest", tx n]
  | .least n => .tup [.str "least", tx n]
  | .unlike n => .tup [.str "unlike", tx n]
structure Vw where
  rows : List Tx
  cols : List Tx
  figs : List Fg
def viewD (v : Vw) : D := .tup [.tup (v.rows.map tx), .tup (v.cols.map tx), .tup (v.figs.map figD)]
theorem frz_fig {n0 n : Nat} {h : Hv} (f : Fg) : frz n0 h (n + 2) (figD f) = some (figD f) := by cases f <;> rfl
theorem frz_tup {α : Type} {n0 n : Nat} {h : Hv} {e : α → D} (hf : ∀ x, frz n0 h (n + 1) (e x) = some (e x)) (xs : List α) : frz n0 h (n + 2) (.tup (xs.map e)) = some (.tup (xs.map e)) := by
  show (optAll (frz n0 h (n + 1)) (xs.map e)).map D.tup = _
  rw [optAll_map (g := frz n0 h (n + 1)) (e := e) (e' := e) fun v _ => hf v]; rfl
theorem frz_view {n0 n : Nat} {h : Hv} (v : Vw) : frz n0 h (n + 4) (viewD v) = some (viewD v) := by
  unfold viewD
  have e1 := frz_tup (n0 := n0) (n := n + 1) (h := h) (e := tx) (fun x => frz_tx) v.rows
  have e2 := frz_tup (n0 := n0) (n := n + 1) (h := h) (e := tx) (fun x => frz_tx) v.cols
  have e3 := frz_tup (n0 := n0) (n := n + 1) (h := h) (e := figD) (fun x => frz_fig x) v.figs
  show (optAll (frz n0 h (n + 3)) [D.tup (v.rows.map tx), .tup (v.cols.map tx), .tup (v.figs.map figD)]).map D.tup = _
  simp only [optAll, e1, e2, e3]; rfl
theorem noC_tup {α : Type} {e : α → D} (hf : ∀ x, noC (e x) = true) (xs : List α) : noC (.tup (xs.map e)) = true := by
  rw [noC, noCL_all, List.all_map]
  exact List.all_eq_true.mpr fun v _ => hf v
theorem noC_fig (f : Fg) : noC (figD f) = true := by cases f <;> rfl
theorem noC_view (v : Vw) : noC (viewD v) = true := by
  unfold viewD
  simp [noC, noCL, noC_tup (e := tx) (fun _ => rfl), noC_tup noC_fig]
  have a := noC_tup (e := tx) (fun _ => rfl) v.rows
  have b := noC_tup (e := tx) (fun _ => rfl) v.cols
  have c := noC_tup noC_fig v.figs
  rw [noC] at a b c
  exact ⟨a, b, c⟩
/-! the first of some that is wrong -/
def firstD : List PT.Due → PT.Due
  | [] => .right
  | .right :: l => firstD l
  | u :: _ => u
theorem firstD_all : ∀ {l : List PT.Due}, (∀ u ∈ l, u = .right) → firstD l = .right
  | [], _ => rfl
  | u :: l, h => by
    rw [h u List.mem_cons_self, firstD]
    exact firstD_all fun v hv => h v (List.mem_cons_of_mem _ hv)
theorem firstD_at : ∀ {l : List PT.Due} {i : Nat} {u : PT.Due}, (∀ (j : Nat) v, j < i → l[j]? = some v → v = .right) → l[i]? = some u → u ≠ .right → firstD l = u
  | [], _, _, _, h, _ => by simp at h
  | v :: l, 0, u, _, h, n => by
    cases h
    cases v with
    | right => exact absurd rfl n
    | field _ => rfl
    | kind _ => rfl
  | v :: l, i + 1, u, al, h, n => by
    rw [al 0 v (by omega) rfl, firstD]
    exact firstD_at (i := i) (fun j w hj hw => al (j + 1) w (by omega) hw) h n
theorem firstD_app : ∀ {a b : List PT.Due}, firstD (a ++ b) = if firstD a = .right then firstD b else firstD a
  | [], b => by rw [List.nil_append, firstD, if_pos rfl]
  | .right :: a, b => by rw [List.cons_append, firstD, firstD, firstD_app]
  | .field n :: a, b => (if_neg (c := firstD (.field n :: a) = .right) (fun z => by cases z)).symm
  | .kind n :: a, b => (if_neg (c := firstD (.kind n :: a) = .right) (fun z => by cases z)).symm
def dueNm (fs : List Fd) (n : Tx) : PT.Due := if (plN fs n).isSome = true then .right else .field n
def dueFg (fs : List Fd) : Fg → PT.Due
  | .count => .right
  | .sum n => dueP fs n id
  | .great n => dueP fs n fun _ => false
  | .least n => dueP fs n fun _ => false
  | .unlike n => dueP fs n fun _ => false
def Vw.names (v : Vw) : List Tx := v.rows ++ v.cols
def okV (v : Vw) : Prop := v.rows.length ≤ 3 ∧ v.cols.length ≤ 3 ∧ v.names.Nodup ∧ 1 ≤ v.figs.length ∧ v.figs.length ≤ 4
instance (v : Vw) : Decidable (okV v) := by unfold okV; infer_instance
/-- none: no view at all -/
def dueV (fs : List Fd) (v : Vw) : Option PT.Due := if okV v then some (firstD (v.names.map (dueNm fs) ++ v.figs.map (dueFg fs))) else none
def viewR : Option PT.Due → VD.R D
  | none => .exc ⟨"NoView", none⟩ []
  | some .right => .ok (.bl true) []
  | some (.field n) => .exc ⟨"NoField", some ("name", tx n)⟩ []
  | some (.kind n) => .exc ⟨"NoKind", some ("name", tx n)⟩ []
def viewX (h : Hv) : Option PT.Due → VD.R D
  | none => .exc ⟨"NoView", none⟩ h
  | some .right => .ok (.bl true) h
  | some (.field n) => .exc ⟨"NoField", some ("name", tx n)⟩ h
  | some (.kind n) => .exc ⟨"NoKind", some ("name", tx n)⟩ h
theorem cPview {sem : List D → Hv → VD.R D} {ds : List D} {u : Option PT.Due} (e : sem ds [] = viewR u) (hp : pureD ds = some ds) (h : Hv) : callP sem ds h = viewX h u := by
  cases u with
  | none => exact cX e hp h
  | some u =>
    cases u with
    | right => exact cP e hp h
    | field n => exact cX e hp h
    | kind n => exact cX e hp h
/-! len(set(names)) -/
theorem once_nodup {κ : Type} [DecidableEq κ] {xs : List κ} (nd : xs.Nodup) : once xs = xs := by
  have key : ∀ n (xs : List κ), xs.length = n → xs.Nodup → once xs = xs := by
    intro n
    induction n with
    | zero => intro xs h _; rw [List.length_eq_zero_iff.mp h]; rfl
    | succ n ih =>
      intro xs h nd
      rcases List.eq_nil_or_concat xs with z | ⟨ys, y, z⟩
      · rw [z]; rfl
      · subst z
        rw [List.concat_eq_append] at h nd ⊢
        rw [List.nodup_append] at nd
        rw [once_snoc, ih ys (by simpa using h) nd.1]
        unfold met1
        rw [if_neg fun hm => nd.2.2 y hm y (by simp) rfl]
  exact key _ xs rfl nd
theorem once_lt {κ : Type} [DecidableEq κ] {xs : List κ} : (once xs).length < xs.length ↔ ¬ xs.Nodup := by
  constructor
  · intro h nd
    rw [once_nodup nd] at h
    omega
  · intro h
    have l1 := once_len xs
    rcases Nat.lt_or_ge (once xs).length xs.length with q | q
    · exact q
    · exfalso
      apply h
      have key : ∀ n (xs : List κ), xs.length = n → (once xs).length = xs.length → xs.Nodup := by
        intro n
        induction n with
        | zero => intro xs h _; rw [List.length_eq_zero_iff.mp h]; exact List.nodup_nil
        | succ n ih =>
          intro xs h he
          rcases List.eq_nil_or_concat xs with z | ⟨ys, y, z⟩
          · rw [z]; exact List.nodup_nil
          · subst z
            rw [List.concat_eq_append] at h he ⊢
            rw [once_snoc, met1_len] at he
            have b := once_len ys
            rw [List.length_append, List.length_singleton] at he
            split at he
            · omega
            · next q =>
              rw [List.nodup_append]
              refine ⟨ih ys (by simpa using h) (by omega), by simp, fun a ha c hc z => ?_⟩
              rw [List.mem_singleton.mp hc] at z
              exact q (once_mem.mpr (z ▸ ha))
      exact key _ xs rfl (by omega)
theorem keys_tx {xs : List Tx} : optAll toKy (xs.map tx) = some (xs.map fun n => (Sum.inr (sx n) : Key)) := optAll_map fun _ _ => rfl
theorem sxs_nd {xs : List Tx} : (xs.map fun n => (Sum.inr (sx n) : Key)).Nodup ↔ xs.Nodup := by
  rw [List.nodup_iff_pairwise_ne, List.nodup_iff_pairwise_ne, List.pairwise_map]
  constructor
  · exact fun h => h.imp fun ne e => ne (by rw [e])
  · exact fun h => h.imp fun ne e => ne (sx_inj.mp (Sum.inr.inj e))
theorem lenset_tx {xs : List Tx} {h : Hv} (hl : xs.length ≤ 1000) : ∃ m : Nat, bLenSet [.lst (xs.map tx)] h = .ok (.int (m : Int)) h ∧ (m < xs.length ↔ ¬ xs.Nodup) := by
  refine ⟨(once (xs.map fun n => (Sum.inr (sx n) : Key))).length, ?_, ?_⟩
  · show (match (some (xs.map tx)).bind (optAll toKy) with
      | some ks => if ks.length < 4000 then VD.R.ok (D.int ((once ks).length : Nat)) h else .stuck
      | none => .stuck) = _
    rw [Option.bind_some, keys_tx]
    show (if _ then _ else _) = _
    rw [if_pos (by simp; omega)]
  · rw [← sxs_nd, ← once_lt, List.length_map]
theorem fig_head {h : Hv} (f : Fg) : ∃ s, ixD h (figD f) 0 = some (.str s) := by cases f <;> exact ⟨_, rfl⟩
theorem asked_view_eq {fs : List Fd} {v : Vw} (hl : fs.length ≤ 100) (h1 : v.rows.length ≤ 100) (h2 : v.cols.length ≤ 100) (h3 : v.figs.length ≤ 100) : m_asked_view [fdsD fs, viewD v] [] = viewR (dueV fs v) := by
  obtain ⟨PP, hPP⟩ : ∃ PP : VD.R D → Prop, PP = fun x => x = viewR (dueV fs v) := ⟨_, rfl⟩
  have fin : PP (m_asked_view [fdsD fs, viewD v] []) := by
    refine fnS_of (P := PP) rfl ?_
    unfold b_asked_view
    have l1 : (v.rows.map tx).length = v.rows.length := List.length_map ..
    have l2 : (v.cols.map tx).length = v.cols.length := List.length_map ..
    have l3 : (v.figs.map figD).length = v.figs.length := List.length_map ..
    have ln : v.names.length ≤ 1000 := by unfold Vw.names; rw [List.length_append]; omega
    obtain ⟨m, e1, e2⟩ := lenset_tx (h := []) ln
    have cat : v.rows.map tx ++ v.cols.map tx = v.names.map tx := by unfold Vw.names; rw [List.map_append]
    have cl : v.rows.length + v.cols.length ≤ 16777216 := by omega
    have ln2 : (v.names.map tx).length = v.names.length := List.length_map ..
    by_cases a : v.rows.length ≤ 3 ∧ v.cols.length ≤ 3 ∧ v.names.Nodup
    · obtain ⟨a1, a2, a3⟩ := a
      have b1 : ¬ (3 : Int) < v.rows.length := by omega
      have b2 : ¬ (3 : Int) < v.cols.length := by omega
      have b3 : ¬ (m : Int) < v.names.length := fun z => e2.mp (by omega) a3
      by_cases c : 1 ≤ v.figs.length ∧ v.figs.length ≤ 4
      · obtain ⟨c1, c2⟩ := c
        have d1 : ¬ (v.figs.length : Int) < 1 := by omega
        have d2 : ¬ (4 : Int) < v.figs.length := by omega
        have ok : dueV fs v = some (firstD (v.names.map (dueNm fs) ++ v.figs.map (dueFg fs))) := by unfold dueV; rw [if_pos ⟨a1, a2, a3, c1, c2⟩]
        rw [ok, firstD_app] at hPP
        simp [viewD, cat, cl, e1, b1, b2, b3, d1, d2, ln2, -List.map_append]
        unfold l_asked_view_1
        obtain ⟨I, hI⟩ : ∃ I : Nat → VS → Hv → Prop, I = fun i σ h => ∃ (x3 : Option D), σ = [some (fdsD fs), some (.tup [.tup (v.rows.map tx), .tup (v.cols.map tx), .tup (v.figs.map figD)]), some (.lst (v.names.map tx)), x3, none, some (.tup (v.rows.map tx)), some (.tup (v.cols.map tx)), some (.tup (v.figs.map figD)), none] ∧ h = [] ∧ ∀ (j : Nat) n, j < i → v.names[j]? = some n → dueNm fs n = .right := ⟨_, rfl⟩
        refine Wp.loopA tx v.names I (h0 := []) rfl (by rw [hI]; exact ⟨_, rfl, rfl, fun j n hj => by omega⟩) ?_ ?_
        · intro i n σ h hk hh
          rw [hI] at hh
          obtain ⟨x3, rfl, rfl, al⟩ := hh
          refine ⟨_, rfl, ?_⟩
          cases q : plN fs n with
          | none =>
            have fc := cX ((field_eq hl).2 q) (by simp [frz_fds])
            have dn : dueNm fs n = .field n := by unfold dueNm; rw [q]; rfl
            have fd : firstD (v.names.map (dueNm fs)) = .field n := firstD_at (i := i) (fun j u hj hu => by
              rw [List.getElem?_map] at hu
              obtain ⟨n', hn', rfl⟩ := Option.map_eq_some_iff.mp hu
              exact al j n' hj hn') (by rw [List.getElem?_map, hk, ← dn]; rfl) (by intro z; cases z)
            simp [fc, frz_tx]
            rw [hPP, fd]; rfl
          | some p =>
            have fc := field_call hl q
            have dn : dueNm fs n = .right := by unfold dueNm; rw [q]; rfl
            simp [fc]
            rw [hI]
            refine ⟨_, rfl, rfl, fun j n' hj hn' => ?_⟩
            by_cases q1 : j = i
            · subst q1; rw [hk] at hn'; cases hn'; exact dn
            · exact al j n' (by omega) hn'
        · intro σ h hh
          rw [hI] at hh
          obtain ⟨x3, rfl, rfl, al⟩ := hh
          have fd : firstD (v.names.map (dueNm fs)) = .right := firstD_all fun u hu => by
            obtain ⟨n, hn, rfl⟩ := List.mem_map.mp hu
            obtain ⟨j, hj⟩ := List.getElem?_of_mem hn
            exact al j n (List.getElem?_eq_some_iff.mp hj).1 hj
          rw [fd, if_pos rfl] at hPP
          simp
          unfold l_asked_view_2
          obtain ⟨J, hJ⟩ : ∃ J : Nat → VS → Hv → Prop, J = fun i σ h => ∃ (x4 x8 : Option D), σ = [some (fdsD fs), some (.tup [.tup (v.rows.map tx), .tup (v.cols.map tx), .tup (v.figs.map figD)]), some (.lst (v.names.map tx)), x3, x4, some (.tup (v.rows.map tx)), some (.tup (v.cols.map tx)), some (.tup (v.figs.map figD)), x8] ∧ h = [] ∧ ∀ (j : Nat) f, j < i → v.figs[j]? = some f → dueFg fs f = .right := ⟨_, rfl⟩
          refine Wp.loopA figD v.figs J (h0 := []) rfl (by rw [hJ]; exact ⟨_, _, rfl, rfl, fun j n hj => by omega⟩) ?_ ?_
          · intro i f σ h hk hh
            rw [hJ] at hh
            obtain ⟨x4, x8, rfl, rfl, al⟩ := hh
            refine ⟨_, rfl, ?_⟩
            have bad : ∀ u, dueFg fs f = u → u ≠ .right → firstD (v.figs.map (dueFg fs)) = u := fun u hu hn => firstD_at (i := i) (fun j w hj hw => by
              rw [List.getElem?_map] at hw
              obtain ⟨f', hf', rfl⟩ := Option.map_eq_some_iff.mp hw
              exact al j f' hj hf') (by rw [List.getElem?_map, hk, ← hu]; rfl) hn
            have good : dueFg fs f = .right → ∀ x4 x8, J (i + 1) [some (fdsD fs), some (.tup [.tup (v.rows.map tx), .tup (v.cols.map tx), .tup (v.figs.map figD)]), some (.lst (v.names.map tx)), x3, x4, some (.tup (v.rows.map tx)), some (.tup (v.cols.map tx)), some (.tup (v.figs.map figD)), x8] [] := fun hr x4 x8 => by
              rw [hJ]
              refine ⟨_, _, rfl, rfl, fun j f' hj hf' => ?_⟩
              by_cases q1 : j = i
              · subst q1; rw [hk] at hf'; cases hf'; exact hr
              · exact al j f' (by omega) hf'
            have other : ∀ (s : Str) (n : Tx), s ≠ "count" → s ≠ "sum" → figD f = .tup [.str s, tx n] → dueFg fs f = dueP fs n (fun _ => false) → Wp (Lp (Sq (Rt PP) (sRet (eK (.bl true)))) (J (i + 1))) (sIf (toB (eOp oNe (eOp oIx (eVar 4) (eK (.int 0))) (eK (.str "count")))) (sSeq (sSet 8 (eOp oIx (eOp oIx (eVar 0) (eCa (Cm.f .P m_field_at) (aCons (eVar 0) (aCons (eOp oIx (eVar 4) (eK (.int 1))) (aNil))))) (eK (.int 1)))) (sIf (cAnd (toB (eOp oEq (eOp oIx (eVar 4) (eK (.int 0))) (eK (.str "sum")))) (toB (eOp oEq (eVar 8) (eK (.str "word"))))) (sRaiseP "NoKind" "name" (eOp oIx (eVar 4) (eK (.int 1)))) (sNext))) (sNext) [some (fdsD fs), some (.tup [.tup (v.rows.map tx), .tup (v.cols.map tx), .tup (v.figs.map figD)]), some (.lst (v.names.map tx)), x3, some (.tup [.str s, tx n]), some (.tup (v.rows.map tx)), some (.tup (v.cols.map tx)), some (.tup (v.figs.map figD)), x8] []) := by
              intro s n s1 s2 _ hd
              rcases plD (fs := fs) (n := n) with ⟨p1, p2⟩ | ⟨k, b, p1, p2, p3⟩
              · have fc := cX ((field_eq hl).2 p1) (by simp [frz_fds])
                simp [s1, s2, fc, frz_tx]
                rw [hPP, bad (.field n) (by rw [hd, p2]) (by intro z; cases z)]; rfl
              · have fc := field_call hl p1
                have ix := fun h => fd_ix (h := h) p2
                simp [s1, s2, fc, ix, fx]
                exact good (by rw [hd, p3]; rfl) _ _
            cases f with
            | count =>
              have g := good rfl (some (figD .count)) x8
              simp [figD] at g ⊢
              exact g
            | great n => exact other "greatest" n (by decide) (by decide) rfl rfl
            | least n => exact other "least" n (by decide) (by decide) rfl rfl
            | unlike n => exact other "unlike" n (by decide) (by decide) rfl rfl
            | sum n =>
              have sc : ¬ (("sum" : Str) = "count") := by decide
              rcases plD (fs := fs) (n := n) with ⟨p1, p2⟩ | ⟨k, b, p1, p2, p3⟩
              · have fc := cX ((field_eq hl).2 p1) (by simp [frz_fds])
                simp [figD, sc, fc, frz_tx]
                rw [hPP, bad (.field n) (p2 _) (by intro z; cases z)]; rfl
              · have fc := field_call hl p1
                have ix := fun h => fd_ix (h := h) p2
                cases b with
                | true =>
                  simp [figD, sc, fc, ix, fx, kw_true, frz_tx]
                  rw [hPP, bad (.kind n) (p3 id) (by intro z; cases z)]; rfl
                | false =>
                  simp [figD, sc, fc, ix, fx, kw_false]
                  exact good (p3 id) _ _
          · intro σ h hh
            rw [hJ] at hh
            obtain ⟨x4, x8, rfl, rfl, al⟩ := hh
            have fd : firstD (v.figs.map (dueFg fs)) = .right := firstD_all fun u hu => by
              obtain ⟨n, hn, rfl⟩ := List.mem_map.mp hu
              obtain ⟨j, hj⟩ := List.getElem?_of_mem hn
              exact al j n (List.getElem?_eq_some_iff.mp hj).1 hj
            simp
            rw [hPP, fd]; rfl
      · have ok : dueV fs v = none := by unfold dueV; rw [if_neg fun z => c ⟨z.2.2.2.1, z.2.2.2.2⟩]
        rcases (by omega : v.figs.length < 1 ∨ (¬ v.figs.length < 1 ∧ 4 < v.figs.length)) with c | ⟨c0, c⟩
        · have d1 : (v.figs.length : Int) < 1 := by omega
          simp [viewD, cat, cl, e1, b1, b2, b3, d1, ln2, -List.map_append]
          rw [hPP, ok]; rfl
        · have d1 : ¬ (v.figs.length : Int) < 1 := by omega
          have d2 : (4 : Int) < v.figs.length := by omega
          simp [viewD, cat, cl, e1, b1, b2, b3, d1, d2, ln2, -List.map_append]
          rw [hPP, ok]; rfl
    · have ok : dueV fs v = none := by unfold dueV; rw [if_neg fun z => a ⟨z.1, z.2.1, z.2.2.1⟩]
      by_cases b1 : (3 : Int) < v.rows.length
      · simp [viewD, cat, cl, e1, b1, ln2, -List.map_append]
        rw [hPP, ok]; rfl
      · by_cases b2 : (3 : Int) < v.cols.length
        · simp [viewD, cat, cl, e1, b1, b2, ln2, -List.map_append]
          rw [hPP, ok]; rfl
        · have b3 : (m : Int) < v.names.length := by
            have := e2.mpr fun nd => a ⟨by omega, by omega, nd⟩
            omega
          simp [viewD, cat, cl, e1, b1, b2, b3, ln2, -List.map_append]
          rw [hPP, ok]; rfl
  rw [hPP] at fin
  exact fin
end
end WV

set_option Elab.async false
set_option linter.all false
set_option maxRecDepth 100000
set_option maxHeartbeats 4000000
namespace WF
open PySem PySem.Spec PyProof.Rows L2 VD PS
noncomputable section
def b_ahead : SS := sSeq (sIf (cOr (toB (eOp oIs (eVar 0) (eK .non))) (toB (eOp oIs (eVar 1) (eK .non)))) (sRet (eAndV (eOp oIs (eVar 1) (eK .non)) (eOp oIsNot (eVar 0) (eK .non)))) (sNext)) (sRet (eOp oLt (eVar 0) (eVar 1)))
def m_ahead : List D → Hv → R D := fnS 2 0 b_ahead
def c_values_of_1 : LS := lLc (iL (eVar 2)) (gN 4) (toB (eOp oIsNot (eOp oIx (eVar 4) (eVar 3)) (eK .non))) (eOp oIx (eVar 4) (eVar 3)) [4]
def b_values_of : SS := sSeq (sSet 3 (eCa (Cm.f .P m_field_at) (aCons (eVar 0) (aCons (eVar 1) (aNil))))) (sRet (eV (c_values_of_1)))
def m_values_of : List D → Hv → R D := fnS 3 2 b_values_of
def l_first_value_1 : SS := sFor (iL (eVar 0)) (gN 2) (sIf (toB (eCa (Cm.f .P m_ahead) (aCons (eVar 2) (aCons (eVar 1) (aNil))))) (sSet 1 (eVar 2)) (sNext))
def b_first_value : SS := sSeq (sSet 1 (eK .non)) (sSeq (l_first_value_1) (sRet (eVar 1)))
def m_first_value : List D → Hv → R D := fnS 1 2 b_first_value
def l_last_value_1 : SS := sFor (iL (eVar 0)) (gN 2) (sIf (cOr (toB (eOp oIs (eVar 1) (eK .non))) (toB (eCa (Cm.f .P m_ahead) (aCons (eVar 1) (aCons (eVar 2) (aNil)))))) (sSet 1 (eVar 2)) (sNext))
def b_last_value : SS := sSeq (sSet 1 (eK .non)) (sSeq (l_last_value_1) (sRet (eVar 1)))
def m_last_value : List D → Hv → R D := fnS 1 2 b_last_value
def b_figure_of : SS := sSeq (sIf (toB (eOp oEq (eOp oIx (eVar 1) (eK (.int 0))) (eK (.str "count")))) (sRet (eCa bLen (aCons (eVar 2) (aNil)))) (sNext)) (sSeq (sSet 3 (eCa (Cm.f .P m_values_of) (aCons (eVar 0) (aCons (eOp oIx (eVar 1) (eK (.int 1))) (aCons (eVar 2) (aNil)))))) (sSeq (sIf (toB (eOp oEq (eOp oIx (eVar 1) (eK (.int 0))) (eK (.str "sum")))) (sRet (eCa bSum (aCons (eVar 3) (aNil)))) (sNext)) (sSeq (sIf (toB (eOp oEq (eOp oIx (eVar 1) (eK (.int 0))) (eK (.str "unlike")))) (sRet (eCa bLenSet (aCons (eVar 3) (aNil)))) (sNext)) (sSeq (sIf (toB (eOp oEq (eOp oIx (eVar 1) (eK (.int 0))) (eK (.str "least")))) (sRet (eCa (Cm.f .P m_first_value) (aCons (eVar 3) (aNil)))) (sNext)) (sRet (eCa (Cm.f .P m_last_value) (aCons (eVar 3) (aNil))))))))
def m_figure_of : List D → Hv → R D := fnS 3 1 b_figure_of
open WT PS PT WV
/-! figures of rows -/
def ltV : Val → Val → Bool
  | .nm a, .nm b => decide (a < b)
  | .wd a, .wd b => decide (a < b)
  | _, _ => false
def aheadV (a b : Val) : Bool := if a = .no then false else if b = .no then true else ltV a b
theorem ahead_eq {k : Bool} {a b : Val} (ha : ValOk k a) (hb : ValOk k b) : m_ahead [valD a, valD b] [] = .ok (.bl (aheadV a b)) [] := by
  refine fnS_of (P := fun r => r = .ok (.bl (aheadV a b)) []) rfl ?_
  unfold b_ahead
  by_cases qa : a = .no
  · subst qa
    simp [isD_val, aheadV]
  · by_cases qb : b = .no
    · subst qb
      simp [isD_val, aheadV, qa]
    · cases a with
      | no => exact absurd rfl qa
      | wd x =>
        cases b with
        | no => exact absurd rfl qb
        | wd y => simp [isD_val, valD, aheadV, ltV]
        | nm j => exact absurd (ha.1.symm.trans hb.1) (by decide)
      | nm i =>
        cases b with
        | no => exact absurd rfl qb
        | wd y => exact absurd (ha.1.symm.trans hb.1) (by decide)
        | nm j => simp [isD_val, valD, aheadV, ltV]
def cellV (r : List Val) (i : Nat) : Val := r[i]?.getD .no
def valsF (rs : List (List Val)) (i : Nat) : List Val := (rs.map fun r => cellV r i).filter fun v => decide (v ≠ .no)
theorem rowOk_cell {fs : List Fd} {r : List Val} (ro : RowOk fs r) {i : Nat} {f : Fd} (h : fs[i]? = some f) : ValOk f.2 (cellV r i) ∧ r[i]? = some (cellV r i) := by
  obtain ⟨v, h1, h2⟩ := ro.get h
  unfold cellV
  rw [h1]
  exact ⟨h2, rfl⟩
theorem valsF_mem {rs : List (List Val)} {i : Nat} {v : Val} : v ∈ valsF rs i ↔ v ≠ .no ∧ ∃ r ∈ rs, cellV r i = v := by
  unfold valsF
  rw [List.mem_filter, List.mem_map, decide_eq_true_iff]
  exact And.comm
theorem frz_rows {n0 n : Nat} {h : Hv} (rs : List (List Val)) : frz n0 h (n + 3) (.lst (rs.map rowD)) = some (.lst (rs.map rowD)) := by
  show (optAll (frz n0 h (n + 2)) (rs.map rowD)).map D.lst = _
  rw [optAll_map (g := frz n0 h (n + 2)) (e := rowD) (e' := rowD) fun r _ => frz_row r]; rfl
theorem frz_vals {n0 n : Nat} {h : Hv} (vs : List Val) : frz n0 h (n + 2) (.lst (vs.map valD)) = some (.lst (vs.map valD)) := by
  show (optAll (frz n0 h (n + 1)) (vs.map valD)).map D.lst = _
  rw [optAll_map (g := frz n0 h (n + 1)) (e := valD) (e' := valD) fun r _ => frz_val r]; rfl
theorem frzL_rows {n0 n : Nat} {h : Hv} (rs : List (List Val)) : optAll (frz n0 h (n + 2)) (rs.map rowD) = some (rs.map rowD) := optAll_map fun r _ => frz_row r
theorem frzL_vals {n0 n : Nat} {h : Hv} (vs : List Val) : optAll (frz n0 h (n + 1)) (vs.map valD) = some (vs.map valD) := optAll_map fun r _ => frz_val r
theorem values_of_eq {fs : List Fd} {rs : List (List Val)} {n : Tx} {i : Nat} {b : Bool} (hl : fs.length ≤ 100) (hp : plN fs n = some i) (hf : fs[i]? = some (n, b)) (ro : ∀ r ∈ rs, RowOk fs r) (hr : rs.length ≤ 3000) :
    m_values_of [fdsD fs, tx n, .lst (rs.map rowD)] [] = .ok (.lst ((valsF rs i).map valD)) [] := by
  refine fnS_of (P := fun r => r = .ok (.lst ((valsF rs i).map valD)) []) rfl ?_
  unfold b_values_of
  have fc := field_call hl hp
  have e : c_values_of_1 [some (fdsD fs), some (tx n), some (.lst (rs.map rowD)), some (.int (i : Int)), none] [] = .ok ((valsF rs i).map valD) [] := by
    unfold c_values_of_1 valsF
    rw [List.filter_map, List.map_map]
    refine lLc_filter rowD (fun r => decide (cellV r i ≠ .no)) (fun r => valD (cellV r i)) rs (chk := always) (h0 := []) rfl rfl (by omega) fun r hr' => ?_
    obtain ⟨c1, c2⟩ := rowOk_cell (ro r hr') hf
    have ix := fun h => row_ix (h := h) c2
    refine ⟨_, rfl, ?_, fun _ => ?_⟩
    · simp [ix, isD_val]
    · simp [ix]
  simp [fc, e, frzL_vals]
def minV (vs : List Val) : Val := vs.foldl (fun best v => if aheadV v best = true then v else best) .no
def maxV (vs : List Val) : Val := vs.foldl (fun best v => if best = .no ∨ aheadV best v = true then v else best) .no
theorem valOk_no (b : Bool) : ValOk b .no := trivial
theorem min_ok {b : Bool} : ∀ (vs : List Val) (m : Val), (∀ v ∈ vs, ValOk b v) → ValOk b m → ValOk b (vs.foldl (fun best v => if aheadV v best = true then v else best) m)
  | [], m, _, h => h
  | v :: vs, m, hv, h => by
    rw [List.foldl_cons]
    refine min_ok vs _ (fun v h => hv v (List.mem_cons_of_mem _ h)) ?_
    split
    · exact hv v List.mem_cons_self
    · exact h
theorem max_ok {b : Bool} : ∀ (vs : List Val) (m : Val), (∀ v ∈ vs, ValOk b v) → ValOk b m → ValOk b (vs.foldl (fun best v => if best = .no ∨ aheadV best v = true then v else best) m)
  | [], m, _, h => h
  | v :: vs, m, hv, h => by
    rw [List.foldl_cons]
    refine max_ok vs _ (fun v h => hv v (List.mem_cons_of_mem _ h)) ?_
    split
    · exact hv v List.mem_cons_self
    · exact h
theorem foldl_take_succ {α β : Type} {f : β → α → β} {z : β} {xs : List α} {i : Nat} {a : α} (h : xs[i]? = some a) : (xs.take (i + 1)).foldl f z = f ((xs.take i).foldl f z) a := by
  rw [List.take_succ, h, List.foldl_append]; rfl
theorem first_value_eq {b : Bool} {vs : List Val} (hv : ∀ v ∈ vs, ValOk b v) : m_first_value [.lst (vs.map valD)] [] = .ok (valD (minV vs)) [] := by
  refine fnS_of (P := fun r => r = .ok (valD (minV vs)) []) rfl ?_
  unfold b_first_value
  simp
  unfold l_first_value_1
  obtain ⟨I, hI⟩ : ∃ I : Nat → VS → Hv → Prop, I = fun i σ h => ∃ (x2 : Option D), σ = [some (.lst (vs.map valD)), some (valD (minV (vs.take i))), x2] ∧ h = [] := ⟨_, rfl⟩
  refine Wp.loopA valD vs I (h0 := []) rfl (by rw [hI]; exact ⟨_, rfl, rfl⟩) ?_ ?_
  · intro i v σ h hk hh
    rw [hI] at hh
    obtain ⟨x2, rfl, rfl⟩ := hh
    refine ⟨_, rfl, ?_⟩
    have om : ValOk b (minV (vs.take i)) := min_ok _ _ (fun v h => hv v (List.mem_of_mem_take h)) (valOk_no b)
    have e := cP (ahead_eq (hv v (List.mem_of_getElem? hk)) om) (by simp [frz_val])
    have st : minV (vs.take (i + 1)) = if aheadV v (minV (vs.take i)) = true then v else minV (vs.take i) := foldl_take_succ hk
    by_cases q : aheadV v (minV (vs.take i)) = true
    · rw [if_pos q] at st
      simp [e, q]
      rw [hI]
      exact ⟨_, by rw [st], rfl⟩
    · rw [if_neg q] at st
      simp [e, q]
      rw [hI]
      exact ⟨_, by rw [st], rfl⟩
  · intro σ h hh
    rw [hI] at hh
    obtain ⟨x2, rfl, rfl⟩ := hh
    rw [List.take_length]
    simp [frz_val]
theorem last_value_eq {b : Bool} {vs : List Val} (hv : ∀ v ∈ vs, ValOk b v) : m_last_value [.lst (vs.map valD)] [] = .ok (valD (maxV vs)) [] := by
  refine fnS_of (P := fun r => r = .ok (valD (maxV vs)) []) rfl ?_
  unfold b_last_value
  simp
  unfold l_last_value_1
  obtain ⟨I, hI⟩ : ∃ I : Nat → VS → Hv → Prop, I = fun i σ h => ∃ (x2 : Option D), σ = [some (.lst (vs.map valD)), some (valD (maxV (vs.take i))), x2] ∧ h = [] := ⟨_, rfl⟩
  refine Wp.loopA valD vs I (h0 := []) rfl (by rw [hI]; exact ⟨_, rfl, rfl⟩) ?_ ?_
  · intro i v σ h hk hh
    rw [hI] at hh
    obtain ⟨x2, rfl, rfl⟩ := hh
    refine ⟨_, rfl, ?_⟩
    have om : ValOk b (maxV (vs.take i)) := max_ok _ _ (fun v h => hv v (List.mem_of_mem_take h)) (valOk_no b)
    have e := cP (ahead_eq om (hv v (List.mem_of_getElem? hk))) (by simp [frz_val])
    have st : maxV (vs.take (i + 1)) = if maxV (vs.take i) = .no ∨ aheadV (maxV (vs.take i)) v = true then v else maxV (vs.take i) := foldl_take_succ hk
    by_cases q0 : maxV (vs.take i) = .no
    · rw [if_pos (.inl q0)] at st
      simp [isD_val, q0]
      rw [hI]
      exact ⟨_, by rw [st], rfl⟩
    · by_cases q : aheadV (maxV (vs.take i)) v = true
      · rw [if_pos (.inr q)] at st
        simp [isD_val, q0, e, q]
        rw [hI]
        exact ⟨_, by rw [st], rfl⟩
      · rw [if_neg (fun z => z.elim q0 q)] at st
        simp [isD_val, q0, e, q]
        rw [hI]
        exact ⟨_, by rw [st], rfl⟩
  · intro σ h hh
    rw [hI] at hh
    obtain ⟨x2, rfl, rfl⟩ := hh
    rw [List.take_length]
    simp [frz_val]
def toN : Val → Int
  | .nm i => i
  | _ => 0
def kyV : Val → Key
  | .nm i => .inl i
  | .wd cs => .inr (sx cs)
  | .no => .inl 0
theorem once_map {α β : Type} [DecidableEq α] [DecidableEq β] {f : α → β} : ∀ (xs : List α), (∀ a ∈ xs, ∀ b ∈ xs, f a = f b → a = b) → once (xs.map f) = (once xs).map f := by
  have key : ∀ n (xs : List α), xs.length = n → (∀ a ∈ xs, ∀ b ∈ xs, f a = f b → a = b) → once (xs.map f) = (once xs).map f := by
    intro n
    induction n with
    | zero => intro xs h _; rw [List.length_eq_zero_iff.mp h]; rfl
    | succ n ih =>
      intro xs h inj
      rcases List.eq_nil_or_concat xs with z | ⟨ys, y, z⟩
      · rw [z]; rfl
      · subst z
        rw [List.concat_eq_append] at h inj ⊢
        rw [List.map_append, List.map_singleton, once_snoc, once_snoc, ih ys (by simpa using h) fun a ha b hb => inj a (List.mem_append_left _ ha) b (List.mem_append_left _ hb)]
        unfold met1
        by_cases q : y ∈ once ys
        · rw [if_pos q, if_pos (List.mem_map.mpr ⟨y, q, rfl⟩)]
        · rw [if_neg q, if_neg, List.map_append]; · rfl
          intro hm
          obtain ⟨a, ha, e⟩ := List.mem_map.mp hm
          have := inj a (List.mem_append_left _ (once_mem.mp ha)) y (by simp) e
          rw [this] at ha
          exact q ha
  exact fun xs => key _ xs rfl
theorem lenset_vals {vs : List Val} {h : Hv} (hn : ∀ v ∈ vs, v ≠ .no) (hl : vs.length ≤ 3000) : bLenSet [.lst (vs.map valD)] h = .ok (.int ((once vs).length : Nat)) h := by
  have e1 : optAll toKy (vs.map valD) = some (vs.map kyV) := by
    clear hl
    induction vs with
    | nil => rfl
    | cons v vs ih =>
      have e := ih fun v h => hn v (List.mem_cons_of_mem _ h)
      have z : toKy (valD v) = some (kyV v) := by
        cases v with
        | no => exact absurd rfl (hn .no List.mem_cons_self)
        | wd cs => rfl
        | nm i => rfl
      rw [List.map_cons, optAll, z, e]; rfl
  have e2 : (once (vs.map kyV)).length = (once vs).length := by
    rw [once_map vs fun a ha b hb e => ?_, List.length_map]
    have na := hn a ha
    have nb := hn b hb
    cases a with
    | no => exact absurd rfl na
    | wd x =>
      cases b with
      | no => exact absurd rfl nb
      | wd y => rw [sx_inj.mp (Sum.inr.inj e)]
      | nm j => cases e
    | nm i =>
      cases b with
      | no => exact absurd rfl nb
      | wd y => cases e
      | nm j => rw [Sum.inl.inj e]
  show (match (some (vs.map valD)).bind (optAll toKy) with
    | some ks => if ks.length < 4000 then VD.R.ok (D.int ((once ks).length : Nat)) h else .stuck
    | none => .stuck) = _
  rw [Option.bind_some, e1]
  show (if _ then _ else _) = _
  rw [if_pos (by rw [List.length_map]; omega), e2]
def figN : Fg → Option Tx
  | .count => none
  | .sum n => some n
  | .great n => some n
  | .least n => some n
  | .unlike n => some n
def plF (fs : List Fd) (n : Tx) : Nat := (plN fs n).getD 0
def figV (fs : List Fd) (rs : List (List Val)) : Fg → Val
  | .count => .nm rs.length
  | .sum n => .nm (((valsF rs (plF fs n)).map toN).sum)
  | .great n => maxV (valsF rs (plF fs n))
  | .least n => minV (valsF rs (plF fs n))
  | .unlike n => .nm (once (valsF rs (plF fs n))).length
theorem sum_vals {vs : List Val} {h : Hv} (hv : ∀ v ∈ vs, ∃ i, v = .nm i) : bSum [.lst (vs.map valD)] h = .ok (.int ((vs.map toN).sum)) h := by
  have e : vs.map valD = (vs.map toN).map .int := by
    rw [List.map_map]
    refine List.map_congr_left fun v hm => ?_
    obtain ⟨i, rfl⟩ := hv v hm
    rfl
  rw [e, bSum_lst]
theorem figure_of_eq {fs : List Fd} {rs : List (List Val)} {f : Fg} (hl : fs.length ≤ 100) (hd : dueFg fs f = .right) (ro : ∀ r ∈ rs, RowOk fs r) (hr : rs.length ≤ 3000) :
    m_figure_of [fdsD fs, figD f, .lst (rs.map rowD)] [] = .ok (valD (figV fs rs f)) [] := by
  obtain ⟨PP, hPP⟩ : ∃ PP : VD.R D → Prop, PP = fun x => x = .ok (valD (figV fs rs f)) [] := ⟨_, rfl⟩
  have fin : PP (m_figure_of [fdsD fs, figD f, .lst (rs.map rowD)] []) := by
    refine fnS_of (P := PP) rfl ?_
    unfold b_figure_of
    have vals : ∀ n, (∃ bad, dueP fs n bad = .right) → ∃ i b, plF fs n = i ∧ fs[i]? = some (n, b) ∧ (∀ v ∈ valsF rs i, ValOk b v ∧ v ≠ .no) ∧ (valsF rs i).length ≤ 3000 ∧ ∀ h, callP m_values_of [fdsD fs, tx n, .lst (rs.map rowD)] h = .ok (.lst ((valsF rs i).map valD)) h := by
      rintro n ⟨bad, hb⟩
      rcases plD (fs := fs) (n := n) with ⟨p1, p2⟩ | ⟨i, b, p1, p2, p3⟩
      · rw [p2] at hb; cases hb
      · refine ⟨i, b, by unfold plF; rw [p1]; rfl, p2, fun v hv => ?_, ?_, cP (values_of_eq hl p1 p2 ro hr) (by simp [frz_fds, frzL_rows, frz_tx])⟩
        · obtain ⟨h1, r, h2, h3⟩ := valsF_mem.mp hv
          exact ⟨by rw [← h3]; exact (rowOk_cell (ro r h2) p2).1, h1⟩
        · unfold valsF
          refine Nat.le_trans (List.length_filter_le _ _) ?_
          rw [List.length_map]; exact hr
    cases f with
    | count =>
      simp [figD]
      rw [hPP]; rfl
    | sum n =>
      obtain ⟨i, b, p1, p2, ok, ln, c⟩ := vals n ⟨id, hd⟩
      have bf : b = false := by
        rcases plD (fs := fs) (n := n) with ⟨q1, q2⟩ | ⟨j, b', q1, q2, q3⟩
        · rw [dueFg, q2] at hd; cases hd
        · have : j = i := by rw [← p1]; unfold plF; rw [q1]; rfl
          subst this
          rw [p2] at q2
          cases q2
          rw [dueFg, q3] at hd
          cases b with
          | false => rfl
          | true => cases hd
      have sv := fun h => sum_vals (vs := valsF rs i) (h := h) fun v hv => by
        obtain ⟨o, n0⟩ := ok v hv
        subst bf
        cases v with
        | no => exact absurd rfl n0
        | wd cs => exact absurd o.1 (by decide)
        | nm j => exact ⟨j, rfl⟩
      have s1 : ¬ (("sum" : Str) = "count") := by decide
      simp [figD, s1, c, sv]
      rw [hPP]
      show VD.R.ok _ _ = .ok (D.int (((valsF rs (plF fs n)).map toN).sum)) []
      rw [p1]
    | unlike n =>
      obtain ⟨i, b, p1, p2, ok, ln, c⟩ := vals n ⟨fun _ => false, hd⟩
      have sv := fun h => lenset_vals (vs := valsF rs i) (h := h) (fun v hv => (ok v hv).2) ln
      have s1 : ¬ (("unlike" : Str) = "count") := by decide
      have s2 : ¬ (("unlike" : Str) = "sum") := by decide
      simp [figD, s1, s2, c, sv]
      rw [hPP]
      show VD.R.ok _ _ = .ok (D.int ((once (valsF rs (plF fs n))).length : Nat)) []
      rw [p1]
    | least n =>
      obtain ⟨i, b, p1, p2, ok, ln, c⟩ := vals n ⟨fun _ => false, hd⟩
      have sv := cP (first_value_eq fun v hv => (ok v hv).1) (by simp [frzL_vals])
      have s1 : ¬ (("least" : Str) = "count") := by decide
      have s2 : ¬ (("least" : Str) = "sum") := by decide
      have s3 : ¬ (("least" : Str) = "unlike") := by decide
      simp [figD, s1, s2, s3, c, sv, frz_val]
      rw [hPP]
      show VD.R.ok _ _ = .ok (valD (minV (valsF rs (plF fs n)))) []
      rw [p1]
    | great n =>
      obtain ⟨i, b, p1, p2, ok, ln, c⟩ := vals n ⟨fun _ => false, hd⟩
      have sv := cP (last_value_eq fun v hv => (ok v hv).1) (by simp [frzL_vals])
      have s1 : ¬ (("greatest" : Str) = "count") := by decide
      have s2 : ¬ (("greatest" : Str) = "sum") := by decide
      have s3 : ¬ (("greatest" : Str) = "unlike") := by decide
      have s4 : ¬ (("greatest" : Str) = "least") := by decide
      simp [figD, s1, s2, s3, s4, c, sv, frz_val]
      rw [hPP]
      show VD.R.ok _ _ = .ok (valD (maxV (valsF rs (plF fs n)))) []
      rw [p1]
  rw [hPP] at fin
  exact fin
end
end WF

set_option Elab.async false
set_option linter.all false
set_option maxRecDepth 100000
set_option maxHeartbeats 4000000
namespace WS
open PySem PySem.Spec PyProof.Rows L2 VD
noncomputable section
def b_is_field : SS := sSeq (sIf (cOr (cNot (toB (eIsi "tuple" (eVar 0)))) (toB (eOp oNe (eCa bLen (aCons (eVar 0) (aNil))) (eK (.int 2))))) (sRet (eK (.bl false))) (sNext)) (sSeq (sIf (cOr (cNot (toB (eIsi "str" (eOp oIx (eVar 0) (eK (.int 1)))))) (toB (eOp oNotInP (eOp oIx (eVar 0) (eK (.int 1))) (eTup (aCons (eK (.str "word")) (aCons (eK (.str "number")) (aNil))))))) (sRet (eK (.bl false))) (sNext)) (sRet (eCa (Cm.f .P PV.m_is_name) (aCons (eOp oIx (eVar 0) (eK (.int 0))) (aNil)))))
def m_is_field : List D → Hv → R D := fnS 1 0 b_is_field
def l_asked_fields_1 : SS := sFor (iL (eVar 0)) (gN 2) (sSeq (sIf (cOr (cNot (toB (eCa (Cm.f .P m_is_field) (aCons (eVar 2) (aNil))))) (toB (eOp oDin (eOp oIx (eVar 2) (eK (.int 0))) (eVar 1)))) (sRaise "NoFields") (sNext)) (sDput (eK (.bl true)) (eVar 1) (eOp oIx (eVar 2) (eK (.int 0)))))
def b_asked_fields : SS := sSeq (sIf (cOr (cNot (toB (eIsi "list" (eVar 0)))) (cOr (toB (eOp oLt (eCa bLen (aCons (eVar 0) (aNil))) (eK (.int 1)))) (toB (eOp oGt (eCa bLen (aCons (eVar 0) (aNil))) (eK (.int 8)))))) (sRaise "NoFields") (sNext)) (sSeq (sSet 1 (eDnew)) (sSeq (l_asked_fields_1) (sRet (eK (.bl true)))))
def m_asked_fields : List D → Hv → R D := fnS 1 2 b_asked_fields
open WT PS
/-! lists of fields, and things that are none -/
theorem kl (x y : String) (h : kitB x y = some false ∨ kitB x y = some true) : kitB x y ≠ none := by rcases h with h | h <;> rw [h] <;> simp
theorem ktt : kitB "tuple" "tuple" = some true := by decide +kernel
theorem kss : kitB "str" "str" = some true := by decide +kernel
theorem kll : kitB "list" "list" = some true := by decide +kernel
theorem ks_l : kitB "str" "list" = some false := by decide +kernel
theorem ki_l : kitB "int" "list" = some false := by decide +kernel
theorem kn_l : kitB "NoneType" "list" = some false := by decide +kernel
theorem kd_l : kitB "dict" "list" = some false := by decide +kernel
theorem kt_l : kitB "tuple" "list" = some false := by decide +kernel
theorem kl_t : kitB "list" "tuple" = some false := by decide +kernel
theorem ks_t : kitB "str" "tuple" = some false := by decide +kernel
theorem ki_t : kitB "int" "tuple" = some false := by decide +kernel
theorem kn_t : kitB "NoneType" "tuple" = some false := by decide +kernel
theorem kn_s : kitB "NoneType" "str" = some false := by decide +kernel
/-- a thing, and whether it is a field -/
structure FT (d : D) (v : Bool) : Prop where
  pure : ∀ (h : Hv) (n : Nat), frz 0 h (n + 5) d = some d
  is : m_is_field [d] [] = .ok (.bl v) []
  fd : v = true → ∃ f : Fd, d = fdD f ∧ okName f.1
def okNm (n : Tx) : Bool := PV.okW n smL 12
theorem okNm_iff {n : Tx} : okNm n = true ↔ okName n := by
  unfold okNm PV.okW okName
  rw [Bool.and_eq_true, decide_eq_true_iff, List.all_eq_true]
  constructor
  · rintro ⟨⟨a, b⟩, c⟩
    exact ⟨a, by omega, fun x hx => of_decide_eq_true (c x hx)⟩
  · rintro ⟨a, b, c⟩
    exact ⟨⟨a, by omega⟩, fun x hx => decide_eq_true (c x hx)⟩
theorem inP_kind {s : Str} {h : Hv} : oNotInP (.str s) (.tup [.str "word", .str "number"]) h = .ok (.bl (!(decide (s = "word") || decide (s = "number")))) h := by
  have e : inP h (.str s) (.tup [.str "word", .str "number"]) = some (decide (s = "word") || decide (s = "number")) := by
    show some ([PyData.str "word", .str "number"].any fun z => PyData.eqv z (.str s)) = _
    rw [List.any_cons, List.any_cons, List.any_nil, Bool.or_false]
    show some (decide (("word" : Str) = s) || decide (("number" : Str) = s)) = _
    rw [decide_eq_decide.mpr (show (("word" : Str) = s) ↔ s = "word" from ⟨Eq.symm, Eq.symm⟩), decide_eq_decide.mpr (show (("number" : Str) = s) ↔ s = "number" from ⟨Eq.symm, Eq.symm⟩)]
  show (match inP h (.str s) (.tup [.str "word", .str "number"]) with
    | some b => VD.R.ok (D.bl (!b)) h
    | none => .stuck) = _
  rw [e]
theorem ft_pair {n : Tx} {s : Str} (hl : n.length ≤ 1000) : FT (.tup [tx n, .str s]) (okNm n && (decide (s = "word") || decide (s = "number"))) := by
  refine ⟨fun _ _ => rfl, ?_, fun hv => ?_⟩
  · refine fnS_of (P := fun x => x = .ok (.bl (okNm n && (decide (s = "word") || decide (s = "number")))) []) rfl ?_
    unfold b_is_field
    have ne := cP (PV.name_eq hl)
    have t1 : ∀ h, tyName h (D.tup [tx n, .str s]) = some "tuple" := fun _ => rfl
    have t2 : ∀ h, tyName h (D.str s) = some "str" := fun _ => rfl
    by_cases q : s = "word" ∨ s = "number"
    · have q2 : (decide (s = "word") || decide (s = "number")) = true := by rcases q with q | q <;> simp [q]
      simp [t1, t2, ktt, kss, inP_kind, q2, ne]
      rfl
    · have q2 : (decide (s = "word") || decide (s = "number")) = false := by
        rw [Bool.or_eq_false_iff, decide_eq_false_iff_not, decide_eq_false_iff_not]
        exact ⟨fun z => q (.inl z), fun z => q (.inr z)⟩
      simp [t1, t2, ktt, kss, inP_kind, q2]
  · rw [Bool.and_eq_true, Bool.or_eq_true, decide_eq_true_iff, decide_eq_true_iff] at hv
    obtain ⟨h1, h2⟩ := hv
    rcases h2 with rfl | rfl
    · exact ⟨(n, true), rfl, okNm_iff.mp h1⟩
    · exact ⟨(n, false), rfl, okNm_iff.mp h1⟩
theorem ft_fd {f : Fd} (hl : f.1.length ≤ 1000) : FT (fdD f) (okNm f.1) := by
  have e := ft_pair (n := f.1) (s := kindS f.2) hl
  have k : (decide (kindS f.2 = "word") || decide (kindS f.2 = "number")) = true := by
    cases f.2
    · show (_ || decide (("number" : Str) = "number")) = true; simp
    · show (decide (("word" : Str) = "word") || _) = true; simp
  rw [k, Bool.and_true] at e
  exact e
/-- things that are no tuple of two -/
theorem ft_no {d : D} {t : String} (hp : ∀ (h : Hv) (n : Nat), frz 0 h (n + 5) d = some d) (ht : tyName [] d = some t) (hk : kitB t "tuple" = some false) : FT d false := by
  refine ⟨hp, ?_, fun z => by cases z⟩
  refine fnS_of (P := fun x => x = .ok (.bl false) []) rfl ?_
  unfold b_is_field
  simp [ht, hk]
theorem ft_len {ds : List D} (hp : ∀ (h : Hv) (n : Nat), frz 0 h (n + 5) (.tup ds) = some (.tup ds)) (hl : ds.length ≠ 2) : FT (.tup ds) false := by
  refine ⟨hp, ?_, fun z => by cases z⟩
  refine fnS_of (P := fun x => x = .ok (.bl false) []) rfl ?_
  unfold b_is_field
  have t1 : ∀ h, tyName h (D.tup ds) = some "tuple" := fun _ => rfl
  have l1 : ¬ (ds.length : Int) = 2 := by omega
  simp [t1, ktt, l1]
theorem ft_snd {d e : D} {t : String} (hp : ∀ (h : Hv) (n : Nat), frz 0 h (n + 5) (.tup [d, e]) = some (.tup [d, e])) (ht : tyName [] e = some t) (hk : kitB t "str" = some false) : FT (.tup [d, e]) false := by
  refine ⟨hp, ?_, fun z => by cases z⟩
  refine fnS_of (P := fun x => x = .ok (.bl false) []) rfl ?_
  unfold b_is_field
  have t1 : ∀ h, tyName h (D.tup [d, e]) = some "tuple" := fun _ => rfl
  simp [t1, ktt, ht, hk]
theorem ft_fst {d : D} {b : Bool} (hp : ∀ (h : Hv) (n : Nat), frz 0 h (n + 4) d = some d) (hn : PV.NoStr d) : FT (.tup [d, .str (kindS b)]) false := by
  refine ⟨fun h n => by simp only [frz_tup]; simp [hp], ?_, fun z => by cases z⟩
  refine fnS_of (P := fun x => x = .ok (.bl false) []) rfl ?_
  unfold b_is_field
  have ne := cP (PV.name_no hn) (by simp [hp])
  have t1 : ∀ h, tyName h (D.tup [d, .str (kindS b)]) = some "tuple" := fun _ => rfl
  have t2 : ∀ h, tyName h (D.str (kindS b)) = some "str" := fun _ => rfl
  have k : (decide (kindS b = "word") || decide (kindS b = "number")) = true := by
    cases b
    · show (_ || decide (("number" : Str) = "number")) = true; simp
    · show (decide (("word" : Str) = "word") || _) = true; simp
  simp [t1, t2, ktt, kss, inP_kind, k, ne]
theorem FT.uniq {d : D} {v w : Bool} (a : FT d v) (b : FT d w) : v = w := by
  have := a.is.symm.trans b.is
  cases this
  rfl
theorem put_new {kd : List (Key × D)} {k : Key} {d : D} (h : ∀ p ∈ kd, p.1 ≠ k) : putD kd k d = kd ++ [(k, d)] := by
  unfold putD
  rw [if_neg]
  intro z
  obtain ⟨p, hp, q⟩ := List.any_eq_true.mp z
  exact h p hp (of_decide_eq_true q)
def seenK (fs : List Fd) : List (Key × D) := fs.map fun f => (.inr (sx f.1), .bl true)
theorem seen_has {fs : List Fd} {n : Tx} : (getD (seenK fs) (.inr (sx n))).isSome = decide (n ∈ fs.map (·.1)) := by
  induction fs with
  | nil => rfl
  | cons f fs ih =>
    have e : getD (seenK (f :: fs)) (.inr (sx n)) = if f.1 = n then some (.bl true) else getD (seenK fs) (.inr (sx n)) := by
      unfold getD seenK
      rw [List.map_cons, List.find?_cons]
      by_cases q : f.1 = n
      · rw [if_pos q, q]; simp
      · rw [if_neg q]
        have : decide ((Sum.inr (sx f.1) : Key) = .inr (sx n)) = false := decide_eq_false fun z => q (sx_inj.mp (Sum.inr.inj z))
        simp only [this]
    rw [e]
    by_cases q : f.1 = n
    · rw [if_pos q]
      symm
      exact decide_eq_true (by rw [List.map_cons, q]; exact List.mem_cons_self)
    · rw [if_neg q, ih]
      apply decide_eq_decide.mpr
      rw [List.map_cons, List.mem_cons]
      exact ⟨.inr, fun z => z.elim (fun z => absurd z.symm q) id⟩
/-- a list of things: fields, or not -/
theorem asked_fields_eq {ds : List D} (hd : ∀ d ∈ ds, ∃ v, FT d v) (hl : ds.length ≤ 1000) : ((∃ fs, FdsOk fs ∧ ds = fs.map fdD) → m_asked_fields [.lst ds] [] = .ok (.bl true) []) ∧ ((¬ ∃ fs, FdsOk fs ∧ ds = fs.map fdD) → m_asked_fields [.lst ds] [] = .exc ⟨"NoFields", none⟩ []) := by
  obtain ⟨PP, hPP⟩ : ∃ PP : VD.R D → Prop, PP = fun x => ((∃ fs, FdsOk fs ∧ ds = fs.map fdD) → x = .ok (.bl true) []) ∧ ((¬ ∃ fs, FdsOk fs ∧ ds = fs.map fdD) → x = .exc ⟨"NoFields", none⟩ []) := ⟨_, rfl⟩
  have fin : PP (m_asked_fields [.lst ds] []) := by
    refine fnS_of (P := PP) rfl ?_
    unfold b_asked_fields
    have t1 : ∀ h, tyName h (D.lst ds) = some "list" := fun _ => rfl
    have out : ∀ (_ : ¬ ∃ fs, FdsOk fs ∧ ds = fs.map fdD), PP (.exc ⟨"NoFields", none⟩ []) := fun n => by rw [hPP]; exact ⟨fun z => absurd z n, fun _ => rfl⟩
    have nm : ∀ {fs : List Fd}, ds = fs.map fdD → ds.length = fs.length := fun e => by rw [e, List.length_map]
    have fdi : ∀ {f g : Fd}, fdD f = fdD g → f = g := fun {f g} e => by
      obtain ⟨n, b⟩ := f
      obtain ⟨m, c⟩ := g
      have e := D.tup.inj e
      have e1 := (List.cons.inj e).1
      have e2 := (List.cons.inj (List.cons.inj e).2).1
      have e1 := sx_inj.mp (D.str.inj e1)
      have k2 : kindS b = kindS c := D.str.inj e2
      have e1 : n = m := e1
      subst e1
      cases b <;> cases c
      · rfl
      · exact absurd (show ("number" : Str) = "word" from k2) (by decide)
      · exact absurd (show ("word" : Str) = "number" from k2) (by decide)
      · rfl
    by_cases l1 : (ds.length : Int) < 1
    · simp [t1, kll, l1]
      exact out fun ⟨fs, o, e⟩ => by have := o.lo; have := nm e; omega
    · by_cases l8 : (8 : Int) < ds.length
      · simp [t1, kll, l1, l8]
        exact out fun ⟨fs, o, e⟩ => by have := o.hi; have := nm e; omega
      · simp [t1, kll, l1, l8]
        unfold l_asked_fields_1
        obtain ⟨I, hI⟩ : ∃ I : Nat → VS → Hv → Prop, I = fun i σ h => ∃ (x2 : Option D) (fs : List Fd), σ = [some (.lst ds), some (.cell 0), x2] ∧ h = [.dK (seenK fs)] ∧ ds.take i = fs.map fdD ∧ (fs.map (·.1)).Nodup ∧ ∀ f ∈ fs, okName f.1 := ⟨_, rfl⟩
        refine Wp.loopA id ds I (h0 := [.dK []]) (by simp) (by rw [hI]; exact ⟨_, [], rfl, rfl, rfl, List.nodup_nil, fun f hf => by cases hf⟩) ?_ ?_
        · intro i d σ h hk hh
          rw [hI] at hh
          obtain ⟨x2, fs, rfl, rfl, tk, nd, ok⟩ := hh
          refine ⟨_, rfl, ?_⟩
          have dm := List.mem_of_getElem? hk
          obtain ⟨v, ft⟩ := hd d dm
          have fe := cP ft.is (by simp [ft.pure])
          cases v with
          | false =>
            simp [fe]
            refine out fun ⟨gs, o, e⟩ => ?_
            rw [e] at dm
            obtain ⟨g, hg, rfl⟩ := List.mem_map.mp dm
            have k := o.nm g hg
            have := (ft_fd (f := g) (by have := k.2.1; omega)).uniq ft
            rw [okNm_iff.mpr k] at this
            cases this
          | true =>
            obtain ⟨f, rfl, kf⟩ := ft.fd rfl
            have f0 : ∀ h, ixD h (fdD f) 0 = some (tx f.1) := fun _ => rfl
            have kt : keyOf (tx f.1) = some (.inr (sx f.1)) := rfl
            have sh := seen_has (fs := fs) (n := f.1)
            by_cases q : f.1 ∈ fs.map (·.1)
            · rw [decide_eq_true q] at sh
              simp [fe, f0, kt, sh]
              refine out fun ⟨gs, o, e⟩ => ?_
              have e1 : ds.take (i + 1) = (fs ++ [f]).map fdD := by rw [List.take_succ, hk, tk, List.map_append]; rfl
              rw [e, List.map_take.symm] at e1
              have e2 : gs.take (i + 1) = fs ++ [f] := by
                have : ∀ (a b : List Fd), a.map fdD = b.map fdD → a = b := fun a b h => (List.map_inj_right (fun x y z => fdi z)).mp h
                exact this _ _ e1
              have nd2 : ((gs.take (i + 1)).map (·.1)).Nodup := by rw [List.map_take]; exact o.nd.sublist (List.take_sublist _ _)
              rw [e2, List.map_append, List.nodup_append] at nd2
              exact nd2.2.2 f.1 q f.1 (by simp) rfl
            · rw [decide_eq_false q] at sh
              have pn : putD (seenK fs) (.inr (sx f.1)) (.bl true) = seenK (fs ++ [f]) := by
                rw [put_new fun p hp z => ?_]
                · unfold seenK; rw [List.map_append]; rfl
                · unfold seenK at hp
                  obtain ⟨g, hg, rfl⟩ := List.mem_map.mp hp
                  exact q (List.mem_map.mpr ⟨g, hg, sx_inj.mp (Sum.inr.inj z)⟩)
              have lk : (seenK fs).length < 16777216 := by
                unfold seenK
                have : (ds.take i).length = fs.length := by rw [tk, List.length_map]
                rw [List.length_map, ← this, List.length_take]; omega
              simp [fe, f0, kt, sh, pn, lk]
              rw [hI]
              refine ⟨_, fs ++ [f], rfl, rfl, by rw [List.take_succ, hk, tk, List.map_append]; rfl, ?_, fun g hg => ?_⟩
              · rw [List.map_append, List.nodup_append]
                exact ⟨nd, by simp, fun a ha b hb z => by rw [List.mem_singleton.mp hb] at z; exact q (by rw [← show a = f.1 from z]; exact ha)⟩
              · rcases List.mem_append.mp hg with hg | hg
                · exact ok g hg
                · rw [List.mem_singleton.mp hg]; exact kf
        · intro σ h hh
          rw [hI] at hh
          obtain ⟨x2, fs, rfl, rfl, tk, nd, ok⟩ := hh
          rw [List.take_length] at tk
          simp
          rw [hPP]
          have := nm tk
          exact ⟨fun _ => rfl, fun n => absurd ⟨fs, ⟨by omega, by omega, nd, ok⟩, tk⟩ n⟩
  rw [hPP] at fin
  exact fin
theorem asked_fields_good {fs : List Fd} (o : FdsOk fs) : m_asked_fields [fdsD fs] [] = .ok (.bl true) [] :=
  (asked_fields_eq (fun d hd => by
    obtain ⟨f, hf, rfl⟩ := List.mem_map.mp hd
    exact ⟨_, ft_fd (by have := (o.nm f hf).2.1; omega)⟩) (by rw [List.length_map]; have := o.hi; omega)).1 ⟨fs, o, rfl⟩
theorem asked_fields_other {d : D} {t : String} (hp : frz 0 [] 12 d = some d) (ht : tyName [] d = some t) (hk : kitB t "list" = some false) : m_asked_fields [d] [] = .exc ⟨"NoFields", none⟩ [] := by
  refine fnS_of (P := fun x => x = .exc ⟨"NoFields", none⟩ []) rfl ?_
  unfold b_asked_fields
  simp [ht, hk]
end
end WS

set_option Elab.async false
set_option linter.all false
set_option maxRecDepth 100000
set_option maxHeartbeats 4000000
namespace WH
open PySem PySem.Spec PyProof.Rows L2 VD
noncomputable section
def l_row_of_1 : SS := sFor (iR1 (aCons (eCa bLen (aCons (eVar 1) (aNil))) (aNil))) (gN 2) (sIf (cOr (toB (eOp oGe (eVar 2) (eCa bLen (aCons (eVar 0) (aNil))))) (cNot (toB (eCa (Cm.f .P PV.m_is_value) (aCons (eOp oIx (eOp oIx (eVar 0) (eVar 2)) (eK (.int 1))) (aCons (eOp oIx (eVar 1) (eVar 2)) (aNil))))))) (sRaiseP "NoRow" "place" (eVar 2)) (sNext))
def b_row_of : SS := sSeq (l_row_of_1) (sSeq (sIf (toB (eOp oLt (eCa bLen (aCons (eVar 1) (aNil))) (eCa bLen (aCons (eVar 0) (aNil))))) (sRaiseP "NoRow" "place" (eCa bLen (aCons (eVar 1) (aNil)))) (sNext)) (sRet (eCa bTuple (aCons (eVar 1) (aNil)))))
def m_row_of : List D → Hv → R D := fnS 2 1 b_row_of
def b_Sheet_put : SS := sSeq (sSet 2 (eCa (Cm.f .B m_row_of) (aCons (eFld "Sheet" "own_fields" (eVar 0)) (aCons (eVar 1) (aNil))))) (sSeq (sSet 3 (eFld "Sheet" "given" (eVar 0))) (sSeq (sDput (eVar 2) (eFld "Sheet" "kept" (eVar 0)) (eVar 3)) (sSeq (sSetFld "Sheet" "given" (eVar 0) (eOp oAdd (eVar 3) (eK (.int 1)))) (sRet (eVar 3)))))
def m_Sheet_put : List D → Hv → R D := fnS 2 2 b_Sheet_put
def b_Sheet_row : SS := sSeq (sIf (toB (eOp oDnin (eVar 1) (eFld "Sheet" "kept" (eVar 0)))) (sRaiseP "NoSuch" "number" (eVar 1)) (sNext)) (sRet (eOp oDget (eFld "Sheet" "kept" (eVar 0)) (eVar 1)))
def m_Sheet_row : List D → Hv → R D := fnS 2 0 b_Sheet_row
def b_Sheet_turn : SS := sSeq (sSet 3 (eMeth "Sheet" "row" (Cm.f .M m_Sheet_row) (eVar 0) (aCons (eVar 1) (aNil)))) (sSeq (sDput (eCa (Cm.f .B m_row_of) (aCons (eFld "Sheet" "own_fields" (eVar 0)) (aCons (eVar 2) (aNil)))) (eFld "Sheet" "kept" (eVar 0)) (eVar 1)) (sRet (eVar 3)))
def m_Sheet_turn : List D → Hv → R D := fnS 3 1 b_Sheet_turn
def b_Sheet_numbers : SS := sRet (eV (eCa bSortDI (aCons (eFld "Sheet" "kept" (eVar 0)) (aNil))))
def m_Sheet_numbers : List D → Hv → R D := fnS 1 0 b_Sheet_numbers
def b_Sheet_out : SS := sSeq (sSet 2 (eMeth "Sheet" "row" (Cm.f .M m_Sheet_row) (eVar 0) (aCons (eVar 1) (aNil)))) (sSeq (sDrop (eDpop (eFld "Sheet" "kept" (eVar 0)) (eVar 1))) (sRet (eVar 2)))
def m_Sheet_out : List D → Hv → R D := fnS 2 1 b_Sheet_out
open WT PS WS
/-! sheets: rows put in, turned, taken out -/
structure RowLike (d : D) (td : List D) : Prop where
  len : ∀ h, lenD h d = some (td.length : Int)
  ix : ∀ h i, ixD h d i = L2.atI td i
  tup : ∀ h, bTuple [d] h = .ok (.tup td) h
  frz : frz 0 [] 12 d = some d
  fl : optAll (VD.frz 0 [] 11) td = some td
theorem rowLike_lst {td : List D} (h : optAll (VD.frz 0 [] 11) td = some td) : RowLike (.lst td) td := ⟨fun _ => by rw [lenD_lst], fun _ _ => rfl, fun _ => rfl, by rw [frz_lst, h]; rfl, h⟩
theorem rowLike_tup {td : List D} (h : optAll (VD.frz 0 [] 11) td = some td) : RowLike (.tup td) td := ⟨fun _ => by simp, fun _ _ => rfl, fun _ => rfl, by rw [frz_tup, h]; rfl, h⟩
/-- whether a thing is a value of a field -/
structure VT (d : D) (b v : Bool) : Prop where
  pure : frz 0 [] 12 d = some d
  is : PV.m_is_value [.str (kindS b), d] [] = .ok (.bl v) []
def badAt (fs : List Fd) (td : List D) (ok : Nat → Bool) : Option Nat := (List.range td.length).find? fun i => decide (fs.length ≤ i) || !ok i
/-- the place of the first wrong thing, how many there are, or none -/
def dueI (fs : List Fd) (td : List D) (ok : Nat → Bool) : Option Nat := match badAt fs td ok with
  | some i => some i
  | none => if td.length < fs.length then some td.length else none
def rowR (td : List D) : Option Nat → VD.R D
  | none => .ok (.tup td) []
  | some i => .exc ⟨"NoRow", some ("place", .int (i : Nat))⟩ []
theorem badAt_some {fs : List Fd} {td : List D} {ok : Nat → Bool} {i : Nat} (h1 : i < td.length) (h2 : (decide (fs.length ≤ i) || !ok i) = true) (h3 : ∀ j, j < i → (decide (fs.length ≤ j) || !ok j) = false) : badAt fs td ok = some i := by
  unfold badAt
  rw [List.find?_range_eq_some]
  exact ⟨h2, List.mem_range.mpr h1, fun j hj => by rw [h3 j hj]; rfl⟩
theorem badAt_none {fs : List Fd} {td : List D} {ok : Nat → Bool} (h3 : ∀ j, j < td.length → (decide (fs.length ≤ j) || !ok j) = false) : badAt fs td ok = none := by
  unfold badAt
  rw [List.find?_eq_none]
  intro j hj
  rw [h3 j (List.mem_range.mp hj)]
  decide
theorem row_of_eq {fs : List Fd} {d : D} {td : List D} {ok : Nat → Bool} (hl : fs.length ≤ 100) (rl : RowLike d td) (ht : td.length ≤ 1000) (hv : ∀ i f x, fs[i]? = some f → td[i]? = some x → VT x f.2 (ok i)) : m_row_of [fdsD fs, d] [] = rowR td (dueI fs td ok) := by
  obtain ⟨PP, hPP⟩ : ∃ PP : VD.R D → Prop, PP = fun x => x = rowR td (dueI fs td ok) := ⟨_, rfl⟩
  have fin : PP (m_row_of [fdsD fs, d] []) := by
    refine fnS_of (P := PP) rfl ?_
    unfold b_row_of
    simp
    unfold l_row_of_1
    have lf : ∀ h, lenD h (fdsD fs) = some (fs.length : Int) := fun h => by unfold fdsD; rw [lenD_lst, List.length_map]
    have ld := rl.len
    obtain ⟨I, hI⟩ : ∃ I : Nat → VS → Hv → Prop, I = fun i σ h => ∃ (x2 : Option D), σ = [some (fdsD fs), some d, x2] ∧ h = [] ∧ ∀ j, j < i → (decide (fs.length ≤ j) || !ok j) = false := ⟨_, rfl⟩
    refine Wp.range 0 td.length I (h0 := []) (by simp (disch := omega) [ld]) (by rw [hI]; exact ⟨_, rfl, rfl, fun j hj => by omega⟩) ?_ ?_
    · intro i σ h hi hh
      rw [hI] at hh
      obtain ⟨x2, rfl, rfl, al⟩ := hh
      refine ⟨_, rfl, ?_⟩
      by_cases q : fs.length ≤ i
      · have bd := badAt_some (fs := fs) (ok := ok) hi (by rw [decide_eq_true q]; rfl) al
        have q' : (fs.length : Int) ≤ i := by omega
        simp [lf, q']
        rw [hPP]
        unfold dueI
        rw [bd]; rfl
      · have q' : ¬ (fs.length : Int) ≤ i := by omega
        have hf := List.getElem?_eq_getElem (show i < fs.length by omega)
        have hx := List.getElem?_eq_getElem hi
        have vt := hv i _ _ hf hx
        have i1 := fun h => PT.fd_ix (h := h) hf
        have i2 : ∀ h, ixD h d (i : Int) = some td[i] := fun h => by rw [rl.ix]; exact atI_at rfl hx
        have ve := cP vt.is (by simp [vt.pure])
        have fx : ∀ (f : Fd) h, ixD h (fdD f) 1 = some (.str (kindS f.2)) := fun _ _ => rfl
        cases ov : ok i with
        | true =>
          rw [ov] at ve
          simp [lf, q', i1, i2, fx, ve]
          rw [hI]
          refine ⟨_, rfl, rfl, fun j hj => ?_⟩
          by_cases qj : j = i
          · rw [qj, decide_eq_false q, ov]; rfl
          · exact al j (by omega)
        | false =>
          have bd := badAt_some (fs := fs) (ok := ok) hi (by rw [ov]; simp) al
          rw [ov] at ve
          simp [lf, q', i1, i2, fx, ve]
          rw [hPP]
          unfold dueI
          rw [bd]; rfl
    · intro σ h hh
      rw [hI] at hh
      obtain ⟨x2, rfl, rfl, al⟩ := hh
      have bd := badAt_none al
      have fz := rl.frz
      have tp := rl.tup
      by_cases q : td.length < fs.length
      · have q' : (td.length : Int) < fs.length := by omega
        simp [lf, ld, q']
        rw [hPP]
        unfold dueI
        rw [bd]
        simp only [if_pos q]; rfl
      · have q' : ¬ (td.length : Int) < fs.length := by omega
        have fl := rl.fl
        simp [lf, ld, q', tp, fl]
        rw [hPP]
        unfold dueI
        rw [bd]
        simp only [if_neg q]; rfl
  rw [hPP] at fin
  exact fin
/-! the heap of a sheet at work: its object at a, its rows at k -/
def sheetI (fs : List Fd) (k : Nat) (g : Int) : Cell := .ins "Sheet" [("own_fields", fdsD fs), ("kept", .cell k), ("given", .int g)]
def Stb (n0 : Nat) (c : Cell) : Prop := ∀ h, frzC n0 h c = some c
theorem stb_all {n0 : Nat} {h0 : Hv} : ∀ {h : Hv}, (∀ c ∈ h, Stb n0 c) → optAll (frzC n0 h0) h = some h
  | [], _ => rfl
  | c :: h, s => by
    rw [optAll, s c List.mem_cons_self h0, stb_all fun d hd => s d (List.mem_cons_of_mem _ hd)]
theorem stb_sheet {fs : List Fd} {k n0 : Nat} {g : Int} (hk : k < n0) : Stb n0 (sheetI fs k g) := fun h => by
  show (optAll (fun kv : Str × D => (frz n0 h 12 kv.2).map fun d => (kv.1, d)) [("own_fields", fdsD fs), ("kept", .cell k), ("given", .int g)]).map (Cell.ins "Sheet") = _
  have e2 : frz n0 h 12 (.cell k) = some (.cell k) := by
    show (if k < n0 then some (D.cell k) else _) = _
    rw [if_pos hk]
  simp only [optAll, frz_fds (n0 := n0) (n := 9) (h := h) fs, e2]
  rfl
theorem stb_lst {n0 : Nat} {xs : List D} (hx : ∀ h, optAll (frz n0 h 12) xs = some xs) : Stb n0 (.lst xs) := fun h => by
  show (optAll (frz n0 h 12) xs).map Cell.lst = _
  rw [hx]; rfl
def DStb (d : D) : Prop := ∀ (n0 : Nat) (h : Hv), frz n0 h 12 d = some d
theorem stb_dK {n0 : Nat} {kd : List (Key × D)} (hx : ∀ p ∈ kd, DStb p.2) : Stb n0 (.dK kd) := fun h => by
  show (optAll (fun kv : Key × D => (frz n0 h 12 kv.2).map fun d => (kv.1, d)) kd).map Cell.dK = _
  have : optAll (fun kv : Key × D => (frz n0 h 12 kv.2).map fun d => (kv.1, d)) kd = some kd := by
    induction kd with
    | nil => rfl
    | cons p kd ih =>
      rw [optAll, ih fun q hq => hx q (List.mem_cons_of_mem _ hq), hx p List.mem_cons_self n0 h]; rfl
  rw [this]; rfl
theorem mem_set {h : Hv} {i : Nat} {c d : Cell} (hd : d ∈ h.set i c) : d = c ∨ d ∈ h := by
  rcases List.mem_or_eq_of_mem_set hd with z | z
  · exact .inr z
  · exact .inl z
theorem put_mem {kd : List (Key × D)} {k : Key} {d : D} (hx : ∀ p ∈ kd, DStb p.2) (hd : DStb d) : ∀ p ∈ putD kd k d, DStb p.2 := by
  intro p hp
  unfold putD at hp
  split at hp
  · obtain ⟨q, hq, rfl⟩ := List.mem_map.mp hp
    split
    · exact hd
    · exact hx q hq
  · rcases List.mem_append.mp hp with hp | hp
    · exact hx p hp
    · rw [List.mem_singleton.mp hp]; exact hd
theorem k_ok : ¬ (("own_fields" : Str) = "kept") := by decide
theorem k_og : ¬ (("own_fields" : Str) = "given") := by decide
theorem k_kg : ¬ (("kept" : Str) = "given") := by decide
theorem b_ko : (("kept" : Str) == "own_fields") = false := by decide
theorem b_go : (("given" : Str) == "own_fields") = false := by decide
theorem b_gk : (("given" : Str) == "kept") = false := by decide
theorem fld_own {fs : List Fd} {k a : Nat} {g : Int} {h : Hv} (e : h[a]? = some (sheetI fs k g)) : fldsOf h "Sheet" (.cell a) = some ([("own_fields", fdsD fs), ("kept", D.cell k), ("given", D.int g)] : List (Str × D)) := by
  rw [fldsOf_cell, e]; rfl
structure SheetAt (h : Hv) (a k : Nat) (fs : List Fd) (kd : List (Key × D)) (g : Int) : Prop where
  ob : h[a]? = some (sheetI fs k g)
  di : h[k]? = some (.dK kd)
  ne : a ≠ k
  stb : ∀ c ∈ h, ∀ n0, h.length ≤ n0 → Stb n0 c
  vs : ∀ p ∈ kd, DStb p.2
  few : kd.length < 16000000
theorem SheetAt.kl {h : Hv} {a k : Nat} {fs : List Fd} {kd : List (Key × D)} {g : Int} (s : SheetAt h a k fs kd g) : a < h.length ∧ k < h.length := ⟨(List.getElem?_eq_some_iff.mp s.ob).1, (List.getElem?_eq_some_iff.mp s.di).1⟩
theorem SheetAt.st {h : Hv} {a k : Nat} {fs : List Fd} {kd : List (Key × D)} {g : Int} (s : SheetAt h a k fs kd g) : ∀ c ∈ h, Stb h.length c := fun c hc => s.stb c hc _ (Nat.le_refl _)
theorem SheetAt.all {h : Hv} {a k : Nat} {fs : List Fd} {kd : List (Key × D)} {g : Int} (s : SheetAt h a k fs kd g) : optAll (frzC h.length h) (h.take h.length) = some h := by
  rw [List.take_length]
  exact stb_all s.st
theorem exit_all {h : Hv} {d d' : D} (hs : ∀ c ∈ h, Stb h.length c) (hd : frz h.length h 12 d = some d') {n : Nat} (hn : n = h.length) : exitD n d h = .ok d' h := by
  subst hn
  unfold exitD
  rw [List.take_length, stb_all hs, hd]
  simp only [Nat.le_refl, if_true]
theorem exitX_all {h : Hv} {C f : Str} {i : Int} (hs : ∀ c ∈ h, Stb h.length c) {n : Nat} (hn : n = h.length) : exitX n ⟨C, some (f, .int i)⟩ h = .exc ⟨C, some (f, .int i)⟩ h := by
  subst hn
  unfold exitX
  simp only
  rw [List.take_length, stb_all hs]
  show (if h.length ≤ h.length then VD.R.exc ⟨C, some (f, .int i)⟩ h else .stuck) = _
  rw [if_pos (Nat.le_refl _)]
/-- a def's end in a heap of its caller's -/
def Rh (P : VD.R D → Prop) (n0 : Nat) (r : RS) : Prop := match r with
  | .ret d h => P (exitD n0 d h)
  | .next _ h => P (exitD n0 .non h)
  | .exc x _ h => P (exitX n0 x h)
  | _ => False
section
variable {P : VD.R D → Prop} {n0 : Nat} {σ : VS} {h : Hv} {d : D} {x : Xn}
@[simp] theorem Wp_rh_ret : Wp (Rh P n0) (.ret d h) = P (exitD n0 d h) := Wp.eq _ _
@[simp] theorem Wp_rh_next : Wp (Rh P n0) (.next σ h) = P (exitD n0 .non h) := Wp.eq _ _
@[simp] theorem Wp_rh_exc : Wp (Rh P n0) (.exc x σ h) = P (exitX n0 x h) := Wp.eq _ _
@[simp] theorem Wp_rh_stuck : Wp (Rh P n0) .stuck = False := Wp.eq _ _
end
theorem fnS_at {P : VD.R D → Prop} {np nl : Nat} {body : SS} {ds : List D} {h : Hv} (hl : ds.length = np) (hw : Wp (Rh P h.length) (body (ds.map some ++ List.replicate nl none) h)) : P (fnS np nl body ds h) := by
  replace hw := hw.run
  unfold fnS
  rw [if_pos hl]
  generalize body (ds.map some ++ List.replicate nl none) h = r at hw ⊢
  cases r <;> first
    | exact hw
    | exact hw.elim
section
variable {fs : List Fd} {h : Hv} {a k : Nat} {kd : List (Key × D)} {g : Int} {d d' : D} {td : List D} {ok : Nat → Bool}
theorem row_call (hl : fs.length ≤ 100) (rl : RowLike d' td) (hp : frz 0 h 12 d = some d') (ht : td.length ≤ 1000) (hv : ∀ i f x, fs[i]? = some f → td[i]? = some x → VT x f.2 (ok i)) (hsc : dueI fs td ok = none → isScalL td = true) :
    callB m_row_of [fdsD fs, d] h = match dueI fs td ok with
      | none => .ok (.tup td) h
      | some i => .exc ⟨"NoRow", some ("place", .int (i : Nat))⟩ h := by
  have e := row_of_eq hl rl ht hv
  have p : optAll (frz 0 h 12) [fdsD fs, d] = some [fdsD fs, d'] := by
    simp only [optAll, frz_fds (n0 := 0) (n := 9) (h := h) fs, hp]
  cases q : dueI fs td ok with
  | none =>
    rw [q] at e
    exact callB_ok p e (by rw [isScal]; exact hsc q)
  | some i =>
    rw [q] at e
    exact callB_excP p e rfl
theorem put_ok (s : SheetAt h a k fs kd g) (hl : fs.length ≤ 100) (rl : RowLike d' td) (hp : frz 0 h 12 d = some d') (ht : td.length ≤ 1000) (hv : ∀ i f x, fs[i]? = some f → td[i]? = some x → VT x f.2 (ok i)) (hd : dueI fs td ok = none) (hsc : isScalL td = true) (hst : DStb (.tup td)) :
    m_Sheet_put [.cell a, d] h = .ok (.int g) ((h.set k (.dK (putD kd (.inl g) (.tup td)))).set a (sheetI fs k (g + 1))) := by
  refine fnS_at (P := fun x => x = .ok (.int g) ((h.set k (.dK (putD kd (.inl g) (.tup td)))).set a (sheetI fs k (g + 1)))) rfl ?_
  unfold b_Sheet_put
  have rc := row_call hl rl hp ht hv (fun _ => hsc)
  rw [hd] at rc
  obtain ⟨al, kl⟩ := s.kl
  have fl := fld_own s.ob
  have lo : List.lookup ("own_fields" : Str) ([("own_fields", fdsD fs), ("kept", D.cell k), ("given", D.int g)] : List (Str × D)) = some (fdsD fs) := rfl
  have lk : List.lookup ("kept" : Str) ([("own_fields", fdsD fs), ("kept", D.cell k), ("given", D.int g)] : List (Str × D)) = some (.cell k) := by simp [List.lookup, b_ko]
  have lg : List.lookup ("given" : Str) ([("own_fields", fdsD fs), ("kept", D.cell k), ("given", D.int g)] : List (Str × D)) = some (.int g) := by simp [List.lookup, b_go, b_gk]
  have di := s.di
  have few : kd.length < 16777216 := by have := s.few; omega
  have ob2 : (h.set k (.dK (putD kd (.inl g) (.tup td))))[a]? = some (sheetI fs k g) := by rw [List.getElem?_set_ne (fun z => s.ne z.symm)]; exact s.ob
  have pt : putS "given" (D.int (g + 1)) ([("own_fields", fdsD fs), ("kept", D.cell k), ("given", D.int g)] : List (Str × D)) = ([("own_fields", fdsD fs), ("kept", D.cell k), ("given", D.int (g + 1))] : List (Str × D)) := by simp [putS, k_og, k_kg]
  have fin : exitD h.length (D.int g) ((h.set k (.dK (putD kd (.inl g) (.tup td)))).set a (sheetI fs k (g + 1))) = .ok (.int g) ((h.set k (.dK (putD kd (.inl g) (.tup td)))).set a (sheetI fs k (g + 1))) := by
    refine exit_all (fun c hc => ?_) rfl (by simp)
    rw [List.length_set, List.length_set]
    rcases mem_set hc with rfl | hc
    · exact stb_sheet kl
    · rcases mem_set hc with rfl | hc
      · exact stb_dK (put_mem s.vs hst)
      · exact s.st c hc
  have kg : keyOf (D.int g) = some (.inl g) := rfl
  simp only [sheetI] at ob2
  simp [fl, lo, lk, lg, rc, di, few, kg, ob2, pt, -fldsOf_cell]
  exact fin
theorem meth_none {m : Str} (h1 : (m == ("own_fields" : Str)) = false) (h2 : (m == ("kept" : Str)) = false) (h3 : (m == ("given" : Str)) = false) : (List.lookup m ([("own_fields", fdsD fs), ("kept", D.cell k), ("given", D.int g)] : List (Str × D))).isNone = true := by
  simp [List.lookup, h1, h2, h3]
theorem lk_kept : List.lookup ("kept" : Str) ([("own_fields", fdsD fs), ("kept", D.cell k), ("given", D.int g)] : List (Str × D)) = some (.cell k) := by simp [List.lookup, b_ko]
theorem row_ok {i : Int} {v : D} (s : SheetAt h a k fs kd g) (e : getD kd (.inl i) = some v) (hv : DStb v) : m_Sheet_row [.cell a, .int i] h = .ok v h := by
  refine fnS_at (P := fun x => x = .ok v h) rfl ?_
  unfold b_Sheet_row
  have fl := fld_own s.ob
  have di := s.di
  have lk := lk_kept (fs := fs) (k := k) (g := g)
  have kg : keyOf (D.int i) = some (.inl i) := rfl
  simp [fl, lk, di, kg, e, -fldsOf_cell]
  exact exit_all s.st (hv _ _) rfl
theorem row_no {i : Int} (s : SheetAt h a k fs kd g) (e : getD kd (.inl i) = none) : m_Sheet_row [.cell a, .int i] h = .exc ⟨"NoSuch", some ("number", .int i)⟩ h := by
  refine fnS_at (P := fun x => x = .exc ⟨"NoSuch", some ("number", .int i)⟩ h) rfl ?_
  unfold b_Sheet_row
  have fl := fld_own s.ob
  have di := s.di
  have lk := lk_kept (fs := fs) (k := k) (g := g)
  have kg : keyOf (D.int i) = some (.inl i) := rfl
  simp [fl, lk, di, kg, e, -fldsOf_cell]
  exact exitX_all s.st rfl
theorem r_o : (("row" : Str) == "own_fields") = false := by decide
theorem r_k : (("row" : Str) == "kept") = false := by decide
theorem r_g : (("row" : Str) == "given") = false := by decide
theorem put_bad {n : Nat} (s : SheetAt h a k fs kd g) (hl : fs.length ≤ 100) (rl : RowLike d' td) (hp : frz 0 h 12 d = some d') (ht : td.length ≤ 1000) (hv : ∀ i f x, fs[i]? = some f → td[i]? = some x → VT x f.2 (ok i)) (hd : dueI fs td ok = some n) :
    m_Sheet_put [.cell a, d] h = .exc ⟨"NoRow", some ("place", .int (n : Nat))⟩ h := by
  refine fnS_at (P := fun x => x = .exc ⟨"NoRow", some ("place", .int (n : Nat))⟩ h) rfl ?_
  unfold b_Sheet_put
  have rc := row_call hl rl hp ht hv (fun z => by rw [hd] at z; cases z)
  rw [hd] at rc
  have fl := fld_own s.ob
  have lo : List.lookup ("own_fields" : Str) ([("own_fields", fdsD fs), ("kept", D.cell k), ("given", D.int g)] : List (Str × D)) = some (fdsD fs) := rfl
  simp [fl, lo, rc, -fldsOf_cell]
  exact exitX_all s.st rfl
theorem turn_ok {i : Int} {v : D} (s : SheetAt h a k fs kd g) (e : getD kd (.inl i) = some v) (hv0 : DStb v) (hl : fs.length ≤ 100) (rl : RowLike d' td) (hp : frz 0 h 12 d = some d') (ht : td.length ≤ 1000) (hv : ∀ i f x, fs[i]? = some f → td[i]? = some x → VT x f.2 (ok i)) (hd : dueI fs td ok = none) (hsc : isScalL td = true) (hst : DStb (.tup td)) :
    m_Sheet_turn [.cell a, .int i, d] h = .ok v (h.set k (.dK (putD kd (.inl i) (.tup td)))) := by
  refine fnS_at (P := fun x => x = .ok v (h.set k (.dK (putD kd (.inl i) (.tup td))))) rfl ?_
  unfold b_Sheet_turn
  have rc := row_call hl rl hp ht hv (fun _ => hsc)
  rw [hd] at rc
  obtain ⟨al, kl⟩ := s.kl
  have fl := fld_own s.ob
  have di := s.di
  have few : kd.length < 16777216 := by have := s.few; omega
  have lo : List.lookup ("own_fields" : Str) ([("own_fields", fdsD fs), ("kept", D.cell k), ("given", D.int g)] : List (Str × D)) = some (fdsD fs) := rfl
  have lk := lk_kept (fs := fs) (k := k) (g := g)
  have mn := meth_none (fs := fs) (k := k) (g := g) r_o r_k r_g
  have ro := row_ok s e hv0
  have kg : keyOf (D.int i) = some (.inl i) := rfl
  have fin : exitD h.length v (h.set k (.dK (putD kd (.inl i) (.tup td)))) = .ok v (h.set k (.dK (putD kd (.inl i) (.tup td)))) := by
    refine exit_all (fun c hc => ?_) (hv0 _ _) (by simp)
    rw [List.length_set]
    rcases mem_set hc with rfl | hc
    · exact stb_dK (put_mem s.vs hst)
    · exact s.st c hc
  rw [Option.isNone_iff_eq_none] at mn
  simp [fl, mn, lo, lk, ro, rc, di, few, kg, -fldsOf_cell]
  exact fin
theorem turn_no {i : Int} (s : SheetAt h a k fs kd g) (e : getD kd (.inl i) = none) : m_Sheet_turn [.cell a, .int i, d] h = .exc ⟨"NoSuch", some ("number", .int i)⟩ h := by
  refine fnS_at (P := fun x => x = .exc ⟨"NoSuch", some ("number", .int i)⟩ h) rfl ?_
  unfold b_Sheet_turn
  have fl := fld_own s.ob
  have mn := meth_none (fs := fs) (k := k) (g := g) r_o r_k r_g
  have ro := row_no s e
  rw [Option.isNone_iff_eq_none] at mn
  simp [fl, mn, ro, -fldsOf_cell]
  exact exitX_all s.st rfl
theorem turn_bad {i : Int} {v : D} {n : Nat} (s : SheetAt h a k fs kd g) (e : getD kd (.inl i) = some v) (hv0 : DStb v) (hl : fs.length ≤ 100) (rl : RowLike d' td) (hp : frz 0 h 12 d = some d') (ht : td.length ≤ 1000) (hv : ∀ i f x, fs[i]? = some f → td[i]? = some x → VT x f.2 (ok i)) (hd : dueI fs td ok = some n) :
    m_Sheet_turn [.cell a, .int i, d] h = .exc ⟨"NoRow", some ("place", .int (n : Nat))⟩ h := by
  refine fnS_at (P := fun x => x = .exc ⟨"NoRow", some ("place", .int (n : Nat))⟩ h) rfl ?_
  unfold b_Sheet_turn
  have rc := row_call hl rl hp ht hv (fun z => by rw [hd] at z; cases z)
  rw [hd] at rc
  have fl := fld_own s.ob
  have lo : List.lookup ("own_fields" : Str) ([("own_fields", fdsD fs), ("kept", D.cell k), ("given", D.int g)] : List (Str × D)) = some (fdsD fs) := rfl
  have mn := meth_none (fs := fs) (k := k) (g := g) r_o r_k r_g
  have ro := row_ok s e hv0
  rw [Option.isNone_iff_eq_none] at mn
  simp [fl, mn, lo, ro, rc, -fldsOf_cell]
  exact exitX_all s.st rfl
theorem out_ok {i : Int} {v : D} (s : SheetAt h a k fs kd g) (e : getD kd (.inl i) = some v) (hv0 : DStb v) : m_Sheet_out [.cell a, .int i] h = .ok v (h.set k (.dK (dropD kd (.inl i)))) := by
  refine fnS_at (P := fun x => x = .ok v (h.set k (.dK (dropD kd (.inl i))))) rfl ?_
  unfold b_Sheet_out
  have fl := fld_own s.ob
  have di := s.di
  have lk := lk_kept (fs := fs) (k := k) (g := g)
  have mn := meth_none (fs := fs) (k := k) (g := g) r_o r_k r_g
  have ro := row_ok s e hv0
  have kg : keyOf (D.int i) = some (.inl i) := rfl
  have fin : exitD h.length v (h.set k (.dK (dropD kd (.inl i)))) = .ok v (h.set k (.dK (dropD kd (.inl i)))) := by
    refine exit_all (fun c hc => ?_) (hv0 _ _) (by simp)
    rw [List.length_set]
    rcases mem_set hc with rfl | hc
    · refine stb_dK fun p hp => s.vs p ?_
      unfold dropD at hp
      exact (List.mem_filter.mp hp).1
    · exact s.st c hc
  rw [Option.isNone_iff_eq_none] at mn
  simp [fl, mn, lk, ro, di, kg, e, -fldsOf_cell]
  exact fin
theorem out_no {i : Int} (s : SheetAt h a k fs kd g) (e : getD kd (.inl i) = none) : m_Sheet_out [.cell a, .int i] h = .exc ⟨"NoSuch", some ("number", .int i)⟩ h := by
  refine fnS_at (P := fun x => x = .exc ⟨"NoSuch", some ("number", .int i)⟩ h) rfl ?_
  unfold b_Sheet_out
  have fl := fld_own s.ob
  have mn := meth_none (fs := fs) (k := k) (g := g) r_o r_k r_g
  have ro := row_no s e
  rw [Option.isNone_iff_eq_none] at mn
  simp [fl, mn, ro, -fldsOf_cell]
  exact exitX_all s.st rfl
/-! more cells, other cells -/
theorem SheetAt.more {c : Cell} (s : SheetAt h a k fs kd g) (hc : ∀ n0, h.length + 1 ≤ n0 → Stb n0 c) : SheetAt (h ++ [c]) a k fs kd g := by
  obtain ⟨al, kl⟩ := s.kl
  refine ⟨by rw [List.getElem?_append_left al]; exact s.ob, by rw [List.getElem?_append_left kl]; exact s.di, s.ne, fun d hd n0 hn => ?_, s.vs, s.few⟩
  rw [List.length_append] at hn
  have hn : h.length + 1 ≤ n0 := hn
  rcases List.mem_append.mp hd with z | z
  · exact s.stb d z n0 (by omega)
  · rw [List.mem_singleton.mp z]; exact hc n0 hn
end
end
end WH

set_option Elab.async false
set_option linter.all false
set_option maxRecDepth 100000
set_option maxHeartbeats 4000000
namespace Lk19
open PySem PySem.Spec PyProof.Rows L2 VD
noncomputable section
def topS (i : Nat) : Stmt := PySem.Challenge.pw_crosshall_k19_refusals_apart.main.body.getD i (.Pass ⟨0, 0, 0, 0⟩)
abbrev s_made_of : Stmt := topS 21
abbrev N_made_of : List Str := ["thing", "signs", "most", "sign"]
theorem sc_made_of : FnScope N_made_of ["thing", "signs", "most"] (defScope s_made_of) := ⟨rfl, rfl, rfl, by decide +kernel, rfl, by decide +kernel, by decide +kernel⟩
abbrev s_is_name : Stmt := topS 22
abbrev N_is_name : List Str := ["thing"]
theorem sc_is_name : FnScope N_is_name ["thing"] (defScope s_is_name) := ⟨rfl, rfl, rfl, by decide +kernel, rfl, by decide +kernel, by decide +kernel⟩
abbrev s_is_field : Stmt := topS 30
abbrev N_is_field : List Str := ["thing"]
theorem sc_is_field : FnScope N_is_field ["thing"] (defScope s_is_field) := ⟨rfl, rfl, rfl, by decide +kernel, rfl, by decide +kernel, by decide +kernel⟩
abbrev s_asked_fields : Stmt := topS 31
abbrev N_asked_fields : List Str := ["fields", "seen", "field"]
theorem sc_asked_fields : FnScope N_asked_fields ["fields"] (defScope s_asked_fields) := ⟨rfl, rfl, rfl, by decide +kernel, rfl, by decide +kernel, by decide +kernel⟩
abbrev s_Sheet___init__ : Stmt := clsS (topS 34) 0
abbrev N_Sheet___init__ : List Str := ["self", "fields"]
theorem sc_Sheet___init__ : FnScope N_Sheet___init__ ["self", "fields"] (defScope s_Sheet___init__) := ⟨rfl, rfl, rfl, by decide +kernel, rfl, by decide +kernel, by decide +kernel⟩
abbrev s_Sheet_numbers : Stmt := clsS (topS 34) 6
abbrev N_Sheet_numbers : List Str := ["self"]
theorem sc_Sheet_numbers : FnScope N_Sheet_numbers ["self"] (defScope s_Sheet_numbers) := ⟨rfl, rfl, rfl, by decide +kernel, rfl, by decide +kernel, by decide +kernel⟩
abbrev s_is_word : Stmt := topS 23
abbrev N_is_word : List Str := ["thing"]
theorem sc_is_word : FnScope N_is_word ["thing"] (defScope s_is_word) := ⟨rfl, rfl, rfl, by decide +kernel, rfl, by decide +kernel, by decide +kernel⟩
abbrev s_is_whole : Stmt := topS 24
abbrev N_is_whole : List Str := ["thing"]
theorem sc_is_whole : FnScope N_is_whole ["thing"] (defScope s_is_whole) := ⟨rfl, rfl, rfl, by decide +kernel, rfl, by decide +kernel, by decide +kernel⟩
abbrev s_is_value : Stmt := topS 25
abbrev N_is_value : List Str := ["kind", "thing"]
theorem sc_is_value : FnScope N_is_value ["kind", "thing"] (defScope s_is_value) := ⟨rfl, rfl, rfl, by decide +kernel, rfl, by decide +kernel, by decide +kernel⟩
abbrev s_row_of : Stmt := topS 33
abbrev N_row_of : List Str := ["fields", "things", "place"]
theorem sc_row_of : FnScope N_row_of ["fields", "things"] (defScope s_row_of) := ⟨rfl, rfl, rfl, by decide +kernel, rfl, by decide +kernel, by decide +kernel⟩
abbrev s_Sheet_put : Stmt := clsS (topS 34) 2
abbrev N_Sheet_put : List Str := ["self", "row", "made", "number"]
theorem sc_Sheet_put : FnScope N_Sheet_put ["self", "row"] (defScope s_Sheet_put) := ⟨rfl, rfl, rfl, by decide +kernel, rfl, by decide +kernel, by decide +kernel⟩
abbrev s_Sheet_row : Stmt := clsS (topS 34) 5
abbrev N_Sheet_row : List Str := ["self", "number"]
theorem sc_Sheet_row : FnScope N_Sheet_row ["self", "number"] (defScope s_Sheet_row) := ⟨rfl, rfl, rfl, by decide +kernel, rfl, by decide +kernel, by decide +kernel⟩
abbrev s__law_cell_at : Stmt := topS 55
abbrev N__law_cell_at : List Str := ["_law_script", "_law_k"]
theorem sc__law_cell_at : FnScope N__law_cell_at ["_law_script", "_law_k"] (defScope s__law_cell_at) := ⟨rfl, rfl, rfl, by decide +kernel, rfl, by decide +kernel, by decide +kernel⟩
abbrev s__law_mix : Stmt := topS 56
abbrev N__law_mix : List Str := ["_law_seed", "_law_k", "_law_turn"]
theorem sc__law_mix : FnScope N__law_mix ["_law_seed", "_law_k"] (defScope s__law_mix) := ⟨rfl, rfl, rfl, by decide +kernel, rfl, by decide +kernel, by decide +kernel⟩
abbrev s_field_at : Stmt := topS 32
abbrev N_field_at : List Str := ["fields", "name", "place"]
theorem sc_field_at : FnScope N_field_at ["fields", "name"] (defScope s_field_at) := ⟨rfl, rfl, rfl, by decide +kernel, rfl, by decide +kernel, by decide +kernel⟩
abbrev s_asked_sieve : Stmt := topS 36
abbrev N_asked_sieve : List Str := ["fields", "sieve", "kind", "part"]
theorem sc_asked_sieve : FnScope N_asked_sieve ["fields", "sieve"] (defScope s_asked_sieve) := ⟨rfl, rfl, rfl, by decide +kernel, rfl, by decide +kernel, by decide +kernel⟩
abbrev s_run_of : Stmt := topS 43
abbrev N_run_of : List Str := ["text", "at", "signs"]
theorem sc_run_of : FnScope N_run_of ["text", "at", "signs"] (defScope s_run_of) := ⟨rfl, rfl, rfl, by decide +kernel, rfl, by decide +kernel, by decide +kernel⟩
abbrev s_plain_at : Stmt := topS 44
abbrev N_plain_at : List Str := ["text", "at", "end", "name", "sign", "behind", "value", "number"]
theorem sc_plain_at : FnScope N_plain_at ["text", "at"] (defScope s_plain_at) := ⟨rfl, rfl, rfl, by decide +kernel, rfl, by decide +kernel, by decide +kernel⟩
abbrev s_sieve_at : Stmt := topS 45
abbrev N_sieve_at : List Str := ["text", "at", "levels", "sign", "parts", "part", "end"]
theorem sc_sieve_at : FnScope N_sieve_at ["text", "at", "levels"] (defScope s_sieve_at) := ⟨rfl, rfl, rfl, by decide +kernel, rfl, by decide +kernel, by decide +kernel⟩
abbrev s_sieves_in : Stmt := topS 46
abbrev N_sieves_in : List Str := ["sieve", "part"]
theorem sc_sieves_in : FnScope N_sieves_in ["sieve"] (defScope s_sieves_in) := ⟨rfl, rfl, rfl, by decide +kernel, rfl, by decide +kernel, by decide +kernel⟩
abbrev s_read_sieve : Stmt := topS 48
abbrev N_read_sieve : List Str := ["fields", "text", "sieve", "end"]
theorem sc_read_sieve : FnScope N_read_sieve ["fields", "text"] (defScope s_read_sieve) := ⟨rfl, rfl, rfl, by decide +kernel, rfl, by decide +kernel, by decide +kernel⟩
abbrev s_asked_view : Stmt := topS 52
abbrev N_asked_view : List Str := ["fields", "view", "names", "name", "figure", "rows", "columns", "figures", "kind"]
theorem sc_asked_view : FnScope N_asked_view ["fields", "view"] (defScope s_asked_view) := ⟨rfl, rfl, rfl, by decide +kernel, rfl, by decide +kernel, by decide +kernel⟩
abbrev s_asked_path : Stmt := topS 53
abbrev N_asked_path : List Str := ["fields", "names", "path", "name", "value"]
theorem sc_asked_path : FnScope N_asked_path ["fields", "names", "path"] (defScope s_asked_path) := ⟨rfl, rfl, rfl, by decide +kernel, rfl, by decide +kernel, by decide +kernel⟩
abbrev s__law_classes : Stmt := topS 57
abbrev N__law_classes : List Str := ["_law_e", "_law_some"]
theorem sc__law_classes : FnScope N__law_classes ["_law_e"] (defScope s__law_classes) := ⟨rfl, rfl, rfl, by decide +kernel, rfl, by decide +kernel, by decide +kernel⟩
abbrev s__law_deed : Stmt := topS 58
abbrev N__law_deed : List Str := ["_law_way", "_law_sheet", "_law_fields", "_law_names", "_law_number", "_law_told", "_law_caught", "_law_e", "_law_due", "_law_k"]
theorem sc__law_deed : FnScope N__law_deed ["_law_way", "_law_sheet", "_law_fields", "_law_names", "_law_number"] (defScope s__law_deed) := ⟨rfl, rfl, rfl, by decide +kernel, rfl, by decide +kernel, by decide +kernel⟩
abbrev s_law : Stmt := topS 59
abbrev N_law : List Str := ["_law_script", "_law_k", "_law_seed", "_law_sign", "_law_names", "_law_fields", "_law_sheet", "_law_way"]
theorem sc_law : FnScope N_law ["_law_script"] (defScope s_law) := ⟨rfl, rfl, rfl, by decide +kernel, rfl, by decide +kernel, by decide +kernel⟩
abbrev i_NoRow : Stmt := clsS (topS 11) 0
theorem sci_NoRow : FnScope ["self", "place"] ["self", "place"] (defScope i_NoRow) := ⟨rfl, rfl, rfl, by decide +kernel, rfl, by decide +kernel, by decide +kernel⟩
abbrev i_NoSuch : Stmt := clsS (topS 12) 0
theorem sci_NoSuch : FnScope ["self", "number"] ["self", "number"] (defScope i_NoSuch) := ⟨rfl, rfl, rfl, by decide +kernel, rfl, by decide +kernel, by decide +kernel⟩
abbrev i_NoField : Stmt := clsS (topS 13) 0
theorem sci_NoField : FnScope ["self", "name"] ["self", "name"] (defScope i_NoField) := ⟨rfl, rfl, rfl, by decide +kernel, rfl, by decide +kernel, by decide +kernel⟩
abbrev i_NoKind : Stmt := clsS (topS 14) 0
theorem sci_NoKind : FnScope ["self", "name"] ["self", "name"] (defScope i_NoKind) := ⟨rfl, rfl, rfl, by decide +kernel, rfl, by decide +kernel, by decide +kernel⟩
def efs : List Ef := [.exc "NoFields", .exc "NoSieve", .exc "NoView", .exc "NoHead", .exc "NoRow", .exc "NoSuch", .exc "NoField", .exc "NoKind", .oex "NoRow", .oex "NoSuch", .oex "NoField", .oex "NoKind", .nof "NoRow" "place", .nof "NoSuch" "number", .nof "NoField" "name", .nof "NoKind" "name", .bi "CrossError", .sub "NoFields" "CrossError" true, .sub "NoSieve" "CrossError" true, .sub "NoView" "CrossError" true, .sub "NoHead" "CrossError" true, .sub "NoRow" "CrossError" true, .sub "NoSuch" "CrossError" true, .sub "NoField" "CrossError" true, .sub "NoKind" "CrossError" true, .isa "NoFields" "NoField" false, .isa "NoFields" "NoSuch" false, .isa "NoFields" "NoRow" false, .isa "NoFields" "NoFields" true, .isa "NoFields" "NoHead" false, .isa "NoFields" "NoView" false, .isa "NoFields" "NoSieve" false, .isa "NoFields" "NoKind" false, .isa "NoFields" "NoVeil" false, .isa "NoFields" "NoNet" false, .isa "NoFields" "NoLine" false, .isa "NoFields" "NoGroups" false, .isa "NoFields" "NoWhole" false, .isa "NoSieve" "NoField" false, .isa "NoSieve" "NoSuch" false, .isa "NoSieve" "NoRow" false, .isa "NoSieve" "NoFields" false, .isa "NoSieve" "NoHead" false, .isa "NoSieve" "NoView" false, .isa "NoSieve" "NoSieve" true, .isa "NoSieve" "NoKind" false, .isa "NoSieve" "NoVeil" false, .isa "NoSieve" "NoNet" false, .isa "NoSieve" "NoLine" false, .isa "NoSieve" "NoGroups" false, .isa "NoSieve" "NoWhole" false, .isa "NoView" "NoField" false, .isa "NoView" "NoSuch" false, .isa "NoView" "NoRow" false, .isa "NoView" "NoFields" false, .isa "NoView" "NoHead" false, .isa "NoView" "NoView" true, .isa "NoView" "NoSieve" false, .isa "NoView" "NoKind" false, .isa "NoView" "NoVeil" false, .isa "NoView" "NoNet" false, .isa "NoView" "NoLine" false, .isa "NoView" "NoGroups" false, .isa "NoView" "NoWhole" false, .isa "NoHead" "NoField" false, .isa "NoHead" "NoSuch" false, .isa "NoHead" "NoRow" false, .isa "NoHead" "NoFields" false, .isa "NoHead" "NoHead" true, .isa "NoHead" "NoView" false, .isa "NoHead" "NoSieve" false, .isa "NoHead" "NoKind" false, .isa "NoHead" "NoVeil" false, .isa "NoHead" "NoNet" false, .isa "NoHead" "NoLine" false, .isa "NoHead" "NoGroups" false, .isa "NoHead" "NoWhole" false, .isa "NoRow" "NoField" false, .isa "NoRow" "NoSuch" false, .isa "NoRow" "NoRow" true, .isa "NoRow" "NoFields" false, .isa "NoRow" "NoHead" false, .isa "NoRow" "NoView" false, .isa "NoRow" "NoSieve" false, .isa "NoRow" "NoKind" false, .isa "NoRow" "NoVeil" false, .isa "NoRow" "NoNet" false, .isa "NoRow" "NoLine" false, .isa "NoRow" "NoGroups" false, .isa "NoRow" "NoWhole" false, .isa "NoSuch" "NoField" false, .isa "NoSuch" "NoSuch" true, .isa "NoSuch" "NoRow" false, .isa "NoSuch" "NoFields" false, .isa "NoSuch" "NoHead" false, .isa "NoSuch" "NoView" false, .isa "NoSuch" "NoSieve" false, .isa "NoSuch" "NoKind" false, .isa "NoSuch" "NoVeil" false, .isa "NoSuch" "NoNet" false, .isa "NoSuch" "NoLine" false, .isa "NoSuch" "NoGroups" false, .isa "NoSuch" "NoWhole" false, .isa "NoField" "NoField" true, .isa "NoField" "NoSuch" false, .isa "NoField" "NoRow" false, .isa "NoField" "NoFields" false, .isa "NoField" "NoHead" false, .isa "NoField" "NoView" false, .isa "NoField" "NoSieve" false, .isa "NoField" "NoKind" false, .isa "NoField" "NoVeil" false, .isa "NoField" "NoNet" false, .isa "NoField" "NoLine" false, .isa "NoField" "NoGroups" false, .isa "NoField" "NoWhole" false, .isa "NoKind" "NoField" false, .isa "NoKind" "NoSuch" false, .isa "NoKind" "NoRow" false, .isa "NoKind" "NoFields" false, .isa "NoKind" "NoHead" false, .isa "NoKind" "NoView" false, .isa "NoKind" "NoSieve" false, .isa "NoKind" "NoKind" true, .isa "NoKind" "NoVeil" false, .isa "NoKind" "NoNet" false, .isa "NoKind" "NoLine" false, .isa "NoKind" "NoGroups" false, .isa "NoKind" "NoWhole" false, .isT "NoFields" "ValueError" true, .isT "NoSieve" "ValueError" true, .isT "NoView" "ValueError" true, .isT "NoHead" "ValueError" true, .isT "NoRow" "ValueError" true, .isT "NoSuch" "ValueError" true, .isT "NoField" "ValueError" true, .isT "NoKind" "ValueError" true]
section
def l_made_of_1 : SS := sFor (iS (eVar 0)) (gN 3) (sIf (toB (eOp oNotIn (eVar 3) (eVar 1))) (sRet (eK (.bl false))) (sNext))
def b_made_of : SS := sSeq (sIf (cOr (cNot (toB (eIsi "str" (eVar 0)))) (cOr (toB (eOp oLt (eCa bLen (aCons (eVar 0) (aNil))) (eK (.int 1)))) (toB (eOp oGt (eCa bLen (aCons (eVar 0) (aNil))) (eVar 2))))) (sRet (eK (.bl false))) (sNext)) (sSeq (l_made_of_1) (sRet (eK (.bl true))))
def m_made_of : List D → Hv → R D := fnS 3 1 b_made_of
def b_is_name : SS := sRet (eCa (Cm.f .P m_made_of) (aCons (eVar 0) (aCons (eK (.str "abcdefghijklmnopqrstuvwxyz")) (aCons (eK (.int 12)) (aNil)))))
def m_is_name : List D → Hv → R D := fnS 1 0 b_is_name
def b_is_field : SS := sSeq (sIf (cOr (cNot (toB (eIsi "tuple" (eVar 0)))) (toB (eOp oNe (eCa bLen (aCons (eVar 0) (aNil))) (eK (.int 2))))) (sRet (eK (.bl false))) (sNext)) (sSeq (sIf (cOr (cNot (toB (eIsi "str" (eOp oIx (eVar 0) (eK (.int 1)))))) (toB (eOp oNotInP (eOp oIx (eVar 0) (eK (.int 1))) (eTup (aCons (eK (.str "word")) (aCons (eK (.str "number")) (aNil))))))) (sRet (eK (.bl false))) (sNext)) (sRet (eCa (Cm.f .P m_is_name) (aCons (eOp oIx (eVar 0) (eK (.int 0))) (aNil)))))
def m_is_field : List D → Hv → R D := fnS 1 0 b_is_field
def l_asked_fields_1 : SS := sFor (iL (eVar 0)) (gN 2) (sSeq (sIf (cOr (cNot (toB (eCa (Cm.f .P m_is_field) (aCons (eVar 2) (aNil))))) (toB (eOp oDin (eOp oIx (eVar 2) (eK (.int 0))) (eVar 1)))) (sRaise "NoFields") (sNext)) (sDput (eK (.bl true)) (eVar 1) (eOp oIx (eVar 2) (eK (.int 0)))))
def b_asked_fields : SS := sSeq (sIf (cOr (cNot (toB (eIsi "list" (eVar 0)))) (cOr (toB (eOp oLt (eCa bLen (aCons (eVar 0) (aNil))) (eK (.int 1)))) (toB (eOp oGt (eCa bLen (aCons (eVar 0) (aNil))) (eK (.int 8)))))) (sRaise "NoFields") (sNext)) (sSeq (sSet 1 (eDnew)) (sSeq (l_asked_fields_1) (sRet (eK (.bl true)))))
def m_asked_fields : List D → Hv → R D := fnS 1 2 b_asked_fields
def b_Sheet___init__ : SS := sSeq (sDrop (eCa (Cm.f .B m_asked_fields) (aCons (eVar 1) (aNil)))) (sSeq (sSetFld "Sheet" "own_fields" (eVar 0) (eV (eCa bList (aCons (eVar 1) (aNil))))) (sSeq (sSetFld "Sheet" "kept" (eVar 0) (eDnew)) (sSetFld "Sheet" "given" (eVar 0) (eK (.int 0)))))
def m_Sheet___init__ : List D → Hv → R D := fnI 2 0 b_Sheet___init__
def b_Sheet_numbers : SS := sRet (eV (eCa bSortDI (aCons (eFld "Sheet" "kept" (eVar 0)) (aNil))))
def m_Sheet_numbers : List D → Hv → R D := fnS 1 0 b_Sheet_numbers
def b_is_word : SS := sRet (eCa (Cm.f .P m_made_of) (aCons (eVar 0) (aCons (eOp oAdd (eK (.str "abcdefghijklmnopqrstuvwxyz")) (eK (.str "0123456789"))) (aCons (eK (.int 12)) (aNil)))))
def m_is_word : List D → Hv → R D := fnS 1 0 b_is_word
def b_is_whole : SS := sSeq (sIf (cOr (cNot (toB (eIsi "int" (eVar 0)))) (toB (eIsi "bool" (eVar 0)))) (sRet (eK (.bl false))) (sNext)) (sRet (eOp oLt (eCa bAbs (aCons (eVar 0) (aNil))) (eOp oPow (eK (.int 10)) (eK (.int 60)))))
def m_is_whole : List D → Hv → R D := fnS 1 0 b_is_whole
def b_is_value : SS := sSeq (sIf (toB (eOp oIs (eVar 1) (eK .non))) (sRet (eK (.bl true))) (sNext)) (sSeq (sIf (toB (eOp oEq (eVar 0) (eK (.str "word")))) (sRet (eCa (Cm.f .P m_is_word) (aCons (eVar 1) (aNil)))) (sNext)) (sRet (eCa (Cm.f .P m_is_whole) (aCons (eVar 1) (aNil)))))
def m_is_value : List D → Hv → R D := fnS 2 0 b_is_value
def l_row_of_1 : SS := sFor (iR1 (aCons (eCa bLen (aCons (eVar 1) (aNil))) (aNil))) (gN 2) (sIf (cOr (toB (eOp oGe (eVar 2) (eCa bLen (aCons (eVar 0) (aNil))))) (cNot (toB (eCa (Cm.f .P m_is_value) (aCons (eOp oIx (eOp oIx (eVar 0) (eVar 2)) (eK (.int 1))) (aCons (eOp oIx (eVar 1) (eVar 2)) (aNil))))))) (sRaiseP "NoRow" "place" (eVar 2)) (sNext))
def b_row_of : SS := sSeq (l_row_of_1) (sSeq (sIf (toB (eOp oLt (eCa bLen (aCons (eVar 1) (aNil))) (eCa bLen (aCons (eVar 0) (aNil))))) (sRaiseP "NoRow" "place" (eCa bLen (aCons (eVar 1) (aNil)))) (sNext)) (sRet (eCa bTuple (aCons (eVar 1) (aNil)))))
def m_row_of : List D → Hv → R D := fnS 2 1 b_row_of
def b_Sheet_put : SS := sSeq (sSet 2 (eCa (Cm.f .B m_row_of) (aCons (eFld "Sheet" "own_fields" (eVar 0)) (aCons (eVar 1) (aNil))))) (sSeq (sSet 3 (eFld "Sheet" "given" (eVar 0))) (sSeq (sDput (eVar 2) (eFld "Sheet" "kept" (eVar 0)) (eVar 3)) (sSeq (sSetFld "Sheet" "given" (eVar 0) (eOp oAdd (eVar 3) (eK (.int 1)))) (sRet (eVar 3)))))
def m_Sheet_put : List D → Hv → R D := fnS 2 2 b_Sheet_put
def b_Sheet_row : SS := sSeq (sIf (toB (eOp oDnin (eVar 1) (eFld "Sheet" "kept" (eVar 0)))) (sRaiseP "NoSuch" "number" (eVar 1)) (sNext)) (sRet (eOp oDget (eFld "Sheet" "kept" (eVar 0)) (eVar 1)))
def m_Sheet_row : List D → Hv → R D := fnS 2 0 b_Sheet_row
def b__law_cell_at : SS := sSeq (sIf (toB (eOp oLt (eVar 1) (eCa bLen (aCons (eVar 0) (aNil))))) (sRet (eOp oIx (eVar 0) (eVar 1))) (sNext)) (sRet (eK (.int 0)))
def m__law_cell_at : List D → Hv → R D := fnS 2 0 b__law_cell_at
def b__law_mix : SS := sSeq (sSet 2 (eOp oMod (eOp oAdd (eOp oAdd (eOp oMul (eOp oMod (eVar 0) (eK (.int 2147483647))) (eK (.int 48271))) (eOp oMul (eVar 1) (eK (.int 7919)))) (eK (.int 11))) (eK (.int 2147483647)))) (sRet (eOp oMod (eOp oMul (eOp oMod (eOp oMul (eVar 2) (eVar 2)) (eK (.int 2147483629))) (eK (.int 69621))) (eK (.int 2147483647))))
def m__law_mix : List D → Hv → R D := fnS 2 1 b__law_mix
def l_field_at_1 : SS := sFor (iR1 (aCons (eCa bLen (aCons (eVar 0) (aNil))) (aNil))) (gN 2) (sIf (toB (eOp oEq (eOp oIx (eOp oIx (eVar 0) (eVar 2)) (eK (.int 0))) (eVar 1))) (sRet (eVar 2)) (sNext))
def b_field_at : SS := sSeq (l_field_at_1) (sRaiseP "NoField" "name" (eVar 1))
def m_field_at : List D → Hv → R D := fnS 2 1 b_field_at
def l_asked_sieve_1 (rc : List D → Hv → R D) : SS := sFor (iT (eOp oIx (eVar 1) (eK (.int 1)))) (gN 3) (sDrop (eCa (callQ rc) (aCons (eVar 0) (aCons (eVar 3) (aNil)))))
def b_asked_sieve (rc : List D → Hv → R D) : SS := sSeq (sIf (toB (eOp oEq (eOp oIx (eVar 1) (eK (.int 0))) (eK (.str "not")))) (sRet (eCa (callQ rc) (aCons (eVar 0) (aCons (eOp oIx (eVar 1) (eK (.int 1))) (aNil))))) (sNext)) (sSeq (sIf (cOr (toB (eOp oEq (eOp oIx (eVar 1) (eK (.int 0))) (eK (.str "all")))) (toB (eOp oEq (eOp oIx (eVar 1) (eK (.int 0))) (eK (.str "some"))))) (sSeq ((l_asked_sieve_1 rc)) (sRet (eK (.bl true)))) (sNext)) (sSeq (sSet 2 (eOp oIx (eOp oIx (eVar 0) (eCa (Cm.f .P m_field_at) (aCons (eVar 0) (aCons (eOp oIx (eVar 1) (eK (.int 1))) (aNil))))) (eK (.int 1)))) (sSeq (sIf (cAnd (cOr (toB (eOp oEq (eOp oIx (eVar 1) (eK (.int 0))) (eK (.str "under")))) (toB (eOp oEq (eOp oIx (eVar 1) (eK (.int 0))) (eK (.str "over"))))) (toB (eOp oEq (eVar 2) (eK (.str "word"))))) (sRaiseP "NoKind" "name" (eOp oIx (eVar 1) (eK (.int 1)))) (sNext)) (sSeq (sIf (cAnd (toB (eOp oEq (eOp oIx (eVar 1) (eK (.int 0))) (eK (.str "is")))) (cNot (toB (eCa (Cm.f .P m_is_value) (aCons (eVar 2) (aCons (eOp oIx (eVar 1) (eK (.int 2))) (aNil))))))) (sRaiseP "NoKind" "name" (eOp oIx (eVar 1) (eK (.int 1)))) (sNext)) (sRet (eK (.bl true)))))))
def m_asked_sieve : Nat → List D → Hv → R D
  | 0 => fnQ 2 2 sNever
  | n + 1 => fnQ 2 2 (b_asked_sieve (m_asked_sieve n))
def l_run_of_1 : SS := sLoop (cAnd (toB (eOp oLt (eVar 1) (eCa bLen (aCons (eVar 0) (aNil))))) (toB (eOp oIn (eOp oIx (eVar 0) (eVar 1)) (eVar 2)))) (sSet 1 (eOp oAdd (eVar 1) (eK (.int 1))))
def b_run_of : SS := sSeq (l_run_of_1) (sRet (eVar 1))
def m_run_of : List D → Hv → R D := fnS 3 0 b_run_of
def b_plain_at : SS := sSeq (sSet 2 (eCa (Cm.f .P m_run_of) (aCons (eVar 0) (aCons (eVar 1) (aCons (eK (.str "abcdefghijklmnopqrstuvwxyz")) (aNil)))))) (sSeq (sSet 3 (eSl (eVar 0) (pAt (eVar 1)) (pAt (eVar 2)))) (sSeq (sSet 4 (eSl (eVar 0) (pAt (eVar 2)) (pAt (eOp oAdd (eVar 2) (eK (.int 1)))))) (sSeq (sIf (cOr (cNot (toB (eCa (Cm.f .P m_is_name) (aCons (eVar 3) (aNil))))) (toB (eOp oNotIn (eVar 4) (eTup (aCons (eK (.str "=")) (aCons (eK (.str "<")) (aCons (eK (.str ">")) (aCons (eK (.str "?")) (aNil))))))))) (sRaise "NoSieve") (sNext)) (sSeq (sIf (toB (eOp oEq (eVar 4) (eK (.str "?")))) (sRet (eTup (aCons (eTup (aCons (eK (.str "lacks")) (aCons (eVar 3) (aNil)))) (aCons (eOp oAdd (eVar 2) (eK (.int 1))) (aNil))))) (sNext)) (sNever)))))
def m_plain_at : List D → Hv → R D := fnQ 2 6 b_plain_at
def b_sieve_at (rc : List D → Hv → R D) : SS := sSeq (sIf (toB (eOp oLt (eVar 2) (eK (.int 1)))) (sRaise "NoSieve") (sNext)) (sSeq (sIf (toB (eOp oEq (eSl (eVar 0) (pAt (eVar 1)) (pAt (eOp oAdd (eVar 1) (eK (.int 1))))) (eK (.str "!")))) (sSeq (sAsg (eCa (callQ rc) (aCons (eVar 0) (aCons (eOp oAdd (eVar 1) (eK (.int 1))) (aCons (eOp oSub (eVar 2) (eK (.int 1))) (aNil))))) (gT 2 (gsCons (gN 5) (gsCons (gN 6) (gsNil))))) (sRet (eTup (aCons (eTup (aCons (eK (.str "not")) (aCons (eVar 5) (aNil)))) (aCons (eVar 6) (aNil)))))) (sNext)) (sSeq (sIf (toB (eOp oNe (eSl (eVar 0) (pAt (eVar 1)) (pAt (eOp oAdd (eVar 1) (eK (.int 1))))) (eK (.str "(")))) (sRet (eCa (callQ m_plain_at) (aCons (eVar 0) (aCons (eVar 1) (aNil))))) (sNext)) (sNever)))
def m_sieve_at : Nat → List D → Hv → R D
  | 0 => fnQ 3 4 sNever
  | n + 1 => fnQ 3 4 (b_sieve_at (m_sieve_at n))
def b_sieves_in : SS := sNever
def m_sieves_in : List D → Hv → R D := fnQ 1 1 b_sieves_in
def b_read_sieve : SS := sSeq (sAsg (eCa (callQ (m_sieve_at 16)) (aCons (eVar 1) (aCons (eK (.int 0)) (aCons (eK (.int 12)) (aNil))))) (gT 2 (gsCons (gN 2) (gsCons (gN 3) (gsNil))))) (sSeq (sIf (cOr (toB (eOp oNe (eVar 3) (eCa bLen (aCons (eVar 1) (aNil))))) (toB (eOp oGt (eCa (callQ m_sieves_in) (aCons (eVar 2) (aNil))) (eK (.int 60))))) (sRaise "NoSieve") (sNext)) (sNever))
def m_read_sieve : List D → Hv → R D := fnQ 2 2 b_read_sieve
def l_asked_view_1 : SS := sFor (iL (eVar 2)) (gN 3) (sDrop (eCa (Cm.f .P m_field_at) (aCons (eVar 0) (aCons (eVar 3) (aNil)))))
def l_asked_view_2 : SS := sFor (iT (eVar 7)) (gN 4) (sIf (toB (eOp oNe (eOp oIx (eVar 4) (eK (.int 0))) (eK (.str "count")))) (sSeq (sSet 8 (eOp oIx (eOp oIx (eVar 0) (eCa (Cm.f .P m_field_at) (aCons (eVar 0) (aCons (eOp oIx (eVar 4) (eK (.int 1))) (aNil))))) (eK (.int 1)))) (sIf (cAnd (toB (eOp oEq (eOp oIx (eVar 4) (eK (.int 0))) (eK (.str "sum")))) (toB (eOp oEq (eVar 8) (eK (.str "word"))))) (sRaiseP "NoKind" "name" (eOp oIx (eVar 4) (eK (.int 1)))) (sNext))) (sNext))
def b_asked_view : SS := sSeq (sAsg (eVar 1) (gT 3 (gsCons (gN 5) (gsCons (gN 6) (gsCons (gN 7) (gsNil)))))) (sSeq (sSet 2 (eV (eOp oCat (eV (eCa bList (aCons (eVar 5) (aNil)))) (eV (eCa bList (aCons (eVar 6) (aNil))))))) (sSeq (sIf (cOr (toB (eOp oGt (eCa bLen (aCons (eVar 5) (aNil))) (eK (.int 3)))) (cOr (toB (eOp oGt (eCa bLen (aCons (eVar 6) (aNil))) (eK (.int 3)))) (toB (eOp oLt (eCa bLenSet (aCons (eVar 2) (aNil))) (eCa bLen (aCons (eVar 2) (aNil))))))) (sRaise "NoView") (sNext)) (sSeq (sIf (cOr (toB (eOp oLt (eCa bLen (aCons (eVar 7) (aNil))) (eK (.int 1)))) (toB (eOp oGt (eCa bLen (aCons (eVar 7) (aNil))) (eK (.int 4))))) (sRaise "NoView") (sNext)) (sSeq (l_asked_view_1) (sSeq (l_asked_view_2) (sRet (eK (.bl true))))))))
def m_asked_view : List D → Hv → R D := fnS 2 7 b_asked_view
def l_asked_path_1 : SS := sFor (iZT (aCons (eVar 1) (aCons (eVar 2) (aNil)))) (gT 2 (gsCons (gN 3) (gsCons (gN 4) (gsNil)))) (sIf (cNot (toB (eCa (Cm.f .P m_is_value) (aCons (eOp oIx (eOp oIx (eVar 0) (eCa (Cm.f .P m_field_at) (aCons (eVar 0) (aCons (eVar 3) (aNil))))) (eK (.int 1))) (aCons (eVar 4) (aNil)))))) (sRaise "NoHead") (sNext))
def b_asked_path : SS := sSeq (sIf (toB (eOp oGt (eCa bLen (aCons (eVar 2) (aNil))) (eCa bLen (aCons (eVar 1) (aNil))))) (sRaise "NoHead") (sNext)) (sSeq (l_asked_path_1) (sRet (eK (.bl true))))
def m_asked_path : List D → Hv → R D := fnS 3 2 b_asked_path
def b__law_classes (x : Xn) (a dd : Addr) : SS := sSeq (sSet 1 (eV (lLst (aCons (eIsO 0 x a dd (xIs efs x.cls "NoFields")) (aCons (eIsO 0 x a dd (xIs efs x.cls "NoRow")) (aCons (eIsO 0 x a dd (xIs efs x.cls "NoSuch")) (aCons (eIsO 0 x a dd (xIs efs x.cls "NoField")) (aNil)))))))) (sSeq (sSet 1 (eV (eOp oCat (eVar 1) (eV (lLst (aCons (eIsO 0 x a dd (xIs efs x.cls "NoKind")) (aCons (eIsO 0 x a dd (xIs efs x.cls "NoSieve")) (aCons (eIsO 0 x a dd (xIs efs x.cls "NoView")) (aCons (eIsO 0 x a dd (xIs efs x.cls "NoHead")) (aNil)))))))))) (sSeq (sSet 1 (eV (eOp oCat (eVar 1) (eV (lLst (aCons (eIsO 0 x a dd (xIs efs x.cls "NoGroups")) (aCons (eIsO 0 x a dd (xIs efs x.cls "NoLine")) (aCons (eIsO 0 x a dd (xIs efs x.cls "NoNet")) (aCons (eIsO 0 x a dd (xIs efs x.cls "NoVeil")) (aNil)))))))))) (sRet (eV (eOp oCat (eVar 1) (eV (lLst (aCons (eIsO 0 x a dd (xIs efs x.cls "NoWhole")) (aNil)))))))))
def m__law_classes (x : Xn) (a dd : Addr) : List D → Hv → R D := fnS 1 1 (b__law_classes x a dd)
def h__law_deed_1 (x : Xn) (a dd : Addr) : SS := sSeq (sSet 5 (eOp oIx (eV (lLst (aCons (eK (.str "odd")) (aCons (eK (.str "refused")) (aNil))))) (eCa bIntA (aCons (eIsO 7 x a dd (xIsT efs x.cls "ValueError")) (aNil))))) (sSet 6 (eCa (callX (m__law_classes x a dd)) (aCons (eVar 7) (aNil))))
def c__law_deed_1 : LS := lLc (iR1 (aCons (eK (.int 13)) (aNil))) (gN 9) (cYes) (eOp oEq (eVar 9) (eVar 8)) [9]
def b__law_deed : SS := sSeq (sSet 5 (eK (.str "taken"))) (sSeq (sSet 6 (eV (lLst (aNil)))) (sSeq (sTryAs (tabE efs) "CrossError" 7 h__law_deed_1 (sIf (toB (eOp oEq (eVar 0) (eK (.int 0)))) (sDrop (eCa (Cm.f .P m_asked_fields) (aCons (eV (lLst (aCons (eTup (aCons (eOp oIx (eVar 3) (eK (.int 0))) (aCons (eK (.str "word")) (aNil)))) (aCons (eTup (aCons (eOp oIx (eVar 3) (eK (.int 0))) (aCons (eK (.str "number")) (aNil)))) (aNil))))) (aNil)))) (sIf (toB (eOp oEq (eVar 0) (eK (.int 1)))) (sDrop (eMeth "Sheet" "put" (Cm.f .M m_Sheet_put) (eVar 1) (aCons (eV (lLst (aCons (eK (.str "a")) (aCons (eK (.str "a")) (aNil))))) (aNil)))) (sIf (toB (eOp oEq (eVar 0) (eK (.int 2)))) (sDrop (eMeth "Sheet" "row" (Cm.f .M m_Sheet_row) (eVar 1) (aCons (eVar 4) (aNil)))) (sIf (toB (eOp oEq (eVar 0) (eK (.int 3)))) (sDrop (eCa (callQ (m_asked_sieve 16)) (aCons (eVar 2) (aCons (eTup (aCons (eK (.str "not")) (aCons (eTup (aCons (eK (.str "lacks")) (aCons (eOp oAdd (eOp oIx (eVar 3) (eK (.int 0))) (eK (.str "x"))) (aNil)))) (aNil)))) (aNil))))) (sIf (toB (eOp oEq (eVar 0) (eK (.int 4)))) (sDrop (eCa (callQ (m_asked_sieve 16)) (aCons (eVar 2) (aCons (eTup (aCons (eK (.str "over")) (aCons (eOp oIx (eVar 3) (eK (.int 0))) (aCons (eVar 4) (aNil))))) (aNil))))) (sIf (toB (eOp oEq (eVar 0) (eK (.int 5)))) (sDrop (eCa (callQ m_read_sieve) (aCons (eVar 2) (aCons (eOp oAdd (eOp oIx (eVar 3) (eK (.int 0))) (eK (.str "?&"))) (aNil))))) (sIf (toB (eOp oEq (eVar 0) (eK (.int 6)))) (sDrop (eCa (Cm.f .P m_asked_view) (aCons (eVar 2) (aCons (eTup (aCons (eTup (aCons (eOp oIx (eVar 3) (eK (.int 0))) (aNil))) (aCons (eTup (aCons (eOp oIx (eVar 3) (eK (.int 1))) (aNil))) (aCons (eTup (aNil)) (aNil))))) (aNil))))) (sIf (toB (eOp oEq (eVar 0) (eK (.int 7)))) (sDrop (eCa (Cm.f .P m_asked_view) (aCons (eVar 2) (aCons (eTup (aCons (eTup (aCons (eOp oAdd (eOp oIx (eVar 3) (eK (.int 0))) (eK (.str "x"))) (aNil))) (aCons (eTup (aNil)) (aCons (eTup (aCons (eTup (aCons (eK (.str "count")) (aNil))) (aNil))) (aNil))))) (aNil))))) (sIf (toB (eOp oEq (eVar 0) (eK (.int 8)))) (sDrop (eCa (Cm.f .P m_asked_view) (aCons (eVar 2) (aCons (eTup (aCons (eTup (aNil)) (aCons (eTup (aNil)) (aCons (eTup (aCons (eTup (aCons (eK (.str "sum")) (aCons (eOp oIx (eVar 3) (eK (.int 0))) (aNil)))) (aNil))) (aNil))))) (aNil))))) (sDrop (eCa (Cm.f .P m_asked_path) (aCons (eVar 2) (aCons (eTup (aCons (eOp oIx (eVar 3) (eK (.int 1))) (aNil))) (aCons (eTup (aCons (eK (.str "a")) (aNil))) (aNil)))))))))))))))) (sSeq (sSet 8 (eOp oIx (eV (lLst (aCons (eK (.int 0)) (aCons (eK (.int 1)) (aCons (eK (.int 2)) (aCons (eK (.int 3)) (aCons (eK (.int 4)) (aCons (eK (.int 5)) (aCons (eK (.int 6)) (aCons (eK (.int 3)) (aCons (eK (.int 4)) (aCons (eK (.int 7)) (aNil))))))))))))) (eVar 0))) (sRet (eAndV (eOp oEq (eVar 5) (eK (.str "refused"))) (eOp oEq (eVar 6) (eV (c__law_deed_1))))))))
def m__law_deed : List D → Hv → R D := fnS 5 5 b__law_deed
def l_law_1 : SS := sFor (iR1 (aCons (eK (.int 10)) (aNil))) (gN 7) (sIf (cNot (toB (eCa (Cm.f .M m__law_deed) (aCons (eVar 7) (aCons (eVar 6) (aCons (eV (eCa bList (aCons (eVar 5) (aNil)))) (aCons (eVar 4) (aCons (eOp oAdd (eK (.int 1)) (eOp oMod (eVar 2) (eOp oPow (eK (.int 10)) (eK (.int 9))))) (aNil))))))))) (sRet (eK (.bl false))) (sNext))
def l_law_2 : SS := sFor (iR1 (aCons (eOp oAdd (eK (.int 1)) (eCa bMin2 (aCons (eK (.int 12)) (aCons (eCa bLen (aCons (eVar 0) (aNil))) (aNil))))) (aNil))) (gN 1) (sSeq (sSet 2 (eCa (Cm.f .P m__law_mix) (aCons (eCa (Cm.f .P m__law_cell_at) (aCons (eVar 0) (aCons (eVar 1) (aNil)))) (aCons (eVar 1) (aNil))))) (sSeq (sSet 3 (eOp oIx (eK (.str "abcdefghijklmnopqrstuvwyz")) (eOp oMod (eVar 2) (eK (.int 25))))) (sSeq (sSet 4 (eV (lLst (aCons (eOp oMulS (eVar 3) (eOp oAdd (eK (.int 1)) (eOp oMod (eOp oFdiv (eVar 2) (eK (.int 25))) (eK (.int 11))))) (aCons (eOp oMulS (eK (.str "x")) (eOp oAdd (eK (.int 1)) (eOp oMod (eOp oFdiv (eVar 2) (eK (.int 275))) (eK (.int 11))))) (aNil)))))) (sSeq (sSet 5 (eV (lLst (aCons (eTup (aCons (eOp oIx (eVar 4) (eK (.int 0))) (aCons (eK (.str "word")) (aNil)))) (aCons (eTup (aCons (eOp oIx (eVar 4) (eK (.int 1))) (aCons (eK (.str "number")) (aNil)))) (aNil)))))) (sSeq (sSet 6 (eCa (callC (mkR "Sheet" m_Sheet___init__)) (aCons (eV (eCa bList (aCons (eVar 5) (aNil)))) (aNil)))) (sSeq (sDrop (eMeth "Sheet" "put" (Cm.f .M m_Sheet_put) (eVar 6) (aCons (eV (lLst (aCons (eK (.str "a")) (aCons (eK (.int 5)) (aNil))))) (aNil)))) (sSeq (l_law_1) (sIf (cOr (toB (eOp oNe (eMeth "Sheet" "numbers" (Cm.f .M m_Sheet_numbers) (eVar 6) aNil) (eV (lLst (aCons (eK (.int 0)) (aNil)))))) (toB (eOp oNe (eMeth "Sheet" "row" (Cm.f .M m_Sheet_row) (eVar 6) (aCons (eK (.int 0)) (aNil))) (eTup (aCons (eK (.str "a")) (aCons (eK (.int 5)) (aNil))))))) (sRet (eK (.bl false))) (sNext)))))))))
def b_law : SS := sBlk (fun n => sSeq (l_law_2) (sSeal n (sRet (eK (.bl true)))))
def m_law : List D → Hv → R D := fnS 1 7 b_law
end
structure Tx (K : PySem.W.Frag) (mg : Str → Option Value) : Prop where
  d_made_of : ∃ fd, Fun K "made_of" "made_of" s_made_of (He.ga K "made_of") fd
  g_made_of : mg "made_of" = some (.ref (He.ga K "made_of"))
  d_is_name : ∃ fd, Fun K "is_name" "is_name" s_is_name (He.ga K "is_name") fd
  g_is_name : mg "is_name" = some (.ref (He.ga K "is_name"))
  d_is_field : ∃ fd, Fun K "is_field" "is_field" s_is_field (He.ga K "is_field") fd
  g_is_field : mg "is_field" = some (.ref (He.ga K "is_field"))
  d_asked_fields : ∃ fd, Fun K "asked_fields" "asked_fields" s_asked_fields (He.ga K "asked_fields") fd
  g_asked_fields : mg "asked_fields" = some (.ref (He.ga K "asked_fields"))
  d_Sheet___init__ : ∃ fd, Fun K "__init__" "Sheet.__init__" s_Sheet___init__ (He.ma K (He.ga K "Sheet") "__init__") fd
  h_Sheet___init__ : Meth K (He.ga K "Sheet") "__init__" (He.ma K (He.ga K "Sheet") "__init__")
  d_Sheet_numbers : ∃ fd, Fun K "numbers" "Sheet.numbers" s_Sheet_numbers (He.ma K (He.ga K "Sheet") "numbers") fd
  h_Sheet_numbers : Meth K (He.ga K "Sheet") "numbers" (He.ma K (He.ga K "Sheet") "numbers")
  d_is_word : ∃ fd, Fun K "is_word" "is_word" s_is_word (He.ga K "is_word") fd
  g_is_word : mg "is_word" = some (.ref (He.ga K "is_word"))
  d_is_whole : ∃ fd, Fun K "is_whole" "is_whole" s_is_whole (He.ga K "is_whole") fd
  g_is_whole : mg "is_whole" = some (.ref (He.ga K "is_whole"))
  d_is_value : ∃ fd, Fun K "is_value" "is_value" s_is_value (He.ga K "is_value") fd
  g_is_value : mg "is_value" = some (.ref (He.ga K "is_value"))
  d_row_of : ∃ fd, Fun K "row_of" "row_of" s_row_of (He.ga K "row_of") fd
  g_row_of : mg "row_of" = some (.ref (He.ga K "row_of"))
  d_Sheet_put : ∃ fd, Fun K "put" "Sheet.put" s_Sheet_put (He.ma K (He.ga K "Sheet") "put") fd
  h_Sheet_put : Meth K (He.ga K "Sheet") "put" (He.ma K (He.ga K "Sheet") "put")
  d_Sheet_row : ∃ fd, Fun K "row" "Sheet.row" s_Sheet_row (He.ma K (He.ga K "Sheet") "row") fd
  h_Sheet_row : Meth K (He.ga K "Sheet") "row" (He.ma K (He.ga K "Sheet") "row")
  d__law_cell_at : ∃ fd, Fun K "_law_cell_at" "_law_cell_at" s__law_cell_at (He.ga K "_law_cell_at") fd
  g__law_cell_at : mg "_law_cell_at" = some (.ref (He.ga K "_law_cell_at"))
  d__law_mix : ∃ fd, Fun K "_law_mix" "_law_mix" s__law_mix (He.ga K "_law_mix") fd
  g__law_mix : mg "_law_mix" = some (.ref (He.ga K "_law_mix"))
  d_field_at : ∃ fd, Fun K "field_at" "field_at" s_field_at (He.ga K "field_at") fd
  g_field_at : mg "field_at" = some (.ref (He.ga K "field_at"))
  d_asked_sieve : ∃ fd, Fun K "asked_sieve" "asked_sieve" s_asked_sieve (He.ga K "asked_sieve") fd
  g_asked_sieve : mg "asked_sieve" = some (.ref (He.ga K "asked_sieve"))
  d_run_of : ∃ fd, Fun K "run_of" "run_of" s_run_of (He.ga K "run_of") fd
  g_run_of : mg "run_of" = some (.ref (He.ga K "run_of"))
  d_plain_at : ∃ fd, Fun K "plain_at" "plain_at" s_plain_at (He.ga K "plain_at") fd
  g_plain_at : mg "plain_at" = some (.ref (He.ga K "plain_at"))
  d_sieve_at : ∃ fd, Fun K "sieve_at" "sieve_at" s_sieve_at (He.ga K "sieve_at") fd
  g_sieve_at : mg "sieve_at" = some (.ref (He.ga K "sieve_at"))
  d_sieves_in : ∃ fd, Fun K "sieves_in" "sieves_in" s_sieves_in (He.ga K "sieves_in") fd
  g_sieves_in : mg "sieves_in" = some (.ref (He.ga K "sieves_in"))
  d_read_sieve : ∃ fd, Fun K "read_sieve" "read_sieve" s_read_sieve (He.ga K "read_sieve") fd
  g_read_sieve : mg "read_sieve" = some (.ref (He.ga K "read_sieve"))
  d_asked_view : ∃ fd, Fun K "asked_view" "asked_view" s_asked_view (He.ga K "asked_view") fd
  g_asked_view : mg "asked_view" = some (.ref (He.ga K "asked_view"))
  d_asked_path : ∃ fd, Fun K "asked_path" "asked_path" s_asked_path (He.ga K "asked_path") fd
  g_asked_path : mg "asked_path" = some (.ref (He.ga K "asked_path"))
  d__law_classes : ∃ fd, Fun K "_law_classes" "_law_classes" s__law_classes (He.ga K "_law_classes") fd
  g__law_classes : mg "_law_classes" = some (.ref (He.ga K "_law_classes"))
  d__law_deed : ∃ fd, Fun K "_law_deed" "_law_deed" s__law_deed (He.ga K "_law_deed") fd
  g__law_deed : mg "_law_deed" = some (.ref (He.ga K "_law_deed"))
  d_law : ∃ fd, Fun K "law" "law" s_law (He.ga K "law") fd
  g_law : mg "law" = some (.ref (He.ga K "law"))
  c_Sheet : Cls K (He.ga K "Sheet")
  n_Sheet_own_fields : NoAttr K (He.ga K "Sheet") "own_fields"
  n_Sheet_kept : NoAttr K (He.ga K "Sheet") "kept"
  n_Sheet_given : NoAttr K (He.ga K "Sheet") "given"
  mk_Sheet : Mk K (He.ga K "Sheet") (He.ma K (He.ga K "Sheet") "__init__")
  n_isinstance : mg "isinstance" = none
  n_str : mg "str" = none
  n_len : mg "len" = none
  n_tuple : mg "tuple" = none
  n_list : mg "list" = none
  n_sorted : mg "sorted" = none
  n_int : mg "int" = none
  n_bool : mg "bool" = none
  n_abs : mg "abs" = none
  n_range : mg "range" = none
  n_set : mg "set" = none
  n_zip : mg "zip" = none
  n_ValueError : mg "ValueError" = none
  n_min : mg "min" = none
  c_MOST_SIGNS_values : ∃ t, mg "MOST_SIGNS_values" = some (.int 12 t)
  c_SMALL : ∃ t, mg "SMALL" = some (.str "abcdefghijklmnopqrstuvwxyz" t)
  c_MOST_FIELDS : ∃ t, mg "MOST_FIELDS" = some (.int 8 t)
  c_FIGURES : ∃ t, mg "FIGURES" = some (.str "0123456789" t)
  c_LETTERS : ∃ t, mg "LETTERS" = some (.str "abcdefghijklmnopqrstuvwxyz" t)
  c_MOST_LEVELS : ∃ t, mg "MOST_LEVELS" = some (.int 12 t)
  c_MOST_SIEVES : ∃ t, mg "MOST_SIEVES" = some (.int 60 t)
  c_MOST_NAMES : ∃ t, mg "MOST_NAMES" = some (.int 3 t)
  c_MOST_OF_FIGURES : ∃ t, mg "MOST_OF_FIGURES" = some (.int 4 t)
  e_NoFields : ExcT K mg "NoFields" (He.ga K "NoFields")
  e_NoSieve : ExcT K mg "NoSieve" (He.ga K "NoSieve")
  e_NoView : ExcT K mg "NoView" (He.ga K "NoView")
  e_NoHead : ExcT K mg "NoHead" (He.ga K "NoHead")
  k_NoRow : mg "NoRow" = some (.ref (He.ga K "NoRow"))
  k_CrossError : mg "CrossError" = some (.ref (He.ga K "CrossError"))
  k_NoSuch : mg "NoSuch" = some (.ref (He.ga K "NoSuch"))
  k_NoField : mg "NoField" = some (.ref (He.ga K "NoField"))
  k_NoKind : mg "NoKind" = some (.ref (He.ga K "NoKind"))
  k_NoFields : mg "NoFields" = some (.ref (He.ga K "NoFields"))
  k_NoHead : mg "NoHead" = some (.ref (He.ga K "NoHead"))
  k_NoView : mg "NoView" = some (.ref (He.ga K "NoView"))
  k_NoSieve : mg "NoSieve" = some (.ref (He.ga K "NoSieve"))
  k_NoVeil : mg "NoVeil" = some (.ref (He.ga K "NoVeil"))
  k_NoNet : mg "NoNet" = some (.ref (He.ga K "NoNet"))
  k_NoLine : mg "NoLine" = some (.ref (He.ga K "NoLine"))
  k_NoGroups : mg "NoGroups" = some (.ref (He.ga K "NoGroups"))
  k_NoWhole : mg "NoWhole" = some (.ref (He.ga K "NoWhole"))
  k_Sheet : mg "Sheet" = some (.ref (He.ga K "Sheet"))
  p_NoRow : ∃ fd, Fun K "__init__" "NoRow.__init__" i_NoRow (He.ma K (He.ga K "NoRow") "__init__") fd
  m_NoRow : Meth K (He.ga K "NoRow") "__init__" (He.ma K (He.ga K "NoRow") "__init__")
  p_NoSuch : ∃ fd, Fun K "__init__" "NoSuch.__init__" i_NoSuch (He.ma K (He.ga K "NoSuch") "__init__") fd
  m_NoSuch : Meth K (He.ga K "NoSuch") "__init__" (He.ma K (He.ga K "NoSuch") "__init__")
  p_NoField : ∃ fd, Fun K "__init__" "NoField.__init__" i_NoField (He.ma K (He.ga K "NoField") "__init__") fd
  m_NoField : Meth K (He.ga K "NoField") "__init__" (He.ma K (He.ga K "NoField") "__init__")
  p_NoKind : ∃ fd, Fun K "__init__" "NoKind.__init__" i_NoKind (He.ma K (He.ga K "NoKind") "__init__") fd
  m_NoKind : Meth K (He.ga K "NoKind") "__init__" (He.ma K (He.ga K "NoKind") "__init__")
  ce : (efs.all fun f => f.ok K) = true
section
variable {P : Program} {w : World} {K : PySem.W.Frag} {mg : Str → Option Value} {base : Heap}
theorem pay_NoRow (T : Tx K mg) : PayT P w K mg base 1 "NoRow" "place" := by
  obtain ⟨fd, F⟩ := T.p_NoRow
  have ox := oexB_ok (ef_at T.ce (f := .oex "NoRow") (by simp [efs]))
  have no := of_decide_eq_true (ef_at T.ce (f := .nof "NoRow" "place") (by simp [efs]))
  have bi : biB K (He.ga K "CrossError") = true := ef_at T.ce (f := .bi "CrossError") (by simp [efs])
  refine ⟨T.k_NoRow, ox, no, _, fd, ["self", "place"], T.m_NoRow.at_, beq_iff_eq.mp T.m_NoRow.fn, payInit_ok (z := "no row") F sci_NoRow rfl rfl (fun cdv A outer s H E hr => ?_), F.binds (ps := ["self", "place"]) fun _ _ _ _ _ _ us hl => match us, hl with | [_, _], _ => rfl⟩
  exact pss_cons (ps_expr (pe_ceinit rfl T.k_CrossError bi (pa_cons (pv 0) (pa_cons pe_str pa_nil)))) (pss_one (ps_ost (pv 0) (pv 1)))
theorem pay_NoSuch (T : Tx K mg) : PayT P w K mg base 1 "NoSuch" "number" := by
  obtain ⟨fd, F⟩ := T.p_NoSuch
  have ox := oexB_ok (ef_at T.ce (f := .oex "NoSuch") (by simp [efs]))
  have no := of_decide_eq_true (ef_at T.ce (f := .nof "NoSuch" "number") (by simp [efs]))
  have bi : biB K (He.ga K "CrossError") = true := ef_at T.ce (f := .bi "CrossError") (by simp [efs])
  refine ⟨T.k_NoSuch, ox, no, _, fd, ["self", "number"], T.m_NoSuch.at_, beq_iff_eq.mp T.m_NoSuch.fn, payInit_ok (z := "a number of no row") F sci_NoSuch rfl rfl (fun cdv A outer s H E hr => ?_), F.binds (ps := ["self", "number"]) fun _ _ _ _ _ _ us hl => match us, hl with | [_, _], _ => rfl⟩
  exact pss_cons (ps_expr (pe_ceinit rfl T.k_CrossError bi (pa_cons (pv 0) (pa_cons pe_str pa_nil)))) (pss_one (ps_ost (pv 0) (pv 1)))
theorem pay_NoField (T : Tx K mg) : PayT P w K mg base 1 "NoField" "name" := by
  obtain ⟨fd, F⟩ := T.p_NoField
  have ox := oexB_ok (ef_at T.ce (f := .oex "NoField") (by simp [efs]))
  have no := of_decide_eq_true (ef_at T.ce (f := .nof "NoField" "name") (by simp [efs]))
  have bi : biB K (He.ga K "CrossError") = true := ef_at T.ce (f := .bi "CrossError") (by simp [efs])
  refine ⟨T.k_NoField, ox, no, _, fd, ["self", "name"], T.m_NoField.at_, beq_iff_eq.mp T.m_NoField.fn, payInit_ok (z := "a name of no field") F sci_NoField rfl rfl (fun cdv A outer s H E hr => ?_), F.binds (ps := ["self", "name"]) fun _ _ _ _ _ _ us hl => match us, hl with | [_, _], _ => rfl⟩
  exact pss_cons (ps_expr (pe_ceinit rfl T.k_CrossError bi (pa_cons (pv 0) (pa_cons pe_str pa_nil)))) (pss_one (ps_ost (pv 0) (pv 1)))
theorem pay_NoKind (T : Tx K mg) : PayT P w K mg base 1 "NoKind" "name" := by
  obtain ⟨fd, F⟩ := T.p_NoKind
  have ox := oexB_ok (ef_at T.ce (f := .oex "NoKind") (by simp [efs]))
  have no := of_decide_eq_true (ef_at T.ce (f := .nof "NoKind" "name") (by simp [efs]))
  have bi : biB K (He.ga K "CrossError") = true := ef_at T.ce (f := .bi "CrossError") (by simp [efs])
  refine ⟨T.k_NoKind, ox, no, _, fd, ["self", "name"], T.m_NoKind.at_, beq_iff_eq.mp T.m_NoKind.fn, payInit_ok (z := "a field of another kind") F sci_NoKind rfl rfl (fun cdv A outer s H E hr => ?_), F.binds (ps := ["self", "name"]) fun _ _ _ _ _ _ us hl => match us, hl with | [_, _], _ => rfl⟩
  exact pss_cons (ps_expr (pe_ceinit rfl T.k_CrossError bi (pa_cons (pv 0) (pa_cons pe_str pa_nil)))) (pss_one (ps_ost (pv 0) (pv 1)))
theorem ok_made_of (T : Tx K mg) : OkF P w K mg base 1 "made_of" ["thing", "signs", "most"] m_made_of := by
  obtain ⟨fd, F⟩ := T.d_made_of
  refine okF_mk F sc_made_of rfl rfl T.g_made_of (F.binds (ps := ["thing", "signs", "most"]) fun _ _ _ _ _ _ us hl => match us, hl with | [_, _, _], _ => rfl) fun cdv A outer s H E hr => ?_
  have hu := Nat.lt_of_le_of_lt (Nat.add_le_add_left (show 1 ≤ 64 by decide) _) hr.units
  have tk := takes_fn (P := P) (w := w) (K := K) (mg := mg) (base := base) (N := N_made_of) (qual := "made_of") (scope := defScope s_made_of) (f := (He.ga K "made_of")) (cd := cdv) (A := A) (outer := outer) (s := s) (H := H) (E := E)
  have hp := passes_fn (P := P) (w := w) (K := K) (mg := mg) (base := base) (N := N_made_of) (qual := "made_of") (scope := defScope s_made_of) (f := (He.ga K "made_of")) (cd := cdv) (A := A) (outer := outer) (s := s) (H := H) (E := E)
  exact qb_cons (qs_if (st_w (sw_or (st_not (st_val (se_isi (T := "str") T.n_isinstance T.n_str (by decide +kernel) (se_var (i := 0))))) (sw_or (st_cmp (op_ltA) os_lt (se_callB call_len cs_len (T.n_len) (by decide +kernel) (sa_cons (se_var (i := 0)) (sa_nil))) (se_int) (nomark _)) (sw_or1 (st_cmp (op_gtA) os_gt (se_callB call_len cs_len (T.n_len) (by decide +kernel) (sa_cons (se_var (i := 0)) (sa_nil))) (se_var (i := 2)) (nomark _)))))) (qb_one (qs_ret (se_bl))) (qb_nil)) (qb_cons (qs_for hp (qi_str (se_var (i := 0))) (qg_name sc_made_of.nd) (qb_one (qs_if (st_cmp (op_notInA) os_notIn (se_var (i := 3)) (se_var (i := 1)) (by rfl)) (qb_one (qs_ret (se_bl))) (qb_nil)))) (qb_one (qs_ret (se_bl))))
theorem ok_is_name (T : Tx K mg) : OkF P w K mg base 2 "is_name" ["thing"] m_is_name := by
  obtain ⟨fd, F⟩ := T.d_is_name
  refine okF_mk F sc_is_name rfl rfl T.g_is_name (F.binds (ps := ["thing"]) fun _ _ _ _ _ _ us hl => match us, hl with | [_], _ => rfl) fun cdv A outer s H E hr => ?_
  have hu := Nat.lt_of_le_of_lt (Nat.add_le_add_left (show 1 ≤ 64 by decide) _) hr.units
  have tk := takes_fn (P := P) (w := w) (K := K) (mg := mg) (base := base) (N := N_is_name) (qual := "is_name") (scope := defScope s_is_name) (f := (He.ga K "is_name")) (cd := cdv) (A := A) (outer := outer) (s := s) (H := H) (E := E)
  have hp := passes_fn (P := P) (w := w) (K := K) (mg := mg) (base := base) (N := N_is_name) (qual := "is_name") (scope := defScope s_is_name) (f := (He.ga K "is_name")) (cd := cdv) (A := A) (outer := outer) (s := s) (H := H) (E := E)
  exact qb_one (qs_ret (se_fn .P (ok_made_of T) hr tk (sa_cons (se_var (i := 0)) (sa_cons ((by obtain ⟨t, ht⟩ := T.c_SMALL; exact se_globS ht)) (sa_cons ((by obtain ⟨t, ht⟩ := T.c_MOST_SIGNS_values; exact se_globI ht)) (sa_nil))))))
theorem ok_is_field (T : Tx K mg) : OkF P w K mg base 3 "is_field" ["thing"] m_is_field := by
  obtain ⟨fd, F⟩ := T.d_is_field
  refine okF_mk F sc_is_field rfl rfl T.g_is_field (F.binds (ps := ["thing"]) fun _ _ _ _ _ _ us hl => match us, hl with | [_], _ => rfl) fun cdv A outer s H E hr => ?_
  have hu := Nat.lt_of_le_of_lt (Nat.add_le_add_left (show 1 ≤ 64 by decide) _) hr.units
  have tk := takes_fn (P := P) (w := w) (K := K) (mg := mg) (base := base) (N := N_is_field) (qual := "is_field") (scope := defScope s_is_field) (f := (He.ga K "is_field")) (cd := cdv) (A := A) (outer := outer) (s := s) (H := H) (E := E)
  have hp := passes_fn (P := P) (w := w) (K := K) (mg := mg) (base := base) (N := N_is_field) (qual := "is_field") (scope := defScope s_is_field) (f := (He.ga K "is_field")) (cd := cdv) (A := A) (outer := outer) (s := s) (H := H) (E := E)
  exact qb_cons (qs_if (st_w (sw_or (st_not (st_val (se_isi (T := "tuple") T.n_isinstance T.n_tuple (by decide +kernel) (se_var (i := 0))))) (sw_or1 (st_cmp (op_neP hr.units) os_ne (se_callB call_len cs_len (T.n_len) (by decide +kernel) (sa_cons (se_var (i := 0)) (sa_nil))) (se_int) (nomark _))))) (qb_one (qs_ret (se_bl))) (qb_nil)) (qb_cons (qs_if (st_w (sw_or (st_not (st_val (se_isi (T := "str") T.n_isinstance T.n_str (by decide +kernel) (se_ix (se_var (i := 0)) (se_int))))) (sw_or1 (st_cmp (op_notInP hr.units) os_notInP (se_ix (se_var (i := 0)) (se_int)) (se_tup (sa_cons (se_str) (sa_cons (se_str) (sa_nil)))) (by rfl))))) (qb_one (qs_ret (se_bl))) (qb_nil)) (qb_one (qs_ret (se_fn .P (ok_is_name T) hr tk (sa_cons (se_ix (se_var (i := 0)) (se_int)) (sa_nil))))))
theorem ok_asked_fields (T : Tx K mg) : OkF P w K mg base 4 "asked_fields" ["fields"] m_asked_fields := by
  obtain ⟨fd, F⟩ := T.d_asked_fields
  refine okF_mk F sc_asked_fields rfl rfl T.g_asked_fields (F.binds (ps := ["fields"]) fun _ _ _ _ _ _ us hl => match us, hl with | [_], _ => rfl) fun cdv A outer s H E hr => ?_
  have hu := Nat.lt_of_le_of_lt (Nat.add_le_add_left (show 1 ≤ 64 by decide) _) hr.units
  have tk := takes_fn (P := P) (w := w) (K := K) (mg := mg) (base := base) (N := N_asked_fields) (qual := "asked_fields") (scope := defScope s_asked_fields) (f := (He.ga K "asked_fields")) (cd := cdv) (A := A) (outer := outer) (s := s) (H := H) (E := E)
  have hp := passes_fn (P := P) (w := w) (K := K) (mg := mg) (base := base) (N := N_asked_fields) (qual := "asked_fields") (scope := defScope s_asked_fields) (f := (He.ga K "asked_fields")) (cd := cdv) (A := A) (outer := outer) (s := s) (H := H) (E := E)
  exact qb_cons (qs_if (st_w (sw_or (st_not (st_val (se_isi (T := "list") T.n_isinstance T.n_list (by decide +kernel) (se_var (i := 0))))) (sw_or (st_cmp (op_ltA) os_lt (se_callB call_len cs_len (T.n_len) (by decide +kernel) (sa_cons (se_var (i := 0)) (sa_nil))) (se_int) (nomark _)) (sw_or1 (st_cmp (op_gtA) os_gt (se_callB call_len cs_len (T.n_len) (by decide +kernel) (sa_cons (se_var (i := 0)) (sa_nil))) ((by obtain ⟨t, ht⟩ := T.c_MOST_FIELDS; exact se_globI ht)) (nomark _)))))) (qb_one (qs_raise T.e_NoFields tk)) (qb_nil)) (qb_cons (qs_set (i := 1) sc_asked_fields.nd (se_dnew)) (qb_cons (qs_for hp (qi_list (se_var (i := 0))) (qg_name sc_asked_fields.nd) (qb_cons (qs_if (st_w (sw_or (st_not (st_val (se_fn .P (ok_is_field T) hr tk (sa_cons (se_var (i := 2)) (sa_nil))))) (sw_or1 (st_din hu (se_ix (se_var (i := 2)) (se_int)) (se_var (i := 1)))))) (qb_one (qs_raise T.e_NoFields tk)) (qb_nil)) (qb_one (qs_dput hu (se_bl) (se_var (i := 1)) (se_ix (se_var (i := 2)) (se_int)))))) (qb_one (qs_ret (se_bl)))))
theorem ok_Sheet___init__ (T : Tx K mg) : OkM P w K mg base 5 "Sheet" "__init__" ["self", "fields"] m_Sheet___init__ := by
  obtain ⟨fd, F⟩ := T.d_Sheet___init__
  refine okMI_mk F sc_Sheet___init__ rfl rfl T.h_Sheet___init__ (F.binds (ps := ["self", "fields"]) fun _ _ _ _ _ _ us hl => match us, hl with | [_, _], _ => rfl) fun cdv A outer s H E hr => ?_
  have hu := Nat.lt_of_le_of_lt (Nat.add_le_add_left (show 1 ≤ 64 by decide) _) hr.units
  have tk := takes_fn (P := P) (w := w) (K := K) (mg := mg) (base := base) (N := N_Sheet___init__) (qual := "Sheet.__init__") (scope := defScope s_Sheet___init__) (f := (He.ma K (He.ga K "Sheet") "__init__")) (cd := cdv) (A := A) (outer := outer) (s := s) (H := H) (E := E)
  have hp := passes_fn (P := P) (w := w) (K := K) (mg := mg) (base := base) (N := N_Sheet___init__) (qual := "Sheet.__init__") (scope := defScope s_Sheet___init__) (f := (He.ma K (He.ga K "Sheet") "__init__")) (cd := cdv) (A := A) (outer := outer) (s := s) (H := H) (E := E)
  exact qb_cons (qs_expr (se_fn .B (ok_asked_fields T) hr tk (sa_cons (se_var (i := 1)) (sa_nil)))) (qb_cons (qs_setFld T.c_Sheet T.n_Sheet_own_fields (se_V (sl_callT call_list_of cl_list (T.n_list) (by decide +kernel) (sa_cons (se_var (i := 1)) (sa_nil)))) (se_var (i := 0))) (qb_cons (qs_setFld T.c_Sheet T.n_Sheet_kept (se_dnew) (se_var (i := 0))) (qb_one (qs_setFld T.c_Sheet T.n_Sheet_given (se_int) (se_var (i := 0))))))
theorem ok_Sheet_numbers (T : Tx K mg) : OkM P w K mg base 1 "Sheet" "numbers" ["self"] m_Sheet_numbers := by
  obtain ⟨fd, F⟩ := T.d_Sheet_numbers
  refine okM_mk F sc_Sheet_numbers rfl rfl T.h_Sheet_numbers (F.binds (ps := ["self"]) fun _ _ _ _ _ _ us hl => match us, hl with | [_], _ => rfl) fun cdv A outer s H E hr => ?_
  have hu := Nat.lt_of_le_of_lt (Nat.add_le_add_left (show 1 ≤ 64 by decide) _) hr.units
  have tk := takes_fn (P := P) (w := w) (K := K) (mg := mg) (base := base) (N := N_Sheet_numbers) (qual := "Sheet.numbers") (scope := defScope s_Sheet_numbers) (f := (He.ma K (He.ga K "Sheet") "numbers")) (cd := cdv) (A := A) (outer := outer) (s := s) (H := H) (E := E)
  have hp := passes_fn (P := P) (w := w) (K := K) (mg := mg) (base := base) (N := N_Sheet_numbers) (qual := "Sheet.numbers") (scope := defScope s_Sheet_numbers) (f := (He.ma K (He.ga K "Sheet") "numbers")) (cd := cdv) (A := A) (outer := outer) (s := s) (H := H) (E := E)
  exact qb_one (qs_ret (se_V (sl_callB (cr_sortDI rfl) cl_sortDI (T.n_sorted) (by decide +kernel) (sa_cons (se_fld T.c_Sheet T.n_Sheet_kept (se_var (i := 0))) (sa_nil)))))
theorem ok_is_word (T : Tx K mg) : OkF P w K mg base 2 "is_word" ["thing"] m_is_word := by
  obtain ⟨fd, F⟩ := T.d_is_word
  refine okF_mk F sc_is_word rfl rfl T.g_is_word (F.binds (ps := ["thing"]) fun _ _ _ _ _ _ us hl => match us, hl with | [_], _ => rfl) fun cdv A outer s H E hr => ?_
  have hu := Nat.lt_of_le_of_lt (Nat.add_le_add_left (show 1 ≤ 64 by decide) _) hr.units
  have tk := takes_fn (P := P) (w := w) (K := K) (mg := mg) (base := base) (N := N_is_word) (qual := "is_word") (scope := defScope s_is_word) (f := (He.ga K "is_word")) (cd := cdv) (A := A) (outer := outer) (s := s) (H := H) (E := E)
  have hp := passes_fn (P := P) (w := w) (K := K) (mg := mg) (base := base) (N := N_is_word) (qual := "is_word") (scope := defScope s_is_word) (f := (He.ga K "is_word")) (cd := cdv) (A := A) (outer := outer) (s := s) (H := H) (E := E)
  exact qb_one (qs_ret (se_fn .P (ok_made_of T) hr tk (sa_cons (se_var (i := 0)) (sa_cons (se_op op_addA os_add ((by obtain ⟨t, ht⟩ := T.c_SMALL; exact se_globS ht)) ((by obtain ⟨t, ht⟩ := T.c_FIGURES; exact se_globS ht))) (sa_cons ((by obtain ⟨t, ht⟩ := T.c_MOST_SIGNS_values; exact se_globI ht)) (sa_nil))))))
theorem ok_is_whole (T : Tx K mg) : OkF P w K mg base 1 "is_whole" ["thing"] m_is_whole := by
  obtain ⟨fd, F⟩ := T.d_is_whole
  refine okF_mk F sc_is_whole rfl rfl T.g_is_whole (F.binds (ps := ["thing"]) fun _ _ _ _ _ _ us hl => match us, hl with | [_], _ => rfl) fun cdv A outer s H E hr => ?_
  have hu := Nat.lt_of_le_of_lt (Nat.add_le_add_left (show 1 ≤ 64 by decide) _) hr.units
  have tk := takes_fn (P := P) (w := w) (K := K) (mg := mg) (base := base) (N := N_is_whole) (qual := "is_whole") (scope := defScope s_is_whole) (f := (He.ga K "is_whole")) (cd := cdv) (A := A) (outer := outer) (s := s) (H := H) (E := E)
  have hp := passes_fn (P := P) (w := w) (K := K) (mg := mg) (base := base) (N := N_is_whole) (qual := "is_whole") (scope := defScope s_is_whole) (f := (He.ga K "is_whole")) (cd := cdv) (A := A) (outer := outer) (s := s) (H := H) (E := E)
  exact qb_cons (qs_if (st_w (sw_or (st_not (st_val (se_isi (T := "int") T.n_isinstance T.n_int (by decide +kernel) (se_var (i := 0))))) (sw_or1 (st_val (se_isi (T := "bool") T.n_isinstance T.n_bool (by decide +kernel) (se_var (i := 0))))))) (qb_one (qs_ret (se_bl))) (qb_nil)) (qb_one (qs_ret (se_cmp (op_ltA) os_lt (se_callB call_abs cs_abs (T.n_abs) (by decide +kernel) (sa_cons (se_var (i := 0)) (sa_nil))) (se_op op_pow os_pow (se_int) (se_int)) (nomark _))))
theorem ok_is_value (T : Tx K mg) : OkF P w K mg base 3 "is_value" ["kind", "thing"] m_is_value := by
  obtain ⟨fd, F⟩ := T.d_is_value
  refine okF_mk F sc_is_value rfl rfl T.g_is_value (F.binds (ps := ["kind", "thing"]) fun _ _ _ _ _ _ us hl => match us, hl with | [_, _], _ => rfl) fun cdv A outer s H E hr => ?_
  have hu := Nat.lt_of_le_of_lt (Nat.add_le_add_left (show 1 ≤ 64 by decide) _) hr.units
  have tk := takes_fn (P := P) (w := w) (K := K) (mg := mg) (base := base) (N := N_is_value) (qual := "is_value") (scope := defScope s_is_value) (f := (He.ga K "is_value")) (cd := cdv) (A := A) (outer := outer) (s := s) (H := H) (E := E)
  have hp := passes_fn (P := P) (w := w) (K := K) (mg := mg) (base := base) (N := N_is_value) (qual := "is_value") (scope := defScope s_is_value) (f := (He.ga K "is_value")) (cd := cdv) (A := A) (outer := outer) (s := s) (H := H) (E := E)
  exact qb_cons (qs_if (st_cmp (op_isA) os_is (se_var (i := 1)) (se_non) (nomark _)) (qb_one (qs_ret (se_bl))) (qb_nil)) (qb_cons (qs_if (st_cmp (op_eqP hr.units) os_eq (se_var (i := 0)) (se_str) (nomark _)) (qb_one (qs_ret (se_fn .P (ok_is_word T) hr tk (sa_cons (se_var (i := 1)) (sa_nil))))) (qb_nil)) (qb_one (qs_ret (se_fn .P (ok_is_whole T) (hr.mono (by decide)) tk (sa_cons (se_var (i := 1)) (sa_nil))))))
theorem ok_row_of (T : Tx K mg) : OkF P w K mg base 4 "row_of" ["fields", "things"] m_row_of := by
  obtain ⟨fd, F⟩ := T.d_row_of
  refine okF_mk F sc_row_of rfl rfl T.g_row_of (F.binds (ps := ["fields", "things"]) fun _ _ _ _ _ _ us hl => match us, hl with | [_, _], _ => rfl) fun cdv A outer s H E hr => ?_
  have hu := Nat.lt_of_le_of_lt (Nat.add_le_add_left (show 1 ≤ 64 by decide) _) hr.units
  have tk := takes_fn (P := P) (w := w) (K := K) (mg := mg) (base := base) (N := N_row_of) (qual := "row_of") (scope := defScope s_row_of) (f := (He.ga K "row_of")) (cd := cdv) (A := A) (outer := outer) (s := s) (H := H) (E := E)
  have hp := passes_fn (P := P) (w := w) (K := K) (mg := mg) (base := base) (N := N_row_of) (qual := "row_of") (scope := defScope s_row_of) (f := (He.ga K "row_of")) (cd := cdv) (A := A) (outer := outer) (s := s) (H := H) (E := E)
  exact qb_cons (qs_for hp (qi_range1 T.n_range (sa_cons (se_callB call_len cs_len (T.n_len) (by decide +kernel) (sa_cons (se_var (i := 1)) (sa_nil))) (sa_nil))) (qg_name sc_row_of.nd) (qb_one (qs_if (st_w (sw_or (st_cmp (op_ge) os_ge (se_var (i := 2)) (se_callB call_len cs_len (T.n_len) (by decide +kernel) (sa_cons (se_var (i := 0)) (sa_nil))) (nomark _)) (sw_or1 (st_not (st_val (se_fn .P (ok_is_value T) hr tk (sa_cons (se_ix (se_ix (se_var (i := 0)) (se_var (i := 2))) (se_int)) (sa_cons (se_ix (se_var (i := 1)) (se_var (i := 2))) (sa_nil))))))))) (qb_one (qs_raiseP (pay_NoRow T) (hr.mono (by decide)) tk (se_var (i := 2)))) (qb_nil)))) (qb_cons (qs_if (st_cmp (op_ltA) os_lt (se_callB call_len cs_len (T.n_len) (by decide +kernel) (sa_cons (se_var (i := 1)) (sa_nil))) (se_callB call_len cs_len (T.n_len) (by decide +kernel) (sa_cons (se_var (i := 0)) (sa_nil))) (nomark _)) (qb_one (qs_raiseP (pay_NoRow T) (hr.mono (by decide)) tk (se_callB call_len cs_len (T.n_len) (by decide +kernel) (sa_cons (se_var (i := 1)) (sa_nil))))) (qb_nil)) (qb_one (qs_ret (se_callT call_tuple_of cs_tuple (T.n_tuple) (by decide +kernel) (sa_cons (se_var (i := 1)) (sa_nil))))))
theorem ok_Sheet_put (T : Tx K mg) : OkM P w K mg base 5 "Sheet" "put" ["self", "row"] m_Sheet_put := by
  obtain ⟨fd, F⟩ := T.d_Sheet_put
  refine okM_mk F sc_Sheet_put rfl rfl T.h_Sheet_put (F.binds (ps := ["self", "row"]) fun _ _ _ _ _ _ us hl => match us, hl with | [_, _], _ => rfl) fun cdv A outer s H E hr => ?_
  have hu := Nat.lt_of_le_of_lt (Nat.add_le_add_left (show 1 ≤ 64 by decide) _) hr.units
  have tk := takes_fn (P := P) (w := w) (K := K) (mg := mg) (base := base) (N := N_Sheet_put) (qual := "Sheet.put") (scope := defScope s_Sheet_put) (f := (He.ma K (He.ga K "Sheet") "put")) (cd := cdv) (A := A) (outer := outer) (s := s) (H := H) (E := E)
  have hp := passes_fn (P := P) (w := w) (K := K) (mg := mg) (base := base) (N := N_Sheet_put) (qual := "Sheet.put") (scope := defScope s_Sheet_put) (f := (He.ma K (He.ga K "Sheet") "put")) (cd := cdv) (A := A) (outer := outer) (s := s) (H := H) (E := E)
  exact qb_cons (qs_set (i := 2) sc_Sheet_put.nd (se_fn .B (ok_row_of T) hr tk (sa_cons (se_fld T.c_Sheet T.n_Sheet_own_fields (se_var (i := 0))) (sa_cons (se_var (i := 1)) (sa_nil))))) (qb_cons (qs_set (i := 3) sc_Sheet_put.nd (se_fld T.c_Sheet T.n_Sheet_given (se_var (i := 0)))) (qb_cons (qs_dput hu (se_var (i := 2)) (se_fld T.c_Sheet T.n_Sheet_kept (se_var (i := 0))) (se_var (i := 3))) (qb_cons (qs_setFld T.c_Sheet T.n_Sheet_given (se_op op_addA os_add (se_var (i := 3)) (se_int)) (se_var (i := 0))) (qb_one (qs_ret (se_var (i := 3)))))))
theorem ok_Sheet_row (T : Tx K mg) : OkM P w K mg base 3 "Sheet" "row" ["self", "number"] m_Sheet_row := by
  obtain ⟨fd, F⟩ := T.d_Sheet_row
  refine okM_mk F sc_Sheet_row rfl rfl T.h_Sheet_row (F.binds (ps := ["self", "number"]) fun _ _ _ _ _ _ us hl => match us, hl with | [_, _], _ => rfl) fun cdv A outer s H E hr => ?_
  have hu := Nat.lt_of_le_of_lt (Nat.add_le_add_left (show 1 ≤ 64 by decide) _) hr.units
  have tk := takes_fn (P := P) (w := w) (K := K) (mg := mg) (base := base) (N := N_Sheet_row) (qual := "Sheet.row") (scope := defScope s_Sheet_row) (f := (He.ma K (He.ga K "Sheet") "row")) (cd := cdv) (A := A) (outer := outer) (s := s) (H := H) (E := E)
  have hp := passes_fn (P := P) (w := w) (K := K) (mg := mg) (base := base) (N := N_Sheet_row) (qual := "Sheet.row") (scope := defScope s_Sheet_row) (f := (He.ma K (He.ga K "Sheet") "row")) (cd := cdv) (A := A) (outer := outer) (s := s) (H := H) (E := E)
  exact qb_cons (qs_if (st_dnin hu (se_var (i := 1)) (se_fld T.c_Sheet T.n_Sheet_kept (se_var (i := 0)))) (qb_one (qs_raiseP (pay_NoSuch T) hr tk (se_var (i := 1)))) (qb_nil)) (qb_one (qs_ret (se_dget hu (se_fld T.c_Sheet T.n_Sheet_kept (se_var (i := 0))) (se_var (i := 1)))))
theorem ok__law_cell_at (T : Tx K mg) : OkF P w K mg base 1 "_law_cell_at" ["_law_script", "_law_k"] m__law_cell_at := by
  obtain ⟨fd, F⟩ := T.d__law_cell_at
  refine okF_mk F sc__law_cell_at rfl rfl T.g__law_cell_at (F.binds (ps := ["_law_script", "_law_k"]) fun _ _ _ _ _ _ us hl => match us, hl with | [_, _], _ => rfl) fun cdv A outer s H E hr => ?_
  have hu := Nat.lt_of_le_of_lt (Nat.add_le_add_left (show 1 ≤ 64 by decide) _) hr.units
  have tk := takes_fn (P := P) (w := w) (K := K) (mg := mg) (base := base) (N := N__law_cell_at) (qual := "_law_cell_at") (scope := defScope s__law_cell_at) (f := (He.ga K "_law_cell_at")) (cd := cdv) (A := A) (outer := outer) (s := s) (H := H) (E := E)
  have hp := passes_fn (P := P) (w := w) (K := K) (mg := mg) (base := base) (N := N__law_cell_at) (qual := "_law_cell_at") (scope := defScope s__law_cell_at) (f := (He.ga K "_law_cell_at")) (cd := cdv) (A := A) (outer := outer) (s := s) (H := H) (E := E)
  exact qb_cons (qs_if (st_cmp (op_ltA) os_lt (se_var (i := 1)) (se_callB call_len cs_len (T.n_len) (by decide +kernel) (sa_cons (se_var (i := 0)) (sa_nil))) (nomark _)) (qb_one (qs_ret (se_ix (se_var (i := 0)) (se_var (i := 1))))) (qb_nil)) (qb_one (qs_ret (se_int)))
theorem ok__law_mix (T : Tx K mg) : OkF P w K mg base 1 "_law_mix" ["_law_seed", "_law_k"] m__law_mix := by
  obtain ⟨fd, F⟩ := T.d__law_mix
  refine okF_mk F sc__law_mix rfl rfl T.g__law_mix (F.binds (ps := ["_law_seed", "_law_k"]) fun _ _ _ _ _ _ us hl => match us, hl with | [_, _], _ => rfl) fun cdv A outer s H E hr => ?_
  have hu := Nat.lt_of_le_of_lt (Nat.add_le_add_left (show 1 ≤ 64 by decide) _) hr.units
  have tk := takes_fn (P := P) (w := w) (K := K) (mg := mg) (base := base) (N := N__law_mix) (qual := "_law_mix") (scope := defScope s__law_mix) (f := (He.ga K "_law_mix")) (cd := cdv) (A := A) (outer := outer) (s := s) (H := H) (E := E)
  have hp := passes_fn (P := P) (w := w) (K := K) (mg := mg) (base := base) (N := N__law_mix) (qual := "_law_mix") (scope := defScope s__law_mix) (f := (He.ga K "_law_mix")) (cd := cdv) (A := A) (outer := outer) (s := s) (H := H) (E := E)
  exact qb_cons (qs_set (i := 2) sc__law_mix.nd (se_op op_mod os_mod (se_op op_addA os_add (se_op op_addA os_add (se_op op_mulW os_mul (se_op op_mod os_mod (se_var (i := 0)) (se_int)) (se_int)) (se_op op_mulW os_mul (se_var (i := 1)) (se_int))) (se_int)) (se_int))) (qb_one (qs_ret (se_op op_mod os_mod (se_op op_mulW os_mul (se_op op_mod os_mod (se_op op_mulW os_mul (se_var (i := 2)) (se_var (i := 2))) (se_int)) (se_int)) (se_int))))
theorem ok_field_at (T : Tx K mg) : OkF P w K mg base 3 "field_at" ["fields", "name"] m_field_at := by
  obtain ⟨fd, F⟩ := T.d_field_at
  refine okF_mk F sc_field_at rfl rfl T.g_field_at (F.binds (ps := ["fields", "name"]) fun _ _ _ _ _ _ us hl => match us, hl with | [_, _], _ => rfl) fun cdv A outer s H E hr => ?_
  have hu := Nat.lt_of_le_of_lt (Nat.add_le_add_left (show 1 ≤ 64 by decide) _) hr.units
  have tk := takes_fn (P := P) (w := w) (K := K) (mg := mg) (base := base) (N := N_field_at) (qual := "field_at") (scope := defScope s_field_at) (f := (He.ga K "field_at")) (cd := cdv) (A := A) (outer := outer) (s := s) (H := H) (E := E)
  have hp := passes_fn (P := P) (w := w) (K := K) (mg := mg) (base := base) (N := N_field_at) (qual := "field_at") (scope := defScope s_field_at) (f := (He.ga K "field_at")) (cd := cdv) (A := A) (outer := outer) (s := s) (H := H) (E := E)
  exact qb_cons (qs_for hp (qi_range1 T.n_range (sa_cons (se_callB call_len cs_len (T.n_len) (by decide +kernel) (sa_cons (se_var (i := 0)) (sa_nil))) (sa_nil))) (qg_name sc_field_at.nd) (qb_one (qs_if (st_cmp (op_eqP hr.units) os_eq (se_ix (se_ix (se_var (i := 0)) (se_var (i := 2))) (se_int)) (se_var (i := 1)) (nomark _)) (qb_one (qs_ret (se_var (i := 2)))) (qb_nil)))) (qb_one (qs_raiseP (pay_NoField T) hr tk (se_var (i := 1))))
theorem ok_asked_sieve (T : Tx K mg) : ∀ n : Nat, OkF P w K mg base (4 + n) "asked_sieve" ["fields", "sieve"] (m_asked_sieve n)
  | 0 => by
    obtain ⟨fd, F⟩ := T.d_asked_sieve
    refine okQ_mk F sc_asked_sieve rfl rfl T.g_asked_sieve (F.binds (ps := ["fields", "sieve"]) fun _ _ _ _ _ _ us hl => match us, hl with | [_, _], _ => rfl) fun cdv A outer s H E hr => ?_
    exact qb_never
  | n + 1 => by
    have ih := ok_asked_sieve T n
    obtain ⟨fd, F⟩ := T.d_asked_sieve
    refine okQ_mk F sc_asked_sieve rfl rfl T.g_asked_sieve (F.binds (ps := ["fields", "sieve"]) fun _ _ _ _ _ _ us hl => match us, hl with | [_, _], _ => rfl) fun cdv A outer s H E hr => ?_
    have hu := Nat.lt_of_le_of_lt (Nat.add_le_add_left (show 1 ≤ 64 by decide) _) hr.units
    have tk := takes_fn (P := P) (w := w) (K := K) (mg := mg) (base := base) (N := N_asked_sieve) (qual := "asked_sieve") (scope := defScope s_asked_sieve) (f := (He.ga K "asked_sieve")) (cd := cdv) (A := A) (outer := outer) (s := s) (H := H) (E := E)
    have hp := passes_fn (P := P) (w := w) (K := K) (mg := mg) (base := base) (N := N_asked_sieve) (qual := "asked_sieve") (scope := defScope s_asked_sieve) (f := (He.ga K "asked_sieve")) (cd := cdv) (A := A) (outer := outer) (s := s) (H := H) (E := E)
    exact qb_cons (qs_if (st_cmp (op_eqP hr.units) os_eq (se_ix (se_var (i := 1)) (se_int)) (se_str) (nomark _)) (qb_one (qs_ret (se_fnQ ih hr tk (sa_cons (se_var (i := 0)) (sa_cons (se_ix (se_var (i := 1)) (se_int)) (sa_nil)))))) (qb_nil)) (qb_cons (qs_if (st_w (sw_or (st_cmp (op_eqP hr.units) os_eq (se_ix (se_var (i := 1)) (se_int)) (se_str) (nomark _)) (sw_or1 (st_cmp (op_eqP hr.units) os_eq (se_ix (se_var (i := 1)) (se_int)) (se_str) (nomark _))))) (qb_cons (qs_for hp (qi_tup (se_ix (se_var (i := 1)) (se_int))) (qg_name sc_asked_sieve.nd) (qb_one (qs_expr (se_fnQ ih hr tk (sa_cons (se_var (i := 0)) (sa_cons (se_var (i := 3)) (sa_nil))))))) (qb_one (qs_ret (se_bl)))) (qb_nil)) (qb_cons (qs_set (i := 2) sc_asked_sieve.nd (se_ix (se_ix (se_var (i := 0)) (se_fn .P (ok_field_at T) (hr.mono (Nat.le_trans (by decide) (Nat.le_add_right 4 _))) tk (sa_cons (se_var (i := 0)) (sa_cons (se_ix (se_var (i := 1)) (se_int)) (sa_nil))))) (se_int))) (qb_cons (qs_if (st_w (sw_and (st_w (sw_or (st_cmp (op_eqP hr.units) os_eq (se_ix (se_var (i := 1)) (se_int)) (se_str) (nomark _)) (sw_or1 (st_cmp (op_eqP hr.units) os_eq (se_ix (se_var (i := 1)) (se_int)) (se_str) (nomark _))))) (sw_and1 (st_cmp (op_eqP hr.units) os_eq (se_var (i := 2)) (se_str) (nomark _))))) (qb_one (qs_raiseP (pay_NoKind T) (hr.mono (Nat.le_trans (by decide) (Nat.le_add_right 4 _))) tk (se_ix (se_var (i := 1)) (se_int)))) (qb_nil)) (qb_cons (qs_if (st_w (sw_and (st_cmp (op_eqP hr.units) os_eq (se_ix (se_var (i := 1)) (se_int)) (se_str) (nomark _)) (sw_and1 (st_not (st_val (se_fn .P (ok_is_value T) (hr.mono (Nat.le_trans (by decide) (Nat.le_add_right 4 _))) tk (sa_cons (se_var (i := 2)) (sa_cons (se_ix (se_var (i := 1)) (se_int)) (sa_nil))))))))) (qb_one (qs_raiseP (pay_NoKind T) (hr.mono (Nat.le_trans (by decide) (Nat.le_add_right 4 _))) tk (se_ix (se_var (i := 1)) (se_int)))) (qb_nil)) (qb_one (qs_ret (se_bl)))))))
theorem ok_run_of (T : Tx K mg) : OkF P w K mg base 1 "run_of" ["text", "at", "signs"] m_run_of := by
  obtain ⟨fd, F⟩ := T.d_run_of
  refine okF_mk F sc_run_of rfl rfl T.g_run_of (F.binds (ps := ["text", "at", "signs"]) fun _ _ _ _ _ _ us hl => match us, hl with | [_, _, _], _ => rfl) fun cdv A outer s H E hr => ?_
  have hu := Nat.lt_of_le_of_lt (Nat.add_le_add_left (show 1 ≤ 64 by decide) _) hr.units
  have tk := takes_fn (P := P) (w := w) (K := K) (mg := mg) (base := base) (N := N_run_of) (qual := "run_of") (scope := defScope s_run_of) (f := (He.ga K "run_of")) (cd := cdv) (A := A) (outer := outer) (s := s) (H := H) (E := E)
  have hp := passes_fn (P := P) (w := w) (K := K) (mg := mg) (base := base) (N := N_run_of) (qual := "run_of") (scope := defScope s_run_of) (f := (He.ga K "run_of")) (cd := cdv) (A := A) (outer := outer) (s := s) (H := H) (E := E)
  exact qb_cons (qs_loop hp (st_w (sw_and (st_cmp (op_ltA) os_lt (se_var (i := 1)) (se_callB call_len cs_len (T.n_len) (by decide +kernel) (sa_cons (se_var (i := 0)) (sa_nil))) (nomark _)) (sw_and1 (st_cmp (op_inA) os_in (se_ix (se_var (i := 0)) (se_var (i := 1))) (se_var (i := 2)) (by rfl))))) (qb_one (qs_set (i := 1) sc_run_of.nd (se_op op_addA os_add (se_var (i := 1)) (se_int))))) (qb_one (qs_ret (se_var (i := 1))))
theorem ok_plain_at (T : Tx K mg) : OkF P w K mg base 3 "plain_at" ["text", "at"] m_plain_at := by
  obtain ⟨fd, F⟩ := T.d_plain_at
  refine okQ_mk F sc_plain_at rfl rfl T.g_plain_at (F.binds (ps := ["text", "at"]) fun _ _ _ _ _ _ us hl => match us, hl with | [_, _], _ => rfl) fun cdv A outer s H E hr => ?_
  have hu := Nat.lt_of_le_of_lt (Nat.add_le_add_left (show 1 ≤ 64 by decide) _) hr.units
  have tk := takes_fn (P := P) (w := w) (K := K) (mg := mg) (base := base) (N := N_plain_at) (qual := "plain_at") (scope := defScope s_plain_at) (f := (He.ga K "plain_at")) (cd := cdv) (A := A) (outer := outer) (s := s) (H := H) (E := E)
  have hp := passes_fn (P := P) (w := w) (K := K) (mg := mg) (base := base) (N := N_plain_at) (qual := "plain_at") (scope := defScope s_plain_at) (f := (He.ga K "plain_at")) (cd := cdv) (A := A) (outer := outer) (s := s) (H := H) (E := E)
  exact qb_cons (qs_set (i := 2) sc_plain_at.nd (se_fn .P (ok_run_of T) (hr.mono (by decide)) tk (sa_cons (se_var (i := 0)) (sa_cons (se_var (i := 1)) (sa_cons ((by obtain ⟨t, ht⟩ := T.c_LETTERS; exact se_globS ht)) (sa_nil)))))) (qb_cons (qs_set (i := 3) sc_plain_at.nd (se_sl (se_var (i := 0)) (so_at (se_var (i := 1))) (so_at (se_var (i := 2))))) (qb_cons (qs_set (i := 4) sc_plain_at.nd (se_sl (se_var (i := 0)) (so_at (se_var (i := 2))) (so_at (se_op op_addA os_add (se_var (i := 2)) (se_int))))) (qb_cons (qs_if (st_w (sw_or (st_not (st_val (se_fn .P (ok_is_name T) hr tk (sa_cons (se_var (i := 3)) (sa_nil))))) (sw_or1 (st_cmp (op_notInA) os_notIn (se_var (i := 4)) (se_tup (sa_cons (se_str) (sa_cons (se_str) (sa_cons (se_str) (sa_cons (se_str) (sa_nil)))))) (by rfl))))) (qb_one (qs_raise T.e_NoSieve tk)) (qb_nil)) (qb_cons (qs_if (st_cmp (op_eqP hr.units) os_eq (se_var (i := 4)) (se_str) (nomark _)) (qb_one (qs_ret (se_tup (sa_cons (se_tup (sa_cons (se_str) (sa_cons (se_var (i := 3)) (sa_nil)))) (sa_cons (se_op op_addA os_add (se_var (i := 2)) (se_int)) (sa_nil)))))) (qb_nil)) (qb_never)))))
theorem ok_sieve_at (T : Tx K mg) : ∀ n : Nat, OkF P w K mg base (4 + n) "sieve_at" ["text", "at", "levels"] (m_sieve_at n)
  | 0 => by
    obtain ⟨fd, F⟩ := T.d_sieve_at
    refine okQ_mk F sc_sieve_at rfl rfl T.g_sieve_at (F.binds (ps := ["text", "at", "levels"]) fun _ _ _ _ _ _ us hl => match us, hl with | [_, _, _], _ => rfl) fun cdv A outer s H E hr => ?_
    exact qb_never
  | n + 1 => by
    have ih := ok_sieve_at T n
    obtain ⟨fd, F⟩ := T.d_sieve_at
    refine okQ_mk F sc_sieve_at rfl rfl T.g_sieve_at (F.binds (ps := ["text", "at", "levels"]) fun _ _ _ _ _ _ us hl => match us, hl with | [_, _, _], _ => rfl) fun cdv A outer s H E hr => ?_
    have hu := Nat.lt_of_le_of_lt (Nat.add_le_add_left (show 1 ≤ 64 by decide) _) hr.units
    have tk := takes_fn (P := P) (w := w) (K := K) (mg := mg) (base := base) (N := N_sieve_at) (qual := "sieve_at") (scope := defScope s_sieve_at) (f := (He.ga K "sieve_at")) (cd := cdv) (A := A) (outer := outer) (s := s) (H := H) (E := E)
    have hp := passes_fn (P := P) (w := w) (K := K) (mg := mg) (base := base) (N := N_sieve_at) (qual := "sieve_at") (scope := defScope s_sieve_at) (f := (He.ga K "sieve_at")) (cd := cdv) (A := A) (outer := outer) (s := s) (H := H) (E := E)
    exact qb_cons (qs_if (st_cmp (op_ltA) os_lt (se_var (i := 2)) (se_int) (nomark _)) (qb_one (qs_raise T.e_NoSieve tk)) (qb_nil)) (qb_cons (qs_if (st_cmp (op_eqP hr.units) os_eq (se_sl (se_var (i := 0)) (so_at (se_var (i := 1))) (so_at (se_op op_addA os_add (se_var (i := 1)) (se_int)))) (se_str) (nomark _)) (qb_cons (qs_asg (se_fnQ ih hr tk (sa_cons (se_var (i := 0)) (sa_cons (se_op op_addA os_add (se_var (i := 1)) (se_int)) (sa_cons (se_op op_sub os_sub (se_var (i := 2)) (se_int)) (sa_nil))))) (qg_tup (qgs_cons (qg_name sc_sieve_at.nd) (qgs_cons (qg_name sc_sieve_at.nd) (qgs_nil))))) (qb_one (qs_ret (se_tup (sa_cons (se_tup (sa_cons (se_str) (sa_cons (se_var (i := 5)) (sa_nil)))) (sa_cons (se_var (i := 6)) (sa_nil))))))) (qb_nil)) (qb_cons (qs_if (st_cmp (op_neP hr.units) os_ne (se_sl (se_var (i := 0)) (so_at (se_var (i := 1))) (so_at (se_op op_addA os_add (se_var (i := 1)) (se_int)))) (se_str) (nomark _)) (qb_one (qs_ret (se_fnQ (ok_plain_at T) (hr.mono (Nat.le_trans (by decide) (Nat.le_add_right 4 _))) tk (sa_cons (se_var (i := 0)) (sa_cons (se_var (i := 1)) (sa_nil)))))) (qb_nil)) (qb_never)))
theorem ok_sieves_in (T : Tx K mg) : OkF P w K mg base 1 "sieves_in" ["sieve"] m_sieves_in := by
  obtain ⟨fd, F⟩ := T.d_sieves_in
  refine okQ_mk F sc_sieves_in rfl rfl T.g_sieves_in (F.binds (ps := ["sieve"]) fun _ _ _ _ _ _ us hl => match us, hl with | [_], _ => rfl) fun cdv A outer s H E hr => ?_
  exact qb_never
theorem ok_read_sieve (T : Tx K mg) : OkF P w K mg base 21 "read_sieve" ["fields", "text"] m_read_sieve := by
  obtain ⟨fd, F⟩ := T.d_read_sieve
  refine okQ_mk F sc_read_sieve rfl rfl T.g_read_sieve (F.binds (ps := ["fields", "text"]) fun _ _ _ _ _ _ us hl => match us, hl with | [_, _], _ => rfl) fun cdv A outer s H E hr => ?_
  have hu := Nat.lt_of_le_of_lt (Nat.add_le_add_left (show 1 ≤ 64 by decide) _) hr.units
  have tk := takes_fn (P := P) (w := w) (K := K) (mg := mg) (base := base) (N := N_read_sieve) (qual := "read_sieve") (scope := defScope s_read_sieve) (f := (He.ga K "read_sieve")) (cd := cdv) (A := A) (outer := outer) (s := s) (H := H) (E := E)
  have hp := passes_fn (P := P) (w := w) (K := K) (mg := mg) (base := base) (N := N_read_sieve) (qual := "read_sieve") (scope := defScope s_read_sieve) (f := (He.ga K "read_sieve")) (cd := cdv) (A := A) (outer := outer) (s := s) (H := H) (E := E)
  exact qb_cons (qs_asg (se_fnQ (ok_sieve_at T 16) hr tk (sa_cons (se_var (i := 1)) (sa_cons (se_int) (sa_cons ((by obtain ⟨t, ht⟩ := T.c_MOST_LEVELS; exact se_globI ht)) (sa_nil))))) (qg_tup (qgs_cons (qg_name sc_read_sieve.nd) (qgs_cons (qg_name sc_read_sieve.nd) (qgs_nil))))) (qb_cons (qs_if (st_w (sw_or (st_cmp (op_neP hr.units) os_ne (se_var (i := 3)) (se_callB call_len cs_len (T.n_len) (by decide +kernel) (sa_cons (se_var (i := 1)) (sa_nil))) (nomark _)) (sw_or1 (st_cmp (op_gtA) os_gt (se_fnQ (ok_sieves_in T) (hr.mono (by decide)) tk (sa_cons (se_var (i := 2)) (sa_nil))) ((by obtain ⟨t, ht⟩ := T.c_MOST_SIEVES; exact se_globI ht)) (nomark _))))) (qb_one (qs_raise T.e_NoSieve tk)) (qb_nil)) (qb_never))
theorem ok_asked_view (T : Tx K mg) : OkF P w K mg base 4 "asked_view" ["fields", "view"] m_asked_view := by
  obtain ⟨fd, F⟩ := T.d_asked_view
  refine okF_mk F sc_asked_view rfl rfl T.g_asked_view (F.binds (ps := ["fields", "view"]) fun _ _ _ _ _ _ us hl => match us, hl with | [_, _], _ => rfl) fun cdv A outer s H E hr => ?_
  have hu := Nat.lt_of_le_of_lt (Nat.add_le_add_left (show 1 ≤ 64 by decide) _) hr.units
  have tk := takes_fn (P := P) (w := w) (K := K) (mg := mg) (base := base) (N := N_asked_view) (qual := "asked_view") (scope := defScope s_asked_view) (f := (He.ga K "asked_view")) (cd := cdv) (A := A) (outer := outer) (s := s) (H := H) (E := E)
  have hp := passes_fn (P := P) (w := w) (K := K) (mg := mg) (base := base) (N := N_asked_view) (qual := "asked_view") (scope := defScope s_asked_view) (f := (He.ga K "asked_view")) (cd := cdv) (A := A) (outer := outer) (s := s) (H := H) (E := E)
  exact qb_cons (qs_asg (se_var (i := 1)) (qg_tup (qgs_cons (qg_name sc_asked_view.nd) (qgs_cons (qg_name sc_asked_view.nd) (qgs_cons (qg_name sc_asked_view.nd) (qgs_nil)))))) (qb_cons (qs_set (i := 2) sc_asked_view.nd (se_V (sl_op op_cat ol_cat (se_V (sl_callT call_list_of cl_list (T.n_list) (by decide +kernel) (sa_cons (se_var (i := 5)) (sa_nil)))) (se_V (sl_callT call_list_of cl_list (T.n_list) (by decide +kernel) (sa_cons (se_var (i := 6)) (sa_nil))))))) (qb_cons (qs_if (st_w (sw_or (st_cmp (op_gtA) os_gt (se_callB call_len cs_len (T.n_len) (by decide +kernel) (sa_cons (se_var (i := 5)) (sa_nil))) ((by obtain ⟨t, ht⟩ := T.c_MOST_NAMES; exact se_globI ht)) (nomark _)) (sw_or (st_cmp (op_gtA) os_gt (se_callB call_len cs_len (T.n_len) (by decide +kernel) (sa_cons (se_var (i := 6)) (sa_nil))) ((by obtain ⟨t, ht⟩ := T.c_MOST_NAMES; exact se_globI ht)) (nomark _)) (sw_or1 (st_cmp (op_ltA) os_lt (se_lenset rfl T.n_len T.n_set (sa_cons (se_var (i := 2)) (sa_nil))) (se_callB call_len cs_len (T.n_len) (by decide +kernel) (sa_cons (se_var (i := 2)) (sa_nil))) (nomark _)))))) (qb_one (qs_raise T.e_NoView tk)) (qb_nil)) (qb_cons (qs_if (st_w (sw_or (st_cmp (op_ltA) os_lt (se_callB call_len cs_len (T.n_len) (by decide +kernel) (sa_cons (se_var (i := 7)) (sa_nil))) (se_int) (nomark _)) (sw_or1 (st_cmp (op_gtA) os_gt (se_callB call_len cs_len (T.n_len) (by decide +kernel) (sa_cons (se_var (i := 7)) (sa_nil))) ((by obtain ⟨t, ht⟩ := T.c_MOST_OF_FIGURES; exact se_globI ht)) (nomark _))))) (qb_one (qs_raise T.e_NoView tk)) (qb_nil)) (qb_cons (qs_for hp (qi_list (se_var (i := 2))) (qg_name sc_asked_view.nd) (qb_one (qs_expr (se_fn .P (ok_field_at T) hr tk (sa_cons (se_var (i := 0)) (sa_cons (se_var (i := 3)) (sa_nil))))))) (qb_cons (qs_for hp (qi_tup (se_var (i := 7))) (qg_name sc_asked_view.nd) (qb_one (qs_if (st_cmp (op_neP hr.units) os_ne (se_ix (se_var (i := 4)) (se_int)) (se_str) (nomark _)) (qb_cons (qs_set (i := 8) sc_asked_view.nd (se_ix (se_ix (se_var (i := 0)) (se_fn .P (ok_field_at T) hr tk (sa_cons (se_var (i := 0)) (sa_cons (se_ix (se_var (i := 4)) (se_int)) (sa_nil))))) (se_int))) (qb_one (qs_if (st_w (sw_and (st_cmp (op_eqP hr.units) os_eq (se_ix (se_var (i := 4)) (se_int)) (se_str) (nomark _)) (sw_and1 (st_cmp (op_eqP hr.units) os_eq (se_var (i := 8)) (se_str) (nomark _))))) (qb_one (qs_raiseP (pay_NoKind T) (hr.mono (by decide)) tk (se_ix (se_var (i := 4)) (se_int)))) (qb_nil)))) (qb_nil)))) (qb_one (qs_ret (se_bl))))))))
theorem ok_asked_path (T : Tx K mg) : OkF P w K mg base 4 "asked_path" ["fields", "names", "path"] m_asked_path := by
  obtain ⟨fd, F⟩ := T.d_asked_path
  refine okF_mk F sc_asked_path rfl rfl T.g_asked_path (F.binds (ps := ["fields", "names", "path"]) fun _ _ _ _ _ _ us hl => match us, hl with | [_, _, _], _ => rfl) fun cdv A outer s H E hr => ?_
  have hu := Nat.lt_of_le_of_lt (Nat.add_le_add_left (show 1 ≤ 64 by decide) _) hr.units
  have tk := takes_fn (P := P) (w := w) (K := K) (mg := mg) (base := base) (N := N_asked_path) (qual := "asked_path") (scope := defScope s_asked_path) (f := (He.ga K "asked_path")) (cd := cdv) (A := A) (outer := outer) (s := s) (H := H) (E := E)
  have hp := passes_fn (P := P) (w := w) (K := K) (mg := mg) (base := base) (N := N_asked_path) (qual := "asked_path") (scope := defScope s_asked_path) (f := (He.ga K "asked_path")) (cd := cdv) (A := A) (outer := outer) (s := s) (H := H) (E := E)
  exact qb_cons (qs_if (st_cmp (op_gtA) os_gt (se_callB call_len cs_len (T.n_len) (by decide +kernel) (sa_cons (se_var (i := 2)) (sa_nil))) (se_callB call_len cs_len (T.n_len) (by decide +kernel) (sa_cons (se_var (i := 1)) (sa_nil))) (nomark _)) (qb_one (qs_raise T.e_NoHead tk)) (qb_nil)) (qb_cons (qs_for hp (qi_zipT T.n_zip (sa_cons (se_var (i := 1)) (sa_cons (se_var (i := 2)) (sa_nil)))) (qg_tup (qgs_cons (qg_name sc_asked_path.nd) (qgs_cons (qg_name sc_asked_path.nd) (qgs_nil)))) (qb_one (qs_if (st_not (st_val (se_fn .P (ok_is_value T) hr tk (sa_cons (se_ix (se_ix (se_var (i := 0)) (se_fn .P (ok_field_at T) hr tk (sa_cons (se_var (i := 0)) (sa_cons (se_var (i := 3)) (sa_nil))))) (se_int)) (sa_cons (se_var (i := 4)) (sa_nil)))))) (qb_one (qs_raise T.e_NoHead tk)) (qb_nil)))) (qb_one (qs_ret (se_bl))))
theorem ok__law_classes (T : Tx K mg) : OkX P w K mg base 1 "_law_classes" ["_law_e"] m__law_classes := by
  obtain ⟨fd, F⟩ := T.d__law_classes
  exact okX_mk (body := b__law_classes) (np := 1) (nl := 1) F sc__law_classes rfl rfl T.g__law_classes (F.binds (ps := ["_law_e"]) fun _ _ _ _ _ _ us hl => match us, hl with | [_], _ => rfl) fun x a dd oe hz hf cdv A outer s H E => qb_cons (qs_set (i := 1) sc__law_classes.nd (se_V (sl_lst (sa_cons (se_isO T.ce hz hf T.n_isinstance T.k_NoFields (se_var (i := 0))) (sa_cons (se_isO T.ce hz hf T.n_isinstance T.k_NoRow (se_var (i := 0))) (sa_cons (se_isO T.ce hz hf T.n_isinstance T.k_NoSuch (se_var (i := 0))) (sa_cons (se_isO T.ce hz hf T.n_isinstance T.k_NoField (se_var (i := 0))) (sa_nil)))))))) (qb_cons (qs_set (i := 1) sc__law_classes.nd (se_V (sl_op op_cat ol_cat (se_var (i := 1)) (se_V (sl_lst (sa_cons (se_isO T.ce hz hf T.n_isinstance T.k_NoKind (se_var (i := 0))) (sa_cons (se_isO T.ce hz hf T.n_isinstance T.k_NoSieve (se_var (i := 0))) (sa_cons (se_isO T.ce hz hf T.n_isinstance T.k_NoView (se_var (i := 0))) (sa_cons (se_isO T.ce hz hf T.n_isinstance T.k_NoHead (se_var (i := 0))) (sa_nil)))))))))) (qb_cons (qs_set (i := 1) sc__law_classes.nd (se_V (sl_op op_cat ol_cat (se_var (i := 1)) (se_V (sl_lst (sa_cons (se_isO T.ce hz hf T.n_isinstance T.k_NoGroups (se_var (i := 0))) (sa_cons (se_isO T.ce hz hf T.n_isinstance T.k_NoLine (se_var (i := 0))) (sa_cons (se_isO T.ce hz hf T.n_isinstance T.k_NoNet (se_var (i := 0))) (sa_cons (se_isO T.ce hz hf T.n_isinstance T.k_NoVeil (se_var (i := 0))) (sa_nil)))))))))) (qb_one (qs_ret (se_V (sl_op op_cat ol_cat (se_var (i := 1)) (se_V (sl_lst (sa_cons (se_isO T.ce hz hf T.n_isinstance T.k_NoWhole (se_var (i := 0))) (sa_nil))))))))))
theorem ok__law_deed (T : Tx K mg) : OkF P w K mg base 22 "_law_deed" ["_law_way", "_law_sheet", "_law_fields", "_law_names", "_law_number"] m__law_deed := by
  obtain ⟨fd, F⟩ := T.d__law_deed
  refine okF_mk F sc__law_deed rfl rfl T.g__law_deed (F.binds (ps := ["_law_way", "_law_sheet", "_law_fields", "_law_names", "_law_number"]) fun _ _ _ _ _ _ us hl => match us, hl with | [_, _, _, _, _], _ => rfl) fun cdv A outer s H E hr => ?_
  have hu := Nat.lt_of_le_of_lt (Nat.add_le_add_left (show 1 ≤ 64 by decide) _) hr.units
  have tk := takes_fn (P := P) (w := w) (K := K) (mg := mg) (base := base) (N := N__law_deed) (qual := "_law_deed") (scope := defScope s__law_deed) (f := (He.ga K "_law_deed")) (cd := cdv) (A := A) (outer := outer) (s := s) (H := H) (E := E)
  have hp := passes_fn (P := P) (w := w) (K := K) (mg := mg) (base := base) (N := N__law_deed) (qual := "_law_deed") (scope := defScope s__law_deed) (f := (He.ga K "_law_deed")) (cd := cdv) (A := A) (outer := outer) (s := s) (H := H) (E := E)
  exact qb_cons (qs_set (i := 5) sc__law_deed.nd (se_str)) (qb_cons (qs_set (i := 6) sc__law_deed.nd (se_V (sl_lst (sa_nil)))) (qb_cons (qs_try_as (n := "_law_e") (i := 7) (den := h__law_deed_1) tk (tabE_ok T.ce) T.k_CrossError (fun W pn xe tk1 hp1 => qb_one (qs_if (st_cmp (op_eqP hr.units) os_eq (se_var (i := 0)) (se_int) (nomark _)) (qb_one (qs_expr (se_fn .P (ok_asked_fields T) (hr.mono (by decide)) tk1 (sa_cons (se_V (sl_lst (sa_cons (se_tup (sa_cons (se_ix (se_var (i := 3)) (se_int)) (sa_cons (se_str) (sa_nil)))) (sa_cons (se_tup (sa_cons (se_ix (se_var (i := 3)) (se_int)) (sa_cons (se_str) (sa_nil)))) (sa_nil))))) (sa_nil))))) (qb_one (qs_if (st_cmp (op_eqP hr.units) os_eq (se_var (i := 0)) (se_int) (nomark _)) (qb_one (qs_expr (se_meth .M (ok_Sheet_put T) T.c_Sheet (hr.mono (by decide)) tk1 (se_var (i := 1)) (sa_cons (se_V (sl_lst (sa_cons (se_str) (sa_cons (se_str) (sa_nil))))) (sa_nil))))) (qb_one (qs_if (st_cmp (op_eqP hr.units) os_eq (se_var (i := 0)) (se_int) (nomark _)) (qb_one (qs_expr (se_meth .M (ok_Sheet_row T) T.c_Sheet (hr.mono (by decide)) tk1 (se_var (i := 1)) (sa_cons (se_var (i := 4)) (sa_nil))))) (qb_one (qs_if (st_cmp (op_eqP hr.units) os_eq (se_var (i := 0)) (se_int) (nomark _)) (qb_one (qs_expr (se_fnQ (ok_asked_sieve T 16) (hr.mono (by decide)) tk1 (sa_cons (se_var (i := 2)) (sa_cons (se_tup (sa_cons (se_str) (sa_cons (se_tup (sa_cons (se_str) (sa_cons (se_op op_addA os_add (se_ix (se_var (i := 3)) (se_int)) (se_str)) (sa_nil)))) (sa_nil)))) (sa_nil)))))) (qb_one (qs_if (st_cmp (op_eqP hr.units) os_eq (se_var (i := 0)) (se_int) (nomark _)) (qb_one (qs_expr (se_fnQ (ok_asked_sieve T 16) (hr.mono (by decide)) tk1 (sa_cons (se_var (i := 2)) (sa_cons (se_tup (sa_cons (se_str) (sa_cons (se_ix (se_var (i := 3)) (se_int)) (sa_cons (se_var (i := 4)) (sa_nil))))) (sa_nil)))))) (qb_one (qs_if (st_cmp (op_eqP hr.units) os_eq (se_var (i := 0)) (se_int) (nomark _)) (qb_one (qs_expr (se_fnQ (ok_read_sieve T) hr tk1 (sa_cons (se_var (i := 2)) (sa_cons (se_op op_addA os_add (se_ix (se_var (i := 3)) (se_int)) (se_str)) (sa_nil)))))) (qb_one (qs_if (st_cmp (op_eqP hr.units) os_eq (se_var (i := 0)) (se_int) (nomark _)) (qb_one (qs_expr (se_fn .P (ok_asked_view T) (hr.mono (by decide)) tk1 (sa_cons (se_var (i := 2)) (sa_cons (se_tup (sa_cons (se_tup (sa_cons (se_ix (se_var (i := 3)) (se_int)) (sa_nil))) (sa_cons (se_tup (sa_cons (se_ix (se_var (i := 3)) (se_int)) (sa_nil))) (sa_cons (se_tup (sa_nil)) (sa_nil))))) (sa_nil)))))) (qb_one (qs_if (st_cmp (op_eqP hr.units) os_eq (se_var (i := 0)) (se_int) (nomark _)) (qb_one (qs_expr (se_fn .P (ok_asked_view T) (hr.mono (by decide)) tk1 (sa_cons (se_var (i := 2)) (sa_cons (se_tup (sa_cons (se_tup (sa_cons (se_op op_addA os_add (se_ix (se_var (i := 3)) (se_int)) (se_str)) (sa_nil))) (sa_cons (se_tup (sa_nil)) (sa_cons (se_tup (sa_cons (se_tup (sa_cons (se_str) (sa_nil))) (sa_nil))) (sa_nil))))) (sa_nil)))))) (qb_one (qs_if (st_cmp (op_eqP hr.units) os_eq (se_var (i := 0)) (se_int) (nomark _)) (qb_one (qs_expr (se_fn .P (ok_asked_view T) (hr.mono (by decide)) tk1 (sa_cons (se_var (i := 2)) (sa_cons (se_tup (sa_cons (se_tup (sa_nil)) (sa_cons (se_tup (sa_nil)) (sa_cons (se_tup (sa_cons (se_tup (sa_cons (se_str) (sa_cons (se_ix (se_var (i := 3)) (se_int)) (sa_nil)))) (sa_nil))) (sa_nil))))) (sa_nil)))))) (qb_one (qs_expr (se_fn .P (ok_asked_path T) (hr.mono (by decide)) tk1 (sa_cons (se_var (i := 2)) (sa_cons (se_tup (sa_cons (se_ix (se_var (i := 3)) (se_int)) (sa_nil))) (sa_cons (se_tup (sa_cons (se_str) (sa_nil))) (sa_nil))))))))))))))))))))))))) (fun x a dd oe pn hc hz hf => qb_cons (qs_set (i := 5) sc__law_deed.nd (se_ix (se_V (sl_lst (sa_cons (se_str) (sa_cons (se_str) (sa_nil))))) (se_callT call_intA cs_intA (T.n_int) (by decide +kernel) (sa_cons (se_isOT (T := "ValueError") T.ce hz hf T.n_isinstance T.n_ValueError (by decide +kernel) (se_var (i := 7))) (sa_nil))))) (qb_one (qs_set (i := 6) sc__law_deed.nd (se_fnX (ok__law_classes T) (hr.mono (by decide)) hz hf (sa_cons (se_var (i := 7)) (sa_nil)))))) sc__law_deed.nd) (qb_cons (qs_set (i := 8) sc__law_deed.nd (se_ix (se_V (sl_lst (sa_cons (se_int) (sa_cons (se_int) (sa_cons (se_int) (sa_cons (se_int) (sa_cons (se_int) (sa_cons (se_int) (sa_cons (se_int) (sa_cons (se_int) (sa_cons (se_int) (sa_cons (se_int) (sa_nil))))))))))))) (se_var (i := 0)))) (qb_one (qs_ret (se_and (se_cmp (op_eqP hr.units) os_eq (se_var (i := 5)) (se_str) (nomark _)) (se_one (se_cmp (op_eqP hr.units) os_eq (se_var (i := 6)) (se_V (sl_lc (own := [("_law_k", 9)]) sc__law_deed.nd (qi_range1 T.n_range (sa_cons (se_int) (sa_nil))) (blkOk_by (N := N__law_deed) (sc := defScope s__law_deed) (by decide +kernel)) (fun _ _ _ _ _ => qg_name sc__law_deed.nd) (by decide) (fun _ _ _ _ _ => scs_nil) (fun _ _ _ _ _ => se_cmp (op_eqP hr.units) os_eq (se_var (i := 9)) (se_var (i := 8)) (nomark _)))) (nomark _)))))))))
theorem ok_law (T : Tx K mg) : OkF P w K mg base 23 "law" ["_law_script"] m_law := by
  obtain ⟨fd, F⟩ := T.d_law
  refine okF_mk F sc_law rfl rfl T.g_law (F.binds (ps := ["_law_script"]) fun _ _ _ _ _ _ us hl => match us, hl with | [_], _ => rfl) fun cdv A outer s H E hr => ?_
  have hu := Nat.lt_of_le_of_lt (Nat.add_le_add_left (show 1 ≤ 64 by decide) _) hr.units
  have tk := takes_fn (P := P) (w := w) (K := K) (mg := mg) (base := base) (N := N_law) (qual := "law") (scope := defScope s_law) (f := (He.ga K "law")) (cd := cdv) (A := A) (outer := outer) (s := s) (H := H) (E := E)
  have hp := passes_fn (P := P) (w := w) (K := K) (mg := mg) (base := base) (N := N_law) (qual := "law") (scope := defScope s_law) (f := (He.ga K "law")) (cd := cdv) (A := A) (outer := outer) (s := s) (H := H) (E := E)
  exact qb_blk (qp_cons (qs_for hp (qi_range1 T.n_range (sa_cons (se_op op_addA os_add (se_int) (se_callB (call_min2 rfl) cs_min2 (T.n_min) (by decide +kernel) (sa_cons (se_int) (sa_cons (se_callB call_len cs_len (T.n_len) (by decide +kernel) (sa_cons (se_var (i := 0)) (sa_nil))) (sa_nil))))) (sa_nil))) (qg_name sc_law.nd) (qb_cons (qs_set (i := 2) sc_law.nd (se_fn .P (ok__law_mix T) (hr.mono (by decide)) tk (sa_cons (se_fn .P (ok__law_cell_at T) (hr.mono (by decide)) tk (sa_cons (se_var (i := 0)) (sa_cons (se_var (i := 1)) (sa_nil)))) (sa_cons (se_var (i := 1)) (sa_nil))))) (qb_cons (qs_set (i := 3) sc_law.nd (se_ix (se_str) (se_op op_mod os_mod (se_var (i := 2)) (se_int)))) (qb_cons (qs_set (i := 4) sc_law.nd (se_V (sl_lst (sa_cons (se_op op_mulS os_mulS (se_var (i := 3)) (se_op op_addA os_add (se_int) (se_op op_mod os_mod (se_op op_fdivW os_fdiv (se_var (i := 2)) (se_int)) (se_int)))) (sa_cons (se_op op_mulS os_mulS (se_str) (se_op op_addA os_add (se_int) (se_op op_mod os_mod (se_op op_fdivW os_fdiv (se_var (i := 2)) (se_int)) (se_int)))) (sa_nil)))))) (qb_cons (qs_set (i := 5) sc_law.nd (se_V (sl_lst (sa_cons (se_tup (sa_cons (se_ix (se_var (i := 4)) (se_int)) (sa_cons (se_str) (sa_nil)))) (sa_cons (se_tup (sa_cons (se_ix (se_var (i := 4)) (se_int)) (sa_cons (se_str) (sa_nil)))) (sa_nil)))))) (qb_cons (qs_set (i := 6) sc_law.nd (se_mkC T.mk_Sheet (ok_Sheet___init__ T) (hr.mono (by decide)) tk T.k_Sheet (sa_cons (se_V (sl_callT call_list_of cl_list (T.n_list) (by decide +kernel) (sa_cons (se_var (i := 5)) (sa_nil)))) (sa_nil)))) (qb_cons (qs_expr (se_meth .M (ok_Sheet_put T) T.c_Sheet (hr.mono (by decide)) tk (se_var (i := 6)) (sa_cons (se_V (sl_lst (sa_cons (se_str) (sa_cons (se_int) (sa_nil))))) (sa_nil)))) (qb_cons (qs_for hp (qi_range1 T.n_range (sa_cons (se_int) (sa_nil))) (qg_name sc_law.nd) (qb_one (qs_if (st_not (st_val (se_fn .M (ok__law_deed T) hr tk (sa_cons (se_var (i := 7)) (sa_cons (se_var (i := 6)) (sa_cons (se_V (sl_callT call_list_of cl_list (T.n_list) (by decide +kernel) (sa_cons (se_var (i := 5)) (sa_nil)))) (sa_cons (se_var (i := 4)) (sa_cons (se_op op_addA os_add (se_int) (se_op op_mod os_mod (se_var (i := 2)) (se_op op_pow os_pow (se_int) (se_int)))) (sa_nil))))))))) (qb_one (qs_ret (se_bl))) (qb_nil)))) (qb_one (qs_if (st_w (sw_or (st_cmp (op_neP hr.units) os_ne (se_meth0 .M (ok_Sheet_numbers T) T.c_Sheet (hr.mono (by decide)) tk (se_var (i := 6))) (se_V (sl_lst (sa_cons (se_int) (sa_nil)))) (nomark _)) (sw_or1 (st_cmp (op_neP hr.units) os_ne (se_meth .M (ok_Sheet_row T) T.c_Sheet (hr.mono (by decide)) tk (se_var (i := 6)) (sa_cons (se_int) (sa_nil))) (se_tup (sa_cons (se_str) (sa_cons (se_int) (sa_nil)))) (nomark _))))) (qb_one (qs_ret (se_bl))) (qb_nil))))))))))) (qp_seal (qb_one (qs_ret (se_bl)))))
end
/-! the head -/
def dfs : List He.DefD := [⟨("made_of", none), "made_of", "made_of", defArgs s_made_of, defBody s_made_of, defScope s_made_of, [], []⟩, ⟨("is_name", none), "is_name", "is_name", defArgs s_is_name, defBody s_is_name, defScope s_is_name, [], []⟩, ⟨("is_field", none), "is_field", "is_field", defArgs s_is_field, defBody s_is_field, defScope s_is_field, [], []⟩, ⟨("asked_fields", none), "asked_fields", "asked_fields", defArgs s_asked_fields, defBody s_asked_fields, defScope s_asked_fields, [], []⟩, ⟨("Sheet", some "__init__"), "__init__", "Sheet.__init__", defArgs s_Sheet___init__, defBody s_Sheet___init__, defScope s_Sheet___init__, [], []⟩, ⟨("Sheet", some "numbers"), "numbers", "Sheet.numbers", defArgs s_Sheet_numbers, defBody s_Sheet_numbers, defScope s_Sheet_numbers, [], []⟩, ⟨("is_word", none), "is_word", "is_word", defArgs s_is_word, defBody s_is_word, defScope s_is_word, [], []⟩, ⟨("is_whole", none), "is_whole", "is_whole", defArgs s_is_whole, defBody s_is_whole, defScope s_is_whole, [], []⟩, ⟨("is_value", none), "is_value", "is_value", defArgs s_is_value, defBody s_is_value, defScope s_is_value, [], []⟩, ⟨("row_of", none), "row_of", "row_of", defArgs s_row_of, defBody s_row_of, defScope s_row_of, [], []⟩, ⟨("Sheet", some "put"), "put", "Sheet.put", defArgs s_Sheet_put, defBody s_Sheet_put, defScope s_Sheet_put, [], []⟩, ⟨("Sheet", some "row"), "row", "Sheet.row", defArgs s_Sheet_row, defBody s_Sheet_row, defScope s_Sheet_row, [], []⟩, ⟨("_law_cell_at", none), "_law_cell_at", "_law_cell_at", defArgs s__law_cell_at, defBody s__law_cell_at, defScope s__law_cell_at, [], []⟩, ⟨("_law_mix", none), "_law_mix", "_law_mix", defArgs s__law_mix, defBody s__law_mix, defScope s__law_mix, [], []⟩, ⟨("field_at", none), "field_at", "field_at", defArgs s_field_at, defBody s_field_at, defScope s_field_at, [], []⟩, ⟨("asked_sieve", none), "asked_sieve", "asked_sieve", defArgs s_asked_sieve, defBody s_asked_sieve, defScope s_asked_sieve, [], []⟩, ⟨("run_of", none), "run_of", "run_of", defArgs s_run_of, defBody s_run_of, defScope s_run_of, [], []⟩, ⟨("plain_at", none), "plain_at", "plain_at", defArgs s_plain_at, defBody s_plain_at, defScope s_plain_at, [], []⟩, ⟨("sieve_at", none), "sieve_at", "sieve_at", defArgs s_sieve_at, defBody s_sieve_at, defScope s_sieve_at, [], []⟩, ⟨("sieves_in", none), "sieves_in", "sieves_in", defArgs s_sieves_in, defBody s_sieves_in, defScope s_sieves_in, [], []⟩, ⟨("read_sieve", none), "read_sieve", "read_sieve", defArgs s_read_sieve, defBody s_read_sieve, defScope s_read_sieve, [], []⟩, ⟨("asked_view", none), "asked_view", "asked_view", defArgs s_asked_view, defBody s_asked_view, defScope s_asked_view, [], []⟩, ⟨("asked_path", none), "asked_path", "asked_path", defArgs s_asked_path, defBody s_asked_path, defScope s_asked_path, [], []⟩, ⟨("_law_classes", none), "_law_classes", "_law_classes", defArgs s__law_classes, defBody s__law_classes, defScope s__law_classes, [], []⟩, ⟨("_law_deed", none), "_law_deed", "_law_deed", defArgs s__law_deed, defBody s__law_deed, defScope s__law_deed, [], []⟩, ⟨("law", none), "law", "law", defArgs s_law, defBody s_law, defScope s_law, [], []⟩, ⟨("NoRow", some "__init__"), "__init__", "NoRow.__init__", defArgs i_NoRow, defBody i_NoRow, defScope i_NoRow, [], []⟩, ⟨("NoSuch", some "__init__"), "__init__", "NoSuch.__init__", defArgs i_NoSuch, defBody i_NoSuch, defScope i_NoSuch, [], []⟩, ⟨("NoField", some "__init__"), "__init__", "NoField.__init__", defArgs i_NoField, defBody i_NoField, defScope i_NoField, [], []⟩, ⟨("NoKind", some "__init__"), "__init__", "NoKind.__init__", defArgs i_NoKind, defBody i_NoKind, defScope i_NoKind, [], []⟩]
def fas : List He.Fa := [.glo "made_of", .glo "is_name", .glo "is_field", .glo "asked_fields", .meth "Sheet" "__init__", .meth "Sheet" "numbers", .glo "is_word", .glo "is_whole", .glo "is_value", .glo "row_of", .meth "Sheet" "put", .meth "Sheet" "row", .glo "_law_cell_at", .glo "_law_mix", .glo "field_at", .glo "asked_sieve", .glo "run_of", .glo "plain_at", .glo "sieve_at", .glo "sieves_in", .glo "read_sieve", .glo "asked_view", .glo "asked_path", .glo "_law_classes", .glo "_law_deed", .glo "law", .cls "Sheet", .noat "Sheet" "own_fields", .noat "Sheet" "kept", .noat "Sheet" "given", .mkr "Sheet", .free "isinstance", .free "str", .free "len", .free "tuple", .free "list", .free "sorted", .free "int", .free "bool", .free "abs", .free "range", .free "set", .free "zip", .free "ValueError", .free "min", .int "MOST_SIGNS_values" 12, .str "SMALL" "abcdefghijklmnopqrstuvwxyz", .int "MOST_FIELDS" 8, .str "FIGURES" "0123456789", .str "LETTERS" "abcdefghijklmnopqrstuvwxyz", .int "MOST_LEVELS" 12, .int "MOST_SIEVES" 60, .int "MOST_NAMES" 3, .int "MOST_OF_FIGURES" 4, .glo "NoFields", .exc "NoFields", .glo "NoSieve", .exc "NoSieve", .glo "NoView", .exc "NoView", .glo "NoHead", .exc "NoHead", .glo "NoRow", .glo "CrossError", .glo "NoSuch", .glo "NoField", .glo "NoKind", .glo "NoFields", .glo "NoHead", .glo "NoView", .glo "NoSieve", .glo "NoVeil", .glo "NoNet", .glo "NoLine", .glo "NoGroups", .glo "NoWhole", .glo "Sheet", .meth "NoRow" "__init__", .meth "NoSuch" "__init__", .meth "NoField" "__init__", .meth "NoKind" "__init__"]
theorem tx_of {K : PySem.W.Frag} {h : Heap} {mg : Str → Option Value} (X : K.In h) (G : h.Ns mainGlobals mg) (c : He.SaysD fas dfs K) (ce : (efs.all fun f => f.ok K) = true) : Tx K mg where
  d_made_of := let ⟨fd, F⟩ := c.def_ 0 rfl; ⟨fd, He5.fun_of F⟩
  g_made_of := He.glo_ok X G (c.fact 0 rfl)
  d_is_name := let ⟨fd, F⟩ := c.def_ 1 rfl; ⟨fd, He5.fun_of F⟩
  g_is_name := He.glo_ok X G (c.fact 1 rfl)
  d_is_field := let ⟨fd, F⟩ := c.def_ 2 rfl; ⟨fd, He5.fun_of F⟩
  g_is_field := He.glo_ok X G (c.fact 2 rfl)
  d_asked_fields := let ⟨fd, F⟩ := c.def_ 3 rfl; ⟨fd, He5.fun_of F⟩
  g_asked_fields := He.glo_ok X G (c.fact 3 rfl)
  d_Sheet___init__ := let ⟨fd, F⟩ := c.def_ 4 rfl; ⟨fd, He5.fun_of F⟩
  h_Sheet___init__ := He.meth_ok (c.fact 4 rfl)
  d_Sheet_numbers := let ⟨fd, F⟩ := c.def_ 5 rfl; ⟨fd, He5.fun_of F⟩
  h_Sheet_numbers := He.meth_ok (c.fact 5 rfl)
  d_is_word := let ⟨fd, F⟩ := c.def_ 6 rfl; ⟨fd, He5.fun_of F⟩
  g_is_word := He.glo_ok X G (c.fact 6 rfl)
  d_is_whole := let ⟨fd, F⟩ := c.def_ 7 rfl; ⟨fd, He5.fun_of F⟩
  g_is_whole := He.glo_ok X G (c.fact 7 rfl)
  d_is_value := let ⟨fd, F⟩ := c.def_ 8 rfl; ⟨fd, He5.fun_of F⟩
  g_is_value := He.glo_ok X G (c.fact 8 rfl)
  d_row_of := let ⟨fd, F⟩ := c.def_ 9 rfl; ⟨fd, He5.fun_of F⟩
  g_row_of := He.glo_ok X G (c.fact 9 rfl)
  d_Sheet_put := let ⟨fd, F⟩ := c.def_ 10 rfl; ⟨fd, He5.fun_of F⟩
  h_Sheet_put := He.meth_ok (c.fact 10 rfl)
  d_Sheet_row := let ⟨fd, F⟩ := c.def_ 11 rfl; ⟨fd, He5.fun_of F⟩
  h_Sheet_row := He.meth_ok (c.fact 11 rfl)
  d__law_cell_at := let ⟨fd, F⟩ := c.def_ 12 rfl; ⟨fd, He5.fun_of F⟩
  g__law_cell_at := He.glo_ok X G (c.fact 12 rfl)
  d__law_mix := let ⟨fd, F⟩ := c.def_ 13 rfl; ⟨fd, He5.fun_of F⟩
  g__law_mix := He.glo_ok X G (c.fact 13 rfl)
  d_field_at := let ⟨fd, F⟩ := c.def_ 14 rfl; ⟨fd, He5.fun_of F⟩
  g_field_at := He.glo_ok X G (c.fact 14 rfl)
  d_asked_sieve := let ⟨fd, F⟩ := c.def_ 15 rfl; ⟨fd, He5.fun_of F⟩
  g_asked_sieve := He.glo_ok X G (c.fact 15 rfl)
  d_run_of := let ⟨fd, F⟩ := c.def_ 16 rfl; ⟨fd, He5.fun_of F⟩
  g_run_of := He.glo_ok X G (c.fact 16 rfl)
  d_plain_at := let ⟨fd, F⟩ := c.def_ 17 rfl; ⟨fd, He5.fun_of F⟩
  g_plain_at := He.glo_ok X G (c.fact 17 rfl)
  d_sieve_at := let ⟨fd, F⟩ := c.def_ 18 rfl; ⟨fd, He5.fun_of F⟩
  g_sieve_at := He.glo_ok X G (c.fact 18 rfl)
  d_sieves_in := let ⟨fd, F⟩ := c.def_ 19 rfl; ⟨fd, He5.fun_of F⟩
  g_sieves_in := He.glo_ok X G (c.fact 19 rfl)
  d_read_sieve := let ⟨fd, F⟩ := c.def_ 20 rfl; ⟨fd, He5.fun_of F⟩
  g_read_sieve := He.glo_ok X G (c.fact 20 rfl)
  d_asked_view := let ⟨fd, F⟩ := c.def_ 21 rfl; ⟨fd, He5.fun_of F⟩
  g_asked_view := He.glo_ok X G (c.fact 21 rfl)
  d_asked_path := let ⟨fd, F⟩ := c.def_ 22 rfl; ⟨fd, He5.fun_of F⟩
  g_asked_path := He.glo_ok X G (c.fact 22 rfl)
  d__law_classes := let ⟨fd, F⟩ := c.def_ 23 rfl; ⟨fd, He5.fun_of F⟩
  g__law_classes := He.glo_ok X G (c.fact 23 rfl)
  d__law_deed := let ⟨fd, F⟩ := c.def_ 24 rfl; ⟨fd, He5.fun_of F⟩
  g__law_deed := He.glo_ok X G (c.fact 24 rfl)
  d_law := let ⟨fd, F⟩ := c.def_ 25 rfl; ⟨fd, He5.fun_of F⟩
  g_law := He.glo_ok X G (c.fact 25 rfl)
  c_Sheet := He.cls_ok (c.fact 26 rfl)
  n_Sheet_own_fields := He.noat_ok (c.fact 27 rfl)
  n_Sheet_kept := He.noat_ok (c.fact 28 rfl)
  n_Sheet_given := He.noat_ok (c.fact 29 rfl)
  mk_Sheet := He.mkr_ok (c.fact 30 rfl)
  n_isinstance := He.free_ok X G (c.fact 31 rfl)
  n_str := He.free_ok X G (c.fact 32 rfl)
  n_len := He.free_ok X G (c.fact 33 rfl)
  n_tuple := He.free_ok X G (c.fact 34 rfl)
  n_list := He.free_ok X G (c.fact 35 rfl)
  n_sorted := He.free_ok X G (c.fact 36 rfl)
  n_int := He.free_ok X G (c.fact 37 rfl)
  n_bool := He.free_ok X G (c.fact 38 rfl)
  n_abs := He.free_ok X G (c.fact 39 rfl)
  n_range := He.free_ok X G (c.fact 40 rfl)
  n_set := He.free_ok X G (c.fact 41 rfl)
  n_zip := He.free_ok X G (c.fact 42 rfl)
  n_ValueError := He.free_ok X G (c.fact 43 rfl)
  n_min := He.free_ok X G (c.fact 44 rfl)
  c_MOST_SIGNS_values := He.int_ok X G (c.fact 45 rfl)
  c_SMALL := He.str_ok X G (c.fact 46 rfl)
  c_MOST_FIELDS := He.int_ok X G (c.fact 47 rfl)
  c_FIGURES := He.str_ok X G (c.fact 48 rfl)
  c_LETTERS := He.str_ok X G (c.fact 49 rfl)
  c_MOST_LEVELS := He.int_ok X G (c.fact 50 rfl)
  c_MOST_SIEVES := He.int_ok X G (c.fact 51 rfl)
  c_MOST_NAMES := He.int_ok X G (c.fact 52 rfl)
  c_MOST_OF_FIGURES := He.int_ok X G (c.fact 53 rfl)
  e_NoFields := excT_of (He.glo_ok X G (c.fact 54 rfl)) (He.exc_ok (c.fact 55 rfl))
  e_NoSieve := excT_of (He.glo_ok X G (c.fact 56 rfl)) (He.exc_ok (c.fact 57 rfl))
  e_NoView := excT_of (He.glo_ok X G (c.fact 58 rfl)) (He.exc_ok (c.fact 59 rfl))
  e_NoHead := excT_of (He.glo_ok X G (c.fact 60 rfl)) (He.exc_ok (c.fact 61 rfl))
  k_NoRow := He.glo_ok X G (c.fact 62 rfl)
  k_CrossError := He.glo_ok X G (c.fact 63 rfl)
  k_NoSuch := He.glo_ok X G (c.fact 64 rfl)
  k_NoField := He.glo_ok X G (c.fact 65 rfl)
  k_NoKind := He.glo_ok X G (c.fact 66 rfl)
  k_NoFields := He.glo_ok X G (c.fact 67 rfl)
  k_NoHead := He.glo_ok X G (c.fact 68 rfl)
  k_NoView := He.glo_ok X G (c.fact 69 rfl)
  k_NoSieve := He.glo_ok X G (c.fact 70 rfl)
  k_NoVeil := He.glo_ok X G (c.fact 71 rfl)
  k_NoNet := He.glo_ok X G (c.fact 72 rfl)
  k_NoLine := He.glo_ok X G (c.fact 73 rfl)
  k_NoGroups := He.glo_ok X G (c.fact 74 rfl)
  k_NoWhole := He.glo_ok X G (c.fact 75 rfl)
  k_Sheet := He.glo_ok X G (c.fact 76 rfl)
  p_NoRow := let ⟨fd, F⟩ := c.def_ 26 rfl; ⟨fd, He5.fun_of F⟩
  m_NoRow := He.meth_ok (c.fact 77 rfl)
  p_NoSuch := let ⟨fd, F⟩ := c.def_ 27 rfl; ⟨fd, He5.fun_of F⟩
  m_NoSuch := He.meth_ok (c.fact 78 rfl)
  p_NoField := let ⟨fd, F⟩ := c.def_ 28 rfl; ⟨fd, He5.fun_of F⟩
  m_NoField := He.meth_ok (c.fact 79 rfl)
  p_NoKind := let ⟨fd, F⟩ := c.def_ 29 rfl; ⟨fd, He5.fun_of F⟩
  m_NoKind := He.meth_ok (c.fact 80 rfl)
  ce := ce
end
end Lk19

set_option Elab.async false
set_option linter.all false
set_option maxRecDepth 100000
set_option maxHeartbeats 4000000
namespace Lk19
open PySem PySem.Spec PyProof.Rows L2 VD WT PS WD WS WH
noncomputable section
theorem mix_same : m__law_mix = mixM := rfl
theorem cell_same : m__law_cell_at = cellM := rfl
theorem made_same : m_made_of = PV.m_made_of := rfl
theorem name_same : m_is_name = PV.m_is_name := by unfold m_is_name PV.m_is_name b_is_name PV.b_is_name; rw [made_same]
theorem isf_same : m_is_field = WS.m_is_field := by unfold m_is_field WS.m_is_field b_is_field WS.b_is_field; rw [name_same]
theorem asked_same : m_asked_fields = WS.m_asked_fields := by unfold m_asked_fields WS.m_asked_fields b_asked_fields WS.b_asked_fields l_asked_fields_1 WS.l_asked_fields_1; rw [isf_same]
theorem word_same : m_is_word = PV.m_is_word := by unfold m_is_word PV.m_is_word b_is_word PV.b_is_word; rw [made_same]
theorem whole_same : m_is_whole = PV.m_is_whole := rfl
theorem value_same : m_is_value = PV.m_is_value := by unfold m_is_value PV.m_is_value b_is_value PV.b_is_value; rw [word_same, whole_same]
theorem row_of_same : m_row_of = WH.m_row_of := by unfold m_row_of WH.m_row_of b_row_of WH.b_row_of l_row_of_1 WH.l_row_of_1; rw [value_same]
theorem put_same : m_Sheet_put = WH.m_Sheet_put := by unfold m_Sheet_put WH.m_Sheet_put b_Sheet_put WH.b_Sheet_put; rw [row_of_same]
theorem row_same : m_Sheet_row = WH.m_Sheet_row := rfl
theorem field_same : m_field_at = PS.m_field_at := rfl
theorem view_same : m_asked_view = WV.m_asked_view := rfl
theorem sieve_same : ∀ k, m_asked_sieve k = PT.m_asked_sieve k
  | 0 => rfl
  | k + 1 => by
    unfold m_asked_sieve PT.m_asked_sieve
    rw [sieve_same k]
    unfold b_asked_sieve PT.b_asked_sieve l_asked_sieve_1 PT.l_asked_sieve_1
    rw [field_same, value_same]
/-! runs of signs -/
theorem slD_tx_mid {cs : List Nat} {a b : Int} (hl : cs.length ≤ 16777216) (h0 : 0 ≤ a) (h1 : a ≤ b) (h2 : b ≤ cs.length) : slD (tx cs) (some a) (some b) = some (tx ((cs.drop a.toNat).take (b.toNat - a.toNat))) := by
  show (if (sx cs).length ≤ 16777216 then some (D.str (cutS (sx cs) (some a) (some b))) else none) = _
  rw [sx_len, if_pos hl]
  have e : cutS (sx cs) (some a) (some b) = sx ((cs.drop a.toNat).take (b.toNat - a.toNat)) := by
    unfold cutS
    have e1 : HT.sIx (sx cs).length 0 (some a) = min a.toNat cs.length := by
      show (if a < 0 then _ else min a.toNat (sx cs).length) = _
      rw [if_neg (by omega), sx_len]
    have e3 : HT.sIx (sx cs).length (sx cs).length (some b) = min b.toNat cs.length := by
      show (if b < 0 then _ else min b.toNat (sx cs).length) = _
      rw [if_neg (by omega), sx_len]
    have e2 : (sx cs).cps.toList = cs := by simp
    rw [e1, e3, e2, Nat.min_eq_left (by omega), Nat.min_eq_left (by omega)]
  rw [e]
theorem run_eq {cs ss : List Nat} {at_ n : Nat} (hl : cs.length ≤ 1000) (ha : at_ + n ≤ cs.length) (h1 : ∀ k, k < n → ∃ c, cs[at_ + k]? = some c ∧ c ∈ ss) (h2 : ∀ c, cs[at_ + n]? = some c → c ∉ ss) : m_run_of [tx cs, .int (at_ : Int), tx ss] [] = .ok (.int ((at_ + n : Nat) : Int)) [] := by
  obtain ⟨PP, hPP⟩ : ∃ PP : VD.R D → Prop, PP = fun x => x = .ok (.int ((at_ + n : Nat) : Int)) [] := ⟨_, rfl⟩
  have fin : PP (m_run_of [tx cs, .int (at_ : Int), tx ss] []) := by
    refine fnS_of (P := PP) rfl ?_
    unfold b_run_of
    simp only [Wp_seq]
    unfold l_run_of_1
    obtain ⟨I, hI⟩ : ∃ I : VS → Hv → Prop, I = fun σ h => ∃ k : Nat, k ≤ n ∧ σ = [some (tx cs), some (.int ((at_ + k : Nat) : Int)), some (tx ss)] ∧ h = [] := ⟨_, rfl⟩
    refine Wp.while I (fun σ _ => match σ[1]? with | some (some (D.int i)) => 2000 - i.toNat | _ => 0) ?_ (by rw [hI]; exact ⟨0, by omega, rfl, rfl⟩)
    intro σ h hh
    rw [hI] at hh
    obtain ⟨k, hk, rfl, rfl⟩ := hh
    have lc : ∀ h, lenD h (tx cs) = some (cs.length : Int) := fun h => by rw [lenD_str, sx_len, if_pos (by omega)]
    by_cases q : k < n
    · obtain ⟨c, hc, cm⟩ := h1 k q
      have jl := (List.getElem?_eq_some_iff.mp hc).1
      have ix : ∀ h, ixD h (tx cs) ((at_ : Int) + (k : Int)) = some (tx [c]) := fun h => by
        rw [ixD_tx (by omega) (by omega) (by omega)]
        have : ((at_ : Int) + (k : Int)).toNat = at_ + k := by omega
        rw [this, hc]; rfl
      have jl' : (at_ : Int) + (k : Int) < cs.length := by omega
      refine ⟨true, by simp [lc, jl', ix, cm], ?_⟩
      simp
      refine ⟨?_, by omega⟩
      rw [hI]
      exact ⟨k + 1, by omega, by simp; omega, rfl⟩
    · have e : k = n := by omega
      subst e
      cases hc : cs[at_ + k]? with
      | none =>
        have jl := List.getElem?_eq_none_iff.mp hc
        have jl' : ¬ (at_ : Int) + (k : Int) < cs.length := by omega
        refine ⟨false, by simp [lc, jl'], ?_⟩
        simp
        rw [hPP]; congr 2
      | some c =>
        have cm := h2 c hc
        have jl := (List.getElem?_eq_some_iff.mp hc).1
        have ix : ∀ h, ixD h (tx cs) ((at_ : Int) + (k : Int)) = some (tx [c]) := fun h => by
          rw [ixD_tx (by omega) (by omega) (by omega)]
          have : ((at_ : Int) + (k : Int)).toNat = at_ + k := by omega
          rw [this, hc]; rfl
        have jl' : (at_ : Int) + (k : Int) < cs.length := by omega
        refine ⟨false, by simp [lc, jl', ix, cm], ?_⟩
        simp
        rw [hPP]; congr 2
  rw [hPP] at fin
  exact fin
/-! fields of two names -/
def fs2 (n0 n1 : WT.Tx) : List Fd := [(n0, true), (n1, false)]
structure W2 (n0 n1 : WT.Tx) : Prop where
  ok0 : okName n0
  ok1 : okName n1
  ne : n0 ≠ n1
  nx : n0 ++ [120] ≠ n1
section
variable {n0 n1 : WT.Tx}
theorem W2.fo (w : W2 n0 n1) : FdsOk (fs2 n0 n1) := ⟨by show 1 ≤ 2; decide, by show 2 ≤ 8; decide, by
  show [n0, n1].Nodup
  simp [w.ne], fun f hf => by
  rcases List.mem_cons.mp hf with rfl | hf
  · exact w.ok0
  · rw [List.mem_singleton.mp hf]; exact w.ok1⟩
theorem W2.p0 : plN (fs2 n0 n1) n0 = some 0 := by unfold fs2 plN; rw [if_pos rfl]
theorem W2.p1 (w : W2 n0 n1) : plN (fs2 n0 n1) n1 = some 1 := by
  unfold fs2 plN
  rw [if_neg w.ne]
  unfold plN
  rw [if_pos rfl]; rfl
theorem W2.px (w : W2 n0 n1) : plN (fs2 n0 n1) (n0 ++ [120]) = none := by
  have l : n0 ≠ n0 ++ [120] := fun z => by
    have := congrArg List.length z
    simp at this
  unfold fs2 plN
  rw [if_neg l]
  unfold plN
  rw [if_neg (fun z => w.nx z.symm)]; rfl
/-! the text of no sieve -/
theorem s_bang : ("!" : Str) = sx [33] := by decide +kernel
theorem s_open : ("(" : Str) = sx [40] := by decide +kernel
theorem s_eq : ("=" : Str) = sx [61] := by decide +kernel
theorem s_lt : ("<" : Str) = sx [60] := by decide +kernel
theorem s_gt : (">" : Str) = sx [62] := by decide +kernel
theorem s_qu : ("?" : Str) = sx [63] := by decide +kernel
theorem s_end : ("?&" : Str) = sx [63, 38] := by decide +kernel
theorem inP_qu {h : Hv} : oNotIn (tx [63]) (.tup [.str "=", .str "<", .str ">", .str "?"]) h = .ok (.bl false) h := by rfl
theorem plain_no (w : okName n0) : m_plain_at [tx (n0 ++ [63, 38]), .int 0] [] = .ok (.tup [.tup [.str "lacks", tx n0], .int ((n0.length : Int) + 1)]) [] := by
  obtain ⟨PP, hPP⟩ : ∃ PP : VD.R D → Prop, PP = fun x => x = .ok (.tup [.tup [.str "lacks", tx n0], .int ((n0.length : Int) + 1)]) [] := ⟨_, rfl⟩
  have fin : PP (m_plain_at [tx (n0 ++ [63, 38]), .int 0] []) := by
    refine fnQ_of (P := PP) rfl ?_
    unfold b_plain_at
    obtain ⟨w1, w2, w3⟩ := w
    have ll : (n0 ++ [63, 38]).length = n0.length + 2 := by simp
    have r := run_eq (cs := n0 ++ [63, 38]) (ss := smL) (at_ := 0) (n := n0.length) (by omega) (by omega) (fun k hk => by
      rw [Nat.zero_add, List.getElem?_append_left hk, List.getElem?_eq_getElem hk]
      exact ⟨_, rfl, w3 _ (List.getElem_mem hk)⟩) (fun c hc => by
      rw [Nat.zero_add, List.getElem?_append_right (Nat.le_refl _), Nat.sub_self] at hc
      cases hc; decide)
    have r := cP r (by simp [frz_tx])
    have r : ∀ h, callP m_run_of [tx (n0 ++ [63, 38]), .int 0, tx smL] h = .ok (.int (n0.length : Int)) h := fun h => by have := r h; simpa using this
    have nm := PV.name_eq (cs := n0) (by omega)
    rw [(okNm_iff (n := n0)).mpr ⟨w1, w2, w3⟩ |> fun z => (show PV.okW n0 smL 12 = true from z)] at nm
    have nm := cP nm (by simp [frz_tx])
    have c1 : slD (tx (n0 ++ [63, 38])) (some 0) (some (n0.length : Int)) = some (tx n0) := by
      rw [slD_tx_mid (by omega) (by decide) (by omega) (by omega)]; simp
    have c2 : slD (tx (n0 ++ [63, 38])) (some (n0.length : Int)) (some ((n0.length : Int) + 1)) = some (tx [63]) := by
      rw [slD_tx_mid (by omega) (by omega) (by omega) (by omega)]
      have : ((n0.length : Int) + 1).toNat - ((n0.length : Int)).toNat = 1 := by omega
      rw [this]; simp
    have q1 : ∀ h, eqD h (tx [63]) (.str "?") = some true := fun h => by rw [s_qu]; exact (eqD_tx).trans (by simp)
    simp [sm_eq, r, c1, c2, name_same, nm, inP_qu, q1]
    rw [hPP]
    exact ⟨_, rfl, rfl⟩
  rw [hPP] at fin
  exact fin
theorem sieve_no {k : Nat} (w : okName n0) : m_sieve_at (k + 1) [tx (n0 ++ [63, 38]), .int 0, .int 12] [] = .ok (.tup [.tup [.str "lacks", tx n0], .int ((n0.length : Int) + 1)]) [] := by
  obtain ⟨PP, hPP⟩ : ∃ PP : VD.R D → Prop, PP = fun x => x = .ok (.tup [.tup [.str "lacks", tx n0], .int ((n0.length : Int) + 1)]) [] := ⟨_, rfl⟩
  have fin : PP (m_sieve_at (k + 1) [tx (n0 ++ [63, 38]), .int 0, .int 12] []) := by
    unfold m_sieve_at
    refine fnQ_of (P := PP) rfl ?_
    unfold b_sieve_at
    obtain ⟨w1, w2, w3⟩ := w
    cases n0 with
    | nil => simp at w1
    | cons c r =>
      have hc := w3 c List.mem_cons_self
      have ll : (c :: r ++ [63, 38]).length = (c :: r).length + 2 := by simp
      have c1 : slD (tx (c :: r ++ [63, 38])) (some 0) (some 1) = some (tx [c]) := by
        rw [slD_tx_mid (by omega) (by decide) (by decide) (by omega)]; simp
      have nb : ∀ h, eqD h (tx [c]) (.str "!") = some false := fun h => by
        rw [s_bang]
        refine eqD_tx.trans ?_
        rw [decide_eq_false]
        intro z
        injection z with z
        rw [z] at hc
        exact absurd hc (by decide)
      have no : ∀ h, eqD h (tx [c]) (.str "(") = some false := fun h => by
        rw [s_open]
        refine eqD_tx.trans ?_
        rw [decide_eq_false]
        intro z
        injection z with z
        rw [z] at hc
        exact absurd hc (by decide)
      have p := cQ (plain_no (n0 := c :: r) ⟨w1, w2, w3⟩) (by rfl)
      simp only [List.cons_append] at c1 p ⊢
      simp [c1, nb, no, p]
      rw [hPP]
      exact ⟨_, rfl, rfl⟩
  rw [hPP] at fin
  exact fin
theorem read_no (w : okName n0) {fs : List Fd} : m_read_sieve [fdsD fs, tx (n0 ++ [63, 38])] [] = .exc ⟨"NoSieve", none⟩ [] := by
  obtain ⟨PP, hPP⟩ : ∃ PP : VD.R D → Prop, PP = fun x => x = .exc ⟨"NoSieve", none⟩ [] := ⟨_, rfl⟩
  have fin : PP (m_read_sieve [fdsD fs, tx (n0 ++ [63, 38])] []) := by
    refine fnQ_of (P := PP) rfl ?_
    unfold b_read_sieve
    have p := cQ (sieve_no (k := 15) w) (by rfl)
    have w2 := w.2.1
    have ll : (n0 ++ [63, 38]).length = n0.length + 2 := by simp
    have lc : ∀ h, lenD h (tx (n0 ++ [63, 38])) = some ((n0.length : Int) + 2) := fun h => by rw [lenD_str, sx_len, if_pos (by omega), ll]; rfl
    have ne : ¬ (n0.length : Int) + 1 = (n0.length : Int) + 2 := by omega
    have q1 : ∀ h, eqD h (.int ((n0.length : Int) + 1)) (.int ((n0.length : Int) + 2)) = some false := fun h => by simp
    simp [p, lc, ne]
    rw [hPP]
  rw [hPP] at fin
  exact fin
theorem path_no (w : W2 n0 n1) : m_asked_path [fdsD (fs2 n0 n1), .tup [tx n1], .tup [.str "a"]] [] = .exc ⟨"NoHead", none⟩ [] := by
  obtain ⟨PP, hPP⟩ : ∃ PP : VD.R D → Prop, PP = fun x => x = .exc ⟨"NoHead", none⟩ [] := ⟨_, rfl⟩
  have fin : PP (m_asked_path [fdsD (fs2 n0 n1), .tup [tx n1], .tup [.str "a"]] []) := by
    refine fnS_of (P := PP) rfl ?_
    unfold b_asked_path
    simp
    unfold l_asked_path_1
    have fc := field_call (fs := fs2 n0 n1) (by show 2 ≤ 100; decide) w.p1
    have sa : ("a" : Str) = sx [97] := by decide +kernel
    have vc : ∀ h, callP PV.m_is_value [.str (kindS false), valD (.wd [97])] h = .ok (.bl false) h := fun h => PT.value_call (v := .wd [97]) (b := false) (by show okWord [97]; exact ⟨by decide, by decide, by decide⟩) h
    have i1 : ∀ h, ixD h (fdsD (fs2 n0 n1)) 1 = some (fdD (n1, false)) := fun h => PT.fd_ix (i := 1) rfl
    have fc : ∀ h, callP PS.m_field_at [fdsD (fs2 n0 n1), tx n1] h = .ok (.int 1) h := fc
    have fx : ∀ (f : Fd) h, ixD h (fdD f) 1 = some (.str (kindS f.2)) := fun _ _ => rfl
    have vD : valD (.wd [97]) = tx [97] := rfl
    obtain ⟨I, hI⟩ : ∃ I : Nat → VS → Hv → Prop, I = fun i σ h => i = 0 ∧ σ = [some (fdsD (fs2 n0 n1)), some (.tup [tx n1]), some (.tup [.str "a"]), none, none] ∧ h = [] := ⟨_, rfl⟩
    refine Wp.loopA (fun p : D × D => D.tup [p.1, p.2]) [(tx n1, .str "a")] I (h0 := []) (by simp; rfl) (by rw [hI]; exact ⟨rfl, rfl, rfl⟩) ?_ ?_
    · intro i p σ h hp hh
      rw [hI] at hh
      obtain ⟨rfl, rfl, rfl⟩ := hh
      cases hp
      refine ⟨_, rfl, ?_⟩
      rw [sa]
      simp [field_same, fc, i1, fx, value_same, ← vD, vc]
      rw [hPP]
    · intro σ h hh
      rw [hI] at hh
      exact absurd (show (1 : Nat) = 0 from hh.1) (by decide)
  rw [hPP] at fin
  exact fin
end
/-! the classes -/
theorem kinds_0 {a dd : Addr} : m__law_classes ⟨"NoFields", none⟩ a dd [.raw (.ref a)] [] = .ok (.lst [.bl true, .bl false, .bl false, .bl false, .bl false, .bl false, .bl false, .bl false, .bl false, .bl false, .bl false, .bl false, .bl false]) [] := by
  refine fnS_of (P := fun x => x = .ok (.lst [.bl true, .bl false, .bl false, .bl false, .bl false, .bl false, .bl false, .bl false, .bl false, .bl false, .bl false, .bl false, .bl false]) []) rfl ?_
  unfold b__law_classes
  have t_NoFields : xIs efs "NoFields" "NoFields" = some true := by decide +kernel
  have t_NoRow : xIs efs "NoFields" "NoRow" = some false := by decide +kernel
  have t_NoSuch : xIs efs "NoFields" "NoSuch" = some false := by decide +kernel
  have t_NoField : xIs efs "NoFields" "NoField" = some false := by decide +kernel
  have t_NoKind : xIs efs "NoFields" "NoKind" = some false := by decide +kernel
  have t_NoSieve : xIs efs "NoFields" "NoSieve" = some false := by decide +kernel
  have t_NoView : xIs efs "NoFields" "NoView" = some false := by decide +kernel
  have t_NoHead : xIs efs "NoFields" "NoHead" = some false := by decide +kernel
  have t_NoGroups : xIs efs "NoFields" "NoGroups" = some false := by decide +kernel
  have t_NoLine : xIs efs "NoFields" "NoLine" = some false := by decide +kernel
  have t_NoNet : xIs efs "NoFields" "NoNet" = some false := by decide +kernel
  have t_NoVeil : xIs efs "NoFields" "NoVeil" = some false := by decide +kernel
  have t_NoWhole : xIs efs "NoFields" "NoWhole" = some false := by decide +kernel
  simp [t_NoFields, t_NoRow, t_NoSuch, t_NoField, t_NoKind, t_NoSieve, t_NoView, t_NoHead, t_NoGroups, t_NoLine, t_NoNet, t_NoVeil, t_NoWhole]
theorem kinds_1 {a dd : Addr} {f : Str} {d : D} : m__law_classes ⟨"NoRow", some (f, d)⟩ a dd [.exv a dd f d] [] = .ok (.lst [.bl false, .bl true, .bl false, .bl false, .bl false, .bl false, .bl false, .bl false, .bl false, .bl false, .bl false, .bl false, .bl false]) [] := by
  refine fnS_of (P := fun x => x = .ok (.lst [.bl false, .bl true, .bl false, .bl false, .bl false, .bl false, .bl false, .bl false, .bl false, .bl false, .bl false, .bl false, .bl false]) []) rfl ?_
  unfold b__law_classes
  have t_NoFields : xIs efs "NoRow" "NoFields" = some false := by decide +kernel
  have t_NoRow : xIs efs "NoRow" "NoRow" = some true := by decide +kernel
  have t_NoSuch : xIs efs "NoRow" "NoSuch" = some false := by decide +kernel
  have t_NoField : xIs efs "NoRow" "NoField" = some false := by decide +kernel
  have t_NoKind : xIs efs "NoRow" "NoKind" = some false := by decide +kernel
  have t_NoSieve : xIs efs "NoRow" "NoSieve" = some false := by decide +kernel
  have t_NoView : xIs efs "NoRow" "NoView" = some false := by decide +kernel
  have t_NoHead : xIs efs "NoRow" "NoHead" = some false := by decide +kernel
  have t_NoGroups : xIs efs "NoRow" "NoGroups" = some false := by decide +kernel
  have t_NoLine : xIs efs "NoRow" "NoLine" = some false := by decide +kernel
  have t_NoNet : xIs efs "NoRow" "NoNet" = some false := by decide +kernel
  have t_NoVeil : xIs efs "NoRow" "NoVeil" = some false := by decide +kernel
  have t_NoWhole : xIs efs "NoRow" "NoWhole" = some false := by decide +kernel
  simp [t_NoFields, t_NoRow, t_NoSuch, t_NoField, t_NoKind, t_NoSieve, t_NoView, t_NoHead, t_NoGroups, t_NoLine, t_NoNet, t_NoVeil, t_NoWhole]
theorem kinds_2 {a dd : Addr} {f : Str} {d : D} : m__law_classes ⟨"NoSuch", some (f, d)⟩ a dd [.exv a dd f d] [] = .ok (.lst [.bl false, .bl false, .bl true, .bl false, .bl false, .bl false, .bl false, .bl false, .bl false, .bl false, .bl false, .bl false, .bl false]) [] := by
  refine fnS_of (P := fun x => x = .ok (.lst [.bl false, .bl false, .bl true, .bl false, .bl false, .bl false, .bl false, .bl false, .bl false, .bl false, .bl false, .bl false, .bl false]) []) rfl ?_
  unfold b__law_classes
  have t_NoFields : xIs efs "NoSuch" "NoFields" = some false := by decide +kernel
  have t_NoRow : xIs efs "NoSuch" "NoRow" = some false := by decide +kernel
  have t_NoSuch : xIs efs "NoSuch" "NoSuch" = some true := by decide +kernel
  have t_NoField : xIs efs "NoSuch" "NoField" = some false := by decide +kernel
  have t_NoKind : xIs efs "NoSuch" "NoKind" = some false := by decide +kernel
  have t_NoSieve : xIs efs "NoSuch" "NoSieve" = some false := by decide +kernel
  have t_NoView : xIs efs "NoSuch" "NoView" = some false := by decide +kernel
  have t_NoHead : xIs efs "NoSuch" "NoHead" = some false := by decide +kernel
  have t_NoGroups : xIs efs "NoSuch" "NoGroups" = some false := by decide +kernel
  have t_NoLine : xIs efs "NoSuch" "NoLine" = some false := by decide +kernel
  have t_NoNet : xIs efs "NoSuch" "NoNet" = some false := by decide +kernel
  have t_NoVeil : xIs efs "NoSuch" "NoVeil" = some false := by decide +kernel
  have t_NoWhole : xIs efs "NoSuch" "NoWhole" = some false := by decide +kernel
  simp [t_NoFields, t_NoRow, t_NoSuch, t_NoField, t_NoKind, t_NoSieve, t_NoView, t_NoHead, t_NoGroups, t_NoLine, t_NoNet, t_NoVeil, t_NoWhole]
theorem kinds_3 {a dd : Addr} {f : Str} {d : D} : m__law_classes ⟨"NoField", some (f, d)⟩ a dd [.exv a dd f d] [] = .ok (.lst [.bl false, .bl false, .bl false, .bl true, .bl false, .bl false, .bl false, .bl false, .bl false, .bl false, .bl false, .bl false, .bl false]) [] := by
  refine fnS_of (P := fun x => x = .ok (.lst [.bl false, .bl false, .bl false, .bl true, .bl false, .bl false, .bl false, .bl false, .bl false, .bl false, .bl false, .bl false, .bl false]) []) rfl ?_
  unfold b__law_classes
  have t_NoFields : xIs efs "NoField" "NoFields" = some false := by decide +kernel
  have t_NoRow : xIs efs "NoField" "NoRow" = some false := by decide +kernel
  have t_NoSuch : xIs efs "NoField" "NoSuch" = some false := by decide +kernel
  have t_NoField : xIs efs "NoField" "NoField" = some true := by decide +kernel
  have t_NoKind : xIs efs "NoField" "NoKind" = some false := by decide +kernel
  have t_NoSieve : xIs efs "NoField" "NoSieve" = some false := by decide +kernel
  have t_NoView : xIs efs "NoField" "NoView" = some false := by decide +kernel
  have t_NoHead : xIs efs "NoField" "NoHead" = some false := by decide +kernel
  have t_NoGroups : xIs efs "NoField" "NoGroups" = some false := by decide +kernel
  have t_NoLine : xIs efs "NoField" "NoLine" = some false := by decide +kernel
  have t_NoNet : xIs efs "NoField" "NoNet" = some false := by decide +kernel
  have t_NoVeil : xIs efs "NoField" "NoVeil" = some false := by decide +kernel
  have t_NoWhole : xIs efs "NoField" "NoWhole" = some false := by decide +kernel
  simp [t_NoFields, t_NoRow, t_NoSuch, t_NoField, t_NoKind, t_NoSieve, t_NoView, t_NoHead, t_NoGroups, t_NoLine, t_NoNet, t_NoVeil, t_NoWhole]
theorem kinds_4 {a dd : Addr} {f : Str} {d : D} : m__law_classes ⟨"NoKind", some (f, d)⟩ a dd [.exv a dd f d] [] = .ok (.lst [.bl false, .bl false, .bl false, .bl false, .bl true, .bl false, .bl false, .bl false, .bl false, .bl false, .bl false, .bl false, .bl false]) [] := by
  refine fnS_of (P := fun x => x = .ok (.lst [.bl false, .bl false, .bl false, .bl false, .bl true, .bl false, .bl false, .bl false, .bl false, .bl false, .bl false, .bl false, .bl false]) []) rfl ?_
  unfold b__law_classes
  have t_NoFields : xIs efs "NoKind" "NoFields" = some false := by decide +kernel
  have t_NoRow : xIs efs "NoKind" "NoRow" = some false := by decide +kernel
  have t_NoSuch : xIs efs "NoKind" "NoSuch" = some false := by decide +kernel
  have t_NoField : xIs efs "NoKind" "NoField" = some false := by decide +kernel
  have t_NoKind : xIs efs "NoKind" "NoKind" = some true := by decide +kernel
  have t_NoSieve : xIs efs "NoKind" "NoSieve" = some false := by decide +kernel
  have t_NoView : xIs efs "NoKind" "NoView" = some false := by decide +kernel
  have t_NoHead : xIs efs "NoKind" "NoHead" = some false := by decide +kernel
  have t_NoGroups : xIs efs "NoKind" "NoGroups" = some false := by decide +kernel
  have t_NoLine : xIs efs "NoKind" "NoLine" = some false := by decide +kernel
  have t_NoNet : xIs efs "NoKind" "NoNet" = some false := by decide +kernel
  have t_NoVeil : xIs efs "NoKind" "NoVeil" = some false := by decide +kernel
  have t_NoWhole : xIs efs "NoKind" "NoWhole" = some false := by decide +kernel
  simp [t_NoFields, t_NoRow, t_NoSuch, t_NoField, t_NoKind, t_NoSieve, t_NoView, t_NoHead, t_NoGroups, t_NoLine, t_NoNet, t_NoVeil, t_NoWhole]
theorem kinds_5 {a dd : Addr} : m__law_classes ⟨"NoSieve", none⟩ a dd [.raw (.ref a)] [] = .ok (.lst [.bl false, .bl false, .bl false, .bl false, .bl false, .bl true, .bl false, .bl false, .bl false, .bl false, .bl false, .bl false, .bl false]) [] := by
  refine fnS_of (P := fun x => x = .ok (.lst [.bl false, .bl false, .bl false, .bl false, .bl false, .bl true, .bl false, .bl false, .bl false, .bl false, .bl false, .bl false, .bl false]) []) rfl ?_
  unfold b__law_classes
  have t_NoFields : xIs efs "NoSieve" "NoFields" = some false := by decide +kernel
  have t_NoRow : xIs efs "NoSieve" "NoRow" = some false := by decide +kernel
  have t_NoSuch : xIs efs "NoSieve" "NoSuch" = some false := by decide +kernel
  have t_NoField : xIs efs "NoSieve" "NoField" = some false := by decide +kernel
  have t_NoKind : xIs efs "NoSieve" "NoKind" = some false := by decide +kernel
  have t_NoSieve : xIs efs "NoSieve" "NoSieve" = some true := by decide +kernel
  have t_NoView : xIs efs "NoSieve" "NoView" = some false := by decide +kernel
  have t_NoHead : xIs efs "NoSieve" "NoHead" = some false := by decide +kernel
  have t_NoGroups : xIs efs "NoSieve" "NoGroups" = some false := by decide +kernel
  have t_NoLine : xIs efs "NoSieve" "NoLine" = some false := by decide +kernel
  have t_NoNet : xIs efs "NoSieve" "NoNet" = some false := by decide +kernel
  have t_NoVeil : xIs efs "NoSieve" "NoVeil" = some false := by decide +kernel
  have t_NoWhole : xIs efs "NoSieve" "NoWhole" = some false := by decide +kernel
  simp [t_NoFields, t_NoRow, t_NoSuch, t_NoField, t_NoKind, t_NoSieve, t_NoView, t_NoHead, t_NoGroups, t_NoLine, t_NoNet, t_NoVeil, t_NoWhole]
theorem kinds_6 {a dd : Addr} : m__law_classes ⟨"NoView", none⟩ a dd [.raw (.ref a)] [] = .ok (.lst [.bl false, .bl false, .bl false, .bl false, .bl false, .bl false, .bl true, .bl false, .bl false, .bl false, .bl false, .bl false, .bl false]) [] := by
  refine fnS_of (P := fun x => x = .ok (.lst [.bl false, .bl false, .bl false, .bl false, .bl false, .bl false, .bl true, .bl false, .bl false, .bl false, .bl false, .bl false, .bl false]) []) rfl ?_
  unfold b__law_classes
  have t_NoFields : xIs efs "NoView" "NoFields" = some false := by decide +kernel
  have t_NoRow : xIs efs "NoView" "NoRow" = some false := by decide +kernel
  have t_NoSuch : xIs efs "NoView" "NoSuch" = some false := by decide +kernel
  have t_NoField : xIs efs "NoView" "NoField" = some false := by decide +kernel
  have t_NoKind : xIs efs "NoView" "NoKind" = some false := by decide +kernel
  have t_NoSieve : xIs efs "NoView" "NoSieve" = some false := by decide +kernel
  have t_NoView : xIs efs "NoView" "NoView" = some true := by decide +kernel
  have t_NoHead : xIs efs "NoView" "NoHead" = some false := by decide +kernel
  have t_NoGroups : xIs efs "NoView" "NoGroups" = some false := by decide +kernel
  have t_NoLine : xIs efs "NoView" "NoLine" = some false := by decide +kernel
  have t_NoNet : xIs efs "NoView" "NoNet" = some false := by decide +kernel
  have t_NoVeil : xIs efs "NoView" "NoVeil" = some false := by decide +kernel
  have t_NoWhole : xIs efs "NoView" "NoWhole" = some false := by decide +kernel
  simp [t_NoFields, t_NoRow, t_NoSuch, t_NoField, t_NoKind, t_NoSieve, t_NoView, t_NoHead, t_NoGroups, t_NoLine, t_NoNet, t_NoVeil, t_NoWhole]
theorem kinds_7 {a dd : Addr} : m__law_classes ⟨"NoHead", none⟩ a dd [.raw (.ref a)] [] = .ok (.lst [.bl false, .bl false, .bl false, .bl false, .bl false, .bl false, .bl false, .bl true, .bl false, .bl false, .bl false, .bl false, .bl false]) [] := by
  refine fnS_of (P := fun x => x = .ok (.lst [.bl false, .bl false, .bl false, .bl false, .bl false, .bl false, .bl false, .bl true, .bl false, .bl false, .bl false, .bl false, .bl false]) []) rfl ?_
  unfold b__law_classes
  have t_NoFields : xIs efs "NoHead" "NoFields" = some false := by decide +kernel
  have t_NoRow : xIs efs "NoHead" "NoRow" = some false := by decide +kernel
  have t_NoSuch : xIs efs "NoHead" "NoSuch" = some false := by decide +kernel
  have t_NoField : xIs efs "NoHead" "NoField" = some false := by decide +kernel
  have t_NoKind : xIs efs "NoHead" "NoKind" = some false := by decide +kernel
  have t_NoSieve : xIs efs "NoHead" "NoSieve" = some false := by decide +kernel
  have t_NoView : xIs efs "NoHead" "NoView" = some false := by decide +kernel
  have t_NoHead : xIs efs "NoHead" "NoHead" = some true := by decide +kernel
  have t_NoGroups : xIs efs "NoHead" "NoGroups" = some false := by decide +kernel
  have t_NoLine : xIs efs "NoHead" "NoLine" = some false := by decide +kernel
  have t_NoNet : xIs efs "NoHead" "NoNet" = some false := by decide +kernel
  have t_NoVeil : xIs efs "NoHead" "NoVeil" = some false := by decide +kernel
  have t_NoWhole : xIs efs "NoHead" "NoWhole" = some false := by decide +kernel
  simp [t_NoFields, t_NoRow, t_NoSuch, t_NoField, t_NoKind, t_NoSieve, t_NoView, t_NoHead, t_NoGroups, t_NoLine, t_NoNet, t_NoVeil, t_NoWhole]
/-! a deed -/
theorem n_o : (("numbers" : Str) == "own_fields") = false := by decide
theorem n_k : (("numbers" : Str) == "kept") = false := by decide
theorem n_g : (("numbers" : Str) == "given") = false := by decide
theorem p_o : (("put" : Str) == "own_fields") = false := by decide
theorem p_k : (("put" : Str) == "kept") = false := by decide
theorem p_g : (("put" : Str) == "given") = false := by decide
theorem t_o : (("turn" : Str) == "own_fields") = false := by decide
theorem t_k : (("turn" : Str) == "kept") = false := by decide
theorem t_g : (("turn" : Str) == "given") = false := by decide
theorem u_o : (("out" : Str) == "own_fields") = false := by decide
theorem u_k : (("out" : Str) == "kept") = false := by decide
theorem u_g : (("out" : Str) == "given") = false := by decide
section
variable {fs : List Fd} {h : Hv} {a k t : Nat} {kd : List (Key × D)} {g : Int}
/-- a method's call on a sheet -/
theorem meth_at {m : Str} {sem : List D → Hv → VD.R D} {la : LS} {σ : VS} {fa : ES} (s : SheetAt h a k fs kd g) (h1 : (m == ("own_fields" : Str)) = false) (h2 : (m == ("kept" : Str)) = false) (h3 : (m == ("given" : Str)) = false) (ev : fa σ h = .ok (.cell a) h) :
    eMeth "Sheet" m sem fa la σ h = (la σ h).bind fun ds h2 => sem (.cell a :: ds) h2 := by
  rw [eMeth_ap, ev]
  show (match fldsOf h "Sheet" (.cell a) with
    | some fs => if (fs.lookup m).isNone then ((la σ h).bind fun ds h2 => sem (.cell a :: ds) h2) else .stuck
    | none => .stuck) = _
  rw [fld_own s.ob]
  show (if (List.lookup m ([("own_fields", fdsD fs), ("kept", D.cell k), ("given", D.int g)] : List (Str × D))).isNone then ((la σ h).bind fun ds h2 => sem (.cell a :: ds) h2) else .stuck) = _
  rw [if_pos (meth_none h1 h2 h3)]
end
theorem fd_inj {f g : Fd} (e : fdD f = fdD g) : f = g := by
  obtain ⟨n, b⟩ := f
  obtain ⟨m, c⟩ := g
  have e := D.tup.inj e
  have e1 := (List.cons.inj e).1
  have e2 := (List.cons.inj (List.cons.inj e).2).1
  have e1 := sx_inj.mp (D.str.inj e1)
  have k2 : kindS b = kindS c := D.str.inj e2
  have e1 : n = m := e1
  subst e1
  cases b <;> cases c
  · rfl
  · exact absurd (show ("number" : Str) = "word" from k2) (by decide)
  · exact absurd (show ("word" : Str) = "number" from k2) (by decide)
  · rfl
theorem if_k {Q : RS → Prop} {k j : Int} {A B : SS} {σ : VS} {h : Hv} (e : σ[0]? = some (some (.int k))) : Wp Q (sIf (toB (eOp oEq (eVar 0) (eK (.int j)))) A B σ h) = Wp Q ((if k = j then A else B) σ h) := by
  have ev : eVar 0 σ h = .ok (.int k) h := by unfold eVar; rw [e]
  by_cases q : k = j
  · subst q
    simp [e]
  · simp [e, q]
def dueI9 (k : Int) : Nat := if k = 7 then 3 else if k = 8 then 4 else if k = 9 then 7 else k.toNat
def clL (i : Nat) : List D := (List.range 13).map fun j => .bl (decide (j = i))
section
variable {n0 n1 : WT.Tx} {H : Hv} {a kk : Nat} {kd : List (Key × D)} {g : Int}
theorem deed_eq {k m : Int} (w : W2 n0 n1) (s : SheetAt H a kk (fs2 n0 n1) kd g) (hk : 0 ≤ k ∧ k < 10) (hm : 1 ≤ m ∧ m ≤ 10 ^ 9) (hg : getD kd (.inl m) = none) : m__law_deed [.int k, .cell a, fdsD (fs2 n0 n1), .lst [tx n0, tx n1], .int m] H = .ok (.bl true) H := by
  obtain ⟨PP, hPP⟩ : ∃ PP : VD.R D → Prop, PP = fun x => x = .ok (.bl true) H := ⟨_, rfl⟩
  have fin : PP (m__law_deed [.int k, .cell a, fdsD (fs2 n0 n1), .lst [tx n0, tx n1], .int m] H) := by
    refine fnS_at (P := PP) rfl ?_
    unfold b__law_deed
    have kx : ∀ x a dd d d' r h, bareX d = some d' → m__law_classes x a dd [d'] [] = .ok r [] → callX (m__law_classes x a dd) [d] h = .ok r h := fun x a dd d d' r h h1 h2 => by
      show (match bareX d with
        | some d' => (match m__law_classes x a dd [d'] [] with
          | .ok r [] => VD.R.ok r h
          | _ => .stuck)
        | none => .stuck) = _
      rw [h1]
      simp only [h2]
    obtain ⟨due, hdue⟩ : ∃ due : Nat, dueI9 k = due := ⟨_, rfl⟩
    obtain ⟨B, hB⟩ : ∃ B : SS, B = (sSeq (sSet 8 (eOp oIx (eV (lLst (aCons (eK (.int 0)) (aCons (eK (.int 1)) (aCons (eK (.int 2)) (aCons (eK (.int 3)) (aCons (eK (.int 4)) (aCons (eK (.int 5)) (aCons (eK (.int 6)) (aCons (eK (.int 3)) (aCons (eK (.int 4)) (aCons (eK (.int 7)) (aNil))))))))))))) (eVar 0))) (sRet (eAndV (eOp oEq (eVar 5) (eK (.str "refused"))) (eOp oEq (eVar 6) (eV (c__law_deed_1)))))) := ⟨_, rfl⟩
    rw [← hB]
    have rest : Wp (Sq (Rh PP H.length) B) (.next [some (.int k), some (.cell a), some (fdsD (fs2 n0 n1)), some (.lst [tx n0, tx n1]), some (.int m), some (.str "refused"), some (.lst (clL due)), none, none, none] H) := by
      rw [hB]
      have d13 : (clL due).length = 13 := by unfold clL; simp
      have ec : c__law_deed_1 [some (.int k), some (.cell a), some (fdsD (fs2 n0 n1)), some (.lst [tx n0, tx n1]), some (.int m), some (.str "refused"), some (.lst (clL due)), none, some (.int due), none] H = .ok (clL due) H := by
        unfold c__law_deed_1 clL
        refine lLc_map (fun j : Nat => D.int (0 + (j : Int))) _ (List.range 13) (chk := always) (h0 := H) (show iR1 _ _ _ = .ok (rgD 0 13, always) H by simp) rfl (by decide) fun j hj => ⟨_, rfl, ?_⟩
        by_cases q : j = due
        · simp [q]
        · have q' : ¬ (j : Int) = due := by omega
          simp [q, q']
      have ix : L2.atI [D.int 0, D.int 1, D.int 2, D.int 3, D.int 4, D.int 5, D.int 6, D.int 3, D.int 4, D.int 7] k = some (.int due) := by
        rw [← hdue]
        obtain rfl | rfl | rfl | rfl | rfl | rfl | rfl | rfl | rfl | rfl : k = 0 ∨ k = 1 ∨ k = 2 ∨ k = 3 ∨ k = 4 ∨ k = 5 ∨ k = 6 ∨ k = 7 ∨ k = 8 ∨ k = 9 := by omega
        all_goals rfl
      have eqc : ∀ h, eqD h (.lst (clL due)) (.lst (clL due)) = some true := fun h => by
        have tp : toPy h 12 (.lst (clL due)) = some (.list ((List.range 13).map fun j => .bool (decide (j = due)))) := by
          unfold clL
          show (optAll (toPy h 11) ((List.range 13).map fun j => D.bl (decide (j = due)))).map PyData.list = _
          rw [optAll_map (g := toPy h 11) (e := fun j : Nat => D.bl (decide (j = due))) (e' := fun j : Nat => PyData.bool (decide (j = due))) fun _ _ => rfl]; rfl
        exact eqD_same tp tp
      simp [ix, ec, eqc]
      rw [hPP, exit_all s.st rfl rfl]
    have fin : ∀ (c : Str) (p : Option (Str × D)) (i : Nat), dueI9 k = i → tabE efs c "CrossError" = some true → xIsT efs c "ValueError" = some true → (∀ a dd h, callX (m__law_classes ⟨c, p⟩ a dd) [exD a dd p] h = .ok (.lst (clL i)) h) →
        Wp (Sq (Rh PP H.length) B) (tryR (tabE efs) "CrossError" 7 h__law_deed_1 ⟨c, p⟩ [some (.int k), some (.cell a), some (fdsD (fs2 n0 n1)), some (.lst [tx n0, tx n1]), some (.int m), some (.str "taken"), some (.lst []), none, none, none] H) := fun c p i h1 t t2 h3 => by
      rw [hdue] at h1
      rw [← h1] at h3
      have ie : ∀ a dd, isEx a dd p (exD a dd p) = true := fun a dd => by
        cases p with
        | none => show decide (a = a) = true; simp
        | some q => show (decide (a = a) && decide (dd = dd)) = true; simp
      refine Wp_tryR (.next [some (.int k), some (.cell a), some (fdsD (fs2 n0 n1)), some (.lst [tx n0, tx n1]), some (.int m), some (.str "refused"), some (.lst (clL due)), none, none, none] H) t (fun a dd => by simp [h__law_deed_1, h3, t2, ie]) ?_
      exact rest
    obtain ⟨C, hC⟩ : ∃ C : SS, C = (sIf (toB (eOp oEq (eVar 0) (eK (.int 0)))) (sDrop (eCa (Cm.f .P m_asked_fields) (aCons (eV (lLst (aCons (eTup (aCons (eOp oIx (eVar 3) (eK (.int 0))) (aCons (eK (.str "word")) (aNil)))) (aCons (eTup (aCons (eOp oIx (eVar 3) (eK (.int 0))) (aCons (eK (.str "number")) (aNil)))) (aNil))))) (aNil)))) (sIf (toB (eOp oEq (eVar 0) (eK (.int 1)))) (sDrop (eMeth "Sheet" "put" (Cm.f .M m_Sheet_put) (eVar 1) (aCons (eV (lLst (aCons (eK (.str "a")) (aCons (eK (.str "a")) (aNil))))) (aNil)))) (sIf (toB (eOp oEq (eVar 0) (eK (.int 2)))) (sDrop (eMeth "Sheet" "row" (Cm.f .M m_Sheet_row) (eVar 1) (aCons (eVar 4) (aNil)))) (sIf (toB (eOp oEq (eVar 0) (eK (.int 3)))) (sDrop (eCa (callQ (m_asked_sieve 16)) (aCons (eVar 2) (aCons (eTup (aCons (eK (.str "not")) (aCons (eTup (aCons (eK (.str "lacks")) (aCons (eOp oAdd (eOp oIx (eVar 3) (eK (.int 0))) (eK (.str "x"))) (aNil)))) (aNil)))) (aNil))))) (sIf (toB (eOp oEq (eVar 0) (eK (.int 4)))) (sDrop (eCa (callQ (m_asked_sieve 16)) (aCons (eVar 2) (aCons (eTup (aCons (eK (.str "over")) (aCons (eOp oIx (eVar 3) (eK (.int 0))) (aCons (eVar 4) (aNil))))) (aNil))))) (sIf (toB (eOp oEq (eVar 0) (eK (.int 5)))) (sDrop (eCa (callQ m_read_sieve) (aCons (eVar 2) (aCons (eOp oAdd (eOp oIx (eVar 3) (eK (.int 0))) (eK (.str "?&"))) (aNil))))) (sIf (toB (eOp oEq (eVar 0) (eK (.int 6)))) (sDrop (eCa (Cm.f .P m_asked_view) (aCons (eVar 2) (aCons (eTup (aCons (eTup (aCons (eOp oIx (eVar 3) (eK (.int 0))) (aNil))) (aCons (eTup (aCons (eOp oIx (eVar 3) (eK (.int 1))) (aNil))) (aCons (eTup (aNil)) (aNil))))) (aNil))))) (sIf (toB (eOp oEq (eVar 0) (eK (.int 7)))) (sDrop (eCa (Cm.f .P m_asked_view) (aCons (eVar 2) (aCons (eTup (aCons (eTup (aCons (eOp oAdd (eOp oIx (eVar 3) (eK (.int 0))) (eK (.str "x"))) (aNil))) (aCons (eTup (aNil)) (aCons (eTup (aCons (eTup (aCons (eK (.str "count")) (aNil))) (aNil))) (aNil))))) (aNil))))) (sIf (toB (eOp oEq (eVar 0) (eK (.int 8)))) (sDrop (eCa (Cm.f .P m_asked_view) (aCons (eVar 2) (aCons (eTup (aCons (eTup (aNil)) (aCons (eTup (aNil)) (aCons (eTup (aCons (eTup (aCons (eK (.str "sum")) (aCons (eOp oIx (eVar 3) (eK (.int 0))) (aNil)))) (aNil))) (aNil))))) (aNil))))) (sDrop (eCa (Cm.f .P m_asked_path) (aCons (eVar 2) (aCons (eTup (aCons (eOp oIx (eVar 3) (eK (.int 1))) (aNil))) (aCons (eTup (aCons (eK (.str "a")) (aNil))) (aNil))))))))))))))) := ⟨_, rfl⟩
    rw [← hC]
    have go : Wp (VD.Ty (Sq (Rh PP H.length) B) (tabE efs) "CrossError" 7 h__law_deed_1) (C [some (.int k), some (.cell a), some (fdsD (fs2 n0 n1)), some (.lst [tx n0, tx n1]), some (.int m), some (.str "taken"), some (.lst []), none, none, none] H) := by
      rw [hC]
      have ap : ∀ h, oAdd (tx n0) (.str "?&") h = .ok (tx (n0 ++ [63, 38])) h := fun h => by
        rw [s_end]
        exact oAdd_tx (by have := w.ok0.2.1; simp; omega)
      have apx : ∀ h, oAdd (tx n0) (.str "x") h = .ok (tx (n0 ++ [120])) h := fun h => by
        rw [show ("x" : Str) = sx [120] from by decide +kernel]
        exact oAdd_tx (by have := w.ok0.2.1; simp; omega)
      clear rest hB hC hdue
      obtain rfl | rfl | rfl | rfl | rfl | rfl | rfl | rfl | rfl | rfl : k = 0 ∨ k = 1 ∨ k = 2 ∨ k = 3 ∨ k = 4 ∨ k = 5 ∨ k = 6 ∨ k = 7 ∨ k = 8 ∨ k = 9 := by omega
      · rw [if_k rfl, if_pos rfl]
        have e : ∀ h, callP m_asked_fields [.lst [.tup [tx n0, .str "word"], .tup [tx n0, .str "number"]]] h = .exc ⟨"NoFields", none⟩ h := fun h => by
          refine cX ?_ (by simp [frz_tx]) h
          rw [asked_same]
          have l0 := w.ok0.2.1
          refine (asked_fields_eq (ds := [fdD (n0, true), fdD (n0, false)]) (fun d hd => ?_) (by simp)).2 ?_
          · rcases List.mem_cons.mp hd with rfl | hd
            · exact ⟨_, ft_fd (f := (n0, true)) (by show n0.length ≤ 1000; omega)⟩
            · rw [List.mem_singleton.mp hd]
              exact ⟨_, ft_fd (f := (n0, false)) (by show n0.length ≤ 1000; omega)⟩
          · rintro ⟨fs, o, e⟩
            match fs, o, e with
            | [f, g], o, e =>
              have e1 := fd_inj (List.cons.inj e).1
              have e2 := fd_inj (List.cons.inj (List.cons.inj e).2).1
              subst e1 e2
              exact absurd o.nd (by simp)
            | [], _, e => cases e
            | [_], _, e => exact absurd (congrArg List.length e) (by simp)
            | _ :: _ :: _ :: _, _, e => exact absurd (congrArg List.length e) (by simp)
        simp [e]
        exact fin _ _ 0 rfl (by decide +kernel) (by decide +kernel) (fun a dd h => kx _ _ _ _ _ _ _ rfl kinds_0)
      · rw [if_k rfl, if_neg (by decide)]
        rw [if_k rfl, if_pos rfl]
        have sa : ("a" : Str) = sx [97] := by decide +kernel
        have hl : (fs2 n0 n1).length ≤ 100 := by show 2 ≤ 100; decide
        have tw : PV.m_is_value [.str (kindS true), tx [97]] [] = .ok (.bl true) [] := (PV.value_eq (PV.th_text (cs := [97]) (by decide))).1
        have tn : PV.m_is_value [.str (kindS false), tx [97]] [] = .ok (.bl false) [] := (PV.value_eq (PV.th_text (cs := [97]) (by decide))).2
        have m1 := meth_at (m := "put") (sem := m_Sheet_put) (la := aCons (eV (lLst (aCons (eK (.str "a")) (aCons (eK (.str "a")) (aNil))))) aNil) (σ := [some (.int 1), some (.cell a), some (fdsD (fs2 n0 n1)), some (.lst [tx n0, tx n1]), some (.int m), some (.str "taken"), some (.lst []), none, none, none]) (fa := eVar 1) s p_o p_k p_g rfl
        have e := put_bad (d := .lst [tx [97], tx [97]]) (n := 1) (ok := fun i => decide (i = 0)) s hl (rowLike_lst (td := [tx [97], tx [97]]) rfl) rfl (by decide) (fun i f x hi hx => by
          match i, hi, hx with
          | 0, hi, hx => cases hi; cases hx; exact ⟨rfl, tw⟩
          | 1, hi, hx => cases hi; cases hx; exact ⟨rfl, tn⟩
          | i + 2, hi, hx => cases hi) (by rfl)
        rw [← put_same] at e
        rw [sa] at m1
        simp [sa, m1, e, -eMeth_ap]
        exact fin "NoRow" (some ("place", .int ((1 : Nat) : Int))) 1 rfl (by decide +kernel) (by decide +kernel) (fun a dd h => kx _ _ _ _ _ _ _ rfl kinds_1)
      · rw [if_k rfl, if_neg (by decide)]
        rw [if_k rfl, if_neg (by decide)]
        rw [if_k rfl, if_pos rfl]
        have m1 := meth_at (m := "row") (sem := m_Sheet_row) (la := aCons (eVar 4) aNil) (σ := [some (.int 2), some (.cell a), some (fdsD (fs2 n0 n1)), some (.lst [tx n0, tx n1]), some (.int m), some (.str "taken"), some (.lst []), none, none, none]) (fa := eVar 1) s r_o r_k r_g rfl
        have e := row_no s hg
        rw [← row_same] at e
        simp [m1, e, -eMeth_ap]
        exact fin "NoSuch" (some ("number", .int m)) 2 rfl (by decide +kernel) (by decide +kernel) (fun a dd h => kx _ _ _ _ _ _ _ rfl kinds_2)
      · rw [if_k rfl, if_neg (by decide)]
        rw [if_k rfl, if_neg (by decide)]
        rw [if_k rfl, if_neg (by decide)]
        rw [if_k rfl, if_pos rfl]
        have e := PT.cQdue (PT.asked_eq (fs := fs2 n0 n1) (by show 2 ≤ 100; decide) 16 (.not (.lacks (n0 ++ [120]))) (by simp [dep]) (by show (n0 ++ [120]).length ≤ 1000; have := w.ok0.2.1; simp; omega) trivial) (by simp [noCL, noC_fds, noC_sv])
        have du : PT.due (fs2 n0 n1) (.not (.lacks (n0 ++ [120]))) = .field (n0 ++ [120]) := by
          simp only [PT.due]
          unfold PT.dueP
          rw [w.px]; rfl
        rw [du] at e
        have e : ∀ h, callQ (m_asked_sieve 16) [fdsD (fs2 n0 n1), .tup [.str "not", .tup [.str "lacks", tx (n0 ++ [120])]]] h = .exc ⟨"NoField", some ("name", tx (n0 ++ [120]))⟩ h := fun h => by rw [sieve_same]; exact e h
        generalize m_asked_sieve 16 = AS at e ⊢
        simp [apx, e]
        exact fin "NoField" (some ("name", tx (n0 ++ [120]))) 3 rfl (by decide +kernel) (by decide +kernel) (fun a dd h => kx _ _ _ _ _ _ _ rfl kinds_3)
      · rw [if_k rfl, if_neg (by decide)]
        rw [if_k rfl, if_neg (by decide)]
        rw [if_k rfl, if_neg (by decide)]
        rw [if_k rfl, if_neg (by decide)]
        rw [if_k rfl, if_pos rfl]
        have e := PT.cQdue (PT.asked_eq (fs := fs2 n0 n1) (by show 2 ≤ 100; decide) 16 (.over n0 (.nm m)) (by simp [dep]) (by
          refine ⟨by have := w.ok0.2.1; omega, ?_⟩
          show -(10 ^ 60) < m ∧ m < 10 ^ 60
          omega) trivial) (by simp [noCL, noC_fds, noC_sv])
        have du : PT.due (fs2 n0 n1) (.over n0 (.nm m)) = .kind n0 := by
          simp only [PT.due]
          unfold PT.dueP
          rw [W2.p0]; rfl
        rw [du] at e
        have e : ∀ h, callQ (m_asked_sieve 16) [fdsD (fs2 n0 n1), .tup [.str "over", tx n0, .int m]] h = .exc ⟨"NoKind", some ("name", tx n0)⟩ h := fun h => by rw [sieve_same]; exact e h
        generalize m_asked_sieve 16 = AS at e ⊢
        simp [e]
        exact fin "NoKind" (some ("name", tx n0)) 4 rfl (by decide +kernel) (by decide +kernel) (fun a dd h => kx _ _ _ _ _ _ _ rfl kinds_4)
      · rw [if_k rfl, if_neg (by decide)]
        rw [if_k rfl, if_neg (by decide)]
        rw [if_k rfl, if_neg (by decide)]
        rw [if_k rfl, if_neg (by decide)]
        rw [if_k rfl, if_neg (by decide)]
        rw [if_k rfl, if_pos rfl]
        have e := cQX (read_no (fs := fs2 n0 n1) w.ok0) (by simp [noCL, noC, noC_fds])
        simp [ap, e]
        exact fin _ _ 5 rfl (by decide +kernel) (by decide +kernel) (fun a dd h => kx _ _ _ _ _ _ _ rfl kinds_5)
      · rw [if_k rfl, if_neg (by decide)]
        rw [if_k rfl, if_neg (by decide)]
        rw [if_k rfl, if_neg (by decide)]
        rw [if_k rfl, if_neg (by decide)]
        rw [if_k rfl, if_neg (by decide)]
        rw [if_k rfl, if_neg (by decide)]
        rw [if_k rfl, if_pos rfl]
        have e := WV.cPview (WV.asked_view_eq (fs := fs2 n0 n1) (v := ⟨[n0], [n1], []⟩) (by show 2 ≤ 100; decide) (by simp) (by simp) (by simp)) (by simp [frz_fds, WV.frz_view])
        have du : WV.dueV (fs2 n0 n1) ⟨[n0], [n1], []⟩ = none := by
          unfold WV.dueV; rw [if_neg (fun z => absurd z.2.2.2.1 (by simp))]
        rw [du] at e
        have e : ∀ h, callP m_asked_view [fdsD (fs2 n0 n1), .tup [.tup [tx n0], .tup [tx n1], .tup []]] h = .exc ⟨"NoView", none⟩ h := fun h => by rw [view_same]; exact e h
        simp [e]
        exact fin _ _ 6 rfl (by decide +kernel) (by decide +kernel) (fun a dd h => kx _ _ _ _ _ _ _ rfl kinds_6)
      · rw [if_k rfl, if_neg (by decide)]
        rw [if_k rfl, if_neg (by decide)]
        rw [if_k rfl, if_neg (by decide)]
        rw [if_k rfl, if_neg (by decide)]
        rw [if_k rfl, if_neg (by decide)]
        rw [if_k rfl, if_neg (by decide)]
        rw [if_k rfl, if_neg (by decide)]
        rw [if_k rfl, if_pos rfl]
        have e := WV.cPview (WV.asked_view_eq (fs := fs2 n0 n1) (v := ⟨[n0 ++ [120]], [], [.count]⟩) (by show 2 ≤ 100; decide) (by simp) (by simp) (by simp)) (by simp [frz_fds, WV.frz_view])
        have du : WV.dueV (fs2 n0 n1) ⟨[n0 ++ [120]], [], [.count]⟩ = some (.field (n0 ++ [120])) := by
          unfold WV.dueV; rw [if_pos ⟨by simp, by simp, by simp [WV.Vw.names], by simp, by simp⟩]; simp [WV.Vw.names, WV.dueNm, w.px, WV.firstD]
        rw [du] at e
        have e : ∀ h, callP m_asked_view [fdsD (fs2 n0 n1), .tup [.tup [tx (n0 ++ [120])], .tup [], .tup [.tup [.str "count"]]]] h = .exc ⟨"NoField", some ("name", tx (n0 ++ [120]))⟩ h := fun h => by rw [view_same]; exact e h
        simp [apx, e]
        exact fin "NoField" (some ("name", tx (n0 ++ [120]))) 3 rfl (by decide +kernel) (by decide +kernel) (fun a dd h => kx _ _ _ _ _ _ _ rfl kinds_3)
      · rw [if_k rfl, if_neg (by decide)]
        rw [if_k rfl, if_neg (by decide)]
        rw [if_k rfl, if_neg (by decide)]
        rw [if_k rfl, if_neg (by decide)]
        rw [if_k rfl, if_neg (by decide)]
        rw [if_k rfl, if_neg (by decide)]
        rw [if_k rfl, if_neg (by decide)]
        rw [if_k rfl, if_neg (by decide)]
        rw [if_k rfl, if_pos rfl]
        have e := WV.cPview (WV.asked_view_eq (fs := fs2 n0 n1) (v := ⟨[], [], [.sum n0]⟩) (by show 2 ≤ 100; decide) (by simp) (by simp) (by simp)) (by simp [frz_fds, WV.frz_view])
        have du : WV.dueV (fs2 n0 n1) ⟨[], [], [.sum n0]⟩ = some (.kind n0) := by
          unfold WV.dueV; rw [if_pos ⟨by simp, by simp, by simp [WV.Vw.names], by simp, by simp⟩]; have f0 : (fs2 n0 n1)[0]? = some (n0, true) := rfl; simp [WV.Vw.names, WV.dueFg, PT.dueP, W2.p0, f0, WV.firstD]
        rw [du] at e
        have e : ∀ h, callP m_asked_view [fdsD (fs2 n0 n1), .tup [.tup [], .tup [], .tup [.tup [.str "sum", tx n0]]]] h = .exc ⟨"NoKind", some ("name", tx n0)⟩ h := fun h => by rw [view_same]; exact e h
        simp [e]
        exact fin "NoKind" (some ("name", tx n0)) 4 rfl (by decide +kernel) (by decide +kernel) (fun a dd h => kx _ _ _ _ _ _ _ rfl kinds_4)
      · rw [if_k rfl, if_neg (by decide)]
        rw [if_k rfl, if_neg (by decide)]
        rw [if_k rfl, if_neg (by decide)]
        rw [if_k rfl, if_neg (by decide)]
        rw [if_k rfl, if_neg (by decide)]
        rw [if_k rfl, if_neg (by decide)]
        rw [if_k rfl, if_neg (by decide)]
        rw [if_k rfl, if_neg (by decide)]
        rw [if_k rfl, if_neg (by decide)]
        skip
        have e : ∀ h, callP m_asked_path [fdsD (fs2 n0 n1), .tup [tx n1], .tup [.str "a"]] h = .exc ⟨"NoHead", none⟩ h := cX (path_no w) (by simp [frz_fds, frz_tx])
        simp [e]
        exact fin _ _ 7 rfl (by decide +kernel) (by decide +kernel) (fun a dd h => kx _ _ _ _ _ _ _ rfl kinds_7)
    simp
    exact go
  rw [hPP] at fin
  exact fin
end
/-! rows by numbers -/
theorem frz_valL {n0 n : Nat} {h : Hv} (r : List Val) : optAll (frz n0 h (n + 1)) (r.map valD) = some (r.map valD) := optAll_map fun v _ => frz_val v
theorem own_vals {h : Hv} {f b : Nat} : ∀ r : List Val, ownA (ownD h (f + 1)) b (r.map valD) = some (r.map valD, [], [])
  | [] => rfl
  | v :: r => by
    rw [List.map_cons]
    have e : ownD h (f + 1) b (valD v) = some (valD v, [], []) := by cases v <;> rfl
    simp [ownA, e, own_vals r]
structure Kd (fs : List Fd) (kd : List (Key × D)) (g : Int) : Prop where
  ks : ∃ ns : List Int, kd.map (·.1) = ns.map .inl ∧ ns.Pairwise (· < ·) ∧ ∀ n ∈ ns, n < g
  vs : ∀ p ∈ kd, ∃ r, RowOk fs r ∧ p.2 = rowD r
theorem dstb_row (r : List Val) : DStb (rowD r) := fun n0 h => frz_row r
section
variable {fs : List Fd} {kd : List (Key × D)} {g i : Int} {v : D} {r : List Val}
theorem Kd.st (k : Kd fs kd g) : ∀ p ∈ kd, DStb p.2 := fun p hp => by
  obtain ⟨r, _, e⟩ := k.vs p hp
  rw [e]; exact dstb_row r
theorem Kd.get (k : Kd fs kd g) {x : Key} (e : getD kd x = some v) : ∃ r, RowOk fs r ∧ v = rowD r := by
  unfold getD at e
  obtain ⟨p, h1, rfl⟩ := Option.map_eq_some_iff.mp e
  exact k.vs p (List.mem_of_find?_eq_some h1)
theorem Kd.nil (g : Int) : Kd fs [] g := ⟨⟨[], rfl, List.Pairwise.nil, fun n h => by cases h⟩, fun p h => by cases h⟩
theorem Kd.new (k : Kd fs kd g) (ro : RowOk fs r) : putD kd (.inl g) (rowD r) = kd ++ [(.inl g, rowD r)] ∧ Kd fs (kd ++ [(.inl g, rowD r)]) (g + 1) := by
  obtain ⟨⟨ns, e1, e2, e3⟩, vs⟩ := k
  refine ⟨WS.put_new fun p hp z => ?_, ⟨ns ++ [g], by rw [List.map_append, List.map_append, e1]; rfl, ?_, fun n hn => ?_⟩, fun p hp => ?_⟩
  · have : p.1 ∈ ns.map Sum.inl := by rw [← e1]; exact List.mem_map.mpr ⟨p, hp, rfl⟩
    rw [z] at this
    obtain ⟨n, hn, q⟩ := List.mem_map.mp this
    have := Sum.inl.inj q
    have := e3 n hn
    omega
  · rw [List.pairwise_append]
    refine ⟨e2, by simp, fun a ha b hb => ?_⟩
    rw [List.mem_singleton.mp hb]
    exact e3 a ha
  · rcases List.mem_append.mp hn with z | z
    · have := e3 n z; omega
    · rw [List.mem_singleton.mp z]; omega
  · rcases List.mem_append.mp hp with z | z
    · exact vs p z
    · rw [List.mem_singleton.mp z]; exact ⟨r, ro, rfl⟩
theorem Kd.put (k : Kd fs kd g) (ro : RowOk fs r) (e : getD kd (.inl i) = some v) : Kd fs (putD kd (.inl i) (rowD r)) g ∧ (putD kd (.inl i) (rowD r)).length = kd.length := by
  have a : (kd.any fun p => decide (p.1 = (.inl i : Key))) = true := by
    unfold getD at e
    obtain ⟨p, h1, _⟩ := Option.map_eq_some_iff.mp e
    exact List.any_eq_true.mpr ⟨p, List.mem_of_find?_eq_some h1, List.find?_some (p := fun p : Key × D => decide (p.1 = (.inl i : Key))) h1⟩
  have pe : putD kd (.inl i) (rowD r) = kd.map fun p => if p.1 = (.inl i : Key) then (p.1, rowD r) else p := by
    unfold putD
    rw [if_pos a]
  rw [pe]
  obtain ⟨⟨ns, e1, e2, e3⟩, vs⟩ := k
  refine ⟨⟨⟨ns, ?_, e2, e3⟩, fun p hp => ?_⟩, List.length_map ..⟩
  · rw [← e1, List.map_map]
    refine List.map_congr_left fun p _ => ?_
    show (if p.1 = (.inl i : Key) then (p.1, rowD r) else p).1 = p.1
    split <;> rfl
  · obtain ⟨q, hq, rfl⟩ := List.mem_map.mp hp
    split
    · exact ⟨r, ro, rfl⟩
    · exact vs q hq
theorem Kd.drop (k : Kd fs kd g) : Kd fs (dropD kd (.inl i)) g ∧ (dropD kd (.inl i)).length ≤ kd.length := by
  obtain ⟨⟨ns, e1, e2, e3⟩, vs⟩ := k
  refine ⟨⟨⟨ns.filter fun n => decide (n ≠ i), ?_, e2.filter _, fun n hn => e3 n (List.mem_filter.mp hn).1⟩, fun p hp => ?_⟩, List.length_filter_le _ _⟩
  · unfold dropD
    clear e2 e3 vs
    induction kd generalizing ns with
    | nil =>
      cases ns with
      | nil => rfl
      | cons n ns => cases e1
    | cons p kd ih =>
      cases ns with
      | nil => cases e1
      | cons n ns =>
        rw [List.map_cons, List.map_cons] at e1
        injection e1 with h1 h2
        have h1 : p.1 = Sum.inl n := h1
        by_cases q : n = i
        · rw [List.filter_cons_of_neg (by simp [h1, q]), List.filter_cons_of_neg (by simp [q])]
          exact ih ns h2
        · rw [List.filter_cons_of_pos (by simp [h1, q]), List.filter_cons_of_pos (by simp [q]), List.map_cons, List.map_cons, ih ns h2, h1]
  · unfold dropD at hp
    exact vs p (List.mem_filter.mp hp).1
theorem sort_kd {n : Nat} {H : Hv} (k : Kd fs kd g) (e : H[n]? = some (.dK kd)) (hl : kd.length < 64) : ∃ ns : List Int, bSortDI [.cell n] H = .ok (ns.map .int) H ∧ kd.map (·.1) = ns.map .inl ∧ ns.length = kd.length := by
  obtain ⟨⟨ns, e1, e2, e3⟩, vs⟩ := k
  have ln : ns.length = kd.length := by
    have := congrArg List.length e1
    rw [List.length_map, List.length_map] at this
    exact this.symm
  refine ⟨ns, ?_, e1, ln⟩
  have kv : kvOf H (.cell n) = some kd := by
    show (match H[n]? with
      | some (.dK kvs) => some kvs
      | some (.dF kvs) => some kvs
      | _ => none) = _
    rw [e]
  have ik : optAll intK (kd.map (·.1)) = some ns := by
    rw [e1]
    have := optAll_map (g := intK) (e := fun n : Int => (Sum.inl n : Key)) (e' := id) (xs := ns) fun _ _ => rfl
    rw [List.map_id] at this
    exact this
  have so : sortI ns = ns := sort_one (sortI_perm _) (sortI_rises _) (e2.imp fun h => by omega)
  show (match (kvOf H (.cell n)).bind fun kd => optAll intK (kd.map (·.1)) with
    | some ns => if ns.length < 64 then VD.R.ok ((sortI ns).map D.int) H else .stuck
    | none => .stuck) = _
  rw [kv, Option.bind_some, ik]
  simp only [ln, if_pos hl, so]
end
section
variable {fs : List Fd} {h : Hv} {a k t : Nat} {kd : List (Key × D)} {g : Int}
theorem exit_app {h' e : Hv} {d d' : D} {n : Nat} (hs : ∀ c ∈ h', Stb h'.length c) (hd : frz h'.length (h' ++ e) 12 d = some d') (hn : n = h'.length) : exitD n d (h' ++ e) = .ok d' h' := by
  subst hn
  unfold exitD
  rw [List.take_left, stb_all hs, hd]
  simp only
  rw [if_pos (by rw [List.length_append]; omega)]
theorem numbers_eq (s : SheetAt h a k fs kd g) (kt : Kd fs kd g) (hl : kd.length < 64) : ∃ ns : List Int, m_Sheet_numbers [.cell a] h = .ok (.lst (ns.map .int)) h ∧ kd.map (·.1) = ns.map .inl ∧ ns.length = kd.length := by
  obtain ⟨ns, e1, e2, e3⟩ := sort_kd kt s.di hl
  refine ⟨ns, ?_, e2, e3⟩
  refine fnS_at (P := fun x => x = .ok (.lst (ns.map .int)) h) rfl ?_
  unfold b_Sheet_numbers
  have fl := fld_own s.ob
  have lk := lk_kept (fs := fs) (k := k) (g := g)
  simp [fl, lk, e1, -fldsOf_cell]
  have fz : frz h.length h 12 (.lst (ns.map .int)) = some (.lst (ns.map .int)) := by
    rw [frz_lst, optAll_map (g := frz h.length h 11) (e := fun i : Int => D.int i) (e' := fun i : Int => D.int i) fun _ _ => rfl]; rfl
  exact exit_all s.st fz rfl
theorem toPy_row (r : List Val) : ∃ p, ∀ h : Hv, toPy h 12 (rowD r) = some p := by
  let pv : Val → PyData := fun v => match v with
    | .no => .none
    | .wd cs => .str (sx cs)
    | .nm i => .int i
  refine ⟨.tuple (r.map pv), fun h => ?_⟩
  show (optAll (toPy h 11) (r.map valD)).map PyData.tuple = _
  rw [optAll_map (g := toPy h 11) (e := valD) (e' := pv) fun v _ => by cases v <;> rfl]; rfl
theorem eq_row (r : List Val) (h : Hv) : eqD h (rowD r) (rowD r) = some true := by
  obtain ⟨p, hp⟩ := toPy_row r
  exact eqD_same (hp h) (hp h)
end
theorem vt_val {b : Bool} {v : Val} (h : ValOk b v) : VT (valD v) b true := by
  cases v with
  | no => exact ⟨rfl, PV.value_non⟩
  | wd cs =>
    obtain ⟨rfl, h⟩ := h
    have x := PV.value_eq (PV.th_text (cs := cs) (by have := h.2.1; omega))
    rw [PT.okW_word h] at x
    exact ⟨rfl, x.1⟩
  | nm i =>
    obtain ⟨rfl, h⟩ := h
    have x := PV.value_eq (PV.th_int (i := i))
    have k : PV.okN i = true := by unfold PV.okN; exact decide_eq_true (by have := h.1; have := h.2; split <;> omega)
    rw [k] at x
    exact ⟨rfl, x.2⟩
theorem vts {r : List Val} (ro : RowOk fs r) : ∀ (i : Nat) (f : Fd) (x : D), fs[i]? = some f → (r.map valD)[i]? = some x → VT x f.2 true := fun i f x hi hx => by
  rw [List.getElem?_map] at hx
  obtain ⟨v, hv, rfl⟩ := Option.map_eq_some_iff.mp hx
  exact vt_val (ro.at_ i f v hi hv)
theorem due_val {r : List Val} (ro : RowOk fs r) : dueI fs (r.map valD) (fun _ => true) = none := by
  unfold dueI
  have lr := ro.len
  rw [badAt_none fun j hj => by
    rw [List.length_map] at hj
    rw [decide_eq_false (by omega)]; rfl]
  simp only [List.length_map, if_neg (show ¬ r.length < fs.length by omega)]
theorem scal_val (r : List Val) : isScalL (r.map valD) = true := by
  induction r with
  | nil => rfl
  | cons v r ih => rw [List.map_cons, isScalL, ih]; cases v <;> rfl
/-! the law -/
theorem shL_fds (n : Nat) : ∀ fs : List Fd, shL n (fs.map fdD) = fs.map fdD
  | [] => rfl
  | f :: fs => by
    rw [List.map_cons]
    show fdD f :: shL n (fs.map fdD) = _
    rw [shL_fds n fs]
theorem init_new {fs : List Fd} (o : FdsOk fs) : m_Sheet___init__ [.cell 0, fdsD fs] [.ins "Sheet" []] = .ok .non [sheetI fs 1 0, .dK []] := by
  refine fnI_of (P := fun x => x = .ok .non [sheetI fs 1 0, .dK []]) rfl ?_
  unfold b_Sheet___init__
  have c := callB_ok (sem := m_asked_fields) (h := [Cell.ins "Sheet" []]) (ds := [fdsD fs]) (ds' := [fdsD fs]) (by simp [frz_fds]) (by rw [asked_same]; exact asked_fields_good o) rfl
  have lo : ∀ h, lOf h (fdsD fs) = some (fs.map fdD) := fun _ => rfl
  simp [c, sheetI, putS, k_ok, k_og, k_kg, lo]
  rfl
theorem mk_sheet {fs : List Fd} (fo : FdsOk fs) (h : Hv) : callC (mkR "Sheet" m_Sheet___init__) [fdsD fs] h = .ok (.cell h.length) (h ++ [sheetI fs (h.length + 1) 0, .dK []]) := by
  have e := callC_ok (sem := mkR "Sheet" m_Sheet___init__) (ds := [fdsD fs]) (ds' := [fdsD fs]) (h := h) (by simp [frz_fds]) (mkR_ok (h := []) (init_new fo))
  rw [e]
  have e : shD h.length (fdsD fs) = fdsD fs := by
    show D.lst (shL h.length (fs.map fdD)) = _
    rw [shL_fds]; rfl
  have e2 : shC h.length (sheetI fs 1 0) = sheetI fs (h.length + 1) 0 := by
    show Cell.ins "Sheet" [("own_fields", shD h.length (fdsD fs)), ("kept", .cell (h.length + 1)), ("given", .int 0)] = _
    rw [e]; rfl
  show VD.R.ok (D.cell (h.length + 0)) (h ++ [shC h.length (sheetI fs 1 0), shC h.length (.dK [])]) = _
  rw [e2]; rfl
theorem mk_at {fs : List Fd} {h : Hv} (hs : ∀ c ∈ h, ∀ n0, h.length ≤ n0 → Stb n0 c) {kd : List (Key × D)} (hv : ∀ p ∈ kd, DStb p.2) (hf : kd.length < 16000000) {g : Int} : SheetAt (h ++ [sheetI fs (h.length + 1) g, .dK kd]) h.length (h.length + 1) fs kd g := by
  refine ⟨by rw [List.getElem?_append_right (Nat.le_refl _), Nat.sub_self]; rfl, by rw [List.getElem?_append_right (by omega), show h.length + 1 - h.length = 1 by omega]; rfl, by omega, fun c hc n0 hn => ?_, hv, hf⟩
  rw [List.length_append] at hn
  have hn : h.length + 2 ≤ n0 := hn
  rcases List.mem_append.mp hc with z | z
  · exact hs c z n0 (by omega)
  · rcases List.mem_cons.mp z with rfl | z
    · exact stb_sheet (by omega)
    · rw [List.mem_singleton.mp z]; exact stb_dK hv
def sgL : List Nat := [97, 98, 99, 100, 101, 102, 103, 104, 105, 106, 107, 108, 109, 110, 111, 112, 113, 114, 115, 116, 117, 118, 119, 121, 122]
theorem sg_eq : ("abcdefghijklmnopqrstuvwyz" : Str) = sx sgL := by decide +kernel
theorem sg_ok : ∀ i, i < 25 → ∃ c, sgL[i]? = some c ∧ c ∈ smL ∧ c ≠ 120 := by decide
theorem x_eq : ("x" : Str) = sx [120] := by decide +kernel
theorem a_eq : ("a" : Str) = sx [97] := by decide +kernel
theorem w2_of {c : Nat} {p q : Nat} (hc : c ∈ smL) (hx : c ≠ 120) (hp : 1 ≤ p ∧ p ≤ 11) (hq : 1 ≤ q ∧ q ≤ 11) : W2 (List.replicate p c) (List.replicate q 120) := by
  obtain ⟨p', rfl⟩ : ∃ p', p = p' + 1 := ⟨p - 1, by omega⟩
  obtain ⟨q', rfl⟩ : ∃ q', q = q' + 1 := ⟨q - 1, by omega⟩
  refine ⟨⟨by simp, by simp; omega, fun d hd => ?_⟩, ⟨by simp, by simp; omega, fun d hd => ?_⟩, fun z => ?_, fun z => ?_⟩
  · rw [(List.mem_replicate.mp hd).2]; exact hc
  · rw [(List.mem_replicate.mp hd).2]; decide
  · rw [List.replicate_succ, List.replicate_succ] at z
    exact hx (List.cons.inj z).1
  · rw [List.replicate_succ, List.replicate_succ, List.cons_append] at z
    exact hx (List.cons.inj z).1
theorem nu_o : (("numbers" : Str) == "own_fields") = false := by decide
theorem nu_k : (("numbers" : Str) == "kept") = false := by decide
theorem nu_g : (("numbers" : Str) == "given") = false := by decide
theorem law_true (ns : List Int) (hl : ns.length ≤ 63) : m_law [.fz (ns.map .int)] [] = .ok (.bl true) [] := by
  refine fnS_of (P := fun x => x = .ok (.bl true) []) rfl ?_
  unfold b_law
  simp only [sBlk_ap, Wp_seq]
  unfold l_law_2
  obtain ⟨J, hJ⟩ : ∃ J : Nat → VS → Hv → Prop, J = fun i σ h => (∃ x1 x2 x3 x4 x5 x6 x7 : Option D, σ = [some (scr ns), x1, x2, x3, x4, x5, x6, x7]) ∧ ∀ c ∈ h, ∀ n0, h.length ≤ n0 → Stb n0 c := ⟨_, rfl⟩
  obtain ⟨N, hN, hN2⟩ : ∃ N : Nat, (1 + if (ns.length : Int) < 12 then (ns.length : Int) else 12) = (N : Int) ∧ N ≤ 13 := by
    refine ⟨(1 + if (ns.length : Int) < 12 then (ns.length : Int) else 12).toNat, ?_, ?_⟩
    · split <;> omega
    · split <;> omega
  refine Wp.range 0 N J (h0 := []) (by simp (disch := omega) [hN]) (by rw [hJ]; exact ⟨⟨_, _, _, _, _, _, _, rfl⟩, fun c hc => by cases hc⟩) ?_ ?_
  · intro i σ h hi hh
    rw [hJ] at hh
    obtain ⟨⟨x1, x2, x3, x4, x5, x6, x7, rfl⟩, hs⟩ := hh
    refine ⟨_, rfl, ?_⟩
    have ck := fun h => callP_cell (ns := ns) (k := (i : Int)) (h := h) (by omega)
    have xk := fun h => callP_mix (s := cellF ns (i : Int)) (k := (i : Int)) (h := h) (by omega) (by omega)
    have bk := mixF_bd (cellF ns (i : Int)) (i : Int)
    obtain ⟨seed, hsd⟩ : ∃ t, mixF (cellF ns (i : Int)) (i : Int) = t := ⟨_, rfl⟩
    rw [hsd] at xk bk
    obtain ⟨j, hj, hj2⟩ : ∃ j : Nat, seed % 25 = j ∧ j < 25 := ⟨(seed % 25).toNat, by omega, by omega⟩
    obtain ⟨p, hp, hp2⟩ : ∃ p : Nat, 1 + seed / 25 % 11 = p ∧ 1 ≤ p ∧ p ≤ 11 := ⟨(1 + seed / 25 % 11).toNat, by omega, by omega⟩
    obtain ⟨q, hq, hq2⟩ : ∃ q : Nat, 1 + seed / 275 % 11 = q ∧ 1 ≤ q ∧ q ≤ 11 := ⟨(1 + seed / 275 % 11).toNat, by omega, by omega⟩
    obtain ⟨c, hc, cm, cx⟩ := sg_ok j hj2
    have w := w2_of (p := p) (q := q) cm cx hp2 hq2
    obtain ⟨n0, hn0⟩ : ∃ n0, List.replicate p c = n0 := ⟨_, rfl⟩
    obtain ⟨n1, hn1⟩ : ∃ n1, List.replicate q 120 = n1 := ⟨_, rfl⟩
    have m0 : ∀ h, oMulS (tx [c]) (.int (p : Int)) h = .ok (tx n0) h := fun h => by rw [← hn0, oMulS_ap (by omega) (by omega) (by rw [sx_len]; simp), rep_sx]; simp
    have m1 : ∀ h, oMulS (.str "x") (.int (q : Int)) h = .ok (tx n1) h := fun h => by rw [x_eq, ← hn1, oMulS_ap (by omega) (by omega) (by rw [sx_len]; simp), rep_sx]; simp
    rw [hn0, hn1] at w
    have ix : ∀ h, ixD h (.str "abcdefghijklmnopqrstuvwyz") (j : Int) = some (tx [c]) := fun h => by
      rw [sg_eq]
      refine (ixD_tx (by decide) (by omega) (by show (j : Int) < 25; omega)).trans ?_
      have : ((j : Int)).toNat = j := by omega
      rw [this, hc]; rfl
    obtain ⟨H0, hH0⟩ : ∃ H0, h ++ [sheetI (fs2 n0 n1) (h.length + 1) 0, .dK []] = H0 := ⟨_, rfl⟩
    have s0 := mk_at (fs := fs2 n0 n1) (kd := []) (g := 0) hs (fun p hp => by cases hp) (by decide)
    have mk := mk_sheet w.fo h
    have ro : RowOk (fs2 n0 n1) [.wd [97], .nm 5] := ⟨rfl, fun i f v hf hv => by
      match i, hf, hv with
      | 0, hf, hv => cases hf; cases hv; exact ⟨rfl, by decide, by decide, by decide⟩
      | 1, hf, hv => cases hf; cases hv; exact ⟨rfl, by decide, by decide⟩
      | i + 2, hf, hv => cases hf⟩
    have hl2 : (fs2 n0 n1).length ≤ 100 := by show 2 ≤ 100; decide
    have pt := put_ok (d := .lst [tx [97], .int 5]) s0 hl2 (rowLike_lst (td := [tx [97], .int 5]) rfl) rfl (by decide) (vts ro) (due_val ro) (scal_val [.wd [97], .nm 5]) (dstb_row [.wd [97], .nm 5])
    have e1 : ((h ++ [sheetI (fs2 n0 n1) (h.length + 1) 0, Cell.dK []]).set (h.length + 1) (.dK (putD [] (.inl 0) (.tup [tx [97], .int 5])))).set h.length (sheetI (fs2 n0 n1) (h.length + 1) (0 + 1)) = h ++ [sheetI (fs2 n0 n1) (h.length + 1) 1, .dK [(.inl 0, rowD [.wd [97], .nm 5])]] := by
      rw [List.set_append_right _ _ (by omega), List.set_append_right _ _ (Nat.le_refl _), Nat.sub_self, show h.length + 1 - h.length = 1 by omega]
      rfl
    rw [e1] at pt
    have s1 := mk_at (fs := fs2 n0 n1) (kd := [(.inl 0, rowD [.wd [97], .nm 5])]) (g := 1) hs (fun p hp => by rw [List.mem_singleton.mp hp]; exact dstb_row _) (by decide)
    rw [hH0] at s0 mk pt
    obtain ⟨H1, hH1⟩ : ∃ H1, h ++ [sheetI (fs2 n0 n1) (h.length + 1) 1, .dK [(.inl 0, rowD [.wd [97], .nm 5])]] = H1 := ⟨_, rfl⟩
    rw [hH1] at s1 pt
    obtain ⟨a, ha⟩ : ∃ a, h.length = a := ⟨_, rfl⟩
    have hs1 : ∀ c ∈ H1, ∀ n0, H1.length ≤ n0 → Stb n0 c := s1.stb
    rw [ha] at s0 s1 mk pt
    rw [← put_same] at pt
    have mp := meth_at (m := "put") (sem := m_Sheet_put) (la := aCons (eV (lLst (aCons (eK (.str "a")) (aCons (eK (.int 5)) (aNil))))) aNil) (σ := [some (scr ns), some (.int (i : Int)), some (.int seed), some (tx [c]), some (.lst [tx n0, tx n1]), some (fdsD (fs2 n0 n1)), some (.cell a), x7]) (fa := eVar 6) s0 p_o p_k p_g rfl
    rw [a_eq] at mp
    have efd : D.lst [.tup [tx n0, .str "word"], .tup [tx n1, .str "number"]] = fdsD (fs2 n0 n1) := rfl
    have lo : ∀ h, lOf h (fdsD (fs2 n0 n1)) = some ((fs2 n0 n1).map fdD) := fun _ => rfl
    have efd2 : D.lst ((fs2 n0 n1).map fdD) = fdsD (fs2 n0 n1) := rfl
    have sc0 : (0 : Int) + (i : Int) = i := by omega
    simp (disch := omega) [mix_same, cell_same, sc0, ck, xk, hj, ix, hp, m0, hq, m1, efd, efd2, lo, mk, mp, a_eq, pt, -eMeth_ap]
    unfold l_law_1
    obtain ⟨I, hI⟩ : ∃ I : Nat → VS → Hv → Prop, I = fun w σ h => ∃ y7 : Option D, σ = [some (scr ns), some (.int (i : Int)), some (.int seed), some (tx [c]), some (.lst [tx n0, tx n1]), some (fdsD (fs2 n0 n1)), some (.cell a), y7] ∧ h = H1 := ⟨_, rfl⟩
    refine Wp.range 0 10 I (h0 := H1) (by simp) (by rw [hI]; exact ⟨_, rfl, rfl⟩) ?_ ?_
    · intro v σ h' hv hh
      rw [hI] at hh
      obtain ⟨y7, rfl, rfl⟩ := hh
      refine ⟨_, rfl, ?_⟩
      have bm0 := Int.emod_nonneg seed (show (1000000000 : Int) ≠ 0 by decide)
      have bm1 := Int.emod_lt_of_pos seed (show (0 : Int) < 1000000000 by decide)
      have dd := deed_eq (k := (0 : Int) + (v : Int)) (m := 1 + seed % 1000000000) w s1 (by omega) (by omega) (by
        rw [getD_cons, if_neg (fun z => by have := Sum.inl.inj z; omega)]; rfl)
      have sv : (0 : Int) + (v : Int) = v := by omega
      rw [sv] at dd
      simp [lo, efd2, powOk, dd]
      rw [hI]
      exact ⟨_, rfl, rfl⟩
    · intro σ h' hh
      rw [hI] at hh
      obtain ⟨y7, rfl, rfl⟩ := hh
      obtain ⟨ms, n1', n2, n3⟩ := numbers_eq s1 (kt := ⟨⟨[0], rfl, by simp, by simp⟩, fun p hp => by rw [List.mem_singleton.mp hp]; exact ⟨_, ro, rfl⟩⟩) (by decide)
      have rr := row_ok (i := 0) (v := rowD [.wd [97], .nm 5]) s1 (by rw [getD_cons, if_pos rfl]) (dstb_row _)
      have mn := meth_at (m := "numbers") (sem := m_Sheet_numbers) (la := aNil) (σ := [some (scr ns), some (.int (i : Int)), some (.int seed), some (tx [c]), some (.lst [tx n0, tx n1]), some (fdsD (fs2 n0 n1)), some (.cell a), y7]) (fa := eVar 6) s1 nu_o nu_k nu_g rfl
      have mr := meth_at (m := "row") (sem := m_Sheet_row) (la := aCons (eK (.int 0)) aNil) (σ := [some (scr ns), some (.int (i : Int)), some (.int seed), some (tx [c]), some (.lst [tx n0, tx n1]), some (fdsD (fs2 n0 n1)), some (.cell a), y7]) (fa := eVar 6) s1 r_o r_k r_g rfl
      rw [← row_same] at rr
      have m0 : ms = [0] := by
        have : [(.inl 0 : Key)] = ms.map .inl := n2
        cases ms with
        | nil => cases this
        | cons x ms =>
          cases ms with
          | nil => rw [Sum.inl.inj (List.cons.inj this).1]
          | cons _ _ => exact absurd (congrArg List.length this) (by simp)
      subst m0
      have q1 : ∀ h, eqD h (.lst [.int 0]) (.lst [.int 0]) = some true := fun h => eqD_same (p := .list [.int 0]) rfl rfl
      have q2 := eq_row [.wd [97], .nm 5]
      have rw' : rowD [.wd [97], .nm 5] = .tup [tx [97], .int 5] := rfl
      rw [rw'] at rr q2
      simp [mn, mr, n1', rr, q1, q2, a_eq, -eMeth_ap]
      rw [hJ]
      exact ⟨⟨_, _, _, _, _, _, _, rfl⟩, hs1⟩
  · intro σ h hh
    rw [hJ] at hh
    obtain ⟨⟨x1, x2, x3, x4, x5, x6, x7, rfl⟩, hs⟩ := hh
    simp
end
end Lk19

namespace Lk19
open PySem PySem.Spec PyProof.Rows L2 VD
noncomputable section
abbrev R0 : PySem.W.OpenRow := PySem.W.OpenLaw.row PySem.Challenge.rw_crosshall_k19_refusals_apart
abbrev hk : PySem.W.Hook := VD.hookE 4 fas dfs efs
def ob (s : PySem.W.SharedT) : He.AlD × Bool := VD.obsE 4 fas dfs efs (HandSHeadRun.getT s)
theorem ob_eq (s : PySem.W.SharedT) : ob s = hk.obs s.abs := VD.obsE_eq (HandSHeadRun.getT_eq s)
def loose : List Str := (["_wall", "CrossError", "NoFields", "NoSieve", "NoView", "NoHead", "NoNet", "NoWhole", "NoGroups", "NoLine", "NoRow", "NoSuch", "NoField", "NoKind", "NoVeil", "SMALL", "FIGURES", "MOST_SIGNS_values", "MOST_FIGURES", "made_of", "is_name", "is_word", "is_whole", "is_value", "is_number_text", "read_value", "MOST_FIELDS", "is_field", "asked_fields", "field_at"] : List Str) ++ (["row_of", "Sheet", "asked_sieve", "IN_VALUES", "LETTERS", "MOST_SIGNS_sieve_texts", "MOST_LEVELS", "MOST_SIEVES", "run_of", "plain_at", "sieve_at", "sieves_in", "by_kinds", "read_sieve", "MOST_NAMES", "MOST_OF_FIGURES", "asked_view", "asked_path", "_law_cell_at", "_law_mix", "_law_classes", "_law_deed"] : List Str)
set_option maxHeartbeats 0 in
theorem run (w : World) : HandSHeadRun.RunEq R0 (PySem.W.view R0.prog [59]) hk ob 8000 loose w := by
  intro os
  kernel_rfl
end
end Lk19
open PySem PySem.W PySem.Calls PyProof.Rows
set_option maxHeartbeats 0 in
theorem PySem.Challenge.cw_crosshall_k19_refusals_apart_holds : PySem.Challenge.rw_crosshall_k19_refusals_apart.Holds := by
  w_on; o_law
  refine HandSHeadRun.head_any (r := OpenLaw.row PySem.Challenge.rw_crosshall_k19_refusals_apart) (q := view (OpenLaw.row PySem.Challenge.rw_crosshall_k19_refusals_apart).prog [59]) (H := Lk19.hk) (ob := Lk19.ob) (M := 8000) (loose := Lk19.loose) (d := HandSHeadRun.topDef (OpenLaw.row PySem.Challenge.rw_crosshall_k19_refusals_apart).prog 59) (kwd := []) Lk19.ob_eq
    (by kernel_rfl) (fun s => by kernel_rfl) Lk19.run (by kernel_rfl) (by kernel_rfl) (by kernel_rfl) (by rfl) (by first | assumption | decide +kernel) (by decide +kernel) ⟨rfl, rfl, rfl, rfl, rfl, by decide +kernel⟩ ?hw ?hc
  case hw => w_witness2
  case hc =>
    refine VD.walk_own (lw := PySem.Challenge.rw_crosshall_k19_refusals_apart) (num := 63) (lev := 23) (nm := "_law_script") (CC := L2.CX PySem.Challenge.pw_crosshall_k19_refusals_apart) rfl (by decide) (by kernel_rfl) ⟨rfl, by decide, by decide⟩ ?F (fun _ _ _ _ _ z => VD.cx_false z)
    intro w mg fa h Y G hmg0
    obtain ⟨K, KX, c, ce⟩ := Y
    have hmg : mg ("law" : PySem.Str) = some (.ref fa) := by
      have e : (HandSHeadRun.topDef (OpenLaw.row PySem.Challenge.rw_crosshall_k19_refusals_apart).prog 59).name = ("law" : PySem.Str) := by kernel_rfl
      rw [← e]
      exact hmg0
    have T := Lk19.tx_of KX G c ce
    exact VD.law_end KX T.d_law T.g_law hmg (fun fd F s u => by obtain ⟨_, _, _, _, _, _, _, _, _, rfl, _, _⟩ := F.ex; exact .of_eq rfl) (fun base => Lk19.ok_law T) Lk19.law_true

