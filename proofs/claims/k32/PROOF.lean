import PyProof.Rows.All
import Wide.All
import OpenK.AllK
import Wide.FinOn
import HandS.ForMost
import HandS.Exc
import HandS.TryOnly
import HandS.ExcOwn
import HandS.WordsExc
import HandS.IsInst
import HandS.Wide
import HandS.HeadHook1
import KE.KDictKeyed
import KE.KDictCopyH
import KE.SortKeyHeap
import HandS.Style
import KE.DatumMore
import HandS.SortInts
import HandS.Text
import KE.DataEq
import HandS.More
import HandS.HeadNt
import HandS.Head0
import HandS.Head1
import HandS.Head2
import HandS.HeadEnd
import HandS.HeadHook2
import HandS.Conv
import HandS.ExcIs
import HandS.ExcInit
import HandS.ExcField
import KE.KExcIs
import HandS.SortRule
import HandS.RaiseMore
import PyProof.StrOps2
import HandS.Rev
import HandS.TryMany
import HandS.SetKeys
import HandS.Strs
import HandS.TupSets
import HandS.HotCalls
import HandS.Zip
import HandS.Flt
import HandS.SetFor
import PySem.Challenge.RW_crosshall_k32_whole_a_flow_or_a_cut
set_option Elab.async false
set_option linter.all false
set_option maxRecDepth 100000
set_option maxHeartbeats 4000000
/-! VD: values as data, objects that change as numbered cells; what a text computes, as a function. -/
namespace VD
open PySem PySem.Spec PyProof.Rows L2

inductive D where
  | non | bl (b : Bool) | int (i : Int) | str (x : Str) | lst (xs : List D) | fz (xs : List D) | tup (xs : List D) | cell (n : Nat) | raw (v : V)
  | dct (ks : List Key) (ds : List D) | obj (c : Str) (ks : List Str) (ds : List D) | exv (a dd : Addr) (f : Str) (d : D)

inductive Cell where
  | lst (xs : List D) | dK (kvs : List (Key × D)) | dF (kvs : List (Key × D)) | ins (c : Str) (fs : List (Str × D))
  | dN (w : World) (kvs : List (NestedKey × D))

abbrev VS := List (Option D)
abbrev Hv := List Cell
structure Xn where
  cls : Str
  pay : Option (Str × D)
inductive R (α : Type) where
  | ok (a : α) (h : Hv) | exc (x : Xn) (h : Hv) | stuck
def R.bind {α β : Type} (r : R α) (f : α → Hv → R β) : R β := match r with
  | .ok a h => f a h
  | .exc x h => .exc x h
  | .stuck => .stuck
@[simp] theorem R.bind_ok {α β : Type} (a : α) (h : Hv) (f : α → Hv → R β) : (R.ok a h).bind f = f a h := rfl
@[simp] theorem R.bind_exc {α β : Type} (x : Xn) (h : Hv) (f : α → Hv → R β) : (R.exc x h : R α).bind f = .exc x h := rfl
@[simp] theorem R.bind_stuck {α β : Type} (f : α → Hv → R β) : (R.stuck : R α).bind f = .stuck := rfl
abbrev ES := VS → Hv → R D
abbrev LS := VS → Hv → R (List D)
abbrev CS := VS → Hv → R Bool
inductive RS where
  | next (σ : VS) (h : Hv) | ret (d : D) (h : Hv) | brk (σ : VS) (h : Hv) | cont (σ : VS) (h : Hv) | exc (x : Xn) (σ : VS) (h : Hv) | stuck
abbrev SS := VS → Hv → RS

/-! dicts whose keys are tuples -/
mutual
def nkD : NestedKey → D
  | .none => .non
  | .num i => .int i
  | .text x => .str x
  | .tup ks => .tup (nkDs ks)
def nkDs : List NestedKey → List D
  | [] => []
  | k :: ks => nkD k :: nkDs ks
end
/-- what stands at a: entries with keys, their tuples, values -/
def NDh (w : World) (a : Addr) (xs : List (NestedKey × Addr × V)) (h : Heap) : Prop := (a == sysModules) = false ∧ xs.length ≤ sizeLine ∧ (∀ x ∈ xs, x.1.depth ≤ 8) ∧ (xs.map (·.1)).Nodup ∧
  ∃ ys : List (NestedKey × Addr × Value), Paired (fun (p : NestedKey × Addr × V) (q : NestedKey × Addr × Value) => p.1 = q.1 ∧ p.2.1 = q.2.1 ∧ RelV p.2.2 q.2.2) xs ys ∧
    ∃ o es ep, h.get? a = some o ∧ o.ExactDict ∧ o.data = .dict es ep ∧ es.toList = ys.map fun y => ⟨y.1.hash w, .ref y.2.1, y.2.2⟩
abbrev NDO (w : World) (a : Addr) (xs : List (NestedKey × Addr × V)) : HO := .ext (NDh w a xs)
/-! ### what stands for what -/
section
variable (K : PySem.W.Frag) (φ : List Addr) (S : Hp)
mutual
inductive Rp : V → D → Prop where
  | non : Rp .non .non
  | bl (b : Bool) : Rp (.bl b) (.bl b)
  | int (i : Int) : Rp (.int i) (.int i)
  | str (x : Str) : Rp (.str x) (.str x)
  | lst {a : Addr} {vs : List V} {ds : List D} : S a = some (.lst vs) → RpA vs ds → Rp (.ref a) (.lst ds)
  | fz {a : Addr} {vs : List V} {ds : List D} : SqL K S a vs → RpA vs ds → Rp (.ref a) (.fz ds)
  | tup {a : Addr} {vs : List V} {ds : List D} : SqT K S a vs → RpA vs ds → Rp (.ref a) (.tup ds)
  | cell {a : Addr} {n : Nat} : φ[n]? = some a → Rp (.ref a) (.cell n)
  | raw (v : V) : Rp v (.raw v)
  | dct {a : Addr} {od : Obj} {kv : List (Key × V)} {ks : List Key} {ds : List D} : S a = some (.frz od (.dK kv)) → kv.map (·.1) = ks → RpA (kv.map (·.2)) ds → Rp (.ref a) (.dct ks ds)
  | obj {a dx : Addr} {fv : List (Str × V)} {c : Str} {ks : List Str} {ds : List D} : S a = some (.ins (He.ga K c) dx fv) → fv.map (·.1) = ks → RpA (fv.map (·.2)) ds → Rp (.ref a) (.obj c ks ds)
  | exv {a dd : Addr} {f : Str} {v : V} {d : D} : S dd = some (.xd [(f, v)]) → Rp v d → Rp (.ref a) (.exv a dd f d)
inductive RpA : List V → List D → Prop where
  | nil : RpA [] []
  | cons {v : V} {vs : List V} {d : D} {ds : List D} : Rp v d → RpA vs ds → RpA (v :: vs) (d :: ds)
end
def RpC : Cell → HO → Prop
  | .lst ds, o => ∃ vs, o = .lst vs ∧ RpA K φ S vs ds
  | .dK kvs, o => ∃ kv : List (Key × V), o = .dK kv ∧ kv.map (·.1) = kvs.map (·.1) ∧ RpA K φ S (kv.map (·.2)) (kvs.map (·.2))
  | .dF kvs, o => ∃ (od : Obj) (kv : List (Key × V)), o = .frz od (.dK kv) ∧ kv.map (·.1) = kvs.map (·.1) ∧ RpA K φ S (kv.map (·.2)) (kvs.map (·.2))
  | .ins c fs, o => ∃ dx fv, o = .ins (He.ga K c) dx fv ∧ fv.map (·.1) = fs.map (·.1) ∧ RpA K φ S (fv.map (·.2)) (fs.map (·.2))
  | .dN w kvs, o => ∃ (a : Addr) (xs : List (NestedKey × Addr × V)), o = NDO w a xs ∧ xs.map (·.1) = kvs.map (·.1) ∧ (∀ x ∈ xs, Rp K [] S (.ref x.2.1) (nkD x.1)) ∧ RpA K φ S (xs.map (·.2.2)) (kvs.map (·.2))
end

/-- more is known -/
def Ex (H H' : Hp) : Prop := ∀ a o, H a = some o → H' a = some o
theorem Ex.refl (H : Hp) : Ex H H := fun _ _ h => h
theorem Ex.trans {H H1 H2 : Hp} (a : Ex H H1) (b : Ex H1 H2) : Ex H H2 := fun x o h => b x o (a x o h)
theorem Ex.new {H : Hp} {p : Addr} {o : HO} (h : H p = none) : Ex H (upd H p o) := fun a u e => by
  rw [upd_ne (ne_of_none e h)]
  exact e
theorem Ex.rd {H H' : Hp} {a : Addr} {u : HO} (e : Ex H H') (h : Rd H a u) : Rd H' a u := by
  rcases h with h | ⟨o, h⟩
  · exact .inl (e a _ h)
  · exact .inr ⟨o, e a _ h⟩
theorem Ex.sql {K : PySem.W.Frag} {H H' : Hp} {a : Addr} {xs : List V} (e : Ex H H') (h : SqL K H a xs) : SqL K H' a xs := h.imp (fun z => e.rd z) id
theorem Ex.sqt {K : PySem.W.Frag} {H H' : Hp} {a : Addr} {xs : List V} (e : Ex H H') (h : SqT K H a xs) : SqT K H' a xs := h.imp (fun z => e.rd z) id

/-- the cells' addresses only grow -/
def Pre (φ φ' : List Addr) : Prop := ∃ ψ, φ' = φ ++ ψ
theorem Pre.refl (φ : List Addr) : Pre φ φ := ⟨[], (List.append_nil φ).symm⟩
theorem Pre.at {φ φ' : List Addr} (p : Pre φ φ') {n : Nat} {a : Addr} (h : φ[n]? = some a) : φ'[n]? = some a := by
  obtain ⟨ψ, rfl⟩ := p
  rw [List.getElem?_append_left (List.getElem?_eq_some_iff.mp h).1]
  exact h

section
variable {K : PySem.W.Frag} {φ φ' : List Addr} {S S' : Hp}
mutual
theorem Rp.mono (p : Pre φ φ') (e : Ex S S') : ∀ {v : V} {d : D}, Rp K φ S v d → Rp K φ' S' v d
  | _, _, .non => .non
  | _, _, .bl b => .bl b
  | _, _, .int i => .int i
  | _, _, .str x => .str x
  | _, _, .lst h r => .lst (e _ _ h) (RpA.mono p e r)
  | _, _, .fz h r => .fz (e.sql h) (RpA.mono p e r)
  | _, _, .tup h r => .tup (e.sqt h) (RpA.mono p e r)
  | _, _, .cell h => .cell (p.at h)
  | _, _, .raw v => .raw v
  | _, _, .dct h k r => .dct (e _ _ h) k (RpA.mono p e r)
  | _, _, .obj h k r => .obj (e _ _ h) k (RpA.mono p e r)
  | _, _, .exv h r => .exv (e _ _ h) (Rp.mono p e r)
theorem RpA.mono (p : Pre φ φ') (e : Ex S S') : ∀ {vs : List V} {ds : List D}, RpA K φ S vs ds → RpA K φ' S' vs ds
  | _, _, .nil => .nil
  | _, _, .cons r t => .cons (Rp.mono p e r) (RpA.mono p e t)
end
theorem RpC.mono (p : Pre φ φ') (e : Ex S S') {c : Cell} {o : HO} (h : RpC K φ S c o) : RpC K φ' S' c o := by
  cases c with
  | lst ds => obtain ⟨vs, h1, h2⟩ := h; exact ⟨vs, h1, h2.mono p e⟩
  | dK kvs => obtain ⟨vs, h1, h2, h3⟩ := h; exact ⟨vs, h1, h2, h3.mono p e⟩
  | dF kvs => obtain ⟨od, vs, h1, h2, h3⟩ := h; exact ⟨od, vs, h1, h2, h3.mono p e⟩
  | ins C fs => obtain ⟨dx, vs, h1, h2, h3⟩ := h; exact ⟨dx, vs, h1, h2, h3.mono p e⟩
  | dN w kvs => obtain ⟨a, xs, h1, h2, h3, h4⟩ := h; exact ⟨a, xs, h1, h2, fun x hx => (h3 x hx).mono (Pre.refl []) e, h4.mono p e⟩
theorem RpA.length {vs : List V} {ds : List D} : RpA K φ S vs ds → vs.length = ds.length := by
  intro h
  induction ds generalizing vs with
  | nil => cases h; rfl
  | cons d ds ih =>
    cases h with
    | cons r t => rw [List.length_cons, List.length_cons, ih t]
theorem RpA.at {vs : List V} {ds : List D} (h : RpA K φ S vs ds) {i : Nat} {d : D} (hd : ds[i]? = some d) : ∃ v, vs[i]? = some v ∧ Rp K φ S v d := by
  induction ds generalizing vs i with
  | nil => simp at hd
  | cons d' ds ih =>
    cases h with
    | cons r t =>
      cases i with
      | zero =>
        rw [List.getElem?_cons_zero] at hd ⊢
        cases hd
        exact ⟨_, rfl, r⟩
      | succ i =>
        rw [List.getElem?_cons_succ] at hd ⊢
        exact ih t hd
theorem RpA.append {vs ws : List V} {ds es : List D} (h : RpA K φ S vs ds) (k : RpA K φ S ws es) : RpA K φ S (vs ++ ws) (ds ++ es) := by
  induction ds generalizing vs with
  | nil => cases h; exact k
  | cons d ds ih =>
    cases h with
    | cons r t => exact .cons r (ih t)
theorem RpA.set {vs : List V} {ds : List D} {v : V} {d : D} (h : RpA K φ S vs ds) (r : Rp K φ S v d) (i : Nat) : RpA K φ S (vs.set i v) (ds.set i d) := by
  induction ds generalizing vs i with
  | nil => cases h; exact .nil
  | cons d' ds ih =>
    cases h with
    | cons r' t =>
      cases i with
      | zero => exact .cons r t
      | succ i => exact .cons r' (ih t i)
theorem RpA.take {vs : List V} {ds : List D} (h : RpA K φ S vs ds) (i : Nat) : RpA K φ S (vs.take i) (ds.take i) := by
  induction ds generalizing vs i with
  | nil => cases h; rw [List.take_nil, List.take_nil]; exact .nil
  | cons d' ds ih =>
    cases h with
    | cons r' t =>
      cases i with
      | zero => exact .nil
      | succ i => exact .cons r' (ih t i)
theorem RpA.drop {vs : List V} {ds : List D} (h : RpA K φ S vs ds) (i : Nat) : RpA K φ S (vs.drop i) (ds.drop i) := by
  induction ds generalizing vs i with
  | nil => cases h; rw [List.drop_nil, List.drop_nil]; exact .nil
  | cons d' ds ih =>
    cases h with
    | cons r' t =>
      cases i with
      | zero => exact .cons r' t
      | succ i => exact ih t i
theorem RpA.eraseIdx {vs : List V} {ds : List D} (h : RpA K φ S vs ds) (i : Nat) : RpA K φ S (vs.eraseIdx i) (ds.eraseIdx i) := by
  induction ds generalizing vs i with
  | nil => cases h; exact .nil
  | cons d' ds ih =>
    cases h with
    | cons r' t =>
      cases i with
      | zero => exact t
      | succ i => exact .cons r' (ih t i)
theorem RpA.reverse {vs : List V} {ds : List D} (h : RpA K φ S vs ds) : RpA K φ S vs.reverse ds.reverse := by
  induction ds generalizing vs with
  | nil => cases h; exact .nil
  | cons d ds ih =>
    cases h with
    | cons r t =>
      rw [List.reverse_cons, List.reverse_cons]
      exact (ih t).append (.cons r .nil)
theorem RpA.ints {vs : List V} {ns : List Int} (h : RpA K φ S vs (ns.map .int)) : vs = ns.map .int := by
  induction ns generalizing vs with
  | nil => cases h; rfl
  | cons n ns ih =>
    cases h with
    | cons r t =>
      cases r
      rw [ih t]
      rfl
theorem RpA.of_ints (ns : List Int) : RpA K φ S (ns.map .int) (ns.map .int) := by
  induction ns with
  | nil => exact .nil
  | cons n ns ih => exact .cons (.int n) ih
end

/-! ### the whole heap -/
structure Rel (K : PySem.W.Frag) (φ : List Addr) (S H : Hp) (h : Hv) : Prop where
  len : φ.length = h.length
  sub : Ex S H
  nd : φ.Nodup
  cel : ∀ (n : Nat) (a : Addr) (c : Cell), φ[n]? = some a → h[n]? = some c → S a = none ∧ ∃ o, H a = some o ∧ RpC K φ S c o
structure Step (φ : List Addr) (S H : Hp) (φ' : List Addr) (S' H' : Hp) : Prop where
  pre : ∃ ψ, φ' = φ ++ ψ ∧ ∀ a ∈ ψ, H a = none
  sub : Ex S S'
  old : ∀ a, H a ≠ none → S' a = S a
  keep : ∀ a o, H a = some o → a ∉ φ → H' a = some o
  there : ∀ a, H a ≠ none → H' a ≠ none
theorem Step.refl (φ : List Addr) (S H : Hp) : Step φ S H φ S H := ⟨⟨[], (List.append_nil φ).symm, fun _ z => nomatch z⟩, Ex.refl S, fun _ _ => rfl, fun _ _ e _ => e, fun _ z => z⟩
theorem Step.prefix {φ φ' : List Addr} {S H S' H' : Hp} (s : Step φ S H φ' S' H') : Pre φ φ' := let ⟨ψ, e, _⟩ := s.pre; ⟨ψ, e⟩
theorem Step.trans {φ φ1 φ2 : List Addr} {S H S1 H1 S2 H2 : Hp} (a : Step φ S H φ1 S1 H1) (b : Step φ1 S1 H1 φ2 S2 H2) : Step φ S H φ2 S2 H2 := by
  obtain ⟨⟨ψ, e, hn⟩, a2, a3, a4, a5⟩ := a
  obtain ⟨⟨ψ', e', hn'⟩, b2, b3, b4, b5⟩ := b
  have nil : ∀ a, H1 a = none → H a = none := fun a z => by
    cases q : H a with
    | none => rfl
    | some o => exact absurd z (a5 a (by rw [q]; exact fun y => nomatch y))
  refine ⟨⟨ψ ++ ψ', by rw [e', e, List.append_assoc], fun x hx => ?_⟩, a2.trans b2, fun x hx => (b3 x (a5 x hx)).trans (a3 x hx), fun x o hx hn2 => ?_, fun x hx => b5 x (a5 x hx)⟩
  · rcases List.mem_append.mp hx with z | z
    · exact hn x z
    · exact nil x (hn' x z)
  · refine b4 x o (a4 x o hx hn2) fun z => ?_
    rw [e] at z
    rcases List.mem_append.mp z with z | z
    · exact hn2 z
    · have := hn x z
      rw [this] at hx
      cases hx
theorem Step.fresh {φ φ' : List Addr} {S H S' H' : Hp} (s : Step φ S H φ' S' H') {a : Addr} (h : H' a = none) : H a = none := by
  cases q : H a with
  | none => rfl
  | some o => exact absurd h (s.there a (by rw [q]; exact fun y => nomatch y))
theorem Rel.at {K : PySem.W.Frag} {φ : List Addr} {S H : Hp} {h : Hv} (r : Rel K φ S H h) {n : Nat} {a : Addr} (e : φ[n]? = some a) : ∃ c, h[n]? = some c := by
  have h1 := (List.getElem?_eq_some_iff.mp e).1
  rw [r.len] at h1
  exact ⟨_, List.getElem?_eq_getElem h1⟩
theorem Rel.mem {K : PySem.W.Frag} {φ : List Addr} {S H : Hp} {h : Hv} (r : Rel K φ S H h) {a : Addr} (e : a ∈ φ) : S a = none ∧ H a ≠ none := by
  obtain ⟨n, hn⟩ := List.getElem?_of_mem e
  obtain ⟨c, hc⟩ := r.at hn
  obtain ⟨h1, o, h2, _⟩ := r.cel n a c hn hc
  exact ⟨h1, by rw [h2]; exact fun z => nomatch z⟩
theorem Rel.snone {K : PySem.W.Frag} {φ : List Addr} {S H : Hp} {h : Hv} (r : Rel K φ S H h) {a : Addr} (e : H a = none) : S a = none := by
  cases q : S a with
  | none => rfl
  | some o =>
    rw [r.sub a o q] at e
    cases e
theorem Rel.notin {K : PySem.W.Frag} {φ : List Addr} {S H : Hp} {h : Hv} (r : Rel K φ S H h) {a : Addr} (e : H a = none) : a ∉ φ := fun z => (r.mem z).2 e
/-- a new thing that never changes -/
theorem Rel.lay {K : PySem.W.Frag} {φ : List Addr} {S H : Hp} {h : Hv} (r : Rel K φ S H h) {p : Addr} {o : HO} (hp : H p = none) : Rel K φ (upd S p o) (upd H p o) h ∧ Step φ S H φ (upd S p o) (upd H p o) := by
  have sp := r.snone hp
  refine ⟨⟨r.len, fun a u e => ?_, r.nd, fun n a c e1 e2 => ?_⟩, ⟨⟨[], (List.append_nil φ).symm, fun _ z => nomatch z⟩, Ex.new sp, fun a ha => ?_, fun a u e _ => ?_, fun a ha => ?_⟩⟩
  · by_cases q : a = p
    · subst q
      rw [upd_same] at e ⊢
      exact e
    · rw [upd_ne q] at e ⊢
      exact r.sub a u e
  · obtain ⟨h1, o', h2, h3⟩ := r.cel n a c e1 e2
    have q : a ≠ p := ne_of_none h2 hp
    exact ⟨by rw [upd_ne q]; exact h1, o', by rw [upd_ne q]; exact h2, h3.mono (Pre.refl φ) (Ex.new sp)⟩
  · have q : a ≠ p := fun z => ha (by rw [z]; exact hp)
    rw [upd_ne q]
  · rw [upd_ne (ne_of_none e hp)]
    exact e
  · have q : a ≠ p := fun z => ha (by rw [z]; exact hp)
    rw [upd_ne q]
    exact ha
/-- a new thing, known to the heap alone -/
theorem Rel.hold {K : PySem.W.Frag} {φ : List Addr} {S H : Hp} {h : Hv} (r : Rel K φ S H h) {p : Addr} {o : HO} (hp : H p = none) : Rel K φ S (upd H p o) h ∧ Step φ S H φ S (upd H p o) := by
  refine ⟨⟨r.len, r.sub.trans (Ex.new hp), r.nd, fun n a c e1 e2 => ?_⟩, ⟨⟨[], (List.append_nil φ).symm, fun _ z => nomatch z⟩, Ex.refl S, fun a ha => rfl, fun a u e _ => ?_, fun a ha => ?_⟩⟩
  · obtain ⟨h1, o', h2, h3⟩ := r.cel n a c e1 e2
    have q : a ≠ p := ne_of_none h2 hp
    exact ⟨h1, o', by rw [upd_ne q]; exact h2, h3⟩
  · rw [upd_ne (ne_of_none e hp)]
    exact e
  · have q : a ≠ p := fun z => ha (by rw [z]; exact hp)
    rw [upd_ne q]
    exact ha
/-- what is held becomes what never changes -/
theorem Rel.still {K : PySem.W.Frag} {φ : List Addr} {S H : Hp} {h : Hv} (r : Rel K φ S H h) {p : Addr} {o : HO} (hp : H p = some o) (hs : S p = none) (hn : p ∉ φ) : Rel K φ (upd S p o) H h := by
  refine ⟨r.len, fun a u e => ?_, r.nd, fun n a c e1 e2 => ?_⟩
  · by_cases q : a = p
    · subst q
      rw [upd_same] at e
      rw [hp]
      exact e
    · rw [upd_ne q] at e
      exact r.sub a u e
  · obtain ⟨h1, o', h2, h3⟩ := r.cel n a c e1 e2
    have q : a ≠ p := fun z => hn (by rw [← z]; exact List.mem_of_getElem? e1)
    exact ⟨by rw [upd_ne q]; exact h1, o', h2, h3.mono (Pre.refl φ) (Ex.new hs)⟩
/-- what is held becomes a cell -/
theorem Rel.celled {K : PySem.W.Frag} {φ : List Addr} {S H : Hp} {h : Hv} (r : Rel K φ S H h) {p : Addr} {o : HO} {c : Cell} (hp : H p = some o) (hs : S p = none) (hn : p ∉ φ) (hc : RpC K φ S c o) : Rel K (φ ++ [p]) S H (h ++ [c]) := by
  have pr : Pre φ (φ ++ [p]) := ⟨[p], rfl⟩
  refine ⟨by rw [List.length_append, List.length_append, r.len]; rfl, r.sub, List.nodup_append.mpr ⟨r.nd, List.nodup_cons.mpr ⟨List.not_mem_nil, List.nodup_nil⟩, fun a ha b hb => ?_⟩, fun n a c' e1 e2 => ?_⟩
  · rw [List.mem_singleton] at hb
    subst hb
    exact fun z => hn (by rw [← z]; exact ha)
  · by_cases hl : n < φ.length
    · rw [List.getElem?_append_left hl] at e1
      rw [List.getElem?_append_left (by rw [← r.len]; exact hl)] at e2
      obtain ⟨h1, o', h2, h3⟩ := r.cel n a c' e1 e2
      exact ⟨h1, o', h2, h3.mono pr (Ex.refl S)⟩
    · have hl2 := (List.getElem?_eq_some_iff.mp e1).1
      rw [List.length_append, List.length_singleton] at hl2
      have en : n = φ.length := by omega
      subst en
      rw [List.getElem?_append_right (Nat.le_refl _), Nat.sub_self] at e1
      rw [r.len, List.getElem?_append_right (Nat.le_refl _), Nat.sub_self] at e2
      cases e1
      cases e2
      exact ⟨hs, o, hp, hc.mono pr (Ex.refl S)⟩
/-- a cell is written -/
theorem Rel.put {K : PySem.W.Frag} {φ : List Addr} {S H : Hp} {h : Hv} (r : Rel K φ S H h) {n : Nat} {a : Addr} {o : HO} {c : Cell} (hn : φ[n]? = some a) (hc : RpC K φ S c o) : Rel K φ S (upd H a o) (h.set n c) ∧ Step φ S H φ S (upd H a o) := by
  obtain ⟨c0, hc0⟩ := r.at hn
  obtain ⟨sa, o0, ho0, _⟩ := r.cel n a c0 hn hc0
  refine ⟨⟨by rw [List.length_set]; exact r.len, fun b u e => ?_, r.nd, fun m b c' e1 e2 => ?_⟩, ⟨⟨[], (List.append_nil φ).symm, fun _ z => nomatch z⟩, Ex.refl S, fun b hb => rfl, fun b u e hb => ?_, fun b hb => ?_⟩⟩
  · have q : b ≠ a := ne_of_none e sa
    rw [upd_ne q]
    exact r.sub b u e
  · by_cases q : m = n
    · subst q
      rw [hn] at e1
      cases e1
      rw [List.getElem?_set_self (List.getElem?_eq_some_iff.mp hc0).1] at e2
      cases e2
      exact ⟨sa, o, upd_same, hc⟩
    · rw [List.getElem?_set_ne (Ne.symm q)] at e2
      obtain ⟨h1, o', h2, h3⟩ := r.cel m b c' e1 e2
      have ne : b ≠ a := fun z => by
        subst z
        exact q (nd_ix r.nd e1 hn)
      exact ⟨h1, o', by rw [upd_ne ne]; exact h2, h3⟩
  · have ne : b ≠ a := fun z => hb (by rw [z]; exact List.mem_of_getElem? hn)
    rw [upd_ne ne]
    exact e
  · by_cases ne : b = a
    · subst ne
      rw [upd_same]
      exact fun z => nomatch z
    · rw [upd_ne ne]
      exact hb

/-! ### slots -/
structure RelS (K : PySem.W.Frag) (φ : List Addr) (S : Hp) (σv : VS) (σ : L2.St) : Prop where
  len : σ.length = σv.length
  at_ : ∀ (i : Nat) (d : D), σv[i]? = some (some d) → ∃ v, σ[i]? = some (some v) ∧ Rp K φ S v d
section
variable {K : PySem.W.Frag} {φ φ' : List Addr} {S S' : Hp} {σv : VS} {σ : L2.St}
theorem RelS.mono (r : RelS K φ S σv σ) (p : Pre φ φ') (e : Ex S S') : RelS K φ' S' σv σ := ⟨r.len, fun i d hd => let ⟨v, h1, h2⟩ := r.at_ i d hd; ⟨v, h1, h2.mono p e⟩⟩
theorem RelS.step (r : RelS K φ S σv σ) {H H' : Hp} (s : Step φ S H φ' S' H') : RelS K φ' S' σv σ := r.mono s.prefix s.sub
theorem RelS.set (r : RelS K φ S σv σ) {v : V} {d : D} (h : Rp K φ S v d) (i : Nat) : RelS K φ S (σv.set i (some d)) (σ.set i (some v)) := by
  refine ⟨by rw [List.length_set, List.length_set]; exact r.len, fun j e he => ?_⟩
  by_cases q : j = i
  · subst q
    have hl := (List.getElem?_eq_some_iff.mp he).1
    rw [List.length_set] at hl
    rw [List.getElem?_set_self hl] at he
    cases he
    exact ⟨v, List.getElem?_set_self (by rw [r.len]; exact hl), h⟩
  · rw [List.getElem?_set_ne (Ne.symm q)] at he ⊢
    exact r.at_ j e he
theorem RelS.unset (r : RelS K φ S σv σ) (i : Nat) (o : Option V) : RelS K φ S (σv.set i none) (σ.set i o) := by
  refine ⟨by rw [List.length_set, List.length_set]; exact r.len, fun j e he => ?_⟩
  by_cases q : j = i
  · subst q
    have hl := (List.getElem?_eq_some_iff.mp he).1
    rw [List.length_set] at hl
    rw [List.getElem?_set_self hl] at he
    cases he
  · rw [List.getElem?_set_ne (Ne.symm q)] at he ⊢
    exact r.at_ j e he
end
end VD

set_option Elab.async false
set_option linter.all false
set_option maxRecDepth 100000
set_option maxHeartbeats 4000000
namespace VD
open PySem PySem.Spec PyProof.Rows L2

/-! ### readings and what they compute -/
def RpX (K : PySem.W.Frag) (φ : List Addr) (S H : Hp) (x : Xn) (cls : Value) (dd : Option Addr) : Prop :=
  cls = .ref (He.ga K x.cls) ∧ match x.pay with
    | none => dd = none
    | some (f, d) => ∃ dx v, dd = some dx ∧ S dx = some (.xd [(f, v)]) ∧ Rp K φ S v d
/-- how a result stands: the heap ahead, then cells, what is still, the heap behind -/
abbrev Rep (α β : Type) := Hp → List Addr → Hp → Hp → β → α → Prop
class Rep.Up {α β : Type} (rep : Rep α β) : Prop where
  up : ∀ {φ S H φ1 S1 H1 φ' S' H' b a}, Step φ S H φ1 S1 H1 → rep H1 φ' S' H' b a → rep H φ' S' H' b a
def repV (K : PySem.W.Frag) : Rep D V := fun _ φ' S' _ v d => Rp K φ' S' v d
def repA (K : PySem.W.Frag) : Rep (List D) (List V) := fun _ φ' S' _ v d => RpA K φ' S' v d
def repB : Rep Bool Bool := fun _ _ _ _ b a => b = a
/-- a new list -/
def repL (K : PySem.W.Frag) : Rep (List D) V := fun H φ' S' H' v ds => ∃ p vs, v = .ref p ∧ H p = none ∧ H' p = some (.lst vs) ∧ S' p = none ∧ p ∉ φ' ∧ RpA K φ' S' vs ds
instance {K : PySem.W.Frag} : Rep.Up (repV K) := ⟨fun _ h => h⟩
instance {K : PySem.W.Frag} : Rep.Up (repA K) := ⟨fun _ h => h⟩
instance : Rep.Up repB := ⟨fun _ h => h⟩
instance {K : PySem.W.Frag} : Rep.Up (repL K) := ⟨fun s ⟨p, vs, h1, h2, h3⟩ => ⟨p, vs, h1, s.fresh h2, h3⟩⟩

def Post {α β : Type} (K : PySem.W.Frag) (rep : Rep α β) (φ : List Addr) (S H : Hp) (r : R α) (Q : β → Hp → Prop) (E : XK) : Prop := match r with
  | .ok a h' => ∀ b φ' S' H', Rel K φ' S' H' h' → Step φ S H φ' S' H' → rep H φ' S' H' b a → Q b H'
  | .exc x h' => ∀ cls dd φ' S' H', Rel K φ' S' H' h' → Step φ S H φ' S' H' → RpX K φ' S' H' x cls dd → E cls dd H'
  | .stuck => False
theorem Post.up {α β : Type} {K : PySem.W.Frag} {rep : Rep α β} [Rep.Up rep] {φ φ1 : List Addr} {S H S1 H1 : Hp} {r : R α} {Q : β → Hp → Prop} {E : XK} (s : Step φ S H φ1 S1 H1) (p : Post K rep φ S H r Q E) : Post K rep φ1 S1 H1 r Q E := by
  cases r with
  | ok a h' => exact fun b φ' S' H' rl st rp => p b φ' S' H' rl (s.trans st) (Rep.Up.up s rp)
  | exc x h' => exact fun cls dd φ' S' H' rl st rp => p cls dd φ' S' H' rl (s.trans st) rp
  | stuck => exact p
theorem Post.imp {α β : Type} {K : PySem.W.Frag} {rep : Rep α β} {φ : List Addr} {S H : Hp} {r : R α} {Q Q' : β → Hp → Prop} {E E' : XK} (p : Post K rep φ S H r Q E) (h : ∀ b H', Q b H' → Q' b H') (he : ∀ c d H', E c d H' → E' c d H') : Post K rep φ S H r Q' E' := by
  cases r with
  | ok a h' => exact fun b φ' S' H' rl st rp => h _ _ (p b φ' S' H' rl st rp)
  | exc x h' => exact fun cls dd φ' S' H' rl st rp => he _ _ _ (p cls dd φ' S' H' rl st rp)
  | stuck => exact p
/-- the reading t is kept by es: in every state, what es tells comes -/
structure Sn {α β : Type} (K : PySem.W.Frag) (rep : Rep α β) (W : WX) (t : L2.St → Hp → (β → Hp → Prop) → Prop) (es : VS → Hv → R α) : Prop where
  run : ∀ {φ : List Addr} {S H : Hp} {h : Hv} {σv : VS} {σ : L2.St} {Q : β → Hp → Prop}, Rel K φ S H h → RelS K φ S σv σ → Post K rep φ S H (es σv h) Q (fun c d H' => W c d σ H') → t σ H Q
theorem Sn.bind {α β γ δ : Type} {K : PySem.W.Frag} {rep : Rep α β} {rep2 : Rep γ δ} [Rep.Up rep2] {W : WX} {t : L2.St → Hp → (β → Hp → Prop) → Prop} {ea : VS → Hv → R α} {f : α → Hv → R γ}
    {φ : List Addr} {S H : Hp} {h : Hv} {σv : VS} {σ : L2.St} {Q : δ → Hp → Prop} {Q1 : β → Hp → Prop}
    (ha : Sn K rep W t ea) (rl : Rel K φ S H h) (rs : RelS K φ S σv σ) (post : Post K rep2 φ S H ((ea σv h).bind f) Q (fun c d H' => W c d σ H'))
    (k : ∀ a h1 b φ1 S1 H1, Rel K φ1 S1 H1 h1 → RelS K φ1 S1 σv σ → Step φ S H φ1 S1 H1 → rep H φ1 S1 H1 b a → Post K rep2 φ1 S1 H1 (f a h1) Q (fun c d H' => W c d σ H') → Q1 b H1) : t σ H Q1 := by
  refine ha.run rl rs ?_
  cases q : ea σv h with
  | ok a h1 =>
    rw [q] at post
    exact fun b φ1 S1 H1 rl1 st rp => k a h1 b φ1 S1 H1 rl1 (rs.step st) st rp (Post.up st post)
  | exc x h1 =>
    rw [q] at post
    exact post
  | stuck =>
    rw [q] at post
    exact post

def SE (X : Cx) (W : WX) (e : Expr) (es : ES) : Prop := ∃ te, PE X e te ∧ Sn X.K (repV X.K) W te es
def SL (X : Cx) (W : WX) (e : Expr) (es : LS) : Prop := ∃ te, PE X e te ∧ Sn X.K (repL X.K) W te es
def ST (X : Cx) (W : WX) (e : Expr) (es : CS) : Prop := ∃ te, PT X e te ∧ Sn X.K repB W te es
def SW (X : Cx) (W : WX) (e : Expr) (es : CS) : Prop := ∃ te, PW X e te ∧ Sn X.K repB W te es
def SA (X : Cx) (W : WX) (es : List Expr) (as : LS) : Prop := ∃ te, PA X es te ∧ Sn X.K (repA X.K) W te as

theorem Step.still {φ φ1 : List Addr} {S H S1 H1 : Hp} (s : Step φ S H φ1 S1 H1) {p : Addr} {o : HO} (hp : H p = none) (hs : S1 p = none) : Step φ S H φ1 (upd S1 p o) H1 :=
  ⟨s.pre, s.sub.trans (Ex.new hs), fun a ha => by
    have q : a ≠ p := fun z => ha (by rw [z]; exact hp)
    rw [upd_ne q]
    exact s.old a ha, s.keep, s.there⟩
theorem Step.celled {φ φ1 : List Addr} {S H S1 H1 : Hp} (s : Step φ S H φ1 S1 H1) {p : Addr} (hp : H p = none) : Step φ S H (φ1 ++ [p]) S1 H1 := by
  obtain ⟨⟨ψ, e, hn⟩, s2, s3, s4, s5⟩ := s
  refine ⟨⟨ψ ++ [p], by rw [e, List.append_assoc], fun a ha => ?_⟩, s2, s3, s4, s5⟩
  rcases List.mem_append.mp ha with z | z
  · exact hn a z
  · rw [List.mem_singleton.mp z]
    exact hp
/-- from one result to the next -/
theorem Post.map {α β γ δ : Type} {K : PySem.W.Frag} {rep : Rep α β} {rep2 : Rep γ δ} {φ : List Addr} {S H : Hp} {r : R α} {f : α → Hv → R γ} {Q1 : β → Hp → Prop} {Q : δ → Hp → Prop} {E : XK} (post : Post K rep2 φ S H (r.bind f) Q E)
    (k : ∀ a h1 b φ1 S1 H1, Rel K φ1 S1 H1 h1 → Step φ S H φ1 S1 H1 → rep H φ1 S1 H1 b a → Post K rep2 φ S H (f a h1) Q E → Q1 b H1) : Post K rep φ S H r Q1 E := by
  cases r with
  | ok a h1 => exact fun b φ1 S1 H1 rl st rp => k a h1 b φ1 S1 H1 rl st rp post
  | exc x h1 => exact post
  | stuck => exact post

section
variable {X : Cx} {W : WX} {e a b c : Expr} {es : List Expr} {pos : Pos} {fa fb fc : ES} {la lb : LS} {ca cb : CS}
/-- a list that is new stays as it is -/
def eV (f : LS) : ES := fun σ h => (f σ h).bind fun ds h' => .ok (.lst ds) h'
theorem se_V (h : SL X W e la) : SE X W e (eV la) := by
  obtain ⟨te, h1, h2⟩ := h
  refine ⟨te, h1, ⟨fun rl rs post => h2.run rl rs (post.map fun ds h1 v φ1 S1 H1 rl1 st rp post => ?_)⟩⟩
  obtain ⟨p, vs, rfl, hp, hp1, hs1, hn1, ra⟩ := rp
  exact post (.ref p) φ1 _ H1 (rl1.still hp1 hs1 hn1) (st.still hp hs1) (.lst upd_same (ra.mono (Pre.refl _) (Ex.new hs1)))
/-- .. or is a cell -/
def eC (f : LS) : ES := fun σ h => (f σ h).bind fun ds h' => .ok (.cell h'.length) (h' ++ [.lst ds])
theorem se_C (h : SL X W e la) : SE X W e (eC la) := by
  obtain ⟨te, h1, h2⟩ := h
  refine ⟨te, h1, ⟨fun rl rs post => h2.run rl rs (post.map fun ds h1 v φ1 S1 H1 rl1 st rp post => ?_)⟩⟩
  obtain ⟨p, vs, rfl, hp, hp1, hs1, hn1, ra⟩ := rp
  refine post (.ref p) (φ1 ++ [p]) S1 H1 (rl1.celled hp1 hs1 hn1 ⟨vs, rfl, ra⟩) (st.celled hp) (.cell ?_)
  rw [← rl1.len, List.getElem?_append_right (Nat.le_refl _), Nat.sub_self]
  rfl

/-! ### names and constants -/
def eVar (i : Nat) : ES := fun σ h => match σ[i]? with
  | some (some d) => .ok d h
  | _ => .stuck
theorem se_var {i : Nat} {x : Str} (hN : X.N[i]? = some x := by rfl) (hv : Vis X.env.scope x := by first | exact Or.inl rfl | exact Or.inr (Or.inl rfl) | exact Or.inr (Or.inr rfl)) (hd : (x == ("__debug__" : Str)) = false := by decide)
    (hcd : (x == ("__classdict__" : Str)) = false := by decide) : SE X W (.Name x pos) (eVar i) := by
  refine ⟨_, pe_var hN hv hd hcd, ⟨fun {φ S H h σv σ Q} rl rs post => ?_⟩⟩
  unfold eVar at post
  cases q : σv[i]? with
  | none => rw [q] at post; exact post.elim
  | some o =>
    cases o with
    | none => rw [q] at post; exact post.elim
    | some d =>
      rw [q] at post
      obtain ⟨v, h1, h2⟩ := rs.at_ i d q
      exact ⟨v, h1, post v φ S H rl (Step.refl _ _ _) h2⟩
def eK (d : D) : ES := fun _ h => .ok d h
theorem se_k {v : V} {d : D} (h : PE X e (tC v)) (r : ∀ K φ S, Rp K φ S v d) : SE X W e (eK d) := ⟨_, h, ⟨fun {φ S H h σv σ Q} rl rs post => post v φ S H rl (Step.refl _ _ _) (r _ _ _)⟩⟩
theorem se_int {i j} : SE X W (.Constant (.int i) j pos) (eK (.int i)) := se_k pe_int fun _ _ _ => .int i
theorem se_bl {i j} : SE X W (.Constant (.bool i) j pos) (eK (.bl i)) := se_k pe_bl fun _ _ _ => .bl i
theorem se_non {j} : SE X W (.Constant .none j pos) (eK .non) := se_k pe_non fun _ _ _ => .non
theorem se_str {i j} : SE X W (.Constant (.str i) j pos) (eK (.str i)) := se_k pe_str fun _ _ _ => .str i
/-- a constant of the module -/
theorem se_glob {x : Str} {v : V} {u : Value} {d : D} (hm : X.mg x = some u) (r : RelV v u) (rd : ∀ φ S, Rp X.K φ S v d) (hg : Gl X x := by rfl) (hd : (x == ("__debug__" : Str)) = false := by decide) : SE X W (.Name x pos) (eK d) :=
  ⟨_, pe_glob hg hm r hd, ⟨fun {φ S H h σv σ Q} rl rs post => post v φ S H rl (Step.refl _ _ _) (rd _ _)⟩⟩
theorem se_globI {x : Str} {i : Int} {t : Tok} (hm : X.mg x = some (.int i t)) (hg : Gl X x := by rfl) (hd : (x == ("__debug__" : Str)) = false := by decide) : SE X W (.Name x pos) (eK (.int i)) := se_glob (v := .int i) hm ⟨t, rfl⟩ (fun _ _ => .int _) hg hd
theorem se_globS {x z : Str} {t : Tok} (hm : X.mg x = some (.str z t)) (hg : Gl X x := by rfl) (hd : (x == ("__debug__" : Str)) = false := by decide) : SE X W (.Name x pos) (eK (.str z)) := se_glob (v := .str z) hm ⟨t, rfl⟩ (fun _ _ => .str _) hg hd
/-! ### operators -/
def OpS (K : PySem.W.Frag) (r : R2) (ro : D → D → Hv → R D) : Prop := ∀ {φ : List Addr} {S H : Hp} {h : Hv} {x y : D} {v u : V} {Q : VK} {E : XK}, Rel K φ S H h → Rp K φ S v x → Rp K φ S u y → Post K (repV K) φ S H (ro x y h) Q E → r v u H Q
def OpL (K : PySem.W.Frag) (r : R2) (ro : D → D → Hv → R (List D)) : Prop := ∀ {φ : List Addr} {S H : Hp} {h : Hv} {x y : D} {v u : V} {Q : VK} {E : XK}, Rel K φ S H h → Rp K φ S v x → Rp K φ S u y → Post K (repL K) φ S H (ro x y h) Q E → r v u H Q
def UnS (K : PySem.W.Frag) (r : V → Hp → VK → Prop) (ro : D → Hv → R D) : Prop := ∀ {φ : List Addr} {S H : Hp} {h : Hv} {x : D} {v : V} {Q : VK} {E : XK}, Rel K φ S H h → Rp K φ S v x → Post K (repV K) φ S H (ro x h) Q E → r v H Q
def eOp {α : Type} (ro : D → D → Hv → R α) (fa fb : ES) : VS → Hv → R α := fun σ h => (fa σ h).bind fun x h1 => (fb σ h1).bind fun y h2 => ro x y h2
def eUn (ro : D → Hv → R D) (fa : ES) : ES := fun σ h => (fa σ h).bind fun x h1 => ro x h1
theorem sn_op {ta tb : TE} {r : R2} {ro : D → D → Hv → R D} (hr : OpS X.K r ro) (h2 : Sn X.K (repV X.K) W ta fa) (k2 : Sn X.K (repV X.K) W tb fb) : Sn X.K (repV X.K) W (tOp r ta tb) (eOp ro fa fb) := ⟨fun rl rs post =>
  h2.bind rl rs post fun x h1 v φ1 S1 H1 rl1 rs1 st rp post =>
  k2.bind rl1 rs1 post fun y h2 u φ2 S2 H2 rl2 rs2 st2 rp2 post =>
  hr rl2 (Rp.mono st2.prefix st2.sub rp) rp2 post⟩
theorem sn_opL {ta tb : TE} {r : R2} {ro : D → D → Hv → R (List D)} (hr : OpL X.K r ro) (h2 : Sn X.K (repV X.K) W ta fa) (k2 : Sn X.K (repV X.K) W tb fb) : Sn X.K (repL X.K) W (tOp r ta tb) (eOp ro fa fb) := ⟨fun rl rs post =>
  h2.bind rl rs post fun x h1 v φ1 S1 H1 rl1 rs1 st rp post =>
  k2.bind rl1 rs1 post fun y h2 u φ2 S2 H2 rl2 rs2 st2 rp2 post =>
  hr rl2 (Rp.mono st2.prefix st2.sub rp) rp2 post⟩
theorem se_op {op : Operator} {r : R2} {ro : D → D → Hv → R D} (ho : OpR X (binaryOp op) r) (hr : OpS X.K r ro) (ha : SE X W a fa) (hb : SE X W b fb) : SE X W (.BinOp a op b pos) (eOp ro fa fb) := by
  obtain ⟨ta, h1, h2⟩ := ha
  obtain ⟨tb, k1, k2⟩ := hb
  exact ⟨_, pe_op ho h1 k1, sn_op hr h2 k2⟩
theorem sl_op {op : Operator} {r : R2} {ro : D → D → Hv → R (List D)} (ho : OpR X (binaryOp op) r) (hr : OpL X.K r ro) (ha : SE X W a fa) (hb : SE X W b fb) : SL X W (.BinOp a op b pos) (eOp ro fa fb) := by
  obtain ⟨ta, h1, h2⟩ := ha
  obtain ⟨tb, k1, k2⟩ := hb
  exact ⟨_, pe_op ho h1 k1, sn_opL hr h2 k2⟩
theorem se_cmp {op : CmpOp} {r : R2} {ro : D → D → Hv → R D} (ho : OpR X (compareOp op) r) (hr : OpS X.K r ro) (ha : SE X W a fa) (hb : SE X W b fb) (hm : behindInMarks op b = false) : SE X W (.Compare a [op] [b] pos) (eOp ro fa fb) := by
  obtain ⟨ta, h1, h2⟩ := ha
  obtain ⟨tb, k1, k2⟩ := hb
  exact ⟨_, pe_cmpR ho h1 k1 hm, sn_op hr h2 k2⟩
theorem sn_un {ta : TE} {r : V → Hp → VK → Prop} {ro : D → Hv → R D} (hr : UnS X.K r ro) (h2 : Sn X.K (repV X.K) W ta fa) : Sn X.K (repV X.K) W (tUn r ta) (eUn ro fa) := ⟨fun rl rs post =>
  h2.bind rl rs post fun x h1 v φ1 S1 H1 rl1 rs1 st rp post => hr rl1 rp post⟩
theorem se_un {op : UnaryOp} {r : V → Hp → VK → Prop} {ro : D → Hv → R D} (ho : UnR X (unaryOp op) r) (hr : UnS X.K r ro) (ha : SE X W a fa) : SE X W (.UnaryOp op a pos) (eUn ro fa) := by
  obtain ⟨ta, h1, h2⟩ := ha
  exact ⟨_, pe_un ho h1, sn_un hr h2⟩
/-- a bool of a value -/
def toB (f : ES) : CS := fun σ h => (f σ h).bind fun d h1 => match d with
  | .bl b => .ok b h1
  | _ => .stuck
theorem sn_B {te : TE} (h2 : Sn X.K (repV X.K) W te fa) : Sn X.K repB W (tTest te) (toB fa) := ⟨fun rl rs post =>
  h2.bind rl rs post fun x h1 v φ1 S1 H1 rl1 rs1 st rp post => by
    cases x with
    | bl b =>
      cases (show Rp _ _ _ _ _ from rp)
      exact ⟨b, rfl, post b φ1 S1 H1 rl1 (Step.refl _ _ _) rfl⟩
    | _ => exact post.elim⟩
theorem st_cmp {op : CmpOp} {r : R2} {ro : D → D → Hv → R D} (ho : OpR X (compareOp op) r) (hr : OpS X.K r ro) (ha : SE X W a fa) (hb : SE X W b fb) (hm : behindInMarks op b = false) : ST X W (.Compare a [op] [b] pos) (toB (eOp ro fa fb)) := by
  obtain ⟨ta, h1, h2⟩ := ha
  obtain ⟨tb, k1, k2⟩ := hb
  exact ⟨_, pt_cmpR ho h1 k1 hm, sn_B (sn_op hr h2 k2)⟩
/-- an expression that gives a bool, as a test -/
theorem st_val (ha : SE X W e fa) (he : ∀ whole, isTrue e X.env whole = (do let v ← whole; standAt e.pos; holding [v] (truthy v)) := by intro _; rfl) : ST X W e (toB fa) := by
  obtain ⟨ta, h1, h2⟩ := ha
  exact ⟨_, pt_val h1 he, sn_B h2⟩
end
end VD

set_option Elab.async false
set_option linter.all false
set_option maxRecDepth 100000
set_option maxHeartbeats 4000000
namespace VD
open PySem PySem.Spec PyProof.Rows L2
theorem line_eq : sizeLine = 16777216 := sizeLine_eq

section
variable {X : Cx} {W : WX} {e a b c : Expr} {es rest : List Expr} {pos : Pos} {fa fb fc : ES} {la lb : LS} {ca cb : CS}
/-! ### and, or, not, if -/
def cAnd (f g : CS) : CS := fun σ h => (f σ h).bind fun k h1 => if k then g σ h1 else .ok false h1
def cOr (f g : CS) : CS := fun σ h => (f σ h).bind fun k h1 => if k then .ok true h1 else g σ h1
def cNot (f : CS) : CS := fun σ h => (f σ h).bind fun k h1 => .ok (!k) h1
def eIf {α : Type} (c : CS) (f g : VS → Hv → R α) : VS → Hv → R α := fun σ h => (c σ h).bind fun k h1 => if k then f σ h1 else g σ h1
theorem sw_and1 (ha : ST X W a ca) : SW X W (.BoolOp .And [a] pos) ca := by
  obtain ⟨ta, h1, h2⟩ := ha
  exact ⟨_, pw_and1 h1, h2⟩
theorem sw_or1 (ha : ST X W a ca) : SW X W (.BoolOp .Or [a] pos) ca := by
  obtain ⟨ta, h1, h2⟩ := ha
  exact ⟨_, pw_or1 h1, h2⟩
theorem sw_and (ha : ST X W a ca) (hb : SW X W (.BoolOp .And (b :: rest) pos) cb) : SW X W (.BoolOp .And (a :: b :: rest) pos) (cAnd ca cb) := by
  obtain ⟨ta, h1, h2⟩ := ha
  obtain ⟨tb, k1, k2⟩ := hb
  refine ⟨_, pw_and h1 k1, ⟨fun rl rs post => h2.bind rl rs post fun x h1 v φ1 S1 H1 rl1 rs1 st rp post => ?_⟩⟩
  cases (show v = x from rp)
  cases x with
  | true => exact k2.run rl1 rs1 post
  | false => exact post false φ1 S1 H1 rl1 (Step.refl _ _ _) rfl
theorem sw_or (ha : ST X W a ca) (hb : SW X W (.BoolOp .Or (b :: rest) pos) cb) : SW X W (.BoolOp .Or (a :: b :: rest) pos) (cOr ca cb) := by
  obtain ⟨ta, h1, h2⟩ := ha
  obtain ⟨tb, k1, k2⟩ := hb
  refine ⟨_, pw_or h1 k1, ⟨fun rl rs post => h2.bind rl rs post fun x h1 v φ1 S1 H1 rl1 rs1 st rp post => ?_⟩⟩
  cases (show v = x from rp)
  cases x with
  | false => exact k2.run rl1 rs1 post
  | true => exact post true φ1 S1 H1 rl1 (Step.refl _ _ _) rfl
theorem st_w (h : SW X W e ca) : ST X W e ca := let ⟨t, h1, h2⟩ := h; ⟨t, h1.pt, h2⟩
theorem st_not (ha : ST X W a ca) : ST X W (.UnaryOp .Not a pos) (cNot ca) := by
  obtain ⟨ta, h1, h2⟩ := ha
  refine ⟨_, pt_not h1, ⟨fun rl rs post => h2.bind rl rs post fun x h1 v φ1 S1 H1 rl1 rs1 st rp post => ?_⟩⟩
  cases (show v = x from rp)
  exact post _ φ1 S1 H1 rl1 (Step.refl _ _ _) rfl
theorem se_if (hc : ST X W c ca) (ha : SE X W a fa) (hb : SE X W b fb) : SE X W (.IfExp c a b pos) (eIf ca fa fb) := by
  obtain ⟨tc, h1, h2⟩ := hc
  obtain ⟨ta, k1, k2⟩ := ha
  obtain ⟨tb, l1, l2⟩ := hb
  refine ⟨_, pe_ifExp h1 k1 l1, ⟨fun rl rs post => h2.bind rl rs post fun x h1 v φ1 S1 H1 rl1 rs1 st rp post => ?_⟩⟩
  cases (show v = x from rp)
  cases x with
  | true => exact k2.run rl1 rs1 post
  | false => exact l2.run rl1 rs1 post
/-- a value's truth -/
def dTru (h : Hv) : D → Option Bool
  | .non => some false
  | .bl b => some b
  | .int i => some (i != 0)
  | .lst xs => some (!xs.isEmpty)
  | .fz xs => some (!xs.isEmpty)
  | .tup xs => some (!xs.isEmpty)
  | .str x => if x.length ≤ 16777216 then some (x.length != 0) else none
  | .cell n => match h[n]? with
    | some (.lst xs) => some (!xs.isEmpty)
    | some (.dK kvs) => some (!kvs.isEmpty)
    | _ => none
  | .raw _ => none
  | .dct _ _ => none
  | .obj _ _ _ => none
  | .exv _ _ _ _ => none
theorem RpA.isEmpty {K : PySem.W.Frag} {φ : List Addr} {S : Hp} {vs : List V} {ds : List D} (h : RpA K φ S vs ds) : vs.isEmpty = ds.isEmpty := by
  cases h <;> rfl
theorem dTru_ok {K : PySem.W.Frag} {φ : List Addr} {S H : Hp} {h : Hv} {d : D} {v : V} {k : Bool} (rl : Rel K φ S H h) (rp : Rp K φ S v d) (e : dTru h d = some k) : TruV K v H k := by
  cases rp with
  | non => exact (Option.some.inj e).symm
  | bl b => exact (Option.some.inj e).symm
  | int i => exact (Option.some.inj e).symm
  | str x =>
    simp only [dTru] at e
    split at e
    · next q =>
      refine ⟨by rw [line_eq]; exact q, ?_⟩
      have e' := (Option.some.inj e).symm
      rw [e']
      cases x.length <;> rfl
    · cases e
  | lst h1 h2 => exact .inl ⟨_, .inl (.inl (rl.sub _ _ h1)), by rw [h2.isEmpty]; exact (Option.some.inj e).symm⟩
  | fz h1 h2 => exact .inl ⟨_, rl.sub.sql h1, by rw [h2.isEmpty]; exact (Option.some.inj e).symm⟩
  | tup h1 h2 => exact .inr (.inl ⟨_, rl.sub.sqt h1, by rw [h2.isEmpty]; exact (Option.some.inj e).symm⟩)
  | @cell a n h1 =>
    obtain ⟨c, hc⟩ := rl.at h1
    obtain ⟨_, o, ho, rc⟩ := rl.cel _ _ _ h1 hc
    simp only [dTru] at e
    rw [hc] at e
    cases c with
    | lst ds =>
      obtain ⟨vs, rfl, ra⟩ := rc
      exact .inl ⟨vs, .inl (.inl ho), by rw [ra.isEmpty]; exact (Option.some.inj e).symm⟩
    | dK kvs =>
      obtain ⟨kv, rfl, ek, ra⟩ := rc
      refine .inr (.inr ⟨kv, ho, ?_⟩)
      have : kv.isEmpty = kvs.isEmpty := by
        have h1 := congrArg List.length ek
        rw [List.length_map, List.length_map] at h1
        cases kv <;> cases kvs <;> simp_all
      rw [this]
      exact (Option.some.inj e).symm
    | dF kvs => cases e
    | ins C fs => cases e
    | dN w kvs => cases e
  | raw v => cases e
  | dct h1 h2 h3 => cases e
  | obj h1 h2 h3 => cases e
  | exv h1 h2 => cases e
def cTru (f : ES) : CS := fun σ h => (f σ h).bind fun d h1 => match dTru h1 d with
  | some b => .ok b h1
  | none => .stuck
theorem st_tru (ha : SE X W e fa) (he : ∀ whole, isTrue e X.env whole = (do let v ← whole; standAt e.pos; holding [v] (truthy v)) := by intro _; rfl) : ST X W e (cTru fa) := by
  obtain ⟨ta, h1, h2⟩ := ha
  refine ⟨_, pt_truth h1 he, ⟨fun rl rs post => h2.bind rl rs post fun x h1 v φ1 S1 H1 rl1 rs1 st rp post => ?_⟩⟩
  cases q : dTru h1 x with
  | none => rw [q] at post; exact post.elim
  | some k =>
    rw [q] at post
    exact ⟨k, dTru_ok rl1 rp q, post k φ1 S1 H1 rl1 (Step.refl _ _ _) rfl⟩

/-! ### arguments, displays -/
def aNil : LS := fun _ h => .ok [] h
def aCons (f : ES) (g : LS) : LS := fun σ h => (f σ h).bind fun d h1 => (g σ h1).bind fun ds h2 => .ok (d :: ds) h2
theorem sa_nil : SA X W [] aNil := ⟨_, pa_nil, ⟨fun {φ S H h σv σ Q} rl rs post => post [] φ S H rl (Step.refl _ _ _) .nil⟩⟩
theorem sa_cons (ha : SE X W e fa) (hr : SA X W es la) (hs : starEach (e :: es) X.env = (false, eval e X.env) :: starEach es X.env := by rfl) : SA X W (e :: es) (aCons fa la) := by
  obtain ⟨ta, h1, h2⟩ := ha
  obtain ⟨tr, k1, k2⟩ := hr
  exact ⟨_, pa_cons h1 k1 hs, ⟨fun rl rs post => h2.bind rl rs post fun x h1 v φ1 S1 H1 rl1 rs1 st rp post =>
    k2.bind rl1 rs1 post fun ds h2 vs φ2 S2 H2 rl2 rs2 st2 rp2 post => post (v :: vs) φ2 S2 H2 rl2 (Step.refl _ _ _) (.cons (Rp.mono st2.prefix st2.sub rp) rp2)⟩⟩
def eTup (g : LS) : ES := fun σ h => (g σ h).bind fun ds h1 => if ds.length ≤ 16777216 then .ok (.tup ds) h1 else .stuck
theorem se_tup {x1} (ha : SA X W es la) : SE X W (.Tuple es x1 pos) (eTup la) := by
  obtain ⟨ta, h1, h2⟩ := ha
  refine ⟨_, pe_tup h1, ⟨fun rl rs post => h2.bind rl rs post fun ds h1 vs φ1 S1 H1 rl1 rs1 st rp post => ?_⟩⟩
  have ra : RpA X.K φ1 S1 vs ds := rp
  by_cases q : ds.length ≤ 16777216
  · rw [if_pos q] at post
    refine ⟨by rw [ra.length, line_eq]; exact q, fun p hp => ?_⟩
    obtain ⟨r2, s2⟩ := rl1.lay (o := .tup vs) hp
    exact post (.ref p) φ1 _ _ r2 s2 (.tup (.inl (.inl upd_same)) (ra.mono (Pre.refl _) s2.sub))
  · rw [if_neg q] at post
    exact post.elim
def lLst (g : LS) : LS := fun σ h => (g σ h).bind fun ds h1 => if ds.length ≤ 16777216 then .ok ds h1 else .stuck
theorem sl_lst (ha : SA X W es la) : SL X W (.List es pos) (lLst la) := by
  obtain ⟨ta, h1, h2⟩ := ha
  refine ⟨_, pe_lst h1, ⟨fun rl rs post => h2.bind rl rs post fun ds h1 vs φ1 S1 H1 rl1 rs1 st rp post => ?_⟩⟩
  have ra : RpA X.K φ1 S1 vs ds := rp
  by_cases q : ds.length ≤ 16777216
  · rw [if_pos q] at post
    refine ⟨by rw [ra.length, line_eq]; exact q, fun p hp => ?_⟩
    obtain ⟨r2, s2⟩ := rl1.hold (o := .lst vs) hp
    exact post (.ref p) φ1 _ _ r2 s2 ⟨p, vs, rfl, hp, upd_same, rl1.snone hp, rl1.notin hp, ra⟩
  · rw [if_neg q] at post
    exact post.elim

/-! ### value or, and: of bools -/
def eAndV (f g : ES) : ES := fun σ h => (f σ h).bind fun d h1 => match d with
  | .bl true => g σ h1
  | .bl false => .ok (.bl false) h1
  | _ => .stuck
def eOrV (f g : ES) : ES := fun σ h => (f σ h).bind fun d h1 => match d with
  | .bl false => g σ h1
  | .bl true => .ok (.bl true) h1
  | _ => .stuck
def eNotV (f : ES) : ES := fun σ h => (f σ h).bind fun d h1 => match d with
  | .bl b => .ok (.bl (!b)) h1
  | _ => .stuck
theorem se_one {op} (h : SE X W a fa) : SE X W (.BoolOp op [a] pos) fa := let ⟨t, h1, h2⟩ := h; ⟨t, pe_one h1, h2⟩
theorem se_and (ha : SE X W a fa) (hb : SE X W (.BoolOp .And (b :: rest) pos) fb) : SE X W (.BoolOp .And (a :: b :: rest) pos) (eAndV fa fb) := by
  obtain ⟨ta, h1, h2⟩ := ha
  obtain ⟨tb, k1, k2⟩ := hb
  refine ⟨_, pe_and h1 k1, ⟨fun rl rs post => h2.bind rl rs post fun x h1 v φ1 S1 H1 rl1 rs1 st rp post => ?_⟩⟩
  cases x with
  | bl q =>
    cases (show Rp _ _ _ _ _ from rp)
    cases q with
    | true => exact ⟨true, rfl, k2.run rl1 rs1 post⟩
    | false => exact ⟨false, rfl, post _ φ1 S1 H1 rl1 (Step.refl _ _ _) (.bl false)⟩
  | _ => exact post.elim
theorem se_or (ha : SE X W a fa) (hb : SE X W (.BoolOp .Or (b :: rest) pos) fb) : SE X W (.BoolOp .Or (a :: b :: rest) pos) (eOrV fa fb) := by
  obtain ⟨ta, h1, h2⟩ := ha
  obtain ⟨tb, k1, k2⟩ := hb
  refine ⟨_, pe_or h1 k1, ⟨fun rl rs post => h2.bind rl rs post fun x h1 v φ1 S1 H1 rl1 rs1 st rp post => ?_⟩⟩
  cases x with
  | bl q =>
    cases (show Rp _ _ _ _ _ from rp)
    cases q with
    | false => exact ⟨false, rfl, k2.run rl1 rs1 post⟩
    | true => exact ⟨true, rfl, post _ φ1 S1 H1 rl1 (Step.refl _ _ _) (.bl true)⟩
  | _ => exact post.elim
theorem se_not (ha : SE X W a fa) : SE X W (.UnaryOp .Not a pos) (eNotV fa) := by
  obtain ⟨ta, h1, h2⟩ := ha
  refine ⟨_, pe_not h1, ⟨fun rl rs post => h2.bind rl rs post fun x h1 v φ1 S1 H1 rl1 rs1 st rp post => ?_⟩⟩
  cases x with
  | bl q =>
    cases (show Rp _ _ _ _ _ from rp)
    exact ⟨q, rfl, post _ φ1 S1 H1 rl1 (Step.refl _ _ _) (.bl _)⟩
  | _ => exact post.elim
end
end VD

set_option Elab.async false
set_option linter.all false
set_option maxRecDepth 100000
set_option maxHeartbeats 4000000
namespace VD
open PySem PySem.Spec PyProof.Rows L2
noncomputable section

/-! ### data as the library's -/
def optAll {α β : Type} (g : β → Option α) : List β → Option (List α)
  | [] => some []
  | d :: ds => match g d with
    | some a => (match optAll g ds with
      | some as => some (a :: as)
      | none => none)
    | none => none
def toPy (h : Hv) : Nat → D → Option PyData
  | 0, _ => none
  | _ + 1, .non => some .none
  | _ + 1, .bl b => some (.bool b)
  | _ + 1, .int i => some (.int i)
  | _ + 1, .str x => some (.str x)
  | f + 1, .lst ds => (optAll (toPy h f) ds).map .list
  | f + 1, .fz ds => (optAll (toPy h f) ds).map .list
  | f + 1, .tup ds => (optAll (toPy h f) ds).map .tuple
  | f + 1, .cell n => match h[n]? with
    | some (.lst ds) => (optAll (toPy h f) ds).map .list
    | _ => none
  | _ + 1, .raw _ => none
  | _ + 1, .dct _ _ => none
  | _ + 1, .obj _ _ _ => none
  | _ + 1, .exv _ _ _ _ => none
section
variable {K : PySem.W.Frag} {φ : List Addr} {S H : Hp} {h : Hv}
theorem dp_of (rl : Rel K φ S H h) : ∀ (f : Nat) (d : D) (v : V) (p : PyData), Rp K φ S v d → toPy h f d = some p → Dp K H v p := by
  intro f
  induction f with
  | zero => intro d v p _ e; cases e
  | succ f ih =>
    have all : ∀ (ds : List D) (vs : List V) (ps : List PyData), RpA K φ S vs ds → optAll (toPy h f) ds = some ps → DpAll K H vs ps := by
      intro ds
      induction ds with
      | nil => intro vs ps r e; cases r; cases e; exact .nil
      | cons d ds ih2 =>
        intro vs ps r e
        cases r with
        | cons r t =>
          simp only [optAll] at e
          cases q : toPy h f d with
          | none => rw [q] at e; cases e
          | some p0 =>
            rw [q] at e
            cases q2 : optAll (toPy h f) ds with
            | none => simp only [q2] at e; cases e
            | some p1 =>
              simp only [q2] at e
              cases e
              exact .cons (ih d _ p0 r q) (ih2 _ p1 t q2)
    intro d v p r e
    cases r with
    | non => cases e; exact .non
    | bl b => cases e; exact .bl b
    | int i => cases e; exact .int i
    | str x => cases e; exact .str x
    | @lst a vs ds h1 h2 =>
      obtain ⟨ps, q, rfl⟩ := Option.map_eq_some_iff.mp (show (optAll (toPy h f) ds).map .list = some p from e)
      exact .lst (.inl (.inl (rl.sub _ _ h1))) (all ds vs ps h2 q)
    | @fz a vs ds h1 h2 =>
      obtain ⟨ps, q, rfl⟩ := Option.map_eq_some_iff.mp (show (optAll (toPy h f) ds).map .list = some p from e)
      exact .lst (rl.sub.sql h1) (all ds vs ps h2 q)
    | @tup a vs ds h1 h2 =>
      obtain ⟨ps, q, rfl⟩ := Option.map_eq_some_iff.mp (show (optAll (toPy h f) ds).map .tuple = some p from e)
      exact .tup (rl.sub.sqt h1) (all ds vs ps h2 q)
    | @cell a n h1 =>
      obtain ⟨c, hc⟩ := rl.at h1
      obtain ⟨_, o, ho, rc⟩ := rl.cel _ _ _ h1 hc
      simp only [toPy] at e
      rw [hc] at e
      cases c with
      | lst ds =>
        obtain ⟨vs, rfl, ra⟩ := rc
        obtain ⟨ps, q, rfl⟩ := Option.map_eq_some_iff.mp (show (optAll (toPy h f) ds).map .list = some p from e)
        exact .lst (.inl (.inl ho)) (all ds vs ps ra q)
      | dK kvs => cases e
      | dF kvs => cases e
      | ins C fs => cases e
      | dN w kvs => cases e
    | raw v => cases e
    | dct h1 h2 h3 => cases e
    | obj h1 h2 h3 => cases e
    | exv h1 h2 => cases e
/-- a list to be read, a tuple -/
def lOf (h : Hv) : D → Option (List D)
  | .lst xs => some xs
  | .fz xs => some xs
  | .cell n => match h[n]? with
    | some (.lst xs) => some xs
    | _ => none
  | _ => none
def tOf : D → Option (List D)
  | .tup xs => some xs
  | _ => none
theorem lOf_ok (rl : Rel K φ S H h) {d : D} {v : V} {ds : List D} (r : Rp K φ S v d) (e : lOf h d = some ds) : ∃ a vs, v = .ref a ∧ SqL K H a vs ∧ RpA K φ S vs ds := by
  cases r with
  | lst h1 h2 => cases e; exact ⟨_, _, rfl, .inl (.inl (rl.sub _ _ h1)), h2⟩
  | fz h1 h2 => cases e; exact ⟨_, _, rfl, rl.sub.sql h1, h2⟩
  | @cell a n h1 =>
    obtain ⟨c, hc⟩ := rl.at h1
    obtain ⟨_, o, ho, rc⟩ := rl.cel _ _ _ h1 hc
    simp only [lOf] at e
    rw [hc] at e
    cases c with
    | lst xs =>
      obtain ⟨vs, rfl, ra⟩ := rc
      cases e
      exact ⟨a, vs, rfl, .inl (.inl ho), ra⟩
    | dK kvs => cases e
    | dF kvs => cases e
    | ins C fs => cases e
    | dN w kvs => cases e
  | _ => cases e
theorem tOf_ok (rl : Rel K φ S H h) {d : D} {v : V} {ds : List D} (r : Rp K φ S v d) (e : tOf d = some ds) : ∃ a vs, v = .ref a ∧ SqT K H a vs ∧ RpA K φ S vs ds := by
  cases r with
  | tup h1 h2 => cases e; exact ⟨_, _, rfl, rl.sub.sqt h1, h2⟩
  | _ => cases e
/-- a list that is tracked as it stands -/
def kOf (h : Hv) : D → Option (List D)
  | .lst xs => some xs
  | .cell n => match h[n]? with
    | some (.lst xs) => some xs
    | _ => none
  | _ => none
theorem kOf_ok (rl : Rel K φ S H h) {d : D} {v : V} {ds : List D} (r : Rp K φ S v d) (e : kOf h d = some ds) : ∃ a vs, v = .ref a ∧ H a = some (.lst vs) ∧ RpA K φ S vs ds := by
  cases r with
  | lst h1 h2 => cases e; exact ⟨_, _, rfl, rl.sub _ _ h1, h2⟩
  | @cell a n h1 =>
    obtain ⟨c, hc⟩ := rl.at h1
    obtain ⟨_, o, ho, rc⟩ := rl.cel _ _ _ h1 hc
    simp only [kOf] at e
    rw [hc] at e
    cases c with
    | lst xs =>
      obtain ⟨vs, rfl, ra⟩ := rc
      cases e
      exact ⟨a, vs, rfl, ho, ra⟩
    | dK kvs => cases e
    | dF kvs => cases e
    | ins C fs => cases e
    | dN w kvs => cases e
  | _ => cases e
/-- flat values -/
def toV : D → Option V
  | .non => some .non
  | .bl b => some (.bl b)
  | .int i => some (.int i)
  | .str x => some (.str x)
  | _ => none
theorem toV_ok {d : D} {v w : V} (r : Rp K φ S v d) (e : toV d = some w) : v = w ∧ flatV v = true := by
  cases r <;> cases e <;> exact ⟨rfl, rfl⟩
theorem toVs_ok {ds : List D} {vs ws : List V} (r : RpA K φ S vs ds) (e : optAll toV ds = some ws) : vs = ws ∧ vs.all flatV = true := by
  induction ds generalizing vs ws with
  | nil => cases r; cases e; exact ⟨rfl, rfl⟩
  | cons d ds ih =>
    cases r with
    | cons r t =>
      simp only [optAll] at e
      cases q : toV d with
      | none => rw [q] at e; cases e
      | some w0 =>
        rw [q] at e
        cases q2 : optAll toV ds with
        | none => simp only [q2] at e; cases e
        | some w1 =>
          simp only [q2] at e
          cases e
          obtain ⟨e1, f1⟩ := toV_ok r q
          obtain ⟨e2, f2⟩ := ih t q2
          exact ⟨by rw [e1, e2], by rw [List.all_cons, f1, f2]; rfl⟩
def toI : D → Option Int
  | .int i => some i
  | _ => none
theorem toIs_ok {ds : List D} {vs : List V} {ns : List Int} (r : RpA K φ S vs ds) (e : optAll toI ds = some ns) : vs = ns.map V.int := by
  induction ds generalizing vs ns with
  | nil => cases r; cases e; rfl
  | cons d ds ih =>
    cases r with
    | cons r t =>
      simp only [optAll] at e
      cases q : toI d with
      | none => rw [q] at e; cases e
      | some w0 =>
        rw [q] at e
        cases q2 : optAll toI ds with
        | none => simp only [q2] at e; cases e
        | some w1 =>
          simp only [q2] at e
          cases e
          cases d with
          | int i => cases q; cases r; rw [ih t q2]; rfl
          | _ => cases q
def toBl : D → Option Bool
  | .bl i => some i
  | _ => none
theorem toBls_ok {ds : List D} {vs : List V} {ns : List Bool} (r : RpA K φ S vs ds) (e : optAll toBl ds = some ns) : vs = ns.map V.bl := by
  induction ds generalizing vs ns with
  | nil => cases r; cases e; rfl
  | cons d ds ih =>
    cases r with
    | cons r t =>
      simp only [optAll] at e
      cases q : toBl d with
      | none => rw [q] at e; cases e
      | some w0 =>
        rw [q] at e
        cases q2 : optAll toBl ds with
        | none => simp only [q2] at e; cases e
        | some w1 =>
          simp only [q2] at e
          cases e
          cases d with
          | bl i => cases q; cases r; rw [ih t q2]; rfl
          | _ => cases q
def toS : D → Option Str
  | .str i => some i
  | _ => none
theorem toSs_ok {ds : List D} {vs : List V} {ns : List Str} (r : RpA K φ S vs ds) (e : optAll toS ds = some ns) : vs = ns.map V.str := by
  induction ds generalizing vs ns with
  | nil => cases r; cases e; rfl
  | cons d ds ih =>
    cases r with
    | cons r t =>
      simp only [optAll] at e
      cases q : toS d with
      | none => rw [q] at e; cases e
      | some w0 =>
        rw [q] at e
        cases q2 : optAll toS ds with
        | none => simp only [q2] at e; cases e
        | some w1 =>
          simp only [q2] at e
          cases e
          cases d with
          | str i => cases q; cases r; rw [ih t q2]; rfl
          | _ => cases q
end

/-! ### operators by their operands -/
section
variable {X : Cx} {K : PySem.W.Frag}
def oSub : D → D → Hv → R D
  | .int i, .int j, h => .ok (.int (i - j)) h
  | _, _, _ => .stuck
theorem os_sub : OpS K (rI0 fun i j => .int (i - j)) oSub := by
  intro φ S H h x y v u Q E rl rx ry post
  cases rx <;> cases ry <;> first
    | exact post.elim
    | exact ⟨_, _, rfl, rfl, post _ φ S H rl (Step.refl _ _ _) (.int _)⟩
def mulOk (i j : Int) : Bool := decide (i.natAbs.log2 + j.natAbs.log2 < 1000000)
def oMul : D → D → Hv → R D
  | .int i, .int j, h => if mulOk i j then .ok (.int (i * j)) h else .stuck
  | _, _, _ => .stuck
theorem os_mul : OpS K (rI CMulW fun i j => .int (i * j)) oMul := by
  intro φ S H h x y v u Q E rl rx ry post
  cases rx <;> cases ry <;> first
    | exact post.elim
    | skip
  next i j =>
    simp only [oMul] at post
    by_cases q : mulOk i j = true
    · rw [if_pos q] at post
      exact ⟨_, _, rfl, rfl, (show CMulW _ _ by unfold mulOk at q; exact of_decide_eq_true (p := _ < _) q), post _ φ S H rl (Step.refl _ _ _) (.int _)⟩
    · rw [if_neg q] at post
      exact post.elim
def oMod : D → D → Hv → R D
  | .int i, .int j, h => if 0 < j then .ok (.int (i % j)) h else .stuck
  | _, _, _ => .stuck
theorem os_mod : OpS K (rI (fun _ j => 0 < j) fun i j => .int (i % j)) oMod := by
  intro φ S H h x y v u Q E rl rx ry post
  cases rx <;> cases ry <;> first
    | exact post.elim
    | skip
  next i j =>
    simp only [oMod] at post
    by_cases q : 0 < j
    · rw [if_pos q] at post
      exact ⟨_, _, rfl, rfl, q, post _ φ S H rl (Step.refl _ _ _) (.int _)⟩
    · rw [if_neg q] at post
      exact post.elim
def divOk (j : Int) : Bool := decide (0 < j ∧ j.natAbs.log2 < 9000)
def oFdiv : D → D → Hv → R D
  | .int i, .int j, h => if divOk j then .ok (.int (i / j)) h else .stuck
  | _, _, _ => .stuck
theorem os_fdiv : OpS K (rI CDivW fun i j => .int (i / j)) oFdiv := by
  intro φ S H h x y v u Q E rl rx ry post
  cases rx <;> cases ry <;> first
    | exact post.elim
    | skip
  next i j =>
    simp only [oFdiv] at post
    by_cases q : divOk j = true
    · rw [if_pos q] at post
      exact ⟨_, _, rfl, rfl, (show CDivW _ _ by unfold divOk at q; exact of_decide_eq_true (p := _ ∧ _) q), post _ φ S H rl (Step.refl _ _ _) (.int _)⟩
    · rw [if_neg q] at post
      exact post.elim
def powOk (i j : Int) : Bool := decide (0 ≤ j ∧ j ≤ 1000000 ∧ i.natAbs < 2 ^ 64)
def oPow : D → D → Hv → R D
  | .int i, .int j, h => if powOk i j then .ok (.int (i ^ j.toNat)) h else .stuck
  | _, _, _ => .stuck
theorem os_pow : OpS K (rI CPow fun i j => .int (i ^ j.toNat)) oPow := by
  intro φ S H h x y v u Q E rl rx ry post
  cases rx <;> cases ry <;> first
    | exact post.elim
    | skip
  next i j =>
    simp only [oPow] at post
    by_cases q : powOk i j = true
    · rw [if_pos q] at post
      exact ⟨_, _, rfl, rfl, (show CPow _ _ by unfold powOk at q; exact of_decide_eq_true (p := _ ∧ _) q), post _ φ S H rl (Step.refl _ _ _) (.int _)⟩
    · rw [if_neg q] at post
      exact post.elim
def uNeg : D → Hv → R D
  | .int i, h => .ok (.int (-i)) h
  | _, _ => .stuck
theorem us_neg : UnS K (rU fun i => .int (-i)) uNeg := by
  intro φ S H h x v Q E rl rx post
  cases rx <;> first
    | exact post.elim
    | exact ⟨_, rfl, post _ φ S H rl (Step.refl _ _ _) (.int _)⟩
/-- + of ints, texts, tuples -/
def rAddA (K : PySem.W.Frag) : R2 := fun x y H Q => rI0 (fun i j => .int (i + j)) x y H Q ∨ (∃ i j, x = .str i ∧ y = .str j ∧ i.length + j.length ≤ sizeLine ∧ Q (.str (i ++ j)) H) ∨ rCatT K x y H Q
theorem op_addA : OpR X (binaryOp .Add) (rAddA X.K) := op_add.or (op_add_str.or op_catT)
def oAdd : D → D → Hv → R D
  | .int i, .int j, h => .ok (.int (i + j)) h
  | .str i, .str j, h => if i.length + j.length ≤ 16777216 then .ok (.str (i ++ j)) h else .stuck
  | .tup (x :: xs), .tup ys, h => if (x :: xs).length + ys.length ≤ 16777216 then .ok (.tup (x :: xs ++ ys)) h else .stuck
  | _, _, _ => .stuck
theorem os_add : OpS K (rAddA K) oAdd := by
  intro φ S H h x y v u Q E rl rx ry post
  cases rx with
  | int i =>
    cases ry with
    | int j => exact .inl ⟨_, _, rfl, rfl, post _ φ S H rl (Step.refl _ _ _) (.int _)⟩
    | _ => exact post.elim
  | str i =>
    cases ry with
    | str j =>
      simp only [oAdd] at post
      by_cases q : i.length + j.length ≤ 16777216
      · rw [if_pos q] at post
        exact .inr (.inl ⟨_, _, rfl, rfl, by rw [line_eq]; exact q, post _ φ S H rl (Step.refl _ _ _) (.str _)⟩)
      · rw [if_neg q] at post
        exact post.elim
    | _ => exact post.elim
  | tup h1 h2 =>
    cases h2 with
    | nil => cases ry <;> exact post.elim
    | @cons v0 vs d0 ds r0 rr =>
      cases ry with
      | @tup b ws es k1 k2 =>
        simp only [oAdd] at post
        by_cases q : (d0 :: ds).length + es.length ≤ 16777216
        · rw [if_pos q] at post
          refine .inr (.inr ⟨_, _, v0 :: vs, ws, rfl, rfl, rl.sub.sqt h1, rl.sub.sqt k1, List.cons_ne_nil _ _, ?_, fun e => ?_, fun e p hp => ?_⟩)
          · rw [line_eq, k2.length, List.length_cons, rr.length, ← List.length_cons (a := d0)]
            exact q
          · subst e
            cases k2
            rw [List.append_nil] at post
            exact post _ φ S H rl (Step.refl _ _ _) (.tup h1 (.cons r0 rr))
          · obtain ⟨r2, s2⟩ := rl.lay (o := .tup (v0 :: vs ++ ws)) hp
            exact post _ φ _ _ r2 s2 (.tup (.inl (.inl upd_same)) (((RpA.cons r0 rr).append k2).mono (Pre.refl _) s2.sub))
        · rw [if_neg q] at post
          exact post.elim
      | _ => exact post.elim
  | _ => exact post.elim
/-- + of lists -/
def oCat : D → D → Hv → R (List D) := fun x y h => match kOf h x, kOf h y with
  | some xs, some ys => if xs.length + ys.length ≤ 16777216 then .ok (xs ++ ys) h else .stuck
  | _, _ => .stuck
theorem ol_cat : OpL K rCat oCat := by
  intro φ S H h x y v u Q E rl rx ry post
  simp only [oCat] at post
  cases e1 : kOf h x with
  | none => simp only [e1] at post; exact post.elim
  | some xs =>
    cases e2 : kOf h y with
    | none => simp only [e1, e2] at post; exact post.elim
    | some ys =>
      simp only [e1, e2] at post
      by_cases q : xs.length + ys.length ≤ 16777216
      · rw [if_pos q] at post
        obtain ⟨a, vs, rfl, ha, ra⟩ := kOf_ok rl rx e1
        obtain ⟨b, ws, rfl, hb, rb⟩ := kOf_ok rl ry e2
        refine ⟨a, b, vs, ws, rfl, rfl, ha, hb, by rw [line_eq, ra.length, rb.length]; exact q, fun p hp => ?_⟩
        obtain ⟨r2, s2⟩ := rl.hold (o := .lst (vs ++ ws)) hp
        exact post _ φ _ _ r2 s2 ⟨p, _, rfl, hp, upd_same, rl.snone hp, rl.notin hp, ra.append rb⟩
      · rw [if_neg q] at post
        exact post.elim
/-- list * int -/
def oRep : D → D → Hv → R (List D) := fun x y h => match kOf h x, toI y with
  | some xs, some k => @ite _ (xs.length * k.toNat ≤ 16777216 ∧ -(2 ^ 63) ≤ k ∧ k < 2 ^ 63) (Classical.propDecidable _) (.ok (List.replicate k.toNat xs).flatten h) .stuck
  | _, _ => .stuck
theorem RpA.rep {φ : List Addr} {S : Hp} {vs : List V} {ds : List D} (h : RpA K φ S vs ds) : ∀ k : Nat, RpA K φ S (List.replicate k vs).flatten (List.replicate k ds).flatten
  | 0 => .nil
  | k + 1 => by
    rw [List.replicate_succ, List.replicate_succ, List.flatten_cons, List.flatten_cons]
    exact h.append (RpA.rep h k)
theorem ol_rep : OpL K rRep oRep := by
  intro φ S H h x y v u Q E rl rx ry post
  simp only [oRep] at post
  cases e1 : kOf h x with
  | none => simp only [e1] at post; exact post.elim
  | some xs =>
    cases e2 : toI y with
    | none => simp only [e1, e2] at post; exact post.elim
    | some k =>
      simp only [e1, e2] at post
      split at post
      · next q =>
        obtain ⟨a, vs, rfl, ha, ra⟩ := kOf_ok rl rx e1
        cases y with
        | int i =>
          cases e2
          cases ry
          refine ⟨a, _, vs, rfl, rfl, ha, q.2.1, q.2.2, by rw [line_eq, ra.length]; exact q.1, fun p hp => ?_⟩
          obtain ⟨r2, s2⟩ := rl.hold (o := .lst (List.replicate k.toNat vs).flatten) hp
          exact post _ φ _ _ r2 s2 ⟨p, _, rfl, hp, upd_same, rl.snone hp, rl.notin hp, ra.rep _⟩
        | _ => cases e2
      · exact post.elim
end
end
end VD

set_option Elab.async false
set_option linter.all false
set_option maxRecDepth 100000
set_option maxHeartbeats 4000000
namespace VD
open PySem PySem.Spec PyProof.Rows L2
noncomputable section
section
variable {X : Cx} {K : PySem.W.Frag}
/-! ### comparisons -/
def rLtA : R2 := fun x y H Q => rI0 (fun i j => .bl (decide (i < j))) x y H Q ∨ ∃ i j, x = .str i ∧ y = .str j ∧ Q (.bl (decide (i.cps.toList < j.cps.toList))) H
def rGtA : R2 := fun x y H Q => rI0 (fun i j => .bl (decide (j < i))) x y H Q ∨ ∃ i j, x = .str i ∧ y = .str j ∧ Q (.bl (decide (j.cps.toList < i.cps.toList))) H
theorem op_ltA : OpR X (compareOp .Lt) rLtA := op_lt.or op_lt_str
theorem op_gtA : OpR X (compareOp .Gt) rGtA := op_gt.or op_gt_str
def oLt : D → D → Hv → R D
  | .int i, .int j, h => .ok (.bl (decide (i < j))) h
  | .str i, .str j, h => .ok (.bl (decide (i.cps.toList < j.cps.toList))) h
  | _, _, _ => .stuck
def oGt : D → D → Hv → R D
  | .int i, .int j, h => .ok (.bl (decide (j < i))) h
  | .str i, .str j, h => .ok (.bl (decide (j.cps.toList < i.cps.toList))) h
  | _, _, _ => .stuck
def oLe : D → D → Hv → R D
  | .int i, .int j, h => .ok (.bl (decide (i ≤ j))) h
  | _, _, _ => .stuck
def oGe : D → D → Hv → R D
  | .int i, .int j, h => .ok (.bl (decide (j ≤ i))) h
  | _, _, _ => .stuck
theorem os_lt : OpS K rLtA oLt := by
  intro φ S H h x y v u Q E rl rx ry post
  cases rx <;> cases ry <;> first
    | exact post.elim
    | exact .inl ⟨_, _, rfl, rfl, post _ φ S H rl (Step.refl _ _ _) (.bl _)⟩
    | exact .inr ⟨_, _, rfl, rfl, post _ φ S H rl (Step.refl _ _ _) (.bl _)⟩
theorem os_gt : OpS K rGtA oGt := by
  intro φ S H h x y v u Q E rl rx ry post
  cases rx <;> cases ry <;> first
    | exact post.elim
    | exact .inl ⟨_, _, rfl, rfl, post _ φ S H rl (Step.refl _ _ _) (.bl _)⟩
    | exact .inr ⟨_, _, rfl, rfl, post _ φ S H rl (Step.refl _ _ _) (.bl _)⟩
theorem os_le : OpS K (rI0 fun i j => .bl (decide (i ≤ j))) oLe := by
  intro φ S H h x y v u Q E rl rx ry post
  cases rx <;> cases ry <;> first
    | exact post.elim
    | exact ⟨_, _, rfl, rfl, post _ φ S H rl (Step.refl _ _ _) (.bl _)⟩
theorem os_ge : OpS K (rI0 fun i j => .bl (decide (j ≤ i))) oGe := by
  intro φ S H h x y v u Q E rl rx ry post
  cases rx <;> cases ry <;> first
    | exact post.elim
    | exact ⟨_, _, rfl, rfl, post _ φ S H rl (Step.refl _ _ _) (.bl _)⟩
/-- == of data -/
def rEqP (K : PySem.W.Frag) : R2 := fun x y H Q => ∃ d e, Dp K H x d ∧ Dp K H y e ∧ (d.plain = true ∧ e.plain = true ∧ d.depth ≤ 63) ∧ Q (.bl (PyData.eqv d e)) H
def rNeP (K : PySem.W.Frag) : R2 := fun x y H Q => ∃ d e, Dp K H x d ∧ Dp K H y e ∧ (d.plain = true ∧ e.plain = true ∧ d.depth ≤ 63) ∧ Q (.bl (!PyData.eqv d e)) H
theorem op_eqP (hu : X.A.units + 64 < cLine) : OpR X (compareOp .Eq) (rEqP X.K) := by
  intro pins s σ H x y v u Q I rx ry h
  obtain ⟨d, e, hd, he, ⟨pd, pe, dd⟩, q⟩ := h
  obtain ⟨as, r1⟩ := Dp.reads I d x v hd rx
  obtain ⟨bs, r2⟩ := Dp.reads I e y u he ry
  exact PySem.SeqAt.eq_plain r1 r2 pd pe (Nat.lt_of_le_of_lt (Nat.add_le_add_left (Nat.le_trans (Nat.min_le_left _ _) dd) _) (by omega)) ⟨.bl _, H, I, rfl, q⟩
theorem op_neP (hu : X.A.units + 64 < cLine) : OpR X (compareOp .NotEq) (rNeP X.K) := by
  intro pins s σ H x y v u Q I rx ry h
  obtain ⟨d, e, hd, he, ⟨pd, pe, dd⟩, q⟩ := h
  obtain ⟨as, r1⟩ := Dp.reads I d x v hd rx
  obtain ⟨bs, r2⟩ := Dp.reads I e y u he ry
  exact PySem.SeqAt.ne_plain r1 r2 pd pe (Nat.lt_of_le_of_lt (Nat.add_le_add_left (Nat.le_trans (Nat.min_le_left _ _) dd) _) (by omega)) ⟨.bl _, H, I, rfl, q⟩
def eqD (h : Hv) (x y : D) : Option Bool := match toPy h 12 x, toPy h 12 y with
  | some d, some e => some (PyData.eqv d e)
  | _, _ => none
def oEq : D → D → Hv → R D := fun x y h => match eqD h x y with
  | some b => .ok (.bl b) h
  | none => .stuck
def oNe : D → D → Hv → R D := fun x y h => match eqD h x y with
  | some b => .ok (.bl (!b)) h
  | none => .stuck
theorem toPy_plain {h : Hv} : ∀ (f : Nat) (d : D) (p : PyData), toPy h f d = some p → p.plain = true ∧ p.depth ≤ f := by
  intro f
  induction f with
  | zero => intro d p e; cases e
  | succ f ih =>
    have all : ∀ (ds : List D) (ps : List PyData), optAll (toPy h f) ds = some ps → PyData.plainAll ps = true ∧ PyData.depthAll ps ≤ f := by
      intro ds
      induction ds with
      | nil => intro ps e; cases e; exact ⟨by simp only [PyData.plainAll], by simp only [PyData.depthAll]; exact Nat.zero_le _⟩
      | cons d ds ih2 =>
        intro ps e
        simp only [optAll] at e
        cases q : toPy h f d with
        | none => rw [q] at e; cases e
        | some p0 =>
          rw [q] at e
          cases q2 : optAll (toPy h f) ds with
          | none => simp only [q2] at e; cases e
          | some p1 =>
            simp only [q2] at e
            cases e
            obtain ⟨a1, a2⟩ := ih d p0 q
            obtain ⟨b1, b2⟩ := ih2 p1 q2
            exact ⟨by simp only [PyData.plainAll, a1, b1, Bool.and_self], by simp only [PyData.depthAll]; exact Nat.max_le.mpr ⟨a2, b2⟩⟩
    have lst : ∀ ds p, (optAll (toPy h f) ds).map PyData.list = some p → p.plain = true ∧ p.depth ≤ f + 1 := fun ds p e => by
      obtain ⟨ps, q, rfl⟩ := Option.map_eq_some_iff.mp e
      obtain ⟨a, b⟩ := all ds ps q
      exact ⟨by simp only [PyData.plain, a], by simp only [PyData.depth]; omega⟩
    have tup : ∀ ds p, (optAll (toPy h f) ds).map PyData.tuple = some p → p.plain = true ∧ p.depth ≤ f + 1 := fun ds p e => by
      obtain ⟨ps, q, rfl⟩ := Option.map_eq_some_iff.mp e
      obtain ⟨a, b⟩ := all ds ps q
      exact ⟨by simp only [PyData.plain, a], by simp only [PyData.depth]; omega⟩
    intro d p e
    cases d with
    | non => cases e; exact ⟨by simp only [PyData.plain], by simp only [PyData.depth]; exact Nat.zero_le _⟩
    | bl b => cases e; exact ⟨by simp only [PyData.plain], by simp only [PyData.depth]; exact Nat.zero_le _⟩
    | int b => cases e; exact ⟨by simp only [PyData.plain], by simp only [PyData.depth]; exact Nat.zero_le _⟩
    | str b => cases e; exact ⟨by simp only [PyData.plain], by simp only [PyData.depth]; exact Nat.zero_le _⟩
    | lst ds => exact lst ds p e
    | fz ds => exact lst ds p e
    | tup ds => exact tup ds p e
    | cell n =>
      simp only [toPy] at e
      split at e
      · exact lst _ p e
      · cases e
    | dct _ _ => cases e
    | obj _ _ _ => cases e
    | exv _ _ _ _ => cases e
    | raw v => cases e
theorem eqD_ok {φ : List Addr} {S H : Hp} {h : Hv} {x y : D} {v u : V} {b : Bool} (rl : Rel K φ S H h) (rx : Rp K φ S v x) (ry : Rp K φ S u y) (e : eqD h x y = some b) :
    ∃ d e, Dp K H v d ∧ Dp K H u e ∧ (d.plain = true ∧ e.plain = true ∧ d.depth ≤ 63) ∧ PyData.eqv d e = b := by
  unfold eqD at e
  cases e1 : toPy h 12 x with
  | none => simp only [e1] at e; cases e
  | some d =>
    cases e2 : toPy h 12 y with
    | none => simp only [e1, e2] at e; cases e
    | some d2 =>
      simp only [e1, e2] at e
      obtain ⟨p1, q1⟩ := toPy_plain _ _ _ e1
      obtain ⟨p2, q2⟩ := toPy_plain _ _ _ e2
      exact ⟨d, d2, dp_of rl _ _ _ _ rx e1, dp_of rl _ _ _ _ ry e2, ⟨p1, p2, by omega⟩, Option.some.inj e⟩
theorem os_eq : OpS K (rEqP K) oEq := by
  intro φ S H h x y v u Q E rl rx ry post
  simp only [oEq] at post
  cases e : eqD h x y with
  | none => simp only [e] at post; exact post.elim
  | some b =>
    simp only [e] at post
    obtain ⟨d, d2, h1, h2, h3, h5⟩ := eqD_ok rl rx ry e
    exact ⟨d, d2, h1, h2, h3, by rw [h5]; exact post _ φ S H rl (Step.refl _ _ _) (.bl _)⟩
theorem os_ne : OpS K (rNeP K) oNe := by
  intro φ S H h x y v u Q E rl rx ry post
  simp only [oNe] at post
  cases e : eqD h x y with
  | none => simp only [e] at post; exact post.elim
  | some b =>
    simp only [e] at post
    obtain ⟨d, d2, h1, h2, h3, h5⟩ := eqD_ok rl rx ry e
    exact ⟨d, d2, h1, h2, h3, by rw [h5]; exact post _ φ S H rl (Step.refl _ _ _) (.bl _)⟩
/-- is None, is True -/
def rIsA : R2 := fun x y H Q => (y = .non ∧ Q (.bl (decide (x = .non))) H) ∨ rIsB x y H Q
def rNotA : R2 := fun x y H Q => (y = .non ∧ Q (.bl (!decide (x = .non))) H) ∨ rNotB x y H Q
theorem op_isA : OpR X (compareOp .Is) rIsA := op_isN.or op_isBl
theorem op_notA : OpR X (compareOp .IsNot) rNotA := op_notN.or op_notBl
def isD : D → D → Option Bool
  | .non, .non => some true
  | .raw _, .non => none
  | _, .non => some false
  | .bl a, .bl b => some (decide (a = b))
  | _, _ => none
def oIs : D → D → Hv → R D := fun x y h => match isD x y with
  | some b => .ok (.bl b) h
  | none => .stuck
def oIsNot : D → D → Hv → R D := fun x y h => match isD x y with
  | some b => .ok (.bl (!b)) h
  | none => .stuck
theorem isD_ok {φ : List Addr} {S : Hp} {x y : D} {v u : V} {b : Bool} (rx : Rp K φ S v x) (ry : Rp K φ S u y) (e : isD x y = some b) :
    (u = .non ∧ decide (v = .non) = b) ∨ ∃ p q, v = .bl p ∧ u = .bl q ∧ decide (p = q) = b := by
  cases ry with
  | non => refine .inl ⟨rfl, ?_⟩; cases rx <;> first | (cases e; done) | (cases e; rfl) | (cases e; exact decide_eq_false (fun z => nomatch z))
  | bl q => cases rx <;> first | (cases e; done) | (exact .inr ⟨_, _, rfl, rfl, Option.some.inj e⟩)
  | _ => cases rx <;> cases e
theorem os_is : OpS K rIsA oIs := by
  intro φ S H h x y v u Q E rl rx ry post
  simp only [oIs] at post
  cases e : isD x y with
  | none => simp only [e] at post; exact post.elim
  | some b =>
    simp only [e] at post
    have fin := post _ φ S H rl (Step.refl _ _ _) (.bl b)
    rcases isD_ok rx ry e with ⟨h1, h2⟩ | ⟨p, q, h1, h2, h3⟩
    · exact .inl ⟨h1, by rw [h2]; exact fin⟩
    · exact .inr ⟨p, q, h1, h2, by rw [h3]; exact fin⟩
theorem os_isNot : OpS K rNotA oIsNot := by
  intro φ S H h x y v u Q E rl rx ry post
  simp only [oIsNot] at post
  cases e : isD x y with
  | none => simp only [e] at post; exact post.elim
  | some b =>
    simp only [e] at post
    have fin := post _ φ S H rl (Step.refl _ _ _) (.bl (!b))
    rcases isD_ok rx ry e with ⟨h1, h2⟩ | ⟨p, q, h1, h2, h3⟩
    · exact .inl ⟨h1, by rw [h2]; exact fin⟩
    · exact .inr ⟨p, q, h1, h2, by rw [h3]; exact fin⟩
/-- one sign in a text, a flat value in a list or tuple -/
def rInA (K : PySem.W.Frag) : R2 := fun x y H Q => (∃ (c : Nat) (z : Str), x = .str ⟨#[c]⟩ ∧ y = .str z ∧ Q (.bl (decide (c ∈ z.cps.toList))) H) ∨ rIn K false x y H Q
def rNotInA (K : PySem.W.Frag) : R2 := fun x y H Q => (∃ (c : Nat) (z : Str), x = .str ⟨#[c]⟩ ∧ y = .str z ∧ Q (.bl (!decide (c ∈ z.cps.toList))) H) ∨ rIn K true x y H Q
theorem op_inA : OpR X (compareOp .In) (rInA X.K) := op_in_sign.or op_in_seq
theorem op_notInA : OpR X (compareOp .NotIn) (rNotInA X.K) := op_notIn_sign.or op_notIn_seq
def sqOf (h : Hv) (d : D) : Option (List D) := match lOf h d with
  | some xs => some xs
  | none => tOf d
def inD (h : Hv) (x y : D) : Option Bool := match x, y with
  | .str s, .str z => match s.cps.toList with
    | [c] => some (decide (c ∈ z.cps.toList))
    | _ => none
  | x, y => match toV x, (sqOf h y).bind (optAll toV) with
    | some v, some vs => some (inV v vs)
    | _, _ => none
def oIn : D → D → Hv → R D := fun x y h => match inD h x y with
  | some b => .ok (.bl b) h
  | none => .stuck
def oNotIn : D → D → Hv → R D := fun x y h => match inD h x y with
  | some b => .ok (.bl (!b)) h
  | none => .stuck
theorem sqOf_ok {φ : List Addr} {S H : Hp} {h : Hv} {d : D} {v : V} {ds : List D} (rl : Rel K φ S H h) (r : Rp K φ S v d) (e : sqOf h d = some ds) : ∃ a vs, v = .ref a ∧ (SqL K H a vs ∨ SqT K H a vs) ∧ RpA K φ S vs ds := by
  unfold sqOf at e
  cases q : lOf h d with
  | some xs =>
    simp only [q] at e
    cases e
    obtain ⟨a, vs, h1, h2, h3⟩ := lOf_ok rl r q
    exact ⟨a, vs, h1, .inl h2, h3⟩
  | none =>
    simp only [q] at e
    obtain ⟨a, vs, h1, h2, h3⟩ := tOf_ok rl r e
    exact ⟨a, vs, h1, .inr h2, h3⟩
theorem inD_ok {φ : List Addr} {S H : Hp} {h : Hv} {x y : D} {v u : V} {b : Bool} (rl : Rel K φ S H h) (rx : Rp K φ S v x) (ry : Rp K φ S u y) (e : inD h x y = some b) :
    (∃ (c : Nat) (z : Str), v = .str ⟨#[c]⟩ ∧ u = .str z ∧ decide (c ∈ z.cps.toList) = b) ∨ ∃ p xs, u = .ref p ∧ (SqL K H p xs ∨ SqT K H p xs) ∧ flatV v = true ∧ xs.all flatV = true ∧ inV v xs = b := by
  have gen : (match toV x, (sqOf h y).bind (optAll toV) with
    | some v, some vs => some (inV v vs)
    | _, _ => none) = some b → ∃ p xs, u = .ref p ∧ (SqL K H p xs ∨ SqT K H p xs) ∧ flatV v = true ∧ xs.all flatV = true ∧ inV v xs = b := by
    intro e
    cases q1 : toV x with
    | none => simp only [q1] at e; cases e
    | some w =>
      cases q2 : sqOf h y with
      | none => simp only [q1, q2, Option.bind_none] at e; cases e
      | some ds =>
        cases q3 : optAll toV ds with
        | none => simp only [q1, q2, Option.bind_some, q3] at e; cases e
        | some ws =>
          simp only [q1, q2, Option.bind_some, q3] at e
          obtain ⟨e1, f1⟩ := toV_ok rx q1
          obtain ⟨a, vs, rfl, h2, h3⟩ := sqOf_ok rl ry q2
          obtain ⟨e2, f2⟩ := toVs_ok h3 q3
          exact ⟨a, vs, rfl, h2, f1, f2, by rw [e1, e2]; exact Option.some.inj e⟩
  unfold inD at e
  split at e
  · next s z =>
    split at e
    · next c hc =>
      cases rx
      cases ry
      refine .inl ⟨c, z, ?_, rfl, Option.some.inj e⟩
      have : s = ⟨#[c]⟩ := Str.ext' (Array.toList_inj.mp (by rw [hc]))
      rw [this]
    · cases e
  · exact .inr (gen e)
theorem os_in : OpS K (rInA K) oIn := by
  intro φ S H h x y v u Q E rl rx ry post
  simp only [oIn] at post
  cases e : inD h x y with
  | none => simp only [e] at post; exact post.elim
  | some b =>
    simp only [e] at post
    have fin := post _ φ S H rl (Step.refl _ _ _) (.bl b)
    rcases inD_ok rl rx ry e with ⟨c, z, h1, h2, h3⟩ | ⟨p, xs, h1, h2, h3, h4, h5⟩
    · exact .inl ⟨c, z, h1, h2, by rw [h3]; exact fin⟩
    · exact .inr ⟨p, xs, h1, h2, h3, h4, by rw [if_neg Bool.false_ne_true, h5]; exact fin⟩
theorem os_notIn : OpS K (rNotInA K) oNotIn := by
  intro φ S H h x y v u Q E rl rx ry post
  simp only [oNotIn] at post
  cases e : inD h x y with
  | none => simp only [e] at post; exact post.elim
  | some b =>
    simp only [e] at post
    have fin := post _ φ S H rl (Step.refl _ _ _) (.bl (!b))
    rcases inD_ok rl rx ry e with ⟨c, z, h1, h2, h3⟩ | ⟨p, xs, h1, h2, h3, h4, h5⟩
    · exact .inl ⟨c, z, h1, h2, by rw [h3]; exact fin⟩
    · exact .inr ⟨p, xs, h1, h2, h3, h4, by rw [if_pos rfl, h5]; exact fin⟩

/-! ### subscripts, slices -/
def ixD (h : Hv) (x : D) (i : Int) : Option D := match x with
  | .str z => if z.length ≤ 16777216 then (match atI z.cps.toList i with
    | some c => some (.str ⟨#[c]⟩)
    | none => none) else none
  | x => match sqOf h x with
    | some ds => atI ds i
    | none => none
def oIx : D → D → Hv → R D := fun x y h => match y with
  | .int i => match ixD h x i with
    | some d => .ok d h
    | none => .stuck
  | _ => .stuck
theorem RpA.atI {φ : List Addr} {S : Hp} {vs : List V} {ds : List D} (r : RpA K φ S vs ds) {i : Int} {d : D} (e : L2.atI ds i = some d) : ∃ v, L2.atI vs i = some v ∧ Rp K φ S v d := by
  unfold L2.atI at e ⊢
  rw [r.length]
  cases q : ixN ds.length i with
  | none => rw [q] at e; cases e
  | some j =>
    rw [q] at e
    exact r.at e
theorem os_ix : OpS K (rIx K) oIx := by
  intro φ S H h x y v u Q E rl rx ry post
  simp only [oIx] at post
  cases y with
  | int i =>
    cases ry
    cases e : ixD h x i with
    | none => simp only [e] at post; exact post.elim
    | some d =>
      simp only [e] at post
      unfold ixD at e
      split at e
      · next z =>
        cases rx
        split at e
        · next hz =>
          split at e
          · next c hc =>
            cases e
            exact .inr (.inr ⟨z, i, c, rfl, rfl, by rw [line_eq]; exact hz, hc, post _ φ S H rl (Step.refl _ _ _) (.str _)⟩)
          · cases e
        · cases e
      · split at e
        · next ds hd =>
          obtain ⟨a, vs, rfl, h2, h3⟩ := sqOf_ok rl rx hd
          obtain ⟨w, hw, rw_⟩ := h3.atI e
          have fin := post _ φ S H rl (Step.refl _ _ _) rw_
          rcases h2 with h2 | h2
          · exact .inl ⟨a, vs, i, w, rfl, rfl, h2, hw, fin⟩
          · exact .inr (.inl ⟨a, vs, i, w, rfl, rfl, h2, hw, fin⟩)
        · cases e
  | _ => exact post.elim
variable {W : WX} {e a b : Expr} {pos p2 : Pos} {fa fb fl fh : ES}
theorem se_ix (ha : SE X W a fa) (hb : SE X W b fb) (hs : PlainIx b := by exact fun _ _ => rfl) : SE X W (.Subscript a b pos) (eOp oIx fa fb) := by
  obtain ⟨ta, h1, h2⟩ := ha
  obtain ⟨tb, k1, k2⟩ := hb
  exact ⟨_, pe_ix ix_seq h1 k1 hs, sn_op os_ix h2 k2⟩
def cutD (xs : List D) (lo hi : Option Int) : List D := (xs.drop (HT.sIx xs.length 0 lo)).take (HT.sIx xs.length xs.length hi - HT.sIx xs.length 0 lo)
/-- a part of a slice -/
abbrev OS := VS → Hv → R (Option Int)
def repO : Rep (Option Int) (Option Int) := fun _ _ _ _ b a => b = a
instance : Rep.Up repO := ⟨fun _ h => h⟩
def SO (X : Cx) (W : WX) (e : Option Expr) (es : OS) : Prop := ∃ te, PO X e te ∧ Sn X.K repO W te es
def pNo : OS := fun _ h => .ok none h
def pAt (f : ES) : OS := fun σ h => (f σ h).bind fun d h1 => match d with
  | .int i => .ok (some i) h1
  | _ => .stuck
theorem so_no : SO X W none pNo := ⟨_, po_none, ⟨fun {φ S H h σv σ Q} rl rs post => post none φ S H rl (Step.refl _ _ _) rfl⟩⟩
theorem so_at (ha : SE X W e fa) : SO X W (some e) (pAt fa) := by
  obtain ⟨ta, h1, h2⟩ := ha
  refine ⟨_, po_some h1, ⟨fun rl rs post => h2.bind rl rs post fun x h1 v φ1 S1 H1 rl1 rs1 st rp post => ?_⟩⟩
  cases x with
  | int i =>
    cases (show Rp _ _ _ _ _ from rp)
    exact ⟨i, rfl, post _ φ1 S1 H1 rl1 (Step.refl _ _ _) rfl⟩
  | _ => exact post.elim
/-- a list's slice: new -/
def lSl (f : ES) (lo hi : OS) : LS := fun σ h => (f σ h).bind fun d h1 => (lo σ h1).bind fun l h2 => (hi σ h2).bind fun u h3 => match lOf h3 d with
  | some xs => .ok (cutD xs l u) h3
  | none => .stuck
theorem RpA.cut {φ : List Addr} {S : Hp} {vs : List V} {ds : List D} (r : RpA K φ S vs ds) (lo hi : Option Int) : RpA K φ S (cutV vs lo hi) (cutD ds lo hi) := by
  unfold cutV cutD
  rw [r.length]
  exact (r.drop _).take _
theorem sl_sl {lo hi : Option Expr} {pl ph : OS} (ha : SE X W a fa) (hl : SO X W lo pl) (hh : SO X W hi ph) : SL X W (.Subscript a (.Slice lo hi none p2) pos) (lSl fa pl ph) := by
  obtain ⟨ta, h1, h2⟩ := ha
  obtain ⟨tl, k1, k2⟩ := hl
  obtain ⟨th, l1, l2⟩ := hh
  refine ⟨_, pe_slice sl_list h1 k1 l1, ⟨fun rl rs post => h2.bind rl rs post fun x h1 v φ1 S1 H1 rl1 rs1 st rp post =>
    k2.bind rl1 rs1 post fun l h2 l' φ2 S2 H2 rl2 rs2 st2 rp2 post => l2.bind rl2 rs2 post fun u h3 u' φ3 S3 H3 rl3 rs3 st3 rp3 post => ?_⟩⟩
  cases (show l' = l from rp2)
  cases (show u' = u from rp3)
  have r3 : Rp X.K φ3 S3 v x := Rp.mono (st2.trans st3).prefix (st2.trans st3).sub rp
  cases q : lOf h3 x with
  | none => rw [q] at post; exact post.elim
  | some xs =>
    rw [q] at post
    obtain ⟨a, vs, rfl, h2, ra⟩ := lOf_ok rl3 r3 q
    refine ⟨a, vs, rfl, h2, fun p hp => ?_⟩
    obtain ⟨r2, s2⟩ := rl3.hold (o := .lst (cutV vs l u)) hp
    exact post _ φ3 _ _ r2 s2 ⟨p, _, rfl, hp, upd_same, rl3.snone hp, rl3.notin hp, ra.cut _ _⟩
/-- t[lo:hi], the whole of t: t itself -/
theorem tup_whole {P : Program} {w : World} {A : Around} {E : Value → Shared → Prop} {s : Shared} {t sl : Addr} {items : Array Value} {vl vu : Value} {lo hi : Option Int} {Q : Value → Shared → Prop} (ht : IsTup s.heap t items) (hs : s.heap.IsSliceOf sl vl vu .none) (pl : IsPart vl lo) (pu : IsPart vu hi)
    (hw : HT.sIx items.size 0 lo = 0 ∧ HT.sIx items.size items.size hi = items.size) (h : Q (.ref t) s) : wpAny (model P w) A (getItem (.ref t) (.ref sl)) Q E s := by
  obtain ⟨os, hos, hcs, hds⟩ := id hs
  have ty : s.TypeIs (.ref sl) "slice" := ⟨os, hos, hcs⟩
  unfold getItem
  (try with_reducible refine wpAny_holding ?_); (first | refine wpAny_bind (wpAny_pure ?_) | skip)
  refine wpAny_bind (wpAny_sequenceKey ht.typeIs (by decide) ?_); refine wpAny_bind (wpAny_callSpecial?_slot (name := Str.ofString "__getitem__") ht.typeIs PyProof.Rows.slot_tuple_getitem (wpAny_call_entry PyProof.Rows.slot_tuple_getitem ht.typeIs PyProof.Rows.entry_tuple_getitem ?_ (PyProof.Rows.args_tuple_getitem _ _)))
  show wpAny _ _ (Builtin.Tuple.tupleItemsOf (.ref t) >>= _) _ _ s; refine wpAny_bind (tupleItemsOf_ ht ?_)
  refine wpAny_bind (wpAny_typeOf ty ?_); rw [if_pos (by decide)]; refine wpAny_bind (HT.sliceApplied_gen hs pl pu ?_)
  have yes : (((HT.sIx items.size 0 lo : Nat) : Int) == 0 && (1 : Int) == 1 && (HT.sIx items.size items.size hi - HT.sIx items.size 0 lo) == items.size) = true := by rw [hw.1, hw.2]; simp
  show wpAny _ _ (if (((HT.sIx items.size 0 lo : Nat) : Int) == 0 && (1 : Int) == 1 && (HT.sIx items.size items.size hi - HT.sIx items.size 0 lo) == items.size) = true then _ else _) _ _ s
  rw [if_pos yes]
  unfold Builtin.Tuple.tupleIsExact
  refine wpAny_bind (wpAny_bind (wpAny_typeOf ht.typeIs (wpAny_pure ?_)))
  rw [if_pos (by decide)]
  exact wpAny_bind (wpAny_rule (wpAny_pure ⟨_, rfl, wpAny_pure h⟩))
def rSlW (K : PySem.W.Frag) : V → Option Int → Option Int → Hp → VK → Prop := fun x lo hi H Q => ∃ a xs, x = .ref a ∧ SqT K H a xs ∧ (HT.sIx xs.length 0 lo = 0 ∧ HT.sIx xs.length xs.length hi = xs.length) ∧ Q (.ref a) H
theorem sl_tupW : SlR X (rSlW X.K) := by
  intro pins s σ H x v vl vu lo hi sl Q I rx hs pl pu ⟨a, xs, ex, hx, hw, q⟩
  subst ex
  cases rx
  obtain ⟨its, r, ht, hz⟩ := I.tuple hx
  have el : its.toArray.size = xs.length := by rw [List.size_toArray]; exact r.length.symm
  exact ⟨"tuple", _, PyProof.Rows.slot_tuple_getitem.lookup, ht.typeIs, tup_whole ht hs pl pu (by rw [el]; exact hw) ⟨.ref a, H, I, rfl, q⟩⟩
theorem tup_of {K : PySem.W.Frag} {φ : List Addr} {S : Hp} {v : V} {ds : List D} (r : Rp K φ S v (.tup ds)) : ∃ a vs, v = .ref a ∧ SqT K S a vs ∧ RpA K φ S vs ds := by
  cases r with
  | tup g1 g2 => exact ⟨_, _, rfl, g1, g2⟩
/-- a text's, a tuple's slice -/
def slD (d : D) (l u : Option Int) : Option D := match d with
  | .str z => if z.length ≤ 16777216 then some (.str (cutS z l u)) else none
  | .tup xs => some (.tup (cutD xs l u))
  | _ => none
def eSl (f : ES) (lo hi : OS) : ES := fun σ h => (f σ h).bind fun d h1 => (lo σ h1).bind fun l h2 => (hi σ h2).bind fun u h3 => match slD d l u with
  | some d' => .ok d' h3
  | none => .stuck
def rSlA (K : PySem.W.Frag) : V → Option Int → Option Int → Hp → VK → Prop := fun x lo hi H Q => rSlS x lo hi H Q ∨ rSlT K x lo hi H Q
theorem se_sl {lo hi : Option Expr} {pl ph : OS} (ha : SE X W a fa) (hl : SO X W lo pl) (hh : SO X W hi ph) : SE X W (.Subscript a (.Slice lo hi none p2) pos) (eSl fa pl ph) := by
  obtain ⟨ta, h1, h2⟩ := ha
  obtain ⟨tl, k1, k2⟩ := hl
  obtain ⟨th, l1, l2⟩ := hh
  refine ⟨_, pe_slice (SlR.or sl_str (SlR.or sl_tup sl_tupW)) h1 k1 l1, ⟨fun rl rs post => h2.bind rl rs post fun x h1 v φ1 S1 H1 rl1 rs1 st rp post =>
    k2.bind rl1 rs1 post fun l h2 l' φ2 S2 H2 rl2 rs2 st2 rp2 post => l2.bind rl2 rs2 post fun u h3 u' φ3 S3 H3 rl3 rs3 st3 rp3 post => ?_⟩⟩
  cases (show l' = l from rp2)
  cases (show u' = u from rp3)
  have r3 : Rp X.K φ3 S3 v x := Rp.mono (st2.trans st3).prefix (st2.trans st3).sub rp
  cases q : slD x l u with
  | none => rw [q] at post; exact post.elim
  | some d' =>
    rw [q] at post
    unfold slD at q
    split at q
    · next z =>
      split at q
      · next hz =>
        cases q
        cases r3
        exact .inl ⟨_, rfl, by rw [line_eq]; exact hz, post _ φ3 S3 H3 rl3 (Step.refl _ _ _) (.str _)⟩
      · cases q
    · cases q
      obtain ⟨a, vs, rfl, g1, g2⟩ := tup_of r3
      · by_cases hz : HT.sIx vs.length 0 l = 0 ∧ HT.sIx vs.length vs.length u = vs.length
        · have e : ∀ ds : List D, vs.length = ds.length → cutD ds l u = ds := fun ds g2 => by
            unfold cutD
            rw [← g2, hz.1, hz.2, g2, List.drop_zero, Nat.sub_zero, List.take_length]
          rw [e _ g2.length] at post
          exact .inr (.inr ⟨a, vs, rfl, rl3.sub.sqt g1, hz, post _ φ3 S3 H3 rl3 (Step.refl _ _ _) (.tup g1 g2)⟩)
        · refine .inr (.inl ⟨a, vs, rfl, rl3.sub.sqt g1, hz, fun p hp => ?_⟩)
          obtain ⟨r2, s2⟩ := rl3.lay (o := .tup (cutV vs l u)) hp
          exact post _ φ3 _ _ r2 s2 (.tup (.inl (.inl upd_same)) ((g2.cut _ _).mono (Pre.refl _) s2.sub))
    · cases q
end
end
end VD

set_option Elab.async false
set_option linter.all false
set_option maxRecDepth 100000
set_option maxHeartbeats 4000000
namespace VD
open PySem PySem.Spec PyProof.Rows L2
noncomputable section
/-! ### calls of what is built in -/
def CaS (K : PySem.W.Frag) (r : List V → Hp → VK → Prop) (ro : List D → Hv → R D) : Prop := ∀ {φ : List Addr} {S H : Hp} {h : Hv} {ds : List D} {vs : List V} {Q : VK} {E : XK}, Rel K φ S H h → RpA K φ S vs ds → Post K (repV K) φ S H (ro ds h) Q E → r vs H Q
def CaL (K : PySem.W.Frag) (r : List V → Hp → VK → Prop) (ro : List D → Hv → R (List D)) : Prop := ∀ {φ : List Addr} {S H : Hp} {h : Hv} {ds : List D} {vs : List V} {Q : VK} {E : XK}, Rel K φ S H h → RpA K φ S vs ds → Post K (repL K) φ S H (ro ds h) Q E → r vs H Q
def eCa {α : Type} (ro : List D → Hv → R α) (g : LS) : VS → Hv → R α := fun σ h => (g σ h).bind fun ds h1 => ro ds h1
section
variable {X : Cx} {W : WX} {e : Expr} {es : List Expr} {p pos : Pos} {la : LS} {x : Str} {id T : String} {r : List V → Hp → VK → Prop}
theorem sn_ca {t : TA} {ro : List D → Hv → R D} (hr : CaS X.K r ro) (h2 : Sn X.K (repA X.K) W t la) : Sn X.K (repV X.K) W (tCB r t) (eCa ro la) := ⟨fun rl rs post => h2.bind rl rs post fun x h1 v φ1 S1 H1 rl1 rs1 st rp post => hr rl1 rp post⟩
theorem sn_caL {t : TA} {ro : List D → Hv → R (List D)} (hr : CaL X.K r ro) (h2 : Sn X.K (repA X.K) W t la) : Sn X.K (repL X.K) W (tCB r t) (eCa ro la) := ⟨fun rl rs post => h2.bind rl rs post fun x h1 v φ1 S1 H1 rl1 rs1 st rp post => hr rl1 rp post⟩
theorem se_callB {ro : List D → Hv → R D} (hc : CallR X (.builtin id) r) (hr : CaS X.K r ro) (hm : X.mg x = none) (hv : bootBuiltins x = some (.builtin id)) (ha : SA X W (e :: es) la) (hg : Gl X x := by rfl) (hn : x ≠ "__name__" := by decide) (hdb : (x == ("__debug__" : Str)) = false := by decide)
    (he : starEach (e :: es) X.env = (false, eval e X.env) :: starEach es X.env := by rfl) (hpl : (backTo pos (starEach es X.env)).any (·.1) = false := by rfl) : SE X W (.Call (.Name x p) (e :: es) [] pos) (eCa ro la) := by
  obtain ⟨ta, h1, h2⟩ := ha
  exact ⟨_, pe_callB hc hg hm hv h1 hn hdb he hpl, sn_ca hr h2⟩
theorem se_callT {ro : List D → Hv → R D} (hc : CallR X (.type T) r) (hr : CaS X.K r ro) (hm : X.mg x = none) (hv : bootBuiltins x = some (.type T)) (ha : SA X W (e :: es) la) (hg : Gl X x := by rfl) (hn : x ≠ "__name__" := by decide) (hdb : (x == ("__debug__" : Str)) = false := by decide)
    (he : starEach (e :: es) X.env = (false, eval e X.env) :: starEach es X.env := by rfl) (hpl : (backTo pos (starEach es X.env)).any (·.1) = false := by rfl) : SE X W (.Call (.Name x p) (e :: es) [] pos) (eCa ro la) := by
  obtain ⟨ta, h1, h2⟩ := ha
  exact ⟨_, pe_callTy hc hg hm hv h1 hn hdb he hpl, sn_ca hr h2⟩
theorem sl_callB {ro : List D → Hv → R (List D)} (hc : CallR X (.builtin id) r) (hr : CaL X.K r ro) (hm : X.mg x = none) (hv : bootBuiltins x = some (.builtin id)) (ha : SA X W (e :: es) la) (hg : Gl X x := by rfl) (hn : x ≠ "__name__" := by decide) (hdb : (x == ("__debug__" : Str)) = false := by decide)
    (he : starEach (e :: es) X.env = (false, eval e X.env) :: starEach es X.env := by rfl) (hpl : (backTo pos (starEach es X.env)).any (·.1) = false := by rfl) : SL X W (.Call (.Name x p) (e :: es) [] pos) (eCa ro la) := by
  obtain ⟨ta, h1, h2⟩ := ha
  exact ⟨_, pe_callB hc hg hm hv h1 hn hdb he hpl, sn_caL hr h2⟩
theorem sl_callT {ro : List D → Hv → R (List D)} (hc : CallR X (.type T) r) (hr : CaL X.K r ro) (hm : X.mg x = none) (hv : bootBuiltins x = some (.type T)) (ha : SA X W (e :: es) la) (hg : Gl X x := by rfl) (hn : x ≠ "__name__" := by decide) (hdb : (x == ("__debug__" : Str)) = false := by decide)
    (he : starEach (e :: es) X.env = (false, eval e X.env) :: starEach es X.env := by rfl) (hpl : (backTo pos (starEach es X.env)).any (·.1) = false := by rfl) : SL X W (.Call (.Name x p) (e :: es) [] pos) (eCa ro la) := by
  obtain ⟨ta, h1, h2⟩ := ha
  exact ⟨_, pe_callTy hc hg hm hv h1 hn hdb he hpl, sn_caL hr h2⟩
end
section
variable {X : Cx} {K : PySem.W.Frag}
theorem RpA.one {φ : List Addr} {S : Hp} {vs : List V} {d : D} (r : RpA K φ S vs [d]) : ∃ v, vs = [v] ∧ Rp K φ S v d := by
  cases r with
  | cons r t => cases t; exact ⟨_, rfl, r⟩
theorem RpA.two {φ : List Addr} {S : Hp} {vs : List V} {d e : D} (r : RpA K φ S vs [d, e]) : ∃ v w, vs = [v, w] ∧ Rp K φ S v d ∧ Rp K φ S w e := by
  cases r with
  | cons r t =>
    obtain ⟨w, rfl, r2⟩ := t.one
    exact ⟨_, w, rfl, r, r2⟩
/-- len -/
def lenD (h : Hv) (d : D) : Option Int := match d with
  | .str z => if z.length ≤ 16777216 then some (z.length : Int) else none
  | d => (sqOf h d).map fun xs => (xs.length : Int)
def bLen : List D → Hv → R D := fun ds h => match ds with
  | [d] => (match lenD h d with
    | some n => .ok (.int n) h
    | none => .stuck)
  | _ => .stuck
def rLenA (K : PySem.W.Frag) : List V → Hp → VK → Prop := fun xs H Q => ∃ x n, xs = [x] ∧ LenV K x H n ∧ Q (.int n) H
theorem cs_len : CaS K (rLenA K) bLen := by
  intro φ S H h ds vs Q E rl ra post
  unfold bLen at post
  split at post
  · next d =>
    obtain ⟨v, rfl, r⟩ := ra.one
    cases q : lenD h d with
    | none => simp only [q] at post; exact post.elim
    | some n =>
      simp only [q] at post
      unfold lenD at q
      split at q
      · next z =>
        split at q
        · next hz =>
          cases q
          cases r
          exact ⟨.str z, z.length, rfl, ⟨by rw [line_eq]; exact hz, rfl⟩, post _ φ S H rl (Step.refl _ _ _) (.int _)⟩
        · cases q
      · obtain ⟨xs, q1, q2⟩ := Option.map_eq_some_iff.mp q
        subst q2
        obtain ⟨a, vs, rfl, h2, h3⟩ := sqOf_ok rl r q1
        refine ⟨.ref a, vs.length, rfl, ?_, by rw [h3.length]; exact post _ φ S H rl (Step.refl _ _ _) (.int _)⟩
        rcases h2 with h2 | h2
        · exact .inl ⟨vs, h2, rfl⟩
        · exact .inr ⟨vs, h2, rfl⟩
  · exact post.elim
/-- int -> int -/
def bAbs : List D → Hv → R D := fun ds h => match ds with
  | [.int i] => .ok (.int (if i < 0 then -i else i)) h
  | _ => .stuck
theorem cs_abs : CaS K (fun xs H Q => ∃ i, xs = [.int i] ∧ Q (.int (if i < 0 then -i else i)) H) bAbs := by
  intro φ S H h ds vs Q E rl ra post
  unfold bAbs at post
  split at post
  · obtain ⟨v, rfl, r⟩ := ra.one
    cases r
    exact ⟨_, rfl, post _ φ S H rl (Step.refl _ _ _) (.int _)⟩
  · exact post.elim
def bMax2 : List D → Hv → R D := fun ds h => match ds with
  | [.int i, .int j] => .ok (.int (if j > i then j else i)) h
  | _ => .stuck
theorem cs_max2 : CaS K (fun xs H Q => ∃ i j, xs = [.int i, .int j] ∧ Q (.int (if j > i then j else i)) H) bMax2 := by
  intro φ S H h ds vs Q E rl ra post
  unfold bMax2 at post
  split at post
  · obtain ⟨v, w, rfl, r, r2⟩ := ra.two
    cases r
    cases r2
    exact ⟨_, _, rfl, post _ φ S H rl (Step.refl _ _ _) (.int _)⟩
  · exact post.elim
def bMin2 : List D → Hv → R D := fun ds h => match ds with
  | [.int i, .int j] => .ok (.int (if j < i then j else i)) h
  | _ => .stuck
theorem cs_min2 : CaS K (fun xs H Q => ∃ i j, xs = [.int i, .int j] ∧ Q (.int (if j < i then j else i)) H) bMin2 := by
  intro φ S H h ds vs Q E rl ra post
  unfold bMin2 at post
  split at post
  · obtain ⟨v, w, rfl, r, r2⟩ := ra.two
    cases r
    cases r2
    exact ⟨_, _, rfl, post _ φ S H rl (Step.refl _ _ _) (.int _)⟩
  · exact post.elim
/-- sum, max, min of ints; any, all of bools -/
def bInts (f : List Int → Option D) : List D → Hv → R D := fun ds h => match ds with
  | [d] => (match (lOf h d).bind (optAll toI) with
    | some ns => (match f ns with
      | some z => .ok z h
      | none => .stuck)
    | none => .stuck)
  | _ => .stuck
theorem bInts_ok {f : List Int → Option D} {φ : List Addr} {S H : Hp} {h : Hv} {ds : List D} {vs : List V} {Q : VK} {E : XK} (rl : Rel K φ S H h) (ra : RpA K φ S vs ds) (post : Post K (repV K) φ S H (bInts f ds h) Q E) :
    ∃ a ns z, vs = [.ref a] ∧ SqL K H a (ns.map V.int) ∧ f ns = some z ∧ ∀ v, Rp K φ S v z → Q v H := by
  unfold bInts at post
  split at post
  · next d =>
    obtain ⟨v, rfl, r⟩ := ra.one
    split at post
    · next ns hn =>
      split at post
      · next z hz =>
        obtain ⟨xs, q1, q2⟩ := Option.bind_eq_some_iff.mp hn
        obtain ⟨a, vs, rfl, h2, h3⟩ := lOf_ok rl r q1
        rw [toIs_ok h3 q2] at h2
        exact ⟨a, ns, z, rfl, h2, hz, fun v rv => post v φ S H rl (Step.refl _ _ _) rv⟩
      · exact post.elim
    · exact post.elim
  · exact post.elim
def bSum := bInts fun ns => some (.int ns.sum)
theorem cs_sum : CaS K (rSum K) bSum := by
  intro φ S H h ds vs Q E rl ra post
  obtain ⟨a, ns, z, rfl, h1, h2, h3⟩ := bInts_ok rl ra post
  cases h2
  exact ⟨a, ns, rfl, h1, h3 _ (.int _)⟩
def maxI : List Int → Option Int
  | [] => none
  | x :: xs => some (xs.foldl max x)
def minI : List Int → Option Int
  | [] => none
  | x :: xs => some (xs.foldl min x)
theorem foldl_max_le : ∀ (xs : List Int) (x : Int), x ≤ xs.foldl max x ∧ (∀ y ∈ xs, y ≤ xs.foldl max x) ∧ (xs.foldl max x = x ∨ xs.foldl max x ∈ xs)
  | [], x => ⟨Int.le_refl _, fun _ z => (nomatch z), .inl rfl⟩
  | y :: ys, x => by
    obtain ⟨h1, h2, h3⟩ := foldl_max_le ys (max x y)
    rw [List.foldl_cons]
    refine ⟨by omega, fun z hz => ?_, ?_⟩
    · rcases List.mem_cons.mp hz with rfl | hz
      · omega
      · exact h2 z hz
    · rcases h3 with h3 | h3
      · rw [h3]
        rcases Int.le_total x y with q | q
        · rw [Int.max_eq_right q]; exact .inr List.mem_cons_self
        · rw [Int.max_eq_left q]; exact .inl rfl
      · exact .inr (List.mem_cons_of_mem _ h3)
theorem foldl_min_le : ∀ (xs : List Int) (x : Int), xs.foldl min x ≤ x ∧ (∀ y ∈ xs, xs.foldl min x ≤ y) ∧ (xs.foldl min x = x ∨ xs.foldl min x ∈ xs)
  | [], x => ⟨Int.le_refl _, fun _ z => (nomatch z), .inl rfl⟩
  | y :: ys, x => by
    obtain ⟨h1, h2, h3⟩ := foldl_min_le ys (min x y)
    rw [List.foldl_cons]
    refine ⟨by omega, fun z hz => ?_, ?_⟩
    · rcases List.mem_cons.mp hz with rfl | hz
      · omega
      · exact h2 z hz
    · rcases h3 with h3 | h3
      · rw [h3]
        rcases Int.le_total x y with q | q
        · rw [Int.min_eq_left q]; exact .inl rfl
        · rw [Int.min_eq_right q]; exact .inr List.mem_cons_self
      · exact .inr (List.mem_cons_of_mem _ h3)
theorem maxI_ok {ns : List Int} {m : Int} (h : maxI ns = some m) : m ∈ ns ∧ ∀ y ∈ ns, y ≤ m := by
  cases ns with
  | nil => cases h
  | cons x xs =>
    cases h
    obtain ⟨h1, h2, h3⟩ := foldl_max_le xs x
    refine ⟨?_, fun y hy => ?_⟩
    · rcases h3 with h3 | h3
      · rw [h3]; exact List.mem_cons_self
      · exact List.mem_cons_of_mem _ h3
    · rcases List.mem_cons.mp hy with rfl | hy
      · exact h1
      · exact h2 y hy
theorem minI_ok {ns : List Int} {m : Int} (h : minI ns = some m) : m ∈ ns ∧ ∀ y ∈ ns, m ≤ y := by
  cases ns with
  | nil => cases h
  | cons x xs =>
    cases h
    obtain ⟨h1, h2, h3⟩ := foldl_min_le xs x
    refine ⟨?_, fun y hy => ?_⟩
    · rcases h3 with h3 | h3
      · rw [h3]; exact List.mem_cons_self
      · exact List.mem_cons_of_mem _ h3
    · rcases List.mem_cons.mp hy with rfl | hy
      · exact h1
      · exact h2 y hy
def bMax := bInts fun ns => (maxI ns).map D.int
def bMin := bInts fun ns => (minI ns).map D.int
theorem cs_max : CaS K (rMax K) bMax := by
  intro φ S H h ds vs Q E rl ra post
  obtain ⟨a, ns, z, rfl, h1, h2, h3⟩ := bInts_ok rl ra post
  obtain ⟨m, hm, rfl⟩ := Option.map_eq_some_iff.mp h2
  obtain ⟨m1, m2⟩ := maxI_ok hm
  refine ⟨a, ns, rfl, h1, List.length_pos_of_mem m1, fun k k1 k2 => ?_⟩
  have e : k = m := Int.le_antisymm (m2 k k1) (k2 m m1)
  rw [e]
  exact h3 _ (.int _)
theorem cs_min : CaS K (rMin K) bMin := by
  intro φ S H h ds vs Q E rl ra post
  obtain ⟨a, ns, z, rfl, h1, h2, h3⟩ := bInts_ok rl ra post
  obtain ⟨m, hm, rfl⟩ := Option.map_eq_some_iff.mp h2
  obtain ⟨m1, m2⟩ := minI_ok hm
  refine ⟨a, ns, rfl, h1, List.length_pos_of_mem m1, fun k k1 k2 => ?_⟩
  have e : k = m := Int.le_antisymm (k2 m m1) (m2 k k1)
  rw [e]
  exact h3 _ (.int _)
def bBools (f : List Bool → Bool) : List D → Hv → R D := fun ds h => match ds with
  | [d] => (match (lOf h d).bind (optAll toBl) with
    | some ns => .ok (.bl (f ns)) h
    | none => .stuck)
  | _ => .stuck
theorem bBools_ok {f : List Bool → Bool} {φ : List Addr} {S H : Hp} {h : Hv} {ds : List D} {vs : List V} {Q : VK} {E : XK} (rl : Rel K φ S H h) (ra : RpA K φ S vs ds) (post : Post K (repV K) φ S H (bBools f ds h) Q E) :
    ∃ a ns, vs = [.ref a] ∧ SqL K H a (ns.map V.bl) ∧ Q (.bl (f ns)) H := by
  unfold bBools at post
  split at post
  · next d =>
    obtain ⟨v, rfl, r⟩ := ra.one
    split at post
    · next ns hn =>
      obtain ⟨xs, q1, q2⟩ := Option.bind_eq_some_iff.mp hn
      obtain ⟨a, vs, rfl, h2, h3⟩ := lOf_ok rl r q1
      rw [toBls_ok h3 q2] at h2
      exact ⟨a, ns, rfl, h2, post _ φ S H rl (Step.refl _ _ _) (.bl _)⟩
    · exact post.elim
  · exact post.elim
def bAll := bBools fun bs => bs.all id
def bAny := bBools fun bs => bs.any id
theorem cs_all : CaS K (rAll K) bAll := by
  intro φ S H h ds vs Q E rl ra post
  obtain ⟨a, ns, rfl, h1, h2⟩ := bBools_ok rl ra post
  exact ⟨a, ns, rfl, h1, h2⟩
theorem cs_any : CaS K (rAny K) bAny := by
  intro φ S H h ds vs Q E rl ra post
  obtain ⟨a, ns, rfl, h1, h2⟩ := bBools_ok rl ra post
  exact ⟨a, ns, rfl, h1, h2⟩
/-- list(xs): new -/
def bList : List D → Hv → R (List D) := fun ds h => match ds with
  | [d] => (match sqOf h d with
    | some xs => .ok xs h
    | none => .stuck)
  | _ => .stuck
theorem cl_list : CaL K (fun xs H Q => ∃ p ys, xs = [.ref p] ∧ (SqL K H p ys ∨ SqT K H p ys) ∧ ∀ l, H l = none → Q (.ref l) (upd H l (.lst ys))) bList := by
  intro φ S H h ds vs Q E rl ra post
  unfold bList at post
  split at post
  · next d =>
    obtain ⟨v, rfl, r⟩ := ra.one
    split at post
    · next xs hx =>
      obtain ⟨a, vs, rfl, h2, h3⟩ := sqOf_ok rl r hx
      refine ⟨a, vs, rfl, h2, fun p hp => ?_⟩
      obtain ⟨r2, s2⟩ := rl.hold (o := .lst vs) hp
      exact post _ φ _ _ r2 s2 ⟨p, _, rfl, hp, upd_same, rl.snone hp, rl.notin hp, h3⟩
    · exact post.elim
  · exact post.elim
/-- tuple(xs) of a list -/
def bTuple : List D → Hv → R D := fun ds h => match ds with
  | [d] => (match lOf h d with
    | some xs => .ok (.tup xs) h
    | none => (match tOf d with
      | some xs => .ok (.tup xs) h
      | none => .stuck))
  | _ => .stuck
theorem cs_tuple : CaS K (fun xs H Q => ∃ p ys, xs = [.ref p] ∧ ((SqL K H p ys ∧ ∀ l, H l = none → Q (.ref l) (upd H l (.tup ys))) ∨ (SqT K H p ys ∧ Q (.ref p) H))) bTuple := by
  intro φ S H h ds vs Q E rl ra post
  unfold bTuple at post
  split at post
  · next d =>
    obtain ⟨v, rfl, r⟩ := ra.one
    split at post
    · next xs hx =>
      obtain ⟨a, vs, rfl, h2, h3⟩ := lOf_ok rl r hx
      refine ⟨a, vs, rfl, .inl ⟨h2, fun p hp => ?_⟩⟩
      obtain ⟨r2, s2⟩ := rl.lay (o := .tup vs) hp
      exact post _ φ _ _ r2 s2 (.tup (.inl (.inl upd_same)) (h3.mono (Pre.refl _) s2.sub))
    · split at post
      · next xs hx =>
        cases r with
        | tup g1 g2 =>
          cases hx
          exact ⟨_, _, rfl, .inr ⟨rl.sub.sqt g1, post _ φ S H rl (Step.refl _ _ _) (.tup g1 g2)⟩⟩
        | _ => cases hx
      · exact post.elim
  · exact post.elim
/-- sorted(ints): new -/
def sortI (ns : List Int) : List Int := ns.mergeSort fun a b => decide (a ≤ b)
theorem sortI_perm (ns : List Int) : (sortI ns).Perm ns := List.mergeSort_perm _ _
theorem sortI_rises (ns : List Int) : (sortI ns).Pairwise (· ≤ ·) := by
  have h := List.pairwise_mergeSort (le := fun (a b : Int) => decide (a ≤ b)) (fun a b c h1 h2 => by
    have := of_decide_eq_true h1
    have := of_decide_eq_true h2
    exact decide_eq_true (by omega)) (fun a b => by
    rcases Int.le_total a b with q | q
    · rw [decide_eq_true q]; rfl
    · rw [decide_eq_true q, Bool.or_true]) ns
  exact h.imp fun h => of_decide_eq_true h
theorem sort_one {xs ys : List Int} (hp : xs.Perm ys) (h1 : xs.Pairwise (· ≤ ·)) (h2 : ys.Pairwise (· ≤ ·)) : xs = ys := hp.eq_of_pairwise (le := (· ≤ ·)) (fun a b _ _ x y => Int.le_antisymm x y) h1 h2
def bSorted : List D → Hv → R (List D) := fun ds h => match ds with
  | [d] => (match (lOf h d).bind (optAll toI) with
    | some ns => .ok ((sortI ns).map D.int) h
    | none => .stuck)
  | _ => .stuck
theorem cl_sorted : CaL K (rSortedI K) bSorted := by
  intro φ S H h ds vs Q E rl ra post
  unfold bSorted at post
  split at post
  · next d =>
    obtain ⟨v, rfl, r⟩ := ra.one
    split at post
    · next ns hn =>
      obtain ⟨xs, q1, q2⟩ := Option.bind_eq_some_iff.mp hn
      obtain ⟨a, vs, rfl, h2, h3⟩ := lOf_ok rl r q1
      rw [toIs_ok h3 q2] at h2
      refine ⟨a, ns, rfl, h2, fun ns' p hperm hs hp => ?_⟩
      have e : ns' = sortI ns := sort_one (hperm.trans (sortI_perm ns).symm) hs (sortI_rises ns)
      rw [e]
      obtain ⟨r2, s2⟩ := rl.hold (o := .lst ((sortI ns).map V.int)) hp
      exact post _ φ _ _ r2 s2 ⟨p, _, rfl, hp, upd_same, rl.snone hp, rl.notin hp, .of_ints _⟩
    · exact post.elim
  · exact post.elim
/-- str(int), int(int), bool(int) -/
def bStr : List D → Hv → R D := fun ds h => match ds with
  | [.int i] => if i.natAbs.log2 < 1920 then .ok (.str (toString i)) h else .stuck
  | _ => .stuck
theorem cs_str : CaS K (fun xs H Q => ∃ i, xs = [.int i] ∧ i.natAbs.log2 < 1920 ∧ Q (.str (toString i)) H) bStr := by
  intro φ S H h ds vs Q E rl ra post
  unfold bStr at post
  split at post
  · next i =>
    obtain ⟨v, rfl, r⟩ := ra.one
    cases r
    split at post
    · next q => exact ⟨_, rfl, q, post _ φ S H rl (Step.refl _ _ _) (.str _)⟩
    · exact post.elim
  · exact post.elim
def bInt : List D → Hv → R D := fun ds h => match ds with
  | [.int i] => .ok (.int i) h
  | [.bl b] => .ok (.int (if b then 1 else 0)) h
  | _ => .stuck
theorem cs_int : CaS K (fun xs H Q => (∃ i, xs = [.int i] ∧ Q (.int i) H) ∨ ∃ k, xs = [.bl k] ∧ Q (.int (if k then 1 else 0)) H) bInt := by
  intro φ S H h ds vs Q E rl ra post
  unfold bInt at post
  split at post
  · obtain ⟨v, rfl, r⟩ := ra.one
    cases r
    exact .inl ⟨_, rfl, post _ φ S H rl (Step.refl _ _ _) (.int _)⟩
  · obtain ⟨v, rfl, r⟩ := ra.one
    cases r
    exact .inr ⟨_, rfl, post _ φ S H rl (Step.refl _ _ _) (.int _)⟩
  · exact post.elim
end
end
end VD

set_option Elab.async false
set_option linter.all false
set_option maxRecDepth 100000
set_option maxHeartbeats 4000000
namespace VD
open PySem PySem.Spec PyProof.Rows L2
noncomputable section
/-! ### statements -/
def PostS (K : PySem.W.Frag) (φ : List Addr) (S H : Hp) (r : RS) (D : Ends) (W : WX) : Prop := match r with
  | .next σv h' => ∀ σ φ' S' H', Rel K φ' S' H' h' → RelS K φ' S' σv σ → Step φ S H φ' S' H' → D.nx σ H'
  | .brk σv h' => ∀ σ φ' S' H', Rel K φ' S' H' h' → RelS K φ' S' σv σ → Step φ S H φ' S' H' → D.bk σ H'
  | .cont σv h' => ∀ σ φ' S' H', Rel K φ' S' H' h' → RelS K φ' S' σv σ → Step φ S H φ' S' H' → D.ct σ H'
  | .ret d h' => ∀ v φ' S' H', Rel K φ' S' H' h' → Step φ S H φ' S' H' → Rp K φ' S' v d → D.rt v H'
  | .exc x σv h' => ∀ σ cls dd φ' S' H', Rel K φ' S' H' h' → RelS K φ' S' σv σ → Step φ S H φ' S' H' → RpX K φ' S' H' x cls dd → W cls dd σ H'
  | .stuck => False
theorem PostS.up {K : PySem.W.Frag} {φ φ1 : List Addr} {S H S1 H1 : Hp} {r : RS} {D : Ends} {W : WX} (s : Step φ S H φ1 S1 H1) (p : PostS K φ S H r D W) : PostS K φ1 S1 H1 r D W := by
  cases r with
  | next σv h' => exact fun σ φ' S' H' a b c => p σ φ' S' H' a b (s.trans c)
  | brk σv h' => exact fun σ φ' S' H' a b c => p σ φ' S' H' a b (s.trans c)
  | cont σv h' => exact fun σ φ' S' H' a b c => p σ φ' S' H' a b (s.trans c)
  | ret d h' => exact fun v φ' S' H' a b c => p v φ' S' H' a (s.trans b) c
  | exc x σv h' => exact fun σ cls dd φ' S' H' a b c d => p σ cls dd φ' S' H' a b (s.trans c) d
  | stuck => exact p
structure SnS (K : PySem.W.Frag) (W : WX) (ts : TS) (ss : SS) : Prop where
  run : ∀ {φ : List Addr} {S H : Hp} {h : Hv} {σv : VS} {σ : L2.St} {D : Ends}, Rel K φ S H h → RelS K φ S σv σ → PostS K φ S H (ss σv h) D W → ts D σ H
/-- a value, then a statement's end -/
def R.then {α : Type} (r : R α) (σ : VS) (f : α → Hv → RS) : RS := match r with
  | .ok a h => f a h
  | .exc x h => .exc x σ h
  | .stuck => .stuck
@[simp] theorem R.then_ok {α : Type} (a : α) (h : Hv) (σ : VS) (f : α → Hv → RS) : (R.ok a h).then σ f = f a h := rfl
@[simp] theorem R.then_exc {α : Type} (x : Xn) (h : Hv) (σ : VS) (f : α → Hv → RS) : (R.exc x h : R α).then σ f = .exc x σ h := rfl
@[simp] theorem R.then_stuck {α : Type} (σ : VS) (f : α → Hv → RS) : (R.stuck : R α).then σ f = .stuck := rfl
theorem Sn.thenS {α β : Type} {K : PySem.W.Frag} {rep : Rep α β} {W : WX} {t : L2.St → Hp → (β → Hp → Prop) → Prop} {ea : VS → Hv → R α} {f : α → Hv → RS}
    {φ : List Addr} {S H : Hp} {h : Hv} {σv : VS} {σ : L2.St} {D : Ends} {Q1 : β → Hp → Prop}
    (ha : Sn K rep W t ea) (rl : Rel K φ S H h) (rs : RelS K φ S σv σ) (post : PostS K φ S H ((ea σv h).then σv f) D W)
    (k : ∀ a h1 b φ1 S1 H1, Rel K φ1 S1 H1 h1 → RelS K φ1 S1 σv σ → Step φ S H φ1 S1 H1 → rep H φ1 S1 H1 b a → PostS K φ1 S1 H1 (f a h1) D W → Q1 b H1) : t σ H Q1 := by
  refine ha.run rl rs ?_
  cases q : ea σv h with
  | ok a h1 =>
    rw [q] at post
    exact fun b φ1 S1 H1 rl1 st rp => k a h1 b φ1 S1 H1 rl1 (rs.step st) st rp (PostS.up st post)
  | exc x h1 =>
    rw [q] at post
    exact fun cls dd φ' S' H' a b c => post σ cls dd φ' S' H' a (rs.step b) b c
  | stuck =>
    rw [q] at post
    exact post.elim

def QS (X : Cx) (W : WX) (st : Stmt) (ss : SS) : Prop := ∃ t, PS X st t ∧ SnS X.K W t ss
def QB (X : Cx) (W : WX) (st : List Stmt) (ss : SS) : Prop := ∃ t, PSs X st t ∧ SnS X.K W t ss
def sNext : SS := fun σ h => .next σ h
def sSeq (f g : SS) : SS := fun σ h => match f σ h with
  | .next σ' h' => g σ' h'
  | r => r
section
variable {X : Cx} {W : WX} {e a b c : Expr} {st : Stmt} {rest : List Stmt} {pos pos' : Pos} {fa fb fc : ES} {la lb : LS} {ca cb : CS} {s1 s2 s3 : SS}
theorem qb_nil : QB X W [] sNext := ⟨_, pss_nil, ⟨fun {φ S H h σv σ D} rl rs post => post σ φ S H rl rs (Step.refl _ _ _)⟩⟩
theorem qb_cons (h1 : QS X W st s1) (h2 : QB X W rest s2) : QB X W (st :: rest) (sSeq s1 s2) := by
  obtain ⟨t1, a1, b1⟩ := h1
  obtain ⟨t2, a2, b2⟩ := h2
  refine ⟨_, pss_cons a1 a2, ⟨fun {φ S H h σv σ D} rl rs post => b1.run rl rs ?_⟩⟩
  unfold sSeq at post
  cases q : s1 σv h with
  | next σ' h' =>
    rw [q] at post
    exact fun σ1 φ1 S1 H1 rl1 rs1 st1 => b2.run rl1 rs1 (PostS.up st1 post)
  | _ => rw [q] at post; exact post
theorem qb_one (h1 : QS X W st s1) : QB X W [st] s1 := by
  obtain ⟨t1, a1, b1⟩ := h1
  exact ⟨_, pss_one a1, b1⟩
def sBrk : SS := fun σ h => .brk σ h
def sCont : SS := fun σ h => .cont σ h
theorem qs_pass : QS X W (.Pass pos) sNext := ⟨_, ps_pass, ⟨fun {φ S H h σv σ D} rl rs post => post σ φ S H rl rs (Step.refl _ _ _)⟩⟩
theorem qs_break : QS X W (.Break pos) sBrk := ⟨_, ps_break, ⟨fun {φ S H h σv σ D} rl rs post => post σ φ S H rl rs (Step.refl _ _ _)⟩⟩
theorem qs_continue : QS X W (.Continue pos) sCont := ⟨_, ps_continue, ⟨fun {φ S H h σv σ D} rl rs post => post σ φ S H rl rs (Step.refl _ _ _)⟩⟩
theorem qs_doc {x j} : QS X W (.Expr (.Constant (.str x) j pos) pos') sNext := ⟨_, ps_doc, ⟨fun {φ S H h σv σ D} rl rs post => post σ φ S H rl rs (Step.refl _ _ _)⟩⟩
/-- what the proof never comes to -/
def sNever : SS := fun _ _ => .stuck
theorem qs_never : QS X W st sNever := ⟨_, ps_never, ⟨fun rl rs post => post.elim⟩⟩
theorem qb_never : QB X W rest sNever := ⟨_, pss_never, ⟨fun rl rs post => post.elim⟩⟩
def sDrop (f : ES) : SS := fun σ h => (f σ h).then σ fun _ h' => .next σ h'
theorem qs_expr (he : SE X W e fa) (hs : swapsWith e none pos.line X.env = pure false := by rfl) : QS X W (.Expr e pos) (sDrop fa) := by
  obtain ⟨ta, h1, h2⟩ := he
  exact ⟨_, ps_expr h1 hs, ⟨fun rl rs post => h2.thenS rl rs post fun x h1 v φ1 S1 H1 rl1 rs1 st rp post => post _ φ1 S1 H1 rl1 rs1 (Step.refl _ _ _)⟩⟩
def sRet (f : ES) : SS := fun σ h => (f σ h).then σ fun d h' => .ret d h'
theorem qs_ret (he : SE X W e fa) : QS X W (.Return (some e) pos) (sRet fa) := by
  obtain ⟨ta, h1, h2⟩ := he
  exact ⟨_, ps_ret h1, ⟨fun rl rs post => h2.thenS rl rs post fun x h1 v φ1 S1 H1 rl1 rs1 st rp post => post v φ1 S1 H1 rl1 (Step.refl _ _ _) rp⟩⟩
theorem qs_retN : QS X W (.Return none pos) (fun _ h => .ret .non h) := ⟨_, ps_retN, ⟨fun {φ S H h σv σ D} rl rs post => post .non φ S H rl (Step.refl _ _ _) .non⟩⟩
def sIf (c : CS) (f g : SS) : SS := fun σ h => (c σ h).then σ fun k h' => if k then f σ h' else g σ h'
theorem qs_if {x y : List Stmt} (hc : ST X W c ca) (ha : QB X W x s1) (hb : QB X W y s2) : QS X W (.If c x y pos) (sIf ca s1 s2) := by
  obtain ⟨tc, h1, h2⟩ := hc
  obtain ⟨ta, k1, k2⟩ := ha
  obtain ⟨tb, l1, l2⟩ := hb
  refine ⟨_, ps_if h1 k1 l1, ⟨fun rl rs post => h2.thenS rl rs post fun x h1 v φ1 S1 H1 rl1 rs1 st rp post => ?_⟩⟩
  cases (show v = x from rp)
  cases x with
  | true => exact k2.run rl1 rs1 post
  | false => exact l2.run rl1 rs1 post
def sSet (i : Nat) (f : ES) : SS := fun σ h => (f σ h).then σ fun d h' => .next (σ.set i (some d)) h'
theorem qs_set {i : Nat} {x : Str} (nd : X.N.Nodup) (he : SE X W e fa) (hi : X.N[i]? = some x := by rfl) (hx : Loc X.env.scope x := by first | exact Or.inl rfl | exact Or.inr rfl) (hs : swapsWith e (some (.Name x pos')) pos.line X.env = pure false := by rfl)
    (hf : X.fn x = true ∨ X.env.scope.names.lookup x = some .local := by first | exact .inl rfl | exact .inr rfl | assumption) : QS X W (.Assign [.Name x pos'] e pos) (sSet i fa) := by
  obtain ⟨ta, h1, h2⟩ := he
  exact ⟨_, ps_set nd hi hx h1 hs hf, ⟨fun rl rs post => h2.thenS rl rs post fun d h1 v φ1 S1 H1 rl1 rs1 st rp post => post _ φ1 S1 H1 rl1 (rs1.set rp i) (Step.refl _ _ _)⟩⟩
/-- a, b = x, y -/
def sPar (i j : Nat) (g : LS) : SS := fun σ h => (g σ h).then σ fun ds h' => match ds with
  | [x, y] => .next ((σ.set i (some x)).set j (some y)) h'
  | _ => .stuck
theorem qs_par {i j : Nat} {x y : Str} {px py pt pt2 : Pos} {kt k2} (nd : X.N.Nodup) (ha : SA X W [a, b] la) (hij : i ≠ j := by decide) (hc : X.calm = true := by rfl) (hi : X.N[i]? = some x := by rfl) (hj : X.N[j]? = some y := by rfl)
    (hx : X.env.scope.names.lookup x = some .local := by rfl) (hy : X.env.scope.names.lookup y = some .local := by rfl)
    (hw : swappedStores [.Tuple [.Name x px, .Name y py] kt pt] (.Tuple [a, b] k2 pt2) X.env = pure (some [x, y]) := by rfl)
    (hs : swapsWithSole [.Tuple [.Name x px, .Name y py] kt pt] (.Tuple [a, b] k2 pt2) pos.line X.env = pure false := by rfl) : QS X W (.Assign [.Tuple [.Name x px, .Name y py] kt pt] (.Tuple [a, b] k2 pt2) pos) (sPar i j la) := by
  obtain ⟨ta, h1, h2⟩ := ha
  refine ⟨_, ps_par hc nd hi hj hij hx hy h1 hw hs, ⟨fun rl rs post => h2.thenS rl rs post fun ds h1 vs φ1 S1 H1 rl1 rs1 st rp post => ?_⟩⟩
  have ra : RpA X.K φ1 S1 vs ds := rp
  split at post
  · obtain ⟨v, w, rfl, r1, r2⟩ := ra.two
    exact ⟨v, w, rfl, post _ φ1 S1 H1 rl1 ((rs1.set r1 i).set r2 j) (Step.refl _ _ _)⟩
  · exact post.elim
/-- x op= e, ints -/
def sAug (i : Nat) (g : Int → Int → Int) (f : ES) : SS := fun σ h => match σ[i]? with
  | some (some (.int a)) => (f σ h).then σ fun d h' => match d with
    | .int b => .next (σ.set i (some (.int (g a b)))) h'
    | _ => .stuck
  | _ => .stuck
theorem qs_aug {i : Nat} {x : Str} {op : Operator} {g : Int → Int → Int} (nd : X.N.Nodup) (he : SE X W e fa) (ho : PIp X op (ipI g)) (hi : X.N[i]? = some x := by rfl) (hx : Loc X.env.scope x := by first | exact Or.inl rfl | exact Or.inr rfl)
    (hf : X.fn x = true ∨ X.env.scope.names.lookup x = some .local := by first | exact .inl rfl | exact .inr rfl | assumption) : QS X W (.AugAssign (.Name x pos') op e pos) (sAug i g fa) := by
  obtain ⟨ta, h1, h2⟩ := he
  refine ⟨_, ps_aug nd hi hx h1 ho hf, ⟨fun {φ S H h σv σ D} rl rs post => ?_⟩⟩
  unfold sAug at post
  split at post
  · next z hz =>
    obtain ⟨v, hv, rv⟩ := rs.at_ i _ hz
    cases rv
    refine ⟨_, hv, h2.thenS rl rs post fun d h1 u φ1 S1 H1 rl1 rs1 st rp post => ?_⟩
    cases d with
    | int b =>
      cases (show Rp _ _ _ _ _ from rp)
      exact ⟨_, _, rfl, rfl, post _ φ1 S1 H1 rl1 (rs1.set (.int _) i) (Step.refl _ _ _)⟩
    | _ => exact post.elim
  · exact post.elim
end

/-! ### targets -/
abbrev GD := D → VS → Option VS
abbrev GDs := List D → VS → Option VS
structure SnG (K : PySem.W.Frag) (g : TG) (gs : GD) (own : List Nat) : Prop where
  run : ∀ {φ : List Addr} {S H : Hp} {d : D} {v : V} {σv σv' : VS} {σ : L2.St} {Q : L2.St → Hp → Prop}, Ex S H → RelS K φ S σv σ → Rp K φ S v d → gs d σv = some σv' →
    (∀ σ', RelS K φ S σv' σ' → σ'.length = σ.length → (∀ j, j ∉ own → σ'[j]? = σ[j]?) → Q σ' H) → g v σ H Q
structure SnGs (K : PySem.W.Frag) (g : TGs) (gs : GDs) (own : List Nat) : Prop where
  run : ∀ {φ : List Addr} {S H : Hp} {d : List D} {v : List V} {σv σv' : VS} {σ : L2.St} {Q : L2.St → Hp → Prop}, Ex S H → RelS K φ S σv σ → RpA K φ S v d → gs d σv = some σv' →
    (∀ σ', RelS K φ S σv' σ' → σ'.length = σ.length → (∀ j, j ∉ own → σ'[j]? = σ[j]?) → Q σ' H) → g v σ H Q
def QG (X : Cx) (tg : Expr) (gs : GD) (own : List Nat) : Prop := ∃ g, PG X tg g ∧ SnG X.K g gs own
def QGs (X : Cx) (ts : List Expr) (gs : GDs) (own : List Nat) : Prop := ∃ g, PGs X ts g ∧ SnGs X.K g gs own
def gN (i : Nat) : GD := fun d σ => some (σ.set i (some d))
def gsNil : GDs := fun ds σ => match ds with
  | [] => some σ
  | _ => none
def gsCons (g : GD) (gs : GDs) : GDs := fun ds σ => match ds with
  | d :: r => (match g d σ with
    | some σ' => gs r σ'
    | none => none)
  | _ => none
def gT (n : Nat) (gs : GDs) : GD := fun d σ => match d with
  | .tup ds => if ds.length = n then gs ds σ else none
  | _ => none
section
variable {X : Cx} {pos : Pos} {e : Expr} {es : List Expr} {g : GD} {gs : GDs} {own own2 : List Nat}
theorem sng_name {K : PySem.W.Frag} (i : Nat) : SnG K (gName i) (gN i) [i] := ⟨fun {φ S H d v σv σv' σ Q} ex rs rp h k => by
  cases h
  refine k _ (rs.set rp i) (List.length_set) fun j hj => ?_
  exact List.getElem?_set_ne (fun z => hj (by rw [← z]; exact List.mem_singleton.mpr rfl))⟩
theorem qg_name {i : Nat} {x : Str} (nd : X.N.Nodup) (hi : X.N[i]? = some x := by rfl) (hx : Loc X.env.scope x := by first | exact Or.inl rfl | exact Or.inr rfl)
    (hf : X.fn x = true ∨ X.env.scope.names.lookup x = some .local := by first | exact .inl rfl | exact .inr rfl | assumption) : QG X (.Name x pos) (gN i) [i] := ⟨_, pg_name nd hi hx hf, sng_name i⟩
theorem qgs_nil : QGs X [] gsNil [] := ⟨_, pgs_nil, ⟨fun {φ S H d v σv σv' σ Q} ex rs rp h k => by
  cases d with
  | nil =>
    cases h
    cases rp
    exact ⟨rfl, k σ rs rfl fun _ _ => rfl⟩
  | cons _ _ => cases h⟩⟩
theorem qgs_cons (h1 : QG X e g own) (h2 : QGs X es gs own2) (hs : (assignEach (e :: es) X.env).map (·.2) = assign e X.env :: (assignEach es X.env).map (·.2) := by rfl) : QGs X (e :: es) (gsCons g gs) (own ++ own2) := by
  obtain ⟨t1, a1, b1⟩ := h1
  obtain ⟨t2, a2, b2⟩ := h2
  refine ⟨_, pgs_cons a1 a2 hs, ⟨fun {φ S H d v σv σv' σ Q} ex rs rp h k => ?_⟩⟩
  cases d with
  | nil => cases h
  | cons d r =>
    cases rp with
    | cons rv rr =>
      simp only [gsCons] at h
      cases q : g d σv with
      | none => rw [q] at h; cases h
      | some σ1 =>
        rw [q] at h
        refine ⟨_, _, rfl, b1.run ex rs rv q fun σ' rs1 l1 f1 => b2.run ex rs1 rr h fun σ2 rs2 l2 f2 => k σ2 rs2 (l2.trans l1) fun j hj => ?_⟩
        have hj' : ¬ (j ∈ own ∨ j ∈ own2) := fun z => hj (List.mem_append.mpr z)
        exact (f2 j fun z => hj' (.inr z)).trans (f1 j fun z => hj' (.inl z))
theorem qg_tup {k : Nat} {n : Nat} (h : QGs X es gs own) (hc : X.calm = true := by rfl) (hn : (assignEach es X.env).length = n := by rfl) (hst : (assignEach es X.env).findIdx? (·.1) = none := by rfl) : QG X (.Tuple es k pos) (gT n gs) own := by
  obtain ⟨t1, a1, b1⟩ := h
  refine ⟨_, pg_tup hc a1 hn hst, ⟨fun {φ S H d v σv σv' σ Q} ex rs rp h k => ?_⟩⟩
  cases rp with
  | @tup a vs ds h1 h2 =>
    simp only [gT] at h
    split at h
    · next q => exact ⟨a, vs, rfl, ex.sqt h1, by rw [h2.length]; exact q, b1.run ex rs h2 h k⟩
    · cases h
  | _ => cases h
end
/-- target = value -/
def sAsg (f : ES) (g : GD) : SS := fun σ h => (f σ h).then σ fun d h' => match g d σ with
  | some σ' => .next σ' h'
  | none => .stuck
theorem qs_asg {X : Cx} {W : WX} {tg e : Expr} {pos : Pos} {fa : ES} {g : GD} {own : List Nat} (he : SE X W e fa) (hg : QG X tg g own) (hs : swapsWithSole [tg] e pos.line X.env = pure false := by rfl) (hw : swappedStores [tg] e X.env = pure none := by rfl)
    (h1 : (assignEach [tg] X.env).map (·.2) = [assign tg X.env] := by rfl) : QS X W (.Assign [tg] e pos) (sAsg fa g) := by
  obtain ⟨ta, k1, k2⟩ := he
  obtain ⟨tg, l1, l2⟩ := hg
  refine ⟨_, ps_asg k1 l1 hs hw h1, ⟨fun rl rs post => k2.thenS rl rs post fun d h1 v φ1 S1 H1 rl1 rs1 st rp post => ?_⟩⟩
  split at post
  · next σ' q => exact l2.run rl1.sub rs1 rp q fun σ2 rs2 _ _ => post σ2 φ1 S1 H1 rl1 rs2 (Step.refl _ _ _)
  · exact post.elim

/-! ### what is walked -/
structure ItOk (K : PySem.W.Frag) (φ0 : List Addr) (S0 : Hp) (J : It) (ds : List D) (chk : Hv → Bool) : Prop where
  go : ∀ {i φ S H h}, Rel K φ S H h → Pre φ0 φ → Ex S0 S → chk h = true → i < ds.length → J.go i H ∧ ∀ x H', J.yld i H x H' → ∃ S' d, ds[i]? = some d ∧ Rel K φ S' H' h ∧ Step φ S H φ S' H' ∧ Rp K φ S' x d
  stop : ∀ {φ S H h}, Rel K φ S H h → Pre φ0 φ → Ex S0 S → chk h = true → J.stop ds.length H
abbrev IS := VS → Hv → R (List D × (Hv → Bool))
def repI (K : PySem.W.Frag) : Rep (List D × (Hv → Bool)) It := fun _ φ' S' _ J p => ItOk K φ' S' J p.1 p.2
instance {K : PySem.W.Frag} : Rep.Up (repI K) := ⟨fun _ h => h⟩
def QI (X : Cx) (W : WX) (tg iter : Expr) (is : IS) : Prop := ∃ wi, PI X tg iter wi ∧ Sn X.K (repI X.K) W wi is
def always : Hv → Bool := fun _ => true
section
variable {X : Cx} {W : WX} {tg e e2 : Expr} {p pos : Pos} {fa : ES} {la : LS}
/-- a list; a tuple -/
def iL (f : ES) : IS := fun σ h => (f σ h).bind fun d h1 => match d with
  | .lst ds => .ok (ds, always) h1
  | .fz ds => .ok (ds, always) h1
  | _ => .stuck
theorem itl_ok {K : PySem.W.Frag} {φ0 : List Addr} {S0 : Hp} {a : Addr} {vs : List V} {ds : List D} (h2 : SqL K S0 a vs) (h3 : RpA K φ0 S0 vs ds) : ItOk K φ0 S0 (Itl K a) ds always where
  go := fun {i φ S H h} r2 pr ex _ hi => by
    have hS : SqL K S a vs := ex.sql h2
    obtain ⟨w, hw, rw_⟩ := h3.at (List.getElem?_eq_getElem hi)
    refine ⟨⟨vs, w, r2.sub.sql hS, hw⟩, fun x H' y => ?_⟩
    obtain ⟨rfl, y⟩ := y
    have ew := y vs (r2.sub.sql hS)
    rw [hw] at ew
    cases ew
    exact ⟨S, _, List.getElem?_eq_getElem hi, r2, Step.refl _ _ _, Rp.mono pr ex rw_⟩
  stop := fun {φ S H h} r2 pr ex _ => ⟨vs, r2.sub.sql (ex.sql h2), Nat.le_of_eq h3.length⟩
theorem qi_list (he : SE X W e fa) : QI X W tg e (iL fa) := by
  obtain ⟨ta, h1, h2⟩ := he
  refine ⟨_, pi_list h1, ⟨fun rl rs post => h2.bind rl rs post fun d h1 v φ1 S1 H1 rl1 rs1 st rp post => ?_⟩⟩
  cases d with
  | lst ds =>
    cases (show Rp _ _ _ _ _ from rp) with
    | lst g1 g2 => exact ⟨_, rfl, ⟨_, .inl (.inl (rl1.sub _ _ g1))⟩, post _ φ1 S1 H1 rl1 (Step.refl _ _ _) (itl_ok (.inl (.inl g1)) g2)⟩
  | fz ds =>
    cases (show Rp _ _ _ _ _ from rp) with
    | fz g1 g2 => exact ⟨_, rfl, ⟨_, rl1.sub.sql g1⟩, post _ φ1 S1 H1 rl1 (Step.refl _ _ _) (itl_ok g1 g2)⟩
  | _ => exact post.elim
/-- a list that is a cell: it stays while it is walked -/
noncomputable def isCell (n : Nat) (ds : List D) (h : Hv) : Bool := @decide (h[n]? = some (.lst ds)) (Classical.propDecidable _)
theorem isCell_of {n : Nat} {ds : List D} {h : Hv} (e : h[n]? = some (.lst ds)) : isCell n ds h = true := by
  unfold isCell
  exact @decide_eq_true _ (Classical.propDecidable _) e
noncomputable def iC (f : ES) : IS := fun σ h => (f σ h).bind fun d h1 => match d with
  | .cell n => (match h1[n]? with
    | some (.lst ds) => .ok (ds, isCell n ds) h1
    | _ => .stuck)
  | _ => .stuck
theorem qi_cell (he : SE X W e fa) : QI X W tg e (iC fa) := by
  obtain ⟨ta, h1, h2⟩ := he
  refine ⟨_, pi_list h1, ⟨fun rl rs post => h2.bind rl rs post fun d h1 v φ1 S1 H1 rl1 rs1 st rp post => ?_⟩⟩
  split at post
  · next n =>
    split at post
    · next ds hds =>
      cases (show Rp _ _ _ _ _ from rp) with
      | @cell a _ ha =>
        have look : ∀ {φ S H h}, Rel X.K φ S H h → Pre φ1 φ → isCell n ds h = true → ∃ vs, H a = some (.lst vs) ∧ RpA X.K φ S vs ds := fun {φ S H h} r2 pr ck => by
          have e : h[n]? = some (.lst ds) := by
            unfold isCell at ck
            exact @of_decide_eq_true _ (Classical.propDecidable _) ck
          obtain ⟨_, o, ho, vs, rfl, ra⟩ := r2.cel n a _ (pr.at ha) e
          exact ⟨vs, ho, ra⟩
        obtain ⟨vs0, hv0, _⟩ := look rl1 (Pre.refl _) (isCell_of hds)
        refine ⟨a, rfl, ⟨vs0, .inl (.inl hv0)⟩, post _ φ1 S1 H1 rl1 (Step.refl _ _ _) ⟨fun {i φ S H h} r2 pr ex ck hi => ?_, fun {φ S H h} r2 pr ex ck => ?_⟩⟩
        · obtain ⟨vs, hv, ra⟩ := look r2 pr ck
          obtain ⟨w, hw, rw_⟩ := ra.at (List.getElem?_eq_getElem hi)
          refine ⟨⟨vs, w, .inl (.inl hv), hw⟩, fun x H' y => ?_⟩
          obtain ⟨rfl, y⟩ := y
          have ew := y vs (.inl (.inl hv))
          rw [hw] at ew
          cases ew
          exact ⟨S, _, List.getElem?_eq_getElem hi, r2, Step.refl _ _ _, rw_⟩
        · obtain ⟨vs, hv, ra⟩ := look r2 pr ck
          exact ⟨vs, .inl (.inl hv), Nat.le_of_eq ra.length⟩
    · exact post.elim
  · exact post.elim
def iT (f : ES) : IS := fun σ h => (f σ h).bind fun d h1 => match d with
  | .tup ds => .ok (ds, always) h1
  | _ => .stuck
theorem qi_tup (he : SE X W e fa) : QI X W tg e (iT fa) := by
  obtain ⟨ta, h1, h2⟩ := he
  refine ⟨_, pi_tup h1, ⟨fun rl rs post => h2.bind rl rs post fun d h1 v φ1 S1 H1 rl1 rs1 st rp post => ?_⟩⟩
  cases d with
  | tup ds =>
    cases (show Rp _ _ _ _ _ from rp) with
    | @tup a vs _ g1 g2 =>
      refine ⟨a, rfl, ⟨vs, rl1.sub.sqt g1⟩, post (Itt X.K a) φ1 S1 H1 rl1 (Step.refl _ _ _) ⟨fun {i φ S H h} r2 pr ex _ hi => ?_, fun {φ S H h} r2 pr ex _ => ?_⟩⟩
      · have hS : SqT X.K S a vs := ex.sqt g1
        obtain ⟨w, hw, rw_⟩ := g2.at (List.getElem?_eq_getElem hi)
        refine ⟨⟨vs, w, r2.sub.sqt hS, hw⟩, fun x H' y => ?_⟩
        obtain ⟨rfl, y⟩ := y
        have ew := y vs (r2.sub.sqt hS)
        rw [hw] at ew
        cases ew
        exact ⟨S, _, List.getElem?_eq_getElem hi, r2, Step.refl _ _ _, Rp.mono pr ex rw_⟩
      · exact ⟨vs, r2.sub.sqt (ex.sqt g1), Nat.le_of_eq g2.length⟩
  | _ => exact post.elim
def rgD (lo : Int) (n : Nat) : List D := (List.range n).map fun i => .int (lo + (i : Nat))
theorem itr_ok {K : PySem.W.Frag} {φ0 : List Addr} {S0 : Hp} (lo : Int) (n : Nat) : ItOk K φ0 S0 (Itr lo n) (rgD lo n) always where
  go := fun {i φ S H h} r2 pr ex _ hi => by
    unfold rgD at hi ⊢
    rw [List.length_map, List.length_range] at hi
    refine ⟨hi, fun x H' y => ?_⟩
    obtain ⟨rfl, rfl⟩ := y
    exact ⟨S, .int (lo + (i : Nat)), by rw [List.getElem?_map, List.getElem?_range hi]; rfl, r2, Step.refl _ _ _, .int _⟩
  stop := fun {φ S H h} r2 pr ex _ => by
    unfold rgD
    rw [List.length_map, List.length_range]
    exact Nat.le_refl _
def iR1 (g : LS) : IS := fun σ h => (g σ h).bind fun ds h1 => match ds with
  | [.int n] => @ite _ (-(2 ^ 62) ≤ n ∧ n < 2 ^ 62) (Classical.propDecidable _) (.ok (rgD 0 n.toNat, always) h1) .stuck
  | _ => .stuck
theorem qi_range1 {a : Expr} (hm : X.mg "range" = none) (ha : SA X W [a] la) (hg : Gl X "range" := by rfl) (hs : starEach [a] X.env = [(false, eval a X.env)] := by rfl) : QI X W tg (.Call (.Name "range" p) [a] [] pos) (iR1 la) := by
  obtain ⟨ta, h1, h2⟩ := ha
  refine ⟨_, pi_range1 hg hm h1 hs, ⟨fun rl rs post => h2.bind rl rs post fun ds h1 vs φ1 S1 H1 rl1 rs1 st rp post => ?_⟩⟩
  have ra : RpA X.K φ1 S1 vs ds := rp
  split at post
  · next n =>
    obtain ⟨v, rfl, r⟩ := ra.one
    cases r
    split at post
    · next q => exact ⟨n, rfl, q.1, q.2, post (Itr 0 n.toNat) φ1 S1 H1 rl1 (Step.refl _ _ _) (itr_ok 0 n.toNat)⟩
    · exact post.elim
  · exact post.elim
def iR2 (g : LS) : IS := fun σ h => (g σ h).bind fun ds h1 => match ds with
  | [.int m, .int n] => @ite _ ((-(2 ^ 62) ≤ m ∧ m < 2 ^ 62) ∧ (-(2 ^ 62) ≤ n ∧ n < 2 ^ 62)) (Classical.propDecidable _) (.ok (rgD m (n - m).toNat, always) h1) .stuck
  | _ => .stuck
theorem qi_range2 {a b : Expr} (hm : X.mg "range" = none) (ha : SA X W [a, b] la) (hg : Gl X "range" := by rfl) (hs : starEach [a, b] X.env = [(false, eval a X.env), (false, eval b X.env)] := by rfl) (hs2 : starEach [b] X.env = [(false, eval b X.env)] := by rfl) :
    QI X W tg (.Call (.Name "range" p) [a, b] [] pos) (iR2 la) := by
  obtain ⟨ta, h1, h2⟩ := ha
  refine ⟨_, pi_range2 hg hm h1 hs hs2, ⟨fun rl rs post => h2.bind rl rs post fun ds h1 vs φ1 S1 H1 rl1 rs1 st rp post => ?_⟩⟩
  have ra : RpA X.K φ1 S1 vs ds := rp
  split at post
  · next m n =>
    obtain ⟨v, w, rfl, r, r2⟩ := ra.two
    cases r
    cases r2
    split at post
    · next q => exact ⟨m, n, rfl, ⟨q.1.1, q.1.2, q.2.1, q.2.2⟩, post (Itr m (n - m).toNat) φ1 S1 H1 rl1 (Step.refl _ _ _) (itr_ok m _)⟩
    · exact post.elim
  · exact post.elim
/-- zip of two lists -/
def zipD : List D → List D → List D
  | x :: xs, y :: ys => .tup [x, y] :: zipD xs ys
  | _, _ => []
def lsOf : D → Option (List D)
  | .lst xs => some xs
  | .fz xs => some xs
  | _ => none
def iZ (g : LS) : IS := fun σ h => (g σ h).bind fun ds h1 => match ds with
  | [x, y] => (match lsOf x, lsOf y with
    | some xs, some ys => if xs.length = ys.length then .ok (zipD xs ys, always) h1 else .stuck
    | _, _ => .stuck)
  | _ => .stuck
theorem lsOf_ok {K : PySem.W.Frag} {φ : List Addr} {S : Hp} {d : D} {v : V} {ds : List D} (r : Rp K φ S v d) (e : lsOf d = some ds) : ∃ a vs, v = .ref a ∧ SqL K S a vs ∧ RpA K φ S vs ds := by
  cases r with
  | lst h1 h2 => cases e; exact ⟨_, _, rfl, .inl (.inl h1), h2⟩
  | fz h1 h2 => cases e; exact ⟨_, _, rfl, h1, h2⟩
  | _ => cases e
theorem zipD_at : ∀ {xs ys : List D} {i : Nat} {x y : D}, xs[i]? = some x → ys[i]? = some y → (zipD xs ys)[i]? = some (.tup [x, y])
  | _ :: _, _ :: _, 0, _, _, h1, h2 => by
    simp at h1 h2
    subst h1 h2
    rfl
  | _ :: xs, _ :: ys, i + 1, _, _, h1, h2 => by
    simp at h1 h2
    exact zipD_at (xs := xs) (ys := ys) h1 h2
  | [], _, _, _, _, h1, _ => by simp at h1
  | _ :: _, [], _, _, _, _, h2 => by simp at h2
theorem zipD_len : ∀ {xs ys : List D}, xs.length = ys.length → (zipD xs ys).length = xs.length
  | [], [], _ => rfl
  | _ :: xs, _ :: ys, h => by
    rw [List.length_cons, List.length_cons] at h
    show (zipD xs ys).length + 1 = xs.length + 1
    rw [zipD_len (by omega)]
  | [], _ :: _, h => by simp at h
  | _ :: _, [], h => by simp at h
theorem qi_zip {elts : List Expr} {kk : Nat} {tpos : Pos} (hm : X.mg "zip" = none) (ha : SA X W [e, e2] la) (hg : Gl X "zip" := by rfl) (hs : starEach [e, e2] X.env = (false, eval e X.env) :: starEach [e2] X.env := by rfl) (hpl : (backTo pos (starEach [e2] X.env)).any (·.1) = false := by rfl) :
    QI X W (.Tuple elts kk tpos) (.Call (.Name "zip" p) [e, e2] [] pos) (iZ la) := by
  obtain ⟨ta, h1, h2⟩ := ha
  refine ⟨_, pi_zip hg hm h1 hs hpl, ⟨fun rl rs post => h2.bind rl rs post fun ds h1 vs φ1 S1 H1 rl1 rs1 st rp post => ?_⟩⟩
  have ra : RpA X.K φ1 S1 vs ds := rp
  split at post
  · next x y =>
    obtain ⟨v, w, rfl, r, r2⟩ := ra.two
    split at post
    · next xs ys q1 q2 =>
      split at post
      · next hl =>
        obtain ⟨a, vs, rfl, a1, a2⟩ := lsOf_ok r q1
        obtain ⟨b, ws, rfl, b1, b2⟩ := lsOf_ok r2 q2
        refine ⟨a, b, vs, ws, rfl, rl1.sub.sql a1, rl1.sub.sql b1, post (Itz X.K a b) φ1 S1 H1 rl1 (Step.refl _ _ _) ⟨fun {i φ S H h} r2 pr ex _ hi => ?_, fun {φ S H h} r2 pr ex _ => ?_⟩⟩
        · rw [zipD_len hl] at hi
          have hi2 : i < ys.length := by omega
          have s1 : SqL X.K H a vs := r2.sub.sql (ex.sql a1)
          have s2 : SqL X.K H b ws := r2.sub.sql (ex.sql b1)
          obtain ⟨u1, hu1, ru1⟩ := a2.at (List.getElem?_eq_getElem hi)
          obtain ⟨u2, hu2, ru2⟩ := b2.at (List.getElem?_eq_getElem hi2)
          refine ⟨⟨vs, ws, u1, u2, s1, s2, hu1, hu2⟩, fun z H' yl => ?_⟩
          obtain ⟨T, x1, x2, rfl, nT, rfl, f1, f2⟩ := yl
          have e1 := f1 vs s1
          rw [hu1] at e1
          cases e1
          have e2 := f2 ws s2
          rw [hu2] at e2
          cases e2
          obtain ⟨r3, s3⟩ := r2.lay (o := .tup [u1, u2]) nT
          exact ⟨upd S T (.tup [u1, u2]), _, zipD_at (List.getElem?_eq_getElem hi) (List.getElem?_eq_getElem hi2), r3, s3, .tup (.inl (.inl upd_same)) (.cons (Rp.mono pr (ex.trans s3.sub) ru1) (.cons (Rp.mono pr (ex.trans s3.sub) ru2) .nil))⟩
        · exact ⟨vs, ws, r2.sub.sql (ex.sql a1), r2.sub.sql (ex.sql b1), .inl (by rw [zipD_len hl, a2.length]; exact Nat.le_refl _)⟩
      · exact post.elim
    · exact post.elim
  · exact post.elim
end

/-! ### for, while -/
def forD (chk : Hv → Bool) (g : GD) (body : SS) : List D → VS → Hv → RS
  | [], σ, h => if chk h then .next σ h else .stuck
  | d :: ds, σ, h => if chk h then (match g d σ with
    | some σ1 => (match body σ1 h with
      | .next σ2 h2 => forD chk g body ds σ2 h2
      | .cont σ2 h2 => forD chk g body ds σ2 h2
      | .brk σ2 h2 => .next σ2 h2
      | r => r)
    | none => .stuck) else .stuck
def sFor (is : IS) (g : GD) (body : SS) : SS := fun σ h => (is σ h).then σ fun p h1 => forD p.2 g body p.1 σ h1
theorem qs_for {X : Cx} {W : WX} {tg iter : Expr} {body : List Stmt} {is : IS} {g : GD} {own : List Nat} {s1 : SS} {pos : Pos} (hp : PassesOwn (model X.prog X.w) X.A X.env X.xe) (hi : QI X W tg iter is) (hg : QG X tg g own) (hb : QB X W body s1) (hc : X.calm = true := by rfl)
    (hs : ∀ x, foldedSetIterable iter X.env x = pure x := by intro _; rfl) : QS X W (.For tg iter body [] pos) (sFor is g s1) := by
  obtain ⟨wi, a1, a2⟩ := hi
  obtain ⟨tg', b1, b2⟩ := hg
  obtain ⟨tb, c1, c2⟩ := hb
  refine ⟨_, ps_for hp hc a1 b1 c1 hs, ⟨fun {φ S H h σv σ D} rl rs post => a2.thenS rl rs post fun pr h1 J φ1 S1 H1 rl1 rs1 st rp post => ?_⟩⟩
  obtain ⟨ds, chk⟩ := pr
  have ok : ItOk X.K φ1 S1 J ds chk := rp
  refine ⟨fun i m σ' H' => m = ds.length - i ∧ i ≤ ds.length ∧ ∃ φ' S' h' σv', Rel X.K φ' S' H' h' ∧ RelS X.K φ' S' σv' σ' ∧ Step φ1 S1 H1 φ' S' H' ∧ PostS X.K φ' S' H' (forD chk g s1 (ds.drop i) σv' h') D W,
    ⟨ds.length, rfl, Nat.zero_le _, φ1, S1, h1, σv, rl1, rs1, Step.refl _ _ _, post⟩, ?_⟩
  rintro i m σ' H' ⟨rfl, hi, φ', S', h', σv', r2, rs2, st2, post⟩
  by_cases hlt : i < ds.length
  · rw [List.drop_eq_getElem_cons hlt] at post
    by_cases hck : chk h' = true
    · simp only [forD, hck, if_true] at post
      obtain ⟨go, yl⟩ := ok.go r2 st2.prefix st2.sub hck hlt
      cases q : g ds[i] σv' with
      | none => simp only [q] at post; exact post.elim
      | some σ1 =>
        simp only [q] at post
        refine .inr ⟨go, fun σ2 H2 => ∃ φ2 S2 h2 σv2, Rel X.K φ2 S2 H2 h2 ∧ RelS X.K φ2 S2 σv2 σ2 ∧ Step φ1 S1 H1 φ2 S2 H2 ∧ PostS X.K φ2 S2 H2 (forD chk g s1 (ds.drop (i + 1)) σv2 h2) D W, fun σ2 H2 hN => ⟨ds.length - (i + 1), by omega, rfl, hlt, hN⟩, fun x H3 hy => ?_⟩
        obtain ⟨S3, d, hd, r3, st3, rx⟩ := yl x H3 hy
        rw [List.getElem?_eq_getElem hlt] at hd
        cases hd
        refine b2.run r3.sub (rs2.step st3) rx q fun σ4 rs4 _ _ => c2.run r3 rs4 ?_
        cases qb : s1 σ1 h' with
        | next σ5 h5 =>
          simp only [qb] at post
          exact fun σ6 φ6 S6 H6 r6 rs6 st6 => ⟨φ6, S6, h5, σ5, r6, rs6, (st2.trans st3).trans st6, PostS.up (st3.trans st6) post⟩
        | cont σ5 h5 =>
          simp only [qb] at post
          exact fun σ6 φ6 S6 H6 r6 rs6 st6 => ⟨φ6, S6, h5, σ5, r6, rs6, (st2.trans st3).trans st6, PostS.up (st3.trans st6) post⟩
        | brk σ5 h5 =>
          simp only [qb] at post
          exact fun σ6 φ6 S6 H6 r6 rs6 st6 => post σ6 φ6 S6 H6 r6 rs6 (st3.trans st6)
        | ret d h5 =>
          simp only [qb] at post
          exact fun v φ6 S6 H6 r6 st6 rv => post v φ6 S6 H6 r6 (st3.trans st6) rv
        | exc x σ5 h5 =>
          simp only [qb] at post
          exact fun σ6 cls dd φ6 S6 H6 r6 rs6 st6 rx => post σ6 cls dd φ6 S6 H6 r6 rs6 (st3.trans st6) rx
        | stuck => simp only [qb] at post; exact post.elim
    · simp only [forD, hck] at post
      exact post.elim
  · have e : i = ds.length := by omega
    subst e
    rw [List.drop_length] at post
    by_cases hck : chk h' = true
    · simp only [forD, hck, if_true] at post
      exact .inl ⟨ok.stop r2 st2.prefix st2.sub hck, post σ' φ' S' H' r2 rs2 (Step.refl _ _ _)⟩
    · simp only [forD, hck] at post
      exact post.elim
def whileD (c : CS) (body : SS) : Nat → VS → Hv → RS
  | 0, _, _ => .stuck
  | n + 1, σ, h => (c σ h).then σ fun k h1 => if k then (match body σ h1 with
    | .next σ2 h2 => whileD c body n σ2 h2
    | .cont σ2 h2 => whileD c body n σ2 h2
    | .brk σ2 h2 => .next σ2 h2
    | r => r) else .next σ h1
/-- fuel: what one's own proof knows to be enough -/
def sWhile (fuel : VS → Hv → Nat) (c : CS) (body : SS) : SS := fun σ h => whileD c body (fuel σ h) σ h
theorem qs_while {X : Cx} {W : WX} {c : Expr} {body : List Stmt} {ca : CS} {s1 : SS} {pos : Pos} (fuel : VS → Hv → Nat) (hp : PassesOwn (model X.prog X.w) X.A X.env X.xe) (hc : ST X W c ca) (hb : QB X W body s1) : QS X W (.While c body [] pos) (sWhile fuel ca s1) := by
  obtain ⟨tc, a1, a2⟩ := hc
  obtain ⟨tb, c1, c2⟩ := hb
  refine ⟨_, ps_while hp a1 c1, ⟨fun {φ S H h σv σ D} rl rs post => ?_⟩⟩
  refine ⟨fun m σ' H' => ∃ φ' S' h' σv', Rel X.K φ' S' H' h' ∧ RelS X.K φ' S' σv' σ' ∧ PostS X.K φ' S' H' (whileD ca s1 m σv' h') D W, ⟨_, φ, S, h, σv, rl, rs, post⟩, ?_⟩
  rintro m σ' H' ⟨φ', S', h', σv', r2, rs2, post⟩
  cases m with
  | zero => exact post.elim
  | succ m =>
    refine a2.thenS r2 rs2 post fun k h1 k' φ1 S1 H1 rl1 rs1 st rp post => ?_
    cases (show k' = k from rp)
    cases k with
    | true =>
      rw [if_pos rfl] at post
      refine (if_pos rfl : (if true = true then _ else _) = _) ▸ ⟨fun σ2 H2 => ∃ φ2 S2 h2 σv2, Rel X.K φ2 S2 H2 h2 ∧ RelS X.K φ2 S2 σv2 σ2 ∧ PostS X.K φ2 S2 H2 (whileD ca s1 m σv2 h2) D W, fun σ2 H2 hN => ⟨m, Nat.lt_succ_self m, hN⟩, c2.run rl1 rs1 ?_⟩
      cases qb : s1 σv' h1 with
      | next σ5 h5 =>
        simp only [qb] at post
        exact fun σ6 φ6 S6 H6 r6 rs6 st6 => ⟨φ6, S6, h5, σ5, r6, rs6, PostS.up st6 post⟩
      | cont σ5 h5 =>
        simp only [qb] at post
        exact fun σ6 φ6 S6 H6 r6 rs6 st6 => ⟨φ6, S6, h5, σ5, r6, rs6, PostS.up st6 post⟩
      | brk σ5 h5 => simp only [qb] at post; exact post
      | ret d h5 => simp only [qb] at post; exact post
      | exc x σ5 h5 => simp only [qb] at post; exact post
      | stuck => simp only [qb] at post; exact post.elim
    | false =>
      exact post σ' φ1 S1 H1 rl1 rs1 (Step.refl _ _ _)
/-- fuel enough, where some is -/
def fuelC (c : CS) (body : SS) (σ : VS) (h : Hv) : Nat := @dite Nat (∃ n, whileD c body n σ h ≠ .stuck) (Classical.propDecidable _) (fun z => Classical.choose z) (fun _ => 0)
def sLoop (c : CS) (body : SS) : SS := sWhile (fuelC c body) c body
theorem qs_loop {X : Cx} {W : WX} {c : Expr} {body : List Stmt} {ca : CS} {s1 : SS} {pos : Pos} (hp : PassesOwn (model X.prog X.w) X.A X.env X.xe) (hc : ST X W c ca) (hb : QB X W body s1) : QS X W (.While c body [] pos) (sLoop ca s1) := qs_while (fuelC ca s1) hp hc hb
theorem whileD_up {c : CS} {body : SS} : ∀ (n : Nat) (σ : VS) (h : Hv), whileD c body n σ h ≠ .stuck → ∀ m, n ≤ m → whileD c body m σ h = whileD c body n σ h
  | 0, σ, h, q, m, hm => absurd rfl q
  | n + 1, σ, h, q, 0, hm => absurd hm (by omega)
  | n + 1, σ, h, q, m + 1, hm => by
    have ih := fun σ h q => whileD_up (c := c) (body := body) n σ h q m (by omega)
    simp only [whileD] at q ⊢
    cases e1 : c σ h with
    | ok k h1 =>
      simp only [e1, R.then_ok] at q ⊢
      cases k with
      | false => rfl
      | true =>
        simp only [if_true] at q ⊢
        cases e2 : body σ h1 with
        | next σ2 h2 => simp only [e2] at q ⊢; exact ih _ _ q
        | cont σ2 h2 => simp only [e2] at q ⊢; exact ih _ _ q
        | brk σ2 h2 => rfl
        | ret d h2 => rfl
        | exc x σ2 h2 => rfl
        | stuck => rfl
    | exc x h1 => rfl
    | stuck => rfl
theorem sLoop_at {c : CS} {body : SS} {n : Nat} {σ : VS} {h : Hv} (q : whileD c body n σ h ≠ .stuck) : sLoop c body σ h = whileD c body n σ h := by
  have z : ∃ n, whileD c body n σ h ≠ .stuck := ⟨n, q⟩
  show whileD c body (fuelC c body σ h) σ h = _
  unfold fuelC
  rw [dif_pos z]
  have z2 := Classical.choose_spec z
  rcases Nat.le_total (Classical.choose z) n with hh | hh
  · exact (whileD_up _ _ _ z2 _ hh).symm
  · exact whileD_up _ _ _ q _ hh
end
end VD

set_option Elab.async false
set_option linter.all false
set_option maxRecDepth 100000
set_option maxHeartbeats 4000000
namespace VD
open PySem PySem.Spec PyProof.Rows L2
noncomputable section
/-! ### comprehensions -/
/-- no exception leaves here -/
abbrev W0 : WX := fun _ _ _ _ => False
def R.calm {α : Type} (r : R α) : R α := match r with
  | .ok a h => .ok a h
  | _ => .stuck
@[simp] theorem R.calm_ok {α : Type} (a : α) (h : Hv) : (R.ok a h).calm = .ok a h := rfl
@[simp] theorem R.calm_stuck {α : Type} : (R.stuck : R α).calm = .stuck := rfl
/-- the slots of a block's own names -/
def wipeV (σ : VS) : List Nat → VS
  | [] => σ
  | v :: vs => (wipeV σ vs).set v none
def lcD (chk : Hv → Bool) (g : GD) (c : CS) (elt : ES) : List D → VS → Hv → R (List D)
  | [], _, h => if chk h then .ok [] h else .stuck
  | d :: ds, σ, h => if chk h then (match g d σ with
    | some σ1 => (c σ1 h).calm.bind fun b h1 => if b then (elt σ1 h1).calm.bind fun y h2 => (lcD chk g c elt ds σ h2).bind fun ys h3 => .ok (y :: ys) h3 else lcD chk g c elt ds σ h1
    | none => .stuck) else .stuck
def lLc (is : IS) (g : GD) (c : CS) (elt : ES) (own : List Nat) : LS := fun σ h => (is σ h).bind fun p h1 => if p.1.length ≤ 16777216 then lcD p.2 g c elt p.1 (wipeV σ own) h1 else .stuck
theorem wipe_at {σ : L2.St} : ∀ {vs : List Nat} {j : Nat}, (wipe σ vs)[j]? = if j ∈ vs then (if j < σ.length then some none else none) else σ[j]?
  | [], j => by simp [wipe]
  | v :: vs, j => by
    unfold wipe
    by_cases q : v = j
    · subst q
      rw [if_pos List.mem_cons_self]
      by_cases hl : v < σ.length
      · rw [if_pos hl, List.getElem?_set_self (by rw [wipe_length]; exact hl)]
      · rw [if_neg hl, List.getElem?_eq_none (by rw [List.length_set, wipe_length]; omega)]
    · rw [List.getElem?_set_ne q, wipe_at (vs := vs) (j := j)]
      by_cases hm : j ∈ vs
      · rw [if_pos hm, if_pos (List.mem_cons_of_mem _ hm)]
      · rw [if_neg hm, if_neg (fun z => (List.mem_cons.mp z).elim (fun z => q z.symm) hm)]
theorem wipe_same {σ σ' : L2.St} {own vs : List Nat} (hl : σ'.length = (wipe σ vs).length) (h : ∀ j, j ∉ own → σ'[j]? = (wipe σ vs)[j]?) (hs : ∀ j ∈ own, j ∈ vs) : wipe σ' vs = wipe σ vs := by
  refine List.ext_getElem? fun j => ?_
  rw [wipe_at, wipe_at]
  have hl2 : σ'.length = σ.length := by rw [hl, wipe_length]
  by_cases hm : j ∈ vs
  · rw [if_pos hm, if_pos hm, hl2]
  · rw [if_neg hm, if_neg hm, h j (fun z => hm (hs j z)), wipe_at, if_neg hm]
theorem RelS.wipe {K : PySem.W.Frag} {φ : List Addr} {S : Hp} {σv : VS} {σ : L2.St} (r : RelS K φ S σv σ) : ∀ vs : List Nat, RelS K φ S (wipeV σv vs) (L2.wipe σ vs)
  | [] => r
  | v :: vs => (RelS.wipe r vs).unset v none
/-! readings that hang on what is computed alone -/
def tS {α β : Type} (K : PySem.W.Frag) (rep : Rep α β) (W : WX) (es : VS → Hv → R α) : L2.St → Hp → (β → Hp → Prop) → Prop := fun σ H Q => ∃ φ S h σv, Rel K φ S H h ∧ RelS K φ S σv σ ∧ Post K rep φ S H (es σv h) Q (fun c d H' => W c d σ H')
theorem tS_sn {α β : Type} {K : PySem.W.Frag} {rep : Rep α β} {W : WX} {es : VS → Hv → R α} : Sn K rep W (tS K rep W es) es := ⟨fun rl rs post => ⟨_, _, _, _, rl, rs, post⟩⟩
def SCs (X : Cx) (W : WX) (ifs : List Expr) (c : CS) : Prop := ∃ t, PTs X ifs t ∧ Sn X.K repB W t c
section
variable {X : Cx} {W : WX} {e : Expr} {es : List Expr} {fa : ES} {ca : CS}
theorem SE.can (h : SE X W e fa) : PE X e (tS X.K (repV X.K) W fa) := by
  obtain ⟨t, h1, h2⟩ := h
  exact ⟨fun pins s σ H Q I ⟨φ, S, h, σv, rl, rs, post⟩ => h1.run pins s σ H Q I (h2.run rl rs post)⟩
theorem SCs.can (h : SCs X W es ca) : PTs X es (tS X.K repB W ca) := by
  obtain ⟨t, h1, h2⟩ := h
  exact ⟨fun pins s σ H Q I ⟨φ, S, h, σv, rl, rs, post⟩ => h1.run pins s σ H Q I (h2.run rl rs post)⟩
def cYes : CS := fun _ h => .ok true h
theorem scs_nil : SCs X W [] cYes := ⟨_, pts_nil, ⟨fun {φ S H h σv σ Q} rl rs post => post true φ S H rl (Step.refl _ _ _) rfl⟩⟩
theorem scs_one (h : ST X W e ca) : SCs X W [e] ca := let ⟨t, h1, h2⟩ := h; ⟨t, pts_one h1, h2⟩
end
def tGd (K : PySem.W.Frag) (gs : GD) (own : List Nat) : TG := fun v σ H Q => ∃ φ S σv σv' d, Ex S H ∧ RelS K φ S σv σ ∧ Rp K φ S v d ∧ gs d σv = some σv' ∧ ∀ σ', RelS K φ S σv' σ' → σ'.length = σ.length → (∀ j, j ∉ own → σ'[j]? = σ[j]?) → Q σ' H
theorem QG.can {X : Cx} {tg : Expr} {gs : GD} {own : List Nat} (h : QG X tg gs own) : PG X tg (tGd X.K gs own) := by
  obtain ⟨t, h1, h2⟩ := h
  exact ⟨fun pins s σ H v u Q I r ⟨φ, S, σv, σv', d, ex, rs, rp, e, k⟩ => h1.run pins s σ H v u Q I r (h2.run ex rs rp e k)⟩
section
variable {X : Cx} {W : WX} {elt tg iter : Expr} {ifs : List Expr} {scope : Scope} {own : List (Str × Nat)} {is : IS} {g : GD} {gown : List Nat} {c : CS} {el : ES} {pos spos : Pos}
theorem sn_lc {wi : TI} (h2 : Sn X.K (repI X.K) W wi is) (hown : ∀ j ∈ gown, j ∈ own.map (·.2)) :
    Sn X.K (repL X.K) W (tLc wi (tGd X.K g gown) (tS X.K repB W0 c) (tS X.K (repV X.K) W0 el) (own.map (·.2))) (lLc is g c el (own.map (·.2))) := by
  refine ⟨fun {φ S H h σv σ Q} rl rs post => h2.run rl rs (post.map fun pr h1 J φ1 S1 H1 rl1 st rp post => ?_)⟩
  obtain ⟨ds, chk⟩ := pr
  have ok : ItOk X.K φ1 S1 J ds chk := rp
  have hz : ds.length ≤ 16777216 := by
    refine Classical.byContradiction fun hz => ?_
    simp only [hz, if_false] at post
    exact post.elim
  simp only [hz, if_true] at post
  intro D hD
  have rs1 : RelS X.K φ1 S1 σv σ := rs.step st
  have hD0 : H D = none := st.fresh hD
  generalize hvs : own.map (·.2) = vs at post hown ⊢
  -- what is still to come, put behind what is made
  refine ⟨fun i m H' => m = ds.length - i ∧ i ≤ ds.length ∧ ∃ φ' S' h' acc da, Rel X.K φ' S' H' h' ∧ Step φ1 S1 H1 φ' S' H' ∧ S' D = none ∧ D ∉ φ' ∧ H' D = some (.lst acc) ∧ RpA X.K φ' S' acc da ∧ da.length ≤ i ∧
      Post X.K (repL X.K) φ S H ((lcD chk g c el (ds.drop i) (wipeV σv vs) h').bind fun ys h3 => .ok (da ++ ys) h3) Q (fun c d H' => W c d σ H'), ?_, ?_⟩
  · obtain ⟨r2, s2⟩ := rl1.hold (o := .lst []) hD
    refine ⟨ds.length, rfl, Nat.zero_le _, φ1, S1, h1, [], [], r2, s2, rl1.snone hD, rl1.notin hD, upd_same, .nil, Nat.le_refl _, ?_⟩
    rw [List.drop_zero]
    cases q : lcD chk g c el ds (wipeV σv vs) h1 with
    | ok a h => rw [q] at post; exact post
    | exc x h => rw [q] at post; exact post
    | stuck => rw [q] at post; exact post
  · rintro i m H' ⟨rfl, hi, φ', S', h', acc, da, r2, st2, sD, nD, hDl, ra, hda, post⟩
    have s12 : Step φ1 S1 H1 φ' S' H' := st2
    by_cases hlt : i < ds.length
    · rw [List.drop_eq_getElem_cons hlt] at post
      have hck : chk h' = true := by
        refine Classical.byContradiction fun hck => ?_
        simp only [lcD, hck] at post
        exact post.elim
      simp only [lcD, hck, if_true] at post
      obtain ⟨go, yl⟩ := ok.go r2 st2.prefix st2.sub hck hlt
      cases q : g ds[i] (wipeV σv vs) with
      | none => simp only [q] at post; exact post.elim
      | some σ1 =>
        simp only [q] at post
        refine .inr ⟨go, fun H2 => ∃ φ2 S2 h2 acc2 da2, Rel X.K φ2 S2 H2 h2 ∧ Step φ1 S1 H1 φ2 S2 H2 ∧ S2 D = none ∧ D ∉ φ2 ∧ H2 D = some (.lst acc2) ∧ RpA X.K φ2 S2 acc2 da2 ∧ da2.length ≤ i + 1 ∧
          Post X.K (repL X.K) φ S H ((lcD chk g c el (ds.drop (i + 1)) (wipeV σv vs) h2).bind fun ys h3 => .ok (da2 ++ ys) h3) Q (fun c d H' => W c d σ H'), fun H2 hN => ⟨ds.length - (i + 1), by omega, rfl, hlt, hN⟩, fun x H3 hy => ?_⟩
        obtain ⟨S3, d, hd, r3, st3, rx⟩ := yl x H3 hy
        rw [List.getElem?_eq_getElem hlt] at hd
        cases hd
        have rsw : RelS X.K φ' S3 (wipeV σv vs) (wipe σ vs) := ((rs1.step s12).step st3).wipe vs
        refine ⟨φ', S3, _, _, _, r3.sub, rsw, rx, q, fun σ4 rs4 l4 f4 => ⟨wipe_same l4 f4 hown, ?_⟩⟩
        refine ⟨φ', S3, h', σ1, r3, rs4, ?_⟩
        cases qc : c σ1 h' with
        | stuck => simp only [qc, R.calm_stuck, R.bind_stuck] at post; exact post.elim
        | exc x h => simp only [qc, R.calm, R.bind_stuck] at post; exact post.elim
        | ok b h5 =>
          simp only [qc, R.calm_ok, R.bind_ok] at post
          intro b' φ5 S5 H5 r5 st5 eb
          cases (show b' = b from eb)
          have s15 : Step φ1 S1 H1 φ5 S5 H5 := (st2.trans st3).trans st5
          have nD' : H' D ≠ none := by rw [hDl]; exact fun z => nomatch z
          have S3D : S3 D = none := (st3.old D nD').trans sD
          have H3D : H3 D = some (.lst acc) := st3.keep D _ hDl nD
          have S5D : S5 D = none := (st5.old D (by rw [H3D]; exact fun z => nomatch z)).trans S3D
          have H5D : H5 D = some (.lst acc) := st5.keep D _ H3D nD
          have n5D : D ∉ φ5 := fun z => by
            obtain ⟨ψ, e, hn⟩ := st5.pre
            rw [e] at z
            rcases List.mem_append.mp z with z | z
            · exact nD z
            · rw [hn D z] at H3D; cases H3D
          have ra5 : RpA X.K φ5 S5 acc da := ra.mono (st3.trans st5).prefix (st3.trans st5).sub
          cases b with
          | false =>
            rw [if_neg Bool.false_ne_true]
            exact ⟨φ5, S5, h5, acc, da, r5, s15, S5D, n5D, H5D, ra5, by omega, post⟩
          | true =>
            rw [if_pos rfl]
            simp only [if_true] at post
            refine ⟨φ5, S5, h5, σ1, r5, rs4.step st5, ?_⟩
            cases qe : el σ1 h5 with
            | stuck => simp only [qe, R.calm_stuck, R.bind_stuck] at post; exact post.elim
            | exc x h => simp only [qe, R.calm, R.bind_stuck] at post; exact post.elim
            | ok y h6 =>
              simp only [qe, R.calm_ok, R.bind_ok] at post
              intro v φ6 S6 H6 r6 st6 rv
              have S6D : S6 D = none := (st6.old D (by rw [H5D]; exact fun z => nomatch z)).trans S5D
              have H6D : H6 D = some (.lst acc) := st6.keep D _ H5D n5D
              have n6D : D ∉ φ6 := fun z => by
                obtain ⟨ψ, e, hn⟩ := st6.pre
                rw [e] at z
                rcases List.mem_append.mp z with z | z
                · exact n5D z
                · rw [hn D z] at H5D; cases H5D
              have ra6 : RpA X.K φ6 S6 acc da := ra5.mono st6.prefix st6.sub
              refine ⟨acc, H6D, by rw [ra.length, line_eq]; omega, φ6, S6, h6, acc ++ [v], da ++ [y], ?_, ?_, S6D, n6D, upd_same, ra6.append (.cons rv .nil), by rw [List.length_append, List.length_singleton]; omega, ?_⟩
              · refine ⟨r6.len, fun a o e => ?_, r6.nd, fun n a c e1 e2 => ?_⟩
                · rw [upd_ne (ne_of_none e S6D)]; exact r6.sub a o e
                · obtain ⟨h1, o', h2, h3⟩ := r6.cel n a c e1 e2
                  exact ⟨h1, o', by rw [upd_ne (fun z => n6D (by rw [← z]; exact List.mem_of_getElem? e1))]; exact h2, h3⟩
              · have s16 := s15.trans st6
                refine ⟨s16.pre, s16.sub, s16.old, fun a o e hn => ?_, fun a ha => ?_⟩
                · rw [upd_ne (ne_of_none e hD)]; exact s16.keep a o e hn
                · rw [upd_ne (fun z => ha (by rw [z]; exact hD))]; exact s16.there a ha
              · cases ql : lcD chk g c el (ds.drop (i + 1)) (wipeV σv vs) h6 with
                | ok ys h7 => simp only [ql, R.bind_ok, List.append_assoc, List.singleton_append] at post ⊢; exact post
                | exc x h7 => simp only [ql, R.bind_exc] at post ⊢; exact post
                | stuck => simp only [ql, R.bind_stuck] at post; exact post.elim
    · have e : i = ds.length := by omega
      subst e
      rw [List.drop_length] at post
      have hck : chk h' = true := by
        refine Classical.byContradiction fun hck => ?_
        simp only [lcD, hck] at post
        exact post.elim
      simp only [lcD, hck, if_true, R.bind_ok, List.append_nil] at post
      exact .inl ⟨ok.stop r2 st2.prefix st2.sub hck, post (.ref D) φ' S' H' r2 (st.trans s12) ⟨D, acc, rfl, hD0, hDl, sD, nD, ra⟩⟩
theorem sn_V {K : PySem.W.Frag} {W : WX} {te : TE} {f : LS} (h : Sn K (repL K) W te f) : Sn K (repV K) W te (eV f) := ⟨fun rl rs post => h.run rl rs (post.map fun ds h1 v φ1 S1 H1 rl1 st rp post => by
  obtain ⟨p, vs, rfl, hp, hp1, hs1, hn1, ra⟩ := rp
  exact post (.ref p) φ1 _ H1 (rl1.still hp1 hs1 hn1) (st.still hp hs1) (.lst upd_same (ra.mono (Pre.refl _) (Ex.new hs1))))⟩
theorem sn_C {K : PySem.W.Frag} {W : WX} {te : TE} {f : LS} (h : Sn K (repL K) W te f) : Sn K (repV K) W te (eC f) := ⟨fun rl rs post => h.run rl rs (post.map fun ds h1 v φ1 S1 H1 rl1 st rp post => by
  obtain ⟨p, vs, rfl, hp, hp1, hs1, hn1, ra⟩ := rp
  refine post (.ref p) (φ1 ++ [p]) S1 H1 (rl1.celled hp1 hs1 hn1 ⟨vs, rfl, ra⟩) (st.celled hp) (.cell ?_)
  rw [← rl1.len, List.getElem?_append_right (Nat.le_refl _), Nat.sub_self]
  rfl)⟩
theorem sl_lc (nd : X.N.Nodup) (hi : QI X W tg iter is) (ok : BlkOk X.N X.env.scope scope own)
    (hg : ∀ (s : Shared) (H : Hp) (C : Addr) (cl : List (Str × Addr)) (fp : List Addr), QG (X.blk s H scope (compEnvC scope cl C X.env) fp) tg g gown) (hown : ∀ j ∈ gown, j ∈ own.map (·.2))
    (ht : ∀ (s : Shared) (H : Hp) (C : Addr) (cl : List (Str × Addr)) (fp : List Addr), SCs (X.blk s H scope (compEnvC scope cl C X.env) fp) W0 ifs c)
    (he : ∀ (s : Shared) (H : Hp) (C : Addr) (cl : List (Str × Addr)) (fp : List Addr), SE (X.blk s H scope (compEnvC scope cl C X.env) fp) W0 elt el) (hc : X.calm = true := by rfl) (hs : ∀ x, foldedSetIterable iter X.env x = pure x := by intro _; rfl) :
    SL X W (.ListComp elt [⟨tg, iter, ifs, 0⟩] scope pos) (lLc is g c el (own.map (·.2))) := by
  obtain ⟨wi, h1, h2⟩ := hi
  exact ⟨_, pe_lc hc nd h1 ok (fun s H C cl fp => (hg s H C cl fp).can) (fun s H C cl fp => (ht s H C cl fp).can) (fun s H C cl fp => (he s H C cl fp).can) hs, sn_lc h2 hown⟩
theorem sns_set {K : PySem.W.Frag} {W : WX} {te : TE} {f : ES} {i : Nat} (h : Sn K (repV K) W te f) : SnS K W (tAsg te (gName i)) (sSet i f) := ⟨fun rl rs post => h.thenS rl rs post fun d h1 v φ1 S1 H1 rl1 rs1 st rp post => post _ φ1 S1 H1 rl1 (rs1.set rp i) (Step.refl _ _ _)⟩
/-- y = [..] -/
theorem qs_setLc {i : Nat} {y : Str} {py : Pos} {f : LS → ES} (hf : ∀ {K : PySem.W.Frag} {W : WX} {te : TE} {l : LS}, Sn K (repL K) W te l → Sn K (repV K) W te (f l)) (nd : X.N.Nodup)
    (hsw : swapsWith (.ListComp elt [⟨tg, iter, ifs, 0⟩] scope pos) (some (.Name y py)) spos.line X.env = pure true) (hi : QI X W tg iter is) (ok : BlkOk X.N X.env.scope scope own)
    (hg : ∀ (s : Shared) (H : Hp) (C : Addr) (cl : List (Str × Addr)) (fp : List Addr), QG (X.blk s H scope (compEnvC scope cl C X.env) fp) tg g gown) (hown : ∀ j ∈ gown, j ∈ own.map (·.2))
    (ht : ∀ (s : Shared) (H : Hp) (C : Addr) (cl : List (Str × Addr)) (fp : List Addr), SCs (X.blk s H scope (compEnvC scope cl C X.env) fp) W0 ifs c)
    (he : ∀ (s : Shared) (H : Hp) (C : Addr) (cl : List (Str × Addr)) (fp : List Addr), SE (X.blk s H scope (compEnvC scope cl C X.env) fp) W0 elt el)
    (hy : X.N[i]? = some y := by rfl) (hyl : X.env.scope.names.lookup y = some .local := by rfl) (hc : X.calm = true := by rfl) (hs : ∀ x, foldedSetIterable iter X.env x = pure x := by intro _; rfl) :
    QS X W (.Assign [.Name y py] (.ListComp elt [⟨tg, iter, ifs, 0⟩] scope pos) spos) (sSet i (f (lLc is g c el (own.map (·.2))))) := by
  obtain ⟨wi, h1, h2⟩ := hi
  exact ⟨_, ps_setLc hc nd hy hyl hsw h1 ok (fun s H C cl fp => (hg s H C cl fp).can) (fun s H C cl fp => (ht s H C cl fp).can) (fun s H C cl fp => (he s H C cl fp).can) hs, sns_set (hf (sn_lc h2 hown))⟩
end
end
end VD

set_option Elab.async false
set_option linter.all false
set_option maxRecDepth 100000
set_option maxHeartbeats 4000000
namespace VD
open PySem PySem.Spec PyProof.Rows L2
noncomputable section
/-! ### behind a def its own cells are still -/
def frz (n0 : Nat) (h : Hv) : Nat → D → Option D
  | 0, _ => none
  | _ + 1, .non => some .non
  | _ + 1, .bl b => some (.bl b)
  | _ + 1, .int i => some (.int i)
  | _ + 1, .str x => some (.str x)
  | f + 1, .lst ds => (optAll (frz n0 h f) ds).map .lst
  | f + 1, .fz ds => (optAll (frz n0 h f) ds).map .fz
  | f + 1, .tup ds => (optAll (frz n0 h f) ds).map .tup
  | f + 1, .cell n => if n < n0 then some (.cell n) else match h[n]? with
    | some (.lst ds) => (optAll (frz n0 h f) ds).map .lst
    | some (.dF kvs) => (optAll (frz n0 h f) (kvs.map (·.2))).map (.dct (kvs.map (·.1)))
    | some (.ins c fs) => (optAll (frz n0 h f) (fs.map (·.2))).map (.obj c (fs.map (·.1)))
    | _ => none
  | _ + 1, .raw v => some (.raw v)
  | f + 1, .dct ks ds => (optAll (frz n0 h f) ds).map (.dct ks)
  | f + 1, .obj c ks ds => (optAll (frz n0 h f) ds).map (.obj c ks)
  | _ + 1, .exv _ _ _ _ => none
def still (φ : List Addr) (n0 : Nat) (S H : Hp) : Hp := fun a => if a ∈ φ.drop n0 then H a else S a
section
variable {K : PySem.W.Frag} {φ : List Addr} {S H : Hp} {h : Hv} {n0 : Nat}
theorem still_ex (rl : Rel K φ S H h) : Ex S (still φ n0 S H) := fun a o e => by
  unfold still
  rw [if_neg]
  · exact e
  · intro z
    have := (rl.mem (List.mem_of_mem_drop z)).1
    rw [this] at e
    cases e
theorem still_sub (rl : Rel K φ S H h) : Ex (still φ n0 S H) H := fun a o e => by
  unfold still at e
  split at e
  · exact e
  · exact rl.sub a o e
theorem frzA_of {f : Nat} {K : PySem.W.Frag} {φ φ' : List Addr} {S S' : Hp} (ih : ∀ (d : D) (v : V) (d' : D), Rp K φ S v d → frz n0 h f d = some d' → Rp K φ' S' v d') :
    ∀ (ds : List D) (vs : List V) (ds' : List D), RpA K φ S vs ds → optAll (frz n0 h f) ds = some ds' → RpA K φ' S' vs ds' := by
  intro ds
  induction ds with
  | nil => intro vs ps r e; cases r; cases e; exact .nil
  | cons d ds ih2 =>
    intro vs ps r e
    cases r with
    | cons r t =>
      simp only [optAll] at e
      cases q : frz n0 h f d with
      | none => rw [q] at e; cases e
      | some p0 =>
        rw [q] at e
        cases q2 : optAll (frz n0 h f) ds with
        | none => simp only [q2] at e; cases e
        | some p1 =>
          simp only [q2] at e
          cases e
          exact .cons (ih d _ p0 r q) (ih2 _ p1 t q2)
theorem frz_ok (rl : Rel K φ S H h) : ∀ (f : Nat) (d : D) (v : V) (d' : D), Rp K φ S v d → frz n0 h f d = some d' → Rp K (φ.take n0) (still φ n0 S H) v d' := by
  intro f
  induction f with
  | zero => intro d v p _ e; cases e
  | succ f ih =>
    have all := frzA_of (K := K) (n0 := n0) (h := h) ih
    intro d v p r e
    cases r with
    | non => cases e; exact .non
    | bl b => cases e; exact .bl b
    | int i => cases e; exact .int i
    | str x => cases e; exact .str x
    | @lst a vs ds h1 h2 =>
      obtain ⟨ps, q, rfl⟩ := Option.map_eq_some_iff.mp (show (optAll (frz n0 h f) ds).map .lst = some p from e)
      exact .lst (still_ex rl _ _ h1) (all ds vs ps h2 q)
    | @fz a vs ds h1 h2 =>
      obtain ⟨ps, q, rfl⟩ := Option.map_eq_some_iff.mp (show (optAll (frz n0 h f) ds).map .fz = some p from e)
      exact .fz ((still_ex rl).sql h1) (all ds vs ps h2 q)
    | @tup a vs ds h1 h2 =>
      obtain ⟨ps, q, rfl⟩ := Option.map_eq_some_iff.mp (show (optAll (frz n0 h f) ds).map .tup = some p from e)
      exact .tup ((still_ex rl).sqt h1) (all ds vs ps h2 q)
    | @cell a n h1 =>
      simp only [frz] at e
      by_cases hn : n < n0
      · rw [if_pos hn] at e
        cases e
        refine .cell ?_
        rw [List.getElem?_take]
        rw [if_pos hn]
        exact h1
      · rw [if_neg hn] at e
        obtain ⟨c, hc⟩ := rl.at h1
        obtain ⟨_, o, ho, rc⟩ := rl.cel _ _ _ h1 hc
        rw [hc] at e
        cases c with
        | lst ds =>
          obtain ⟨vs, rfl, ra⟩ := rc
          obtain ⟨ps, q, rfl⟩ := Option.map_eq_some_iff.mp (show (optAll (frz n0 h f) ds).map .lst = some p from e)
          refine .lst (vs := vs) ?_ (all ds vs ps ra q)
          unfold still
          rw [if_pos]
          · exact ho
          · refine List.mem_of_getElem? (i := n - n0) ?_
            rw [List.getElem?_drop, show n0 + (n - n0) = n by omega]
            exact h1
        | dK kvs => cases e
        | dF kvs =>
          obtain ⟨od, kv, rfl, ek, ra⟩ := rc
          obtain ⟨ps, q, rfl⟩ := Option.map_eq_some_iff.mp (show (optAll (frz n0 h f) (kvs.map (·.2))).map (.dct (kvs.map (·.1))) = some p from e)
          refine .dct (kv := kv) (od := od) ?_ ek (all _ _ ps ra q)
          unfold still
          rw [if_pos]
          · exact ho
          · refine List.mem_of_getElem? (i := n - n0) ?_
            rw [List.getElem?_drop, show n0 + (n - n0) = n by omega]
            exact h1
        | dN w kvs => cases e
        | ins c fs =>
          obtain ⟨dx, kv, rfl, ek, ra⟩ := rc
          obtain ⟨ps, q, rfl⟩ := Option.map_eq_some_iff.mp (show (optAll (frz n0 h f) (fs.map (·.2))).map (.obj c (fs.map (·.1))) = some p from e)
          refine .obj (fv := kv) (dx := dx) ?_ ek (all _ _ ps ra q)
          unfold still
          rw [if_pos]
          · exact ho
          · refine List.mem_of_getElem? (i := n - n0) ?_
            rw [List.getElem?_drop, show n0 + (n - n0) = n by omega]
            exact h1
    | raw v => cases e; exact .raw v
    | @dct a od kv ks ds h1 h2 h3 =>
      obtain ⟨ps, q, rfl⟩ := Option.map_eq_some_iff.mp (show (optAll (frz n0 h f) ds).map (.dct ks) = some p from e)
      exact .dct (still_ex rl _ _ h1) h2 (all ds _ ps h3 q)
    | @obj a dx fv c ks ds h1 h2 h3 =>
      obtain ⟨ps, q, rfl⟩ := Option.map_eq_some_iff.mp (show (optAll (frz n0 h f) ds).map (.obj c ks) = some p from e)
      exact .obj (still_ex rl _ _ h1) h2 (all ds _ ps h3 q)
    | exv h1 h2 => cases e
def frzC (n0 : Nat) (h : Hv) : Cell → Option Cell
  | .lst ds => (optAll (frz n0 h 12) ds).map .lst
  | .dK kvs => (optAll (fun kv : Key × D => (frz n0 h 12 kv.2).map fun d => (kv.1, d)) kvs).map .dK
  | .dF kvs => (optAll (fun kv : Key × D => (frz n0 h 12 kv.2).map fun d => (kv.1, d)) kvs).map .dF
  | .ins C fs => (optAll (fun kv : Str × D => (frz n0 h 12 kv.2).map fun d => (kv.1, d)) fs).map (.ins C)
  | .dN w kvs => (optAll (fun kv : NestedKey × D => (frz n0 h 12 kv.2).map fun d => (kv.1, d)) kvs).map (.dN w)
theorem frzP_of {κ : Type} (rl : Rel K φ S H h) : ∀ (fs fs' : List (κ × D)) (fv : List (κ × V)), optAll (fun kv : κ × D => (frz n0 h 12 kv.2).map fun d => (kv.1, d)) fs = some fs' → fv.map (·.1) = fs.map (·.1) → RpA K φ S (fv.map (·.2)) (fs.map (·.2)) →
    fv.map (·.1) = fs'.map (·.1) ∧ RpA K (φ.take n0) (still φ n0 S H) (fv.map (·.2)) (fs'.map (·.2))
  | [], fs', fv, e, ek, ra => by
    cases e
    cases fv with
    | nil => exact ⟨rfl, .nil⟩
    | cons _ _ => cases ek
  | (k, d) :: fs, fs', fv, e, ek, ra => by
    cases fv with
    | nil => cases ek
    | cons p fv =>
      rw [List.map_cons, List.map_cons] at ek ra
      cases ra with
      | cons r t =>
        simp only [optAll] at e
        cases q : frz n0 h 12 d with
        | none => rw [q] at e; simp at e
        | some d1 =>
          rw [q] at e
          simp only [Option.map_some] at e
          cases q2 : optAll (fun kv : κ × D => (frz n0 h 12 kv.2).map fun d => (kv.1, d)) fs with
          | none => rw [q2] at e; cases e
          | some r1 =>
            rw [q2] at e
            cases e
            injection ek with e1 e2
            obtain ⟨a1, a2⟩ := frzP_of rl fs r1 fv q2 e2 t
            refine ⟨?_, ?_⟩
            · rw [List.map_cons, List.map_cons, e1, a1]
            · rw [List.map_cons, List.map_cons]
              exact .cons (frz_ok rl _ _ _ _ r q) a2
theorem frzC_ok (rl : Rel K φ S H h) {c c' : Cell} {o : HO} (r : RpC K φ S c o) (e : frzC n0 h c = some c') : RpC K (φ.take n0) (still φ n0 S H) c' o := by
  cases c with
  | lst ds =>
    obtain ⟨vs, rfl, ra⟩ := r
    obtain ⟨ps, q, rfl⟩ := Option.map_eq_some_iff.mp (show (optAll (frz n0 h 12) ds).map Cell.lst = some c' from e)
    exact ⟨vs, rfl, frzA_of (fun d v d' r e => frz_ok rl _ d v d' r e) ds vs ps ra q⟩
  | dK kvs =>
    obtain ⟨kv, rfl, ek, ra⟩ := r
    obtain ⟨ps, q, rfl⟩ := Option.map_eq_some_iff.mp (show (optAll _ kvs).map Cell.dK = some c' from e)
    obtain ⟨a1, a2⟩ := frzP_of rl kvs ps kv q ek ra
    exact ⟨kv, rfl, a1, a2⟩
  | dF kvs =>
    obtain ⟨od, kv, rfl, ek, ra⟩ := r
    obtain ⟨ps, q, rfl⟩ := Option.map_eq_some_iff.mp (show (optAll _ kvs).map Cell.dF = some c' from e)
    obtain ⟨a1, a2⟩ := frzP_of rl kvs ps kv q ek ra
    exact ⟨od, kv, rfl, a1, a2⟩
  | ins C fs =>
    obtain ⟨dx, fv, rfl, ek, ra⟩ := r
    obtain ⟨ps, q, rfl⟩ := Option.map_eq_some_iff.mp (show (optAll _ fs).map (Cell.ins C) = some c' from e)
    obtain ⟨a1, a2⟩ := frzP_of rl fs ps fv q ek ra
    exact ⟨dx, fv, rfl, a1, a2⟩
  | dN w kvs =>
    obtain ⟨a, xs, rfl, ek, h3, ra⟩ := r
    obtain ⟨ps, q, rfl⟩ := Option.map_eq_some_iff.mp (show (optAll _ kvs).map (Cell.dN w) = some c' from e)
    have m1 : (xs.map fun x => (x.1, x.2.2)).map (·.1) = kvs.map (·.1) := by rw [List.map_map]; exact ek
    have m2 : (xs.map fun x => (x.1, x.2.2)).map (·.2) = xs.map (·.2.2) := by rw [List.map_map]; rfl
    obtain ⟨a1, a2⟩ := frzP_of rl kvs ps (xs.map fun x => (x.1, x.2.2)) q m1 (by rw [m2]; exact ra)
    rw [m2] at a2
    rw [List.map_map] at a1
    exact ⟨a, xs, rfl, a1, fun x hx => (h3 x hx).mono (Pre.refl []) (still_ex rl), a2⟩
theorem optAll_at {α β : Type} {g : β → Option α} : ∀ {xs : List β} {ys : List α}, optAll g xs = some ys → xs.length = ys.length ∧ ∀ (i : Nat) (y : α), ys[i]? = some y → ∃ x, xs[i]? = some x ∧ g x = some y
  | [], ys, e => by
    cases e
    exact ⟨rfl, fun i y h => by simp at h⟩
  | x :: xs, ys, e => by
    simp only [optAll] at e
    cases q : g x with
    | none => rw [q] at e; cases e
    | some y0 =>
      rw [q] at e
      cases q2 : optAll g xs with
      | none => simp only [q2] at e; cases e
      | some ys0 =>
        simp only [q2] at e
        cases e
        obtain ⟨h1, h2⟩ := optAll_at q2
        refine ⟨by rw [List.length_cons, List.length_cons, h1], fun i y h => ?_⟩
        cases i with
        | zero =>
          rw [List.getElem?_cons_zero] at h ⊢
          cases h
          exact ⟨x, rfl, q⟩
        | succ i =>
          rw [List.getElem?_cons_succ] at h ⊢
          exact h2 i y h
/-- behind the def: the heap as the caller has it -/
theorem exit_rel (rl : Rel K φ S H h) {h' : Hv} (hn : n0 ≤ h.length) (e : optAll (frzC n0 h) (h.take n0) = some h') : Rel K (φ.take n0) (still φ n0 S H) H h' := by
  obtain ⟨el, ea⟩ := optAll_at e
  rw [List.length_take] at el
  refine ⟨?_, still_sub rl, List.Nodup.sublist (List.take_sublist _ _) rl.nd, fun n a c e1 e2 => ?_⟩
  · rw [List.length_take, rl.len]
    omega
  · obtain ⟨c0, hc0, q⟩ := ea n c e2
    have hl := (List.getElem?_eq_some_iff.mp e2).1
    have hn2 : n < n0 := by omega
    rw [List.getElem?_take, if_pos hn2] at e1 hc0
    obtain ⟨sa, o, ho, rc⟩ := rl.cel n a c0 e1 hc0
    refine ⟨?_, o, ho, frzC_ok rl rc q⟩
    unfold still
    rw [if_neg]
    · exact sa
    · intro z
      obtain ⟨m, hm⟩ := List.getElem?_of_mem z
      rw [List.getElem?_drop] at hm
      have := nd_ix rl.nd e1 hm
      omega
theorem exit_step {φ0 : List Addr} {S0 H0 : Hp} (st : Step φ0 S0 H0 φ S H) (rl : Rel K φ S H h) : Step φ0 S0 H0 (φ.take φ0.length) (still φ φ0.length S H) H ∧ φ.take φ0.length = φ0 := by
  obtain ⟨ψ, rfl, hn⟩ := st.pre
  have e : (φ0 ++ ψ).take φ0.length = φ0 := by rw [List.take_append_of_le_length (Nat.le_refl _), List.take_length]
  refine ⟨?_, e⟩
  rw [e]
  refine ⟨⟨[], (List.append_nil _).symm, fun _ z => nomatch z⟩, st.sub.trans (still_ex rl), fun a ha => ?_, st.keep, st.there⟩
  unfold still
  rw [if_neg]
  · exact st.old a ha
  · intro z
    rw [List.drop_append_of_le_length (Nat.le_refl _), List.drop_length, List.nil_append] at z
    exact ha (hn a z)
end
def exitD (n0 : Nat) (d : D) (h : Hv) : R D := match frz n0 h 12 d, optAll (frzC n0 h) (h.take n0) with
  | some d', some h' => if n0 ≤ h.length then .ok d' h' else .stuck
  | _, _ => .stuck
def exitX (n0 : Nat) (x : Xn) (h : Hv) : R D := match x.pay with
  | none => (match optAll (frzC n0 h) (h.take n0) with
    | some h' => if n0 ≤ h.length then .exc x h' else .stuck
    | none => .stuck)
  | some (f, d) => (match frz n0 h 12 d, optAll (frzC n0 h) (h.take n0) with
    | some d', some h' => if n0 ≤ h.length then .exc ⟨x.cls, some (f, d')⟩ h' else .stuck
    | _, _ => .stuck)
/-- what a def computes: np parameters, nl other names -/
def fnS (np nl : Nat) (body : SS) : List D → Hv → R D := fun ds h => if ds.length = np then (match body (ds.map some ++ List.replicate nl none) h with
  | .ret d h' => exitD h.length d h'
  | .next _ h' => exitD h.length .non h'
  | .exc x _ h' => exitX h.length x h'
  | _ => .stuck) else .stuck
/-- a def keeps what sem tells -/
def spOf (K : PySem.W.Frag) (sem : List D → Hv → R D) : Sp := fun vs H Q E => ∃ φ S h ds, Rel K φ S H h ∧ RpA K φ S vs ds ∧ Post K (repV K) φ S H (sem ds h) Q E
theorem fnS_len {np nl : Nat} {body : SS} {ds : List D} {h : Hv} (e : fnS np nl body ds h ≠ .stuck) : ds.length = np := by
  unfold fnS at e
  split at e
  · next q => exact q
  · exact absurd rfl e
theorem relS_start {K : PySem.W.Frag} {φ : List Addr} {S : Hp} {vs : List V} {ds : List D} (ra : RpA K φ S vs ds) (nl : Nat) (N : List Str) (hN : N.length = ds.length + nl) : RelS K φ S (ds.map some ++ List.replicate nl none) (L2.start N vs) := by
  have hl := ra.length
  unfold L2.start
  rw [hN, hl, Nat.add_sub_cancel_left]
  refine ⟨by rw [List.length_append, List.length_append, List.length_map, List.length_map, hl, List.length_replicate, List.length_replicate], fun i d hd => ?_⟩
  by_cases hi : i < ds.length
  · rw [List.getElem?_append_left (by rw [List.length_map]; exact hi), List.getElem?_map] at hd
    cases q : ds[i]? with
    | none => rw [q] at hd; cases hd
    | some d0 =>
      rw [q] at hd
      cases hd
      obtain ⟨v, hv, rv⟩ := ra.at q
      refine ⟨v, ?_, rv⟩
      rw [List.getElem?_append_left (by rw [List.length_map, hl]; exact hi), List.getElem?_map, hv]
      rfl
  · rw [List.getElem?_append_right (by rw [List.length_map]; omega), List.getElem?_replicate] at hd
    split at hd <;> cases hd
section
variable {P : Program} {w : World} {K : PySem.W.Frag} {mg : Str → Option Value} {base : Heap}
theorem fn_ok {x qual : Str} {st : Stmt} {f : Addr} {fd : FuncData} {N ps : List Str} {k np nl : Nat} {body : SS} (F : Fun K x qual st f fd) (Sc : FnScope N ps (defScope st)) (hps : ps.length = np) (hN : N.length = np + nl)
    (hbody : ∀ (cdv : Value) (A : Around) (outer : List Env) (s : Shared) (H : Hp) (E : XK), Room k (A.deeper (envOfC qual (defScope st) s.heap.objs.size f cdv)) →
      QB (cxOf (L2.CX P w) P w K mg base N qual (defScope st) f cdv A outer s H E) (fun cls d _ H' => E cls d H') (defBody st) body) : FnOk P w K mg base (L2.CX P w) (k + 1) f fd ps (spOf K (fnS np nl body)) := by
  refine F.okX Sc (fun vs H Q E h => ?_) (fun cdv A outer s H vs Q E hr h => ?_)
  · obtain ⟨φ, S, h, ds, rl, ra, post⟩ := h
    rw [ra.length, hps]
    refine fnS_len (nl := nl) (body := body) (h := h) fun z => ?_
    rw [z] at post
    exact post.elim
  · obtain ⟨φ, S, h, ds, rl, ra, post⟩ := h
    obtain ⟨t, h1, h2⟩ := hbody cdv A outer s H E hr
    refine ⟨t, h1, h2.run rl (relS_start ra nl N (by
      have hl : ds.length = np := fnS_len (nl := nl) (body := body) (h := h) fun z => by
        rw [z] at post
        exact post.elim
      rw [hl]
      exact hN)) ?_⟩
    unfold fnS at post
    have hl : ds.length = np := by
      refine Classical.byContradiction fun z => ?_
      rw [if_neg z] at post
      exact post.elim
    rw [if_pos hl] at post
    have en : h.length = φ.length := rl.len.symm
    have out : ∀ {φ' S' H' h' d v}, Rel K φ' S' H' h' → Step φ S H φ' S' H' → Rp K φ' S' v d → Post K (repV K) φ S H (exitD h.length d h') Q E → Q v H' := fun {φ' S' H' h' d v} r2 st rv post => by
      unfold exitD at post
      split at post
      · next d' h'' q1 q2 =>
        split at post
        · next hn =>
          rw [en] at q1 q2 hn
          obtain ⟨s2, _⟩ := exit_step st r2
          exact post v _ _ H' (exit_rel r2 hn q2) s2 (frz_ok r2 _ _ _ _ rv q1)
        · exact post.elim
      · exact post.elim
    cases hb : body (ds.map some ++ List.replicate nl none) h with
    | next σ' h' =>
      rw [hb] at post
      exact fun σ1 φ' S' H' r2 _ st => out r2 st .non post
    | ret d h' =>
      rw [hb] at post
      exact fun v φ' S' H' r2 st rv => out r2 st rv post
    | brk σ' h' => rw [hb] at post; exact post.elim
    | cont σ' h' => rw [hb] at post; exact post.elim
    | stuck => rw [hb] at post; exact post.elim
    | exc x σ' h' =>
      rw [hb] at post
      intro σ1 cls dd φ' S' H' r2 _ st rx
      simp only [exitX] at post
      obtain ⟨s2, _⟩ := exit_step st r2
      obtain ⟨e1, rx⟩ := rx
      cases hp : x.pay with
      | none =>
        simp only [hp] at post rx
        split at post
        · next h'' q2 =>
          split at post
          · next hn =>
            rw [en] at q2 hn
            exact post cls dd _ _ H' (exit_rel r2 hn q2) s2 ⟨e1, by rw [hp]; exact rx⟩
          · exact post.elim
        · exact post.elim
      | some p =>
        obtain ⟨fl, d⟩ := p
        simp only [hp] at post rx
        obtain ⟨dx, v, e2, e3, rv⟩ := rx
        split at post
        · next d' h'' q1 q2 =>
          split at post
          · next hn =>
            rw [en] at q1 q2 hn
            exact post cls dd _ _ H' (exit_rel r2 hn q2) s2 ⟨e1, dx, v, e2, still_ex r2 _ _ e3, frz_ok r2 _ _ _ _ rv q1⟩
          · exact post.elim
        · exact post.elim
end
/-! ### calls of defs -/
/-- data without cells -/
def pureD (ds : List D) : Option (List D) := optAll (frz 0 [] 12) ds
theorem frz0_ok {K : PySem.W.Frag} {φ : List Addr} {S : Hp} : ∀ (f : Nat) (d : D) (v : V) (d' : D), Rp K φ S v d → frz 0 [] f d = some d' → Rp K [] S v d' := by
  intro f
  induction f with
  | zero => intro d v p _ e; cases e
  | succ f ih =>
    have all := frzA_of (K := K) (n0 := 0) (h := []) ih
    intro d v p r e
    cases r with
    | non => cases e; exact .non
    | bl b => cases e; exact .bl b
    | int i => cases e; exact .int i
    | str x => cases e; exact .str x
    | @lst a vs ds h1 h2 =>
      obtain ⟨ps, q, rfl⟩ := Option.map_eq_some_iff.mp (show (optAll (frz 0 [] f) ds).map .lst = some p from e)
      exact .lst h1 (all ds vs ps h2 q)
    | @fz a vs ds h1 h2 =>
      obtain ⟨ps, q, rfl⟩ := Option.map_eq_some_iff.mp (show (optAll (frz 0 [] f) ds).map .fz = some p from e)
      exact .fz h1 (all ds vs ps h2 q)
    | @tup a vs ds h1 h2 =>
      obtain ⟨ps, q, rfl⟩ := Option.map_eq_some_iff.mp (show (optAll (frz 0 [] f) ds).map .tup = some p from e)
      exact .tup h1 (all ds vs ps h2 q)
    | cell h1 => simp [frz] at e
    | raw v => cases e; exact .raw v
    | @dct a od kv ks ds h1 h2 h3 =>
      obtain ⟨ps, q, rfl⟩ := Option.map_eq_some_iff.mp (show (optAll (frz 0 [] f) ds).map (.dct ks) = some p from e)
      exact .dct h1 h2 (all ds _ ps h3 q)
    | @obj a dx fv c ks ds h1 h2 h3 =>
      obtain ⟨ps, q, rfl⟩ := Option.map_eq_some_iff.mp (show (optAll (frz 0 [] f) ds).map (.obj c ks) = some p from e)
      exact .obj h1 h2 (all ds _ ps h3 q)
    | exv h1 h2 => cases e
theorem Rel.bare {K : PySem.W.Frag} {S H : Hp} (e : Ex S H) : Rel K [] S H [] := ⟨rfl, e, List.nodup_nil, fun n a c h => by simp at h⟩
/-- the callee's steps are the caller's -/
theorem Rel.frame {K : PySem.W.Frag} {φ φ' : List Addr} {S H S' H' : Hp} {h : Hv} (rl : Rel K φ S H h) (r2 : Rel K φ' S' H' []) (st : Step [] S H φ' S' H') : φ' = [] ∧ Rel K φ S' H' h ∧ Step φ S H φ S' H' := by
  have e : φ' = [] := List.length_eq_zero_iff.mp r2.len
  subst e
  refine ⟨rfl, ⟨rl.len, r2.sub, rl.nd, fun n a c e1 e2 => ?_⟩, ⟨⟨[], (List.append_nil _).symm, fun _ z => nomatch z⟩, st.sub, st.old, fun a o e _ => st.keep a o e (fun z => nomatch z), st.there⟩⟩
  obtain ⟨h1, o, h2, h3⟩ := rl.cel n a c e1 e2
  exact ⟨(st.old a (by rw [h2]; exact fun z => nomatch z)).trans h1, o, st.keep a o h2 (fun z => nomatch z), h3.mono (Pre.refl _) st.sub⟩
def callP (sem : List D → Hv → R D) (ds : List D) (h : Hv) : R D := match pureD ds with
  | some ds' => (match sem ds' [] with
    | .ok d [] => .ok d h
    | .exc x [] => .exc x h
    | _ => .stuck)
  | none => .stuck
theorem spOf_P {K : PySem.W.Frag} {sem : List D → Hv → R D} {φ : List Addr} {S H : Hp} {h : Hv} {ds : List D} {vs : List V} {Q : VK} {E : XK} (rl : Rel K φ S H h) (ra : RpA K φ S vs ds) (post : Post K (repV K) φ S H (callP sem ds h) Q E) : spOf K sem vs H Q E := by
  unfold callP at post
  split at post
  · next ds' q =>
    refine ⟨[], S, [], ds', Rel.bare rl.sub, frzA_of (n0 := 0) (h := []) (fun d v d' r e => frz0_ok 12 d v d' r e) ds vs ds' ra q, ?_⟩
    split at post
    · next d hs =>
      rw [hs]
      intro v φ' S' H' r2 st rv
      obtain ⟨rfl, r3, s3⟩ := rl.frame r2 st
      exact post v φ S' H' r3 s3 (Rp.mono ⟨φ, rfl⟩ (Ex.refl _) rv)
    · next x hs =>
      rw [hs]
      intro cls dd φ' S' H' r2 st rx
      obtain ⟨rfl, r3, s3⟩ := rl.frame r2 st
      refine post cls dd φ S' H' r3 s3 ⟨rx.1, ?_⟩
      have rx2 := rx.2
      cases hp : x.pay with
      | none => rw [hp] at rx2; exact rx2
      | some p =>
        rw [hp] at rx2
        obtain ⟨dx, v, e2, e3, rv⟩ := rx2
        exact ⟨dx, v, e2, e3, Rp.mono ⟨φ, rfl⟩ (Ex.refl _) rv⟩
    · exact post.elim
  · exact post.elim
mutual
def isScal : D → Bool
  | .non => true
  | .bl _ => true
  | .int _ => true
  | .str _ => true
  | .tup ds => isScalL ds
  | .lst _ => false
  | .fz _ => false
  | .cell _ => false
  | .raw _ => false
  | .dct _ _ => false
  | .obj _ _ _ => false
  | .exv _ _ _ _ => false
def isScalL : List D → Bool
  | [] => true
  | d :: ds => isScal d && isScalL ds
end
/-- the objects that are still, but those of the caller's cells -/
def offS (φ : List Addr) (S S' : Hp) : Hp := fun a => if a ∈ φ then S a else S' a
section
variable {K : PySem.W.Frag} {φ : List Addr} {S S' : Hp}
theorem offS_sqt (nt : ∀ (a : Addr) (vs : List V), Rd S' a (.tup vs) → a ∉ φ) {a : Addr} {vs : List V} (h : SqT K S' a vs) : SqT K (offS φ S S') a vs := by
  refine h.imp (fun z => ?_) id
  have na := nt a vs z
  unfold Rd offS at *
  rw [if_neg na]
  exact z
mutual
theorem scal_tr (nt : ∀ (a : Addr) (vs : List V), Rd S' a (.tup vs) → a ∉ φ) : ∀ {v : V} {d : D}, isScal d = true → Rp K [] S' v d → Rp K φ (offS φ S S') v d
  | _, _, _, .non => .non
  | _, _, _, .bl b => .bl b
  | _, _, _, .int i => .int i
  | _, _, _, .str x => .str x
  | _, .tup ds, hs, .tup h r => .tup (offS_sqt nt h) (scalA_tr nt (by rw [isScal] at hs; exact hs) r)
  | _, _, hs, .lst _ _ => by rw [isScal] at hs; cases hs
  | _, _, hs, .fz _ _ => by rw [isScal] at hs; cases hs
  | _, _, hs, .cell _ => by rw [isScal] at hs; cases hs
  | _, _, hs, .raw _ => by rw [isScal] at hs; cases hs
  | _, _, hs, .dct _ _ _ => by rw [isScal] at hs; cases hs
  | _, _, hs, .obj _ _ _ => by rw [isScal] at hs; cases hs
  | _, _, hs, .exv _ _ => by rw [isScal] at hs; cases hs
theorem scalA_tr (nt : ∀ (a : Addr) (vs : List V), Rd S' a (.tup vs) → a ∉ φ) : ∀ {vs : List V} {ds : List D}, isScalL ds = true → RpA K [] S' vs ds → RpA K φ (offS φ S S') vs ds
  | _, _, _, .nil => .nil
  | _, d :: ds, hs, .cons r t => by
    rw [isScalL, Bool.and_eq_true] at hs
    exact .cons (scal_tr nt hs.1 r) (scalA_tr nt hs.2 t)
end
end
/-- a call that only looks: its arguments may hold cells, its answer is a plain value -/
def callB (sem : List D → Hv → R D) (ds : List D) (h : Hv) : R D := match optAll (frz 0 h 12) ds with
  | some ds' => (match sem ds' [] with
    | .ok d [] => if isScal d then .ok d h else .stuck
    | .exc x [] => (match x.pay with
      | none => .exc x h
      | some (_, d) => if isScal d then .exc x h else .stuck)
    | _ => .stuck)
  | none => .stuck
theorem rel_B {K : PySem.W.Frag} {φ : List Addr} {S H S' H' : Hp} {h : Hv} (rl : Rel K φ S H h) (r2 : Rel K [] S' H' []) (st : Step [] (still φ 0 S H) H [] S' H') :
    (∀ (a : Addr) (vs : List V), Rd S' a (.tup vs) → a ∉ φ) ∧ (∀ (a : Addr) (vs : List (Str × V)), S' a = some (.xd vs) → a ∉ φ) ∧ Rel K φ (offS φ S S') H' h ∧ Step φ S H φ (offS φ S S') H' := by
  have kp : ∀ a o, H a = some o → H' a = some o := fun a o e => st.keep a o e (fun z => nomatch z)
  have sS : ∀ a o, S a = some o → a ∉ φ := fun a o e z => by rw [(rl.mem z).1] at e; cases e
  have nt : ∀ (a : Addr) (vs : List V), Rd S' a (.tup vs) → a ∉ φ := fun a vs z hm => by
    obtain ⟨n, hn⟩ := List.getElem?_of_mem hm
    obtain ⟨c, hc⟩ := rl.at hn
    obtain ⟨_, o, ho, rc⟩ := rl.cel n a c hn hc
    have ho' := kp a o ho
    rcases z with z | ⟨u, z⟩
    · have := r2.sub _ _ z
      rw [ho'] at this
      cases this
      cases c with
      | lst ds => obtain ⟨_, e, _⟩ := rc; cases e
      | dK kvs => obtain ⟨_, e, _⟩ := rc; cases e
      | dF kvs => obtain ⟨_, _, e, _⟩ := rc; cases e
      | ins C fs => obtain ⟨_, _, e, _⟩ := rc; cases e
      | dN w kvs => obtain ⟨_, _, e, _⟩ := rc; cases e
    · have := r2.sub _ _ z
      rw [ho'] at this
      cases this
      cases c with
      | lst ds => obtain ⟨_, e, _⟩ := rc; cases e
      | dK kvs => obtain ⟨_, e, _⟩ := rc; cases e
      | dF kvs => obtain ⟨_, _, e, _⟩ := rc; cases e
      | ins C fs => obtain ⟨_, _, e, _⟩ := rc; cases e
      | dN w kvs => obtain ⟨_, _, e, _⟩ := rc; cases e
  have nx : ∀ (a : Addr) (vs : List (Str × V)), S' a = some (.xd vs) → a ∉ φ := fun a vs z hm => by
    obtain ⟨n, hn⟩ := List.getElem?_of_mem hm
    obtain ⟨c, hc⟩ := rl.at hn
    obtain ⟨_, o, ho, rc⟩ := rl.cel n a c hn hc
    have ho' := kp a o ho
    have := r2.sub _ _ z
    rw [ho'] at this
    cases this
    cases c with
    | lst ds => obtain ⟨_, e, _⟩ := rc; cases e
    | dK kvs => obtain ⟨_, e, _⟩ := rc; cases e
    | dF kvs => obtain ⟨_, _, e, _⟩ := rc; cases e
    | ins C fs => obtain ⟨_, _, e, _⟩ := rc; cases e
    | dN w kvs => obtain ⟨_, _, e, _⟩ := rc; cases e
  have ex : Ex S (offS φ S S') := fun a o e => by
    unfold offS
    rw [if_neg (sS a o e)]
    exact st.sub a o (still_ex rl a o e)
  refine ⟨nt, nx, ⟨rl.len, fun a o e => ?_, rl.nd, fun n a c e1 e2 => ?_⟩, ⟨⟨[], (List.append_nil _).symm, fun _ z => nomatch z⟩, ex, fun a ha => ?_, fun a o e _ => kp a o e, st.there⟩⟩
  · unfold offS at e
    split at e
    · exact kp a o (rl.sub a o e)
    · exact r2.sub a o e
  · obtain ⟨h1, o, h2, h3⟩ := rl.cel n a c e1 e2
    refine ⟨?_, o, kp a o h2, h3.mono ⟨[], (List.append_nil _).symm⟩ ex⟩
    unfold offS
    rw [if_pos (List.mem_of_getElem? e1)]
    exact h1
  · unfold offS
    split
    · rfl
    · next na =>
      rw [st.old a ha]
      unfold still
      rw [if_neg (fun z => na (List.mem_of_mem_drop z))]
theorem spOf_B {K : PySem.W.Frag} {sem : List D → Hv → R D} {φ : List Addr} {S H : Hp} {h : Hv} {ds : List D} {vs : List V} {Q : VK} {E : XK} (rl : Rel K φ S H h) (ra : RpA K φ S vs ds) (post : Post K (repV K) φ S H (callB sem ds h) Q E) : spOf K sem vs H Q E := by
  unfold callB at post
  split at post
  · next ds' q =>
    refine ⟨[], still φ 0 S H, [], ds', Rel.bare (still_sub rl), ?_, ?_⟩
    · have := frzA_of (n0 := 0) (h := h) (fun d v d' r e => frz_ok rl 12 d v d' r e) ds vs ds' ra q
      rw [List.take_zero] at this
      exact this
    split at post
    · next d hs =>
      rw [hs]
      split at post
      · next hsc =>
        intro v φ' S' H' r2 st rv
        have e : φ' = [] := List.length_eq_zero_iff.mp r2.len
        subst e
        obtain ⟨nt, _, r3, s3⟩ := rel_B rl r2 st
        exact post v φ (offS φ S S') H' r3 s3 (scal_tr nt hsc rv)
      · exact post.elim
    · next x hs =>
      rw [hs]
      intro cls dd φ' S' H' r2 st rx
      have e : φ' = [] := List.length_eq_zero_iff.mp r2.len
      subst e
      obtain ⟨nt, nx, r3, s3⟩ := rel_B rl r2 st
      have rx2 := rx.2
      split at post
      · next hp =>
        refine post cls dd φ (offS φ S S') H' r3 s3 ⟨rx.1, ?_⟩
        rw [hp] at rx2 ⊢
        exact rx2
      · next f d hp =>
        split at post
        · next hsc =>
          refine post cls dd φ (offS φ S S') H' r3 s3 ⟨rx.1, ?_⟩
          rw [hp] at rx2 ⊢
          obtain ⟨dx, v, e2, e3, rv⟩ := rx2
          refine ⟨dx, v, e2, ?_, scal_tr nt hsc rv⟩
          unfold offS
          rw [if_neg (nx _ _ e3)]
          exact e3
        · exact post.elim
    · exact post.elim
  · exact post.elim
section
variable {X : Cx} {W : WX} {k : Nat} {f : Addr} {fd : FuncData} {ps : List Str} {sem sem' : List D → Hv → R D} {x : Str} {p pos : Pos} {e : Expr} {es : List Expr} {la : LS}
theorem se_call (hsem : ∀ {φ : List Addr} {S H : Hp} {h : Hv} {ds : List D} {vs : List V} {Q : VK} {E : XK}, Rel X.K φ S H h → RpA X.K φ S vs ds → Post X.K (repV X.K) φ S H (sem' ds h) Q E → spOf X.K sem vs H Q E)
    (F : FnOk X.prog X.w X.K X.mg X.base (L2.CX X.prog X.w) k f fd ps (spOf X.K sem)) (hr : Room k X.A) (tk : Takes X W) (hm : X.mg x = some (.ref f)) (hk : PySem.W.keepIn X.K (.ref f) = true) (hb : Binds X.K fd ps []) (ha : SA X W (e :: es) la)
    (hg : Gl X x := by rfl) (hdb : (x == ("__debug__" : Str)) = false := by decide) (he : starEach (e :: es) X.env = (false, eval e X.env) :: starEach es X.env := by rfl) (hpl : (backTo pos (starEach es X.env)).any (·.1) = false := by rfl) :
    SE X W (.Call (.Name x p) (e :: es) [] pos) (eCa sem' la) := by
  obtain ⟨t, h1, h2⟩ := ha
  exact ⟨_, pe_callS F hr hg hm hk hb (fun σ => passAt tk σ) h1 hdb he hpl, ⟨fun rl rs post => h2.bind rl rs post fun ds h1 vs φ1 S1 H1 rl1 rs1 st rp post => hsem rl1 rp post⟩⟩
end
def callM (sem : List D → Hv → R D) : List D → Hv → R D := sem
theorem spOf_M {K : PySem.W.Frag} {sem : List D → Hv → R D} {φ : List Addr} {S H : Hp} {h : Hv} {ds : List D} {vs : List V} {Q : VK} {E : XK} (rl : Rel K φ S H h) (ra : RpA K φ S vs ds) (post : Post K (repV K) φ S H (callM sem ds h) Q E) : spOf K sem vs H Q E := ⟨φ, S, h, ds, rl, ra, post⟩
end
end VD

set_option Elab.async false
set_option linter.all false
set_option maxRecDepth 100000
set_option maxHeartbeats 4000000
namespace VD
open PySem PySem.Spec PyProof.Rows L2
noncomputable section
/-! ### methods of lists that are cells -/
def MtS (K : PySem.W.Frag) (r : V → List V → Hp → VK → Prop) (ro : D → List D → Hv → R D) : Prop :=
  ∀ {φ : List Addr} {S H : Hp} {h : Hv} {x : D} {v : V} {ds : List D} {vs : List V} {Q : VK} {E : XK}, Rel K φ S H h → Rp K φ S v x → RpA K φ S vs ds → Post K (repV K) φ S H (ro x ds h) Q E → r v vs H Q
def eBM (ro : D → List D → Hv → R D) (fo : ES) (la : LS) : ES := fun σ h => (fo σ h).bind fun x h1 => match lOf h1 x with
  | some _ => (la σ h1).bind fun ds h2 => ro x ds h2
  | none => .stuck
theorem Rel.cell {K : PySem.W.Frag} {φ : List Addr} {S H : Hp} {h : Hv} (rl : Rel K φ S H h) {n : Nat} {v : V} {xs : List D} (r : Rp K φ S v (.cell n)) (e : h[n]? = some (.lst xs)) : ∃ a vs, v = .ref a ∧ φ[n]? = some a ∧ H a = some (.lst vs) ∧ RpA K φ S vs xs := by
  cases r with
  | @cell a n h1 =>
    obtain ⟨_, o, ho, vs, rfl, ra⟩ := rl.cel _ _ _ h1 e
    exact ⟨a, vs, rfl, h1, ho, ra⟩
section
variable {X : Cx} {W : WX} {K : PySem.W.Frag} {o e : Expr} {es : List Expr} {fo fv fi : ES} {la : LS} {name : Str} {apos cpos pos tpos : Pos} {id : String} {r : V → List V → Hp → VK → Prop} {ro : D → List D → Hv → R D}
theorem se_bm (slot : Slot "list" name id) (hty : typeOf (.builtin id) = pure (.type "method_descriptor")) (hm : MtR X id r) (hr : MtS X.K r ro) (ho : SE X W o fo) (ha : SA X W (e :: es) la)
    (hbase : attributeBase o name X.env (eval o X.env) = eval o X.env := by rfl)
    (hfew : ((backTo cpos (starEach (e :: es) X.env)).all (fun x => !x.1) && (backToKw cpos (keywordEach [] X.env)).all (fun x => x.1.isSome)
      && decide ((e :: es).length + ([] : List Keyword).length + (if ([] : List Keyword).isEmpty then 0 else 1) < 30)) = true := by rfl)
    (hline : (apos.endLine == cpos.line) = true := by rfl) (hs : starEach (e :: es) X.env = (false, eval e X.env) :: starEach es X.env := by rfl) (hplain : (backTo cpos (starEach es X.env)).any (·.1) = false := by rfl) :
    SE X W (.Call (.Attribute o name apos) (e :: es) [] cpos) (eBM ro fo la) := by
  obtain ⟨to, h1, h2⟩ := ho
  obtain ⟨ta, k1, k2⟩ := ha
  refine ⟨_, pe_bm PySem.F.plainAttrs_list slot hty hm h1 k1 hbase hfew hline hs hplain, ⟨fun rl rs post => h2.bind rl rs post fun x h1 v φ1 S1 H1 rl1 rs1 st rp post => ?_⟩⟩
  cases q : lOf h1 x with
  | none => simp only [q] at post; exact post.elim
  | some xs =>
    simp only [q] at post
    obtain ⟨a, vs, rfl, g2, g3⟩ := lOf_ok rl1 rp q
    exact ⟨.inl ⟨rfl, vs, g2⟩, k2.bind rl1 rs1 post fun ds h2 us φ2 S2 H2 rl2 rs2 st2 rp2 post => hr rl2 (Rp.mono st2.prefix st2.sub rp) rp2 post⟩
theorem se_bm0 (slot : Slot "list" name id) (hty : typeOf (.builtin id) = pure (.type "method_descriptor")) (hm : MtR X id r) (hr : MtS X.K r ro) (ho : SE X W o fo)
    (hbase : attributeBase o name X.env (eval o X.env) = eval o X.env := by rfl) (hline : (apos.endLine == cpos.line) = true := by rfl) : SE X W (.Call (.Attribute o name apos) [] [] cpos) (eBM ro fo aNil) := by
  obtain ⟨to, h1, h2⟩ := ho
  refine ⟨_, pe_bm0 PySem.F.plainAttrs_list slot hty hm h1 hbase hline, ⟨fun rl rs post => h2.bind rl rs post fun x h1 v φ1 S1 H1 rl1 rs1 st rp post => ?_⟩⟩
  cases q : lOf h1 x with
  | none => simp only [q] at post; exact post.elim
  | some xs =>
    simp only [q] at post
    obtain ⟨a, vs, rfl, g2, g3⟩ := lOf_ok rl1 rp q
    exact ⟨.inl ⟨rfl, vs, g2⟩, hr rl1 rp .nil post⟩
def mAppend : D → List D → Hv → R D := fun x ds h => match x, ds with
  | .cell n, [d] => (match h[n]? with
    | some (.lst xs) => if xs.length < 16777216 then .ok .non (h.set n (.lst (xs ++ [d]))) else .stuck
    | _ => .stuck)
  | _, _ => .stuck
theorem ms_append : MtS K rAppend mAppend := by
  intro φ S H h x v ds vs Q E rl rx ra post
  unfold mAppend at post
  split at post
  · next n d =>
    split at post
    · next xs hx =>
      split at post
      · next hz =>
        obtain ⟨a, ws, rfl, hn, ho, rw_⟩ := rl.cell rx hx
        obtain ⟨u, rfl, ru⟩ := ra.one
        obtain ⟨r2, s2⟩ := rl.put hn (c := .lst (xs ++ [d])) (o := .lst (ws ++ [u])) ⟨_, rfl, rw_.append (.cons ru .nil)⟩
        exact ⟨a, ws, u, rfl, rfl, ho, by rw [rw_.length, line_eq]; exact hz, post _ φ S _ r2 s2 .non⟩
      · exact post.elim
    · exact post.elim
  · exact post.elim
def mReverse : D → List D → Hv → R D := fun x ds h => match x, ds with
  | .cell n, [] => (match h[n]? with
    | some (.lst xs) => .ok .non (h.set n (.lst xs.reverse))
    | _ => .stuck)
  | _, _ => .stuck
theorem ms_reverse : MtS K rReverse mReverse := by
  intro φ S H h x v ds vs Q E rl rx ra post
  unfold mReverse at post
  split at post
  · next n =>
    split at post
    · next xs hx =>
      obtain ⟨a, ws, rfl, hn, ho, rw_⟩ := rl.cell rx hx
      cases ra
      obtain ⟨r2, s2⟩ := rl.put hn (c := .lst xs.reverse) (o := .lst ws.reverse) ⟨_, rfl, rw_.reverse⟩
      exact ⟨a, ws, rfl, rfl, ho, post _ φ S _ r2 s2 .non⟩
    · exact post.elim
  · exact post.elim
def mPopAt : D → List D → Hv → R D := fun x ds h => match x, ds with
  | .cell n, [.int i] => (match h[n]? with
    | some (.lst xs) => @ite _ (-(2 ^ 63) ≤ i ∧ i < 2 ^ 63) (Classical.propDecidable _) (match seqIndex? i xs.length with
      | some k => (match xs[k]? with
        | some y => .ok y (h.set n (.lst (xs.eraseIdx k)))
        | none => .stuck)
      | none => .stuck) .stuck
    | _ => .stuck)
  | _, _ => .stuck
theorem ms_popAt : MtS K rPopAt mPopAt := by
  intro φ S H h x v ds vs Q E rl rx ra post
  unfold mPopAt at post
  split at post
  · next n i =>
    split at post
    · next xs hx =>
      split at post
      · next hz =>
        split at post
        · next k hk =>
          split at post
          · next y hy =>
            obtain ⟨a, ws, rfl, hn, ho, rw_⟩ := rl.cell rx hx
            obtain ⟨u, rfl, ru⟩ := ra.one
            cases ru
            obtain ⟨w, hw, rww⟩ := rw_.at hy
            obtain ⟨r2, s2⟩ := rl.put hn (c := .lst (xs.eraseIdx k)) (o := .lst (ws.eraseIdx k)) ⟨_, rfl, rw_.eraseIdx k⟩
            exact ⟨a, ws, i, k, w, rfl, rfl, ho, hz.1, hz.2, by rw [rw_.length]; exact hk, hw, post _ φ S _ r2 s2 rww⟩
          · exact post.elim
        · exact post.elim
      · exact post.elim
    · exact post.elim
  · exact post.elim
def mInsert : D → List D → Hv → R D := fun x ds h => match x, ds with
  | .cell n, [.int i, d] => (match h[n]? with
    | some (.lst xs) => @ite _ ((0 ≤ i ∧ i < 2 ^ 63) ∧ xs.length < 16777216) (Classical.propDecidable _) (.ok .non (h.set n (.lst (xs.take i.toNat ++ [d] ++ xs.drop i.toNat)))) .stuck
    | _ => .stuck)
  | _, _ => .stuck
def rInsert : V → List V → Hp → VK → Prop := fun x vs H Q => ∃ (l : Addr) (xs : List V) (i : Int) (y : V), x = .ref l ∧ vs = [.int i, y] ∧ H l = some (.lst xs) ∧ xs.length < sizeLine ∧ 0 ≤ i ∧ i < 2 ^ 63 ∧
    Q .non (upd H l (.lst (xs.take i.toNat ++ [y] ++ xs.drop i.toNat)))
theorem mt_insertR : MtR X "list.insert" rInsert := mt_insert
theorem ms_insert : MtS K rInsert mInsert := by
  intro φ S H h x v ds vs Q E rl rx ra post
  unfold mInsert at post
  split at post
  · next n i d =>
    split at post
    · next xs hx =>
      split at post
      · next hz =>
        obtain ⟨a, ws, rfl, hn, ho, rw_⟩ := rl.cell rx hx
        obtain ⟨u, u2, rfl, ru, ru2⟩ := ra.two
        cases ru
        obtain ⟨r2, s2⟩ := rl.put hn (c := .lst (xs.take i.toNat ++ [d] ++ xs.drop i.toNat)) (o := .lst (ws.take i.toNat ++ [u2] ++ ws.drop i.toNat)) ⟨_, rfl, ((rw_.take _).append (.cons ru2 .nil)).append (rw_.drop _)⟩
        exact ⟨a, ws, i, u2, rfl, rfl, ho, by rw [rw_.length, line_eq]; exact hz.2, hz.1.1, hz.1.2, post _ φ S _ r2 s2 .non⟩
      · exact post.elim
    · exact post.elim
  · exact post.elim
/-- xs.index(n), ints -/
def firstIx (n : Int) : List Int → Option Nat
  | [] => none
  | x :: xs => if x = n then some 0 else (firstIx n xs).map (· + 1)
theorem firstIx_ok {n : Int} : ∀ {xs : List Int} {j : Nat}, firstIx n xs = some j → xs[j]? = some n ∧ ∀ m z, m < j → xs[m]? = some z → z ≠ n
  | [], j, h => by cases h
  | x :: xs, j, h => by
    simp only [firstIx] at h
    split at h
    · next q =>
      cases h
      subst q
      exact ⟨rfl, fun m z hm => by omega⟩
    · next q =>
      obtain ⟨k, hk, rfl⟩ := Option.map_eq_some_iff.mp h
      obtain ⟨h1, h2⟩ := firstIx_ok hk
      refine ⟨by rw [List.getElem?_cons_succ]; exact h1, fun m z hm hz => ?_⟩
      cases m with
      | zero =>
        rw [List.getElem?_cons_zero] at hz
        cases hz
        exact q
      | succ m =>
        rw [List.getElem?_cons_succ] at hz
        exact h2 m z (by omega) hz
def mIndex : D → List D → Hv → R D := fun x ds h => match ds with
  | [.int i] => (match (lOf h x).bind (optAll toI) with
    | some ns => (match firstIx i ns with
      | some j => .ok (.int (j : Nat)) h
      | none => .stuck)
    | none => .stuck)
  | _ => .stuck
theorem ms_index : MtS K (rIndex K) mIndex := by
  intro φ S H h x v ds vs Q E rl rx ra post
  unfold mIndex at post
  split at post
  · next i =>
    split at post
    · next ns hn =>
      split at post
      · next j hj =>
        obtain ⟨xs, q1, q2⟩ := Option.bind_eq_some_iff.mp hn
        obtain ⟨a, vs, rfl, h2, h3⟩ := lOf_ok rl rx q1
        rw [toIs_ok h3 q2] at h2
        obtain ⟨u, rfl, ru⟩ := ra.one
        cases ru
        obtain ⟨f1, f2⟩ := firstIx_ok hj
        refine ⟨a, ns.map V.int, .int i, j, .int i, rfl, rfl, h2, rfl, List.all_eq_true.mpr fun z hz => ?_, by rw [List.getElem?_map, f1]; rfl, (by simp [eqV]), fun m z' hm hz' => ?_, post _ φ S H rl (Step.refl _ _ _) (.int _)⟩
        · obtain ⟨k, _, rfl⟩ := List.mem_map.mp hz
          rfl
        · rw [List.getElem?_map] at hz'
          obtain ⟨k, hk, rfl⟩ := Option.map_eq_some_iff.mp hz'
          have := f2 m k hm hk
          simp [eqV, this]
      · exact post.elim
    · exact post.elim
  · exact post.elim
/-! ### o[i] = e, a list -/
def sSetIx (fv fo fi : ES) : SS := fun σ h => (fv σ h).then σ fun d h1 => (fo σ h1).then σ fun x h2 => (fi σ h2).then σ fun i h3 => match x, i with
  | .cell n, .int k => (match h3[n]? with
    | some (.lst xs) => (match ixN xs.length k with
      | some j => .next σ (h3.set n (.lst (xs.set j d)))
      | none => .stuck)
    | _ => .stuck)
  | _, _ => .stuck
theorem qs_setIx {i : Expr} {ve : Expr} (hv : SE X W ve fv) (ho : SE X W o fo) (hi : SE X W i fi) (hs : swapsWithSole [.Subscript o i tpos] ve pos.line X.env = pure false := by rfl) (hw : swappedStores [.Subscript o i tpos] ve X.env = pure none := by rfl)
    (h1 : (assignEach [.Subscript o i tpos] X.env).map (·.2) = [assign (.Subscript o i tpos) X.env] := by rfl)
    (ha : ∀ v, assign (.Subscript o i tpos) X.env v = (do
      let ov ← holding [v] (eval o X.env)
      let iv ← holding [v, ov] (eval i X.env)
      standAt tpos
      holding [v, ov, iv] (setItem ov iv v)
      release [v, ov, iv] []) := by intro _; rfl) (htk : Takes X W := by assumption) : QS X W (.Assign [.Subscript o i tpos] ve pos) (sSetIx fv fo fi) := by
  obtain ⟨tv, a1, a2⟩ := hv
  obtain ⟨to, b1, b2⟩ := ho
  obtain ⟨ti, c1, c2⟩ := hi
  refine ⟨_, ps_asg a1 (pg_sub b1 c1 set_list ha) hs hw h1, ⟨fun rl rs post => a2.thenS rl rs post fun d h1 v φ1 S1 H1 rl1 rs1 st1 r1 post => b2.thenS rl1 rs1 post fun x h2 u φ2 S2 H2 rl2 rs2 st2 r2 post => c2.thenS rl2 rs2 post fun y h3 w φ3 S3 H3 rl3 rs3 st3 r3 post => ?_⟩⟩
  cases x with
  | cell n =>
    cases y with
    | int k =>
      simp only at post
      split at post
      · next xs hx =>
        split at post
        · next j hj =>
          have r2' : Rp X.K φ3 S3 u (.cell n) := Rp.mono st3.prefix st3.sub r2
          have r1' : Rp X.K φ3 S3 v d := Rp.mono (st2.trans st3).prefix (st2.trans st3).sub r1
          obtain ⟨a, ws, rfl, hn, ho, rw_⟩ := rl3.cell r2' hx
          cases (show Rp _ _ _ _ _ from r3)
          obtain ⟨q1, q2⟩ := rl3.put hn (c := .lst (xs.set j d)) (o := .lst (ws.set j v)) ⟨_, rfl, rw_.set r1' j⟩
          exact ⟨a, ws, k, j, rfl, rfl, ho, by rw [rw_.length]; exact hj, post _ φ3 S3 _ q1 rs3 q2⟩
        · exact post.elim
      · exact post.elim
    | _ => exact post.elim
  | _ => exact post.elim

/-! ### raise C('..'), a class of one's own over ValueError -/
structure ExcT (K : PySem.W.Frag) (mg : Str → Option Value) (x : Str) (C : Addr) : Prop where
  g : mg x = some (.ref C)
  exc : PySem.W.excIn K C [.type "ValueError", .type "Exception", .type "BaseException", .type "object"] "ValueError.__new__" = true
  keep : PySem.W.keepIn K (.ref C) = true
  sub : PySem.W.subIn K (.ref C) (.type "BaseException") = some true
  ty : PySem.W.typeIn K (.ref C) = some (.type "type")
def sRaise (C : Str) : SS := fun σ h => .exc ⟨C, none⟩ σ h
theorem qs_raise {x m : Str} {j : Nat} {p p2 p3 : Pos} (T : ExcT X.K X.mg x (He.ga X.K x)) (tk : Takes X W) (hg : Gl X x := by rfl) (hdb : (x == ("__debug__" : Str)) = false := by decide) (hc : X.calm = true := by rfl) :
    QS X W (.Raise (some (.Call (.Name x p) [.Constant (.str m) j p2] [] pos)) none p3) (sRaise x) :=
  ⟨_, ps_raise hc tk (pmk_own PySem.F.excBase_ValueError T.exc T.g T.keep (raises_own T.sub T.ty) hg hdb), ⟨fun {φ S H h σv σ D} rl rs post => post σ (.ref (He.ga X.K x)) none φ S H rl rs (Step.refl _ _ _) ⟨rfl, rfl⟩⟩⟩
end
/-! ### the law's own end -/
theorem law_sp {K : PySem.W.Frag} {sem : List D → Hv → R D} {n : Nat} (hs : ∀ ns : List Int, ns.length ≤ n → sem [.fz (ns.map .int)] [] = .ok (.bl true) []) (H : Hp) (a : Addr) (ns : List Int) (hl : ns.length ≤ n) (hS : SqL K H a (ns.map V.int)) :
    spOf K sem [.ref a] H (fun v _ => v = .bl true) fun _ _ _ => False := by
  refine ⟨[], H, [], [.fz (ns.map .int)], Rel.bare (Ex.refl H), .cons (.fz hS (.of_ints ns)) .nil, ?_⟩
  rw [hs ns hl]
  intro v φ' S' H' r2 st rv
  cases (show Rp _ _ _ _ _ from rv)
  rfl
end
end VD

set_option Elab.async false
set_option linter.all false
set_option maxRecDepth 100000
set_option maxHeartbeats 4000000
namespace VD
open PySem PySem.Spec PyProof.Rows L2
noncomputable section
/-! ### isinstance of plain values -/
def tyName (h : Hv) : D → Option String
  | .non => some "NoneType"
  | .bl _ => some "bool"
  | .int _ => some "int"
  | .str _ => some "str"
  | .lst _ => some "list"
  | .fz _ => some "list"
  | .tup _ => some "tuple"
  | .cell n => match h[n]? with
    | some (.lst _) => some "list"
    | some (.dK _) => some "dict"
    | _ => none
  | .dct _ _ => some "dict"
  | _ => none
theorem tyx_l {K : PySem.W.Frag} {H : Hp} {a : Addr} {vs : List V} (h : SqL K H a vs) : TyX K H (.ref a) (.type "list") := by
  rcases h with (h | ⟨o, h⟩) | ⟨o, its, n, h1, h2, _⟩
  · exact .base (.lst h)
  · exact .base (.frz h)
  · exact .kList h1 h2
theorem tyx_t {K : PySem.W.Frag} {H : Hp} {a : Addr} {vs : List V} (h : SqT K H a vs) : TyX K H (.ref a) (.type "tuple") := by
  rcases h with (h | ⟨o, h⟩) | ⟨o, its, n, h1, h2, _⟩
  · exact .base (.tup h)
  · exact .fTuple h
  · exact .kTuple h1 h2
theorem tyName_ok {K : PySem.W.Frag} {φ : List Addr} {S H : Hp} {h : Hv} {d : D} {v : V} {t : String} (rl : Rel K φ S H h) (r : Rp K φ S v d) (e : tyName h d = some t) : TyX K H v (.type t) := by
  cases r with
  | non => cases e; exact .base .non
  | bl b => cases e; exact .base (.bl b)
  | int i => cases e; exact .base (.int i)
  | str x => cases e; exact .base (.str x)
  | lst h1 h2 => cases e; exact .base (.lst (rl.sub _ _ h1))
  | fz h1 h2 => cases e; exact tyx_l (rl.sub.sql h1)
  | tup h1 h2 => cases e; exact tyx_t (rl.sub.sqt h1)
  | @cell a n h1 =>
    obtain ⟨c, hc⟩ := rl.at h1
    obtain ⟨_, o, ho, rc⟩ := rl.cel _ _ _ h1 hc
    simp only [tyName] at e
    rw [hc] at e
    cases c with
    | lst ds =>
      obtain ⟨vs, rfl, ra⟩ := rc
      cases e
      exact .base (.lst ho)
    | dK kvs =>
      obtain ⟨vs, rfl, _⟩ := rc
      cases e
      exact .base (.dK ho)
    | dF kvs => cases e
    | ins C fs => cases e
    | dN w kvs => cases e
  | dct h1 h2 h3 => cases e; exact .fDict (rl.sub _ _ h1)
  | _ => cases e
section
variable {X : Cx} {W : WX} {K : PySem.W.Frag} {a b c e : Expr} {fa fb fc : ES} {pos p p2 apos : Pos}
def eIsi (T : String) (f : ES) : ES := fun σ h => (f σ h).bind fun d h1 => match (tyName h1 d).bind fun t => kitB t T with
  | some r => .ok (.bl r) h1
  | none => .stuck
theorem se_isi {T : String} {tx : Str} (hm : X.mg "isinstance" = none) (hm2 : X.mg tx = none) (hv : bootBuiltins tx = some (.type T)) (ha : SE X W a fa) (hg : Gl X "isinstance" := by rfl) (hg2 : Gl X tx := by rfl) (hn : tx ≠ "__name__" := by decide) (hdb : (tx == ("__debug__" : Str)) = false := by decide)
    (h1 : starEach [.Name tx p2] X.env = (false, eval (.Name tx p2) X.env) :: starEach [] X.env := by rfl)
    (he : starEach (a :: [.Name tx p2]) X.env = (false, eval a X.env) :: starEach [.Name tx p2] X.env := by rfl) (hpl : (backTo pos (starEach [.Name tx p2] X.env)).any (·.1) = false := by rfl) :
    SE X W (.Call (.Name "isinstance" p) [a, .Name tx p2] [] pos) (eIsi T fa) := by
  obtain ⟨ta, k1, k2⟩ := ha
  have hT : PE X (.Name tx p2) (tC (.ty T)) := pe_bltn hg2 hm2 hv rfl hn hdb
  have hA : PA X [a, .Name tx p2] (tCons ta (tCons (tC (.ty T)) tNil)) := pa_cons k1 (pa_cons hT pa_nil h1) he
  refine ⟨_, pe_callB call_isi hg hm (by decide +kernel) hA (by decide) (by decide) he hpl, ⟨fun rl rs post => k2.bind rl rs post fun d h1 v φ1 S1 H1 rl1 rs1 st rp post => ?_⟩⟩
  cases q : tyName h1 d with
  | none => simp only [q, Option.bind_none] at post; exact post.elim
  | some t =>
    simp only [q, Option.bind_some] at post
    cases q2 : kitB t T with
    | none => simp only [q2] at post; exact post.elim
    | some r =>
      simp only [q2] at post
      exact ⟨v, .ty T, .type t, .type T, r, rfl, .ty T, tyName_ok rl1 rp q, kit_ty q2, post _ φ1 S1 H1 rl1 (Step.refl _ _ _) (.bl r)⟩
/-! ### a < b < c -/
def eChain (o1 o2 : D → D → Hv → R D) (fa fb fc : ES) : ES := fun σ h => (fa σ h).bind fun x h1 => (fb σ h1).bind fun y h2 => (o1 x y h2).bind fun z h3 => match z with
  | .bl true => (fc σ h3).bind fun u h4 => o2 y u h4
  | .bl false => .ok (.bl false) h3
  | _ => .stuck
theorem sn_chain {r r' : R2} {o1 o2 : D → D → Hv → R D} {ta tb tc : TE} (hr : OpS X.K r o1) (hr' : OpS X.K r' o2) (h2 : Sn X.K (repV X.K) W ta fa) (k2 : Sn X.K (repV X.K) W tb fb) (l2 : Sn X.K (repV X.K) W tc fc) : Sn X.K (repV X.K) W (tChain r r' ta tb tc) (eChain o1 o2 fa fb fc) := ⟨fun rl rs post =>
  h2.bind rl rs post fun x h1 v φ1 S1 H1 rl1 rs1 st rp post =>
  k2.bind rl1 rs1 post fun y h2 u φ2 S2 H2 rl2 rs2 st2 rp2 post =>
  hr rl2 (Rp.mono st2.prefix st2.sub rp) rp2 (post.map fun z h3 zv φ3 S3 H3 rl3 st3 rz post => by
    cases z with
    | bl k =>
      cases (show Rp _ _ _ _ _ from rz)
      cases k with
      | true => exact ⟨true, rfl, l2.bind rl3 (rs2.step st3) (Post.up st3 post) fun w h4 wv φ4 S4 H4 rl4 rs4 st4 rp4 post => hr' rl4 (Rp.mono (st3.trans st4).prefix (st3.trans st4).sub rp2) rp4 post⟩
      | false => exact ⟨false, rfl, post _ φ3 S3 H3 rl3 st3 (.bl false)⟩
    | _ => exact post.elim)⟩
theorem se_chain {op op' : CmpOp} {r r' : R2} {o1 o2 : D → D → Hv → R D} (ho : OpR X (compareOp op) r) (hr : OpS X.K r o1) (ho' : OpR X (compareOp op') r') (hr' : OpS X.K r' o2) (ha : SE X W a fa) (hb : SE X W b fb) (hc : SE X W c fc)
    (hm : lastMarks [op, op'] [b, c] = false := by with_unfolding_all rfl) : SE X W (.Compare a [op, op'] [b, c] pos) (eChain o1 o2 fa fb fc) := by
  obtain ⟨ta, h1, h2⟩ := ha
  obtain ⟨tb, k1, k2⟩ := hb
  obtain ⟨tc, l1, l2⟩ := hc
  exact ⟨_, pe_chain ho ho' h1 k1 l1 hm, sn_chain hr hr' h2 k2 l2⟩
theorem st_chain {op op' : CmpOp} {r r' : R2} {o1 o2 : D → D → Hv → R D} (ho : OpR X (compareOp op) r) (hr : OpS X.K r o1) (ho' : OpR X (compareOp op') r') (hr' : OpS X.K r' o2) (ha : SE X W a fa) (hb : SE X W b fb) (hc : SE X W c fc)
    (hm : lastMarks [op, op'] [b, c] = false := by with_unfolding_all rfl) : ST X W (.Compare a [op, op'] [b, c] pos) (toB (eChain o1 o2 fa fb fc)) := by
  obtain ⟨ta, h1, h2⟩ := ha
  obtain ⟨tb, k1, k2⟩ := hb
  obtain ⟨tc, l1, l2⟩ := hc
  exact ⟨_, pt_chain ho ho' h1 k1 l1 hm, sn_B (sn_chain hr hr' h2 k2 l2)⟩
/-! ### texts -/
def signsD (x : Str) : List D := x.cps.toList.map fun c => .str ⟨#[c]⟩
def iS (f : ES) : IS := fun σ h => (f σ h).bind fun d h1 => match d with
  | .str x => .ok (signsD x, always) h1
  | _ => .stuck
theorem qi_str {tg : Expr} (he : SE X W e fa) : QI X W tg e (iS fa) := by
  obtain ⟨ta, h1, h2⟩ := he
  refine ⟨_, pi_str h1, ⟨fun rl rs post => h2.bind rl rs post fun d h1 v φ1 S1 H1 rl1 rs1 st rp post => ?_⟩⟩
  cases d with
  | str x =>
    cases (show Rp _ _ _ _ _ from rp)
    refine ⟨x, rfl, post (Its x) φ1 S1 H1 rl1 (Step.refl _ _ _) ⟨fun {i φ S H h} r2 pr ex _ hi => ?_, fun {φ S H h} r2 pr ex _ => ?_⟩⟩
    · unfold signsD at hi ⊢
      rw [List.length_map, Array.length_toList] at hi
      refine ⟨hi, fun y H' yl => ?_⟩
      obtain ⟨rfl, c, hc, rfl⟩ := yl
      refine ⟨S, .str ⟨#[c]⟩, ?_, r2, Step.refl _ _ _, .str _⟩
      rw [List.getElem?_map, Array.getElem?_toList, hc]
      rfl
    · show x.cps.size ≤ (signsD x).length
      unfold signsD
      rw [List.length_map, Array.length_toList]
      exact Nat.le_refl _
  | _ => exact post.elim
def oFind : D → D → Hv → R D := fun x y h => match x, y with
  | .str a, .str b => .ok (.int (Txt.find a b)) h
  | _, _ => .stuck
theorem se_m1 {id : String} {name : Str} {r : V → List V → Hp → VK → Prop} {ro : D → D → Hv → R D} (slot : Slot "str" name id) (ty : typeOf (.builtin id) = pure (.type "method_descriptor")) (rule : MtR X id r)
    (hr : ∀ {φ S H h x y} {v : V} {u : V} {Q : VK} {E : XK}, Rel X.K φ S H h → Rp X.K φ S v x → Rp X.K φ S u y → Post X.K (repV X.K) φ S H (ro x y h) Q E → r v [u] H Q) (hs0 : ∀ {x y h}, ro x y h ≠ .stuck → ∃ z, x = .str z) (ho : SE X W a fa) (he : SE X W b fb)
    (hs : starEach [b] X.env = [(false, eval b X.env)] := by rfl) (hbase : attributeBase a name X.env (eval a X.env) = eval a X.env := by rfl) (hline : (apos.endLine == pos.line) = true := by rfl) :
    SE X W (.Call (.Attribute a name apos) [b] [] pos) (fun σ h => (fa σ h).bind fun x h1 => match x with
      | .str _ => (fb σ h1).bind fun y h2 => ro x y h2
      | _ => .stuck) := by
  obtain ⟨ta, h1, h2⟩ := ho
  obtain ⟨tb, k1, k2⟩ := he
  refine ⟨_, pe_m1 slot ty rule h1 k1 hs hbase hline, ⟨fun rl rs post => h2.bind rl rs post fun x h1 v φ1 S1 H1 rl1 rs1 st rp post => ?_⟩⟩
  cases x with
  | str z =>
    cases (show Rp _ _ _ _ _ from rp)
    exact ⟨⟨z, rfl⟩, k2.bind rl1 rs1 post fun y h2 u φ2 S2 H2 rl2 rs2 st2 rp2 post => hr rl2 (.str z) rp2 post⟩
  | _ => exact post.elim
def eStr1 (ro : D → D → Hv → R D) (fa fb : ES) : ES := fun σ h => (fa σ h).bind fun x h1 => match x with
      | .str _ => (fb σ h1).bind fun y h2 => ro x y h2
      | _ => .stuck
theorem se_find (ho : SE X W a fa) (he : SE X W b fb) (hs : starEach [b] X.env = [(false, eval b X.env)] := by rfl) (hbase : attributeBase a "find" X.env (eval a X.env) = eval a X.env := by rfl) (hline : (apos.endLine == pos.line) = true := by rfl) :
    SE X W (.Call (.Attribute a "find" apos) [b] [] pos) (eStr1 oFind fa fb) := by
  refine se_m1 PySem.F.slot_str_find PySem.F.type_str_find mt_find (ro := oFind) (fun {φ S H h x y v u Q E} rl rx ry post => ?_) (fun {x y h} q => ?_) ho he hs hbase hline
  · cases rx <;> cases ry <;> first
      | exact post.elim
      | exact ⟨_, _, rfl, rfl, post _ φ S H rl (Step.refl _ _ _) (.int _)⟩
  · cases x <;> first
      | exact ⟨_, rfl⟩
      | exact absurd rfl q
def oJoin : D → D → Hv → R D := fun x y h => match x with
  | .str a => (match (sqOf h y).bind (optAll toS) with
    | some ys => if (ys.map (·.length)).sum + ys.length * a.length ≤ 16777216 then .ok (.str (Txt.join a ys)) h else .stuck
    | none => .stuck)
  | _ => .stuck
theorem se_join (ho : SE X W a fa) (he : SE X W b fb) (hs : starEach [b] X.env = [(false, eval b X.env)] := by rfl) (hbase : attributeBase a "join" X.env (eval a X.env) = eval a X.env := by rfl) (hline : (apos.endLine == pos.line) = true := by rfl) :
    SE X W (.Call (.Attribute a "join" apos) [b] [] pos) (eStr1 oJoin fa fb) := by
  refine se_m1 PySem.F.slot_str_join PySem.F.type_str_join mt_join (ro := oJoin) (fun {φ S H h x y v u Q E} rl rx ry post => ?_) (fun {x y h} q => ?_) ho he hs hbase hline
  · cases rx with
    | str z =>
      simp only [oJoin] at post
      split at post
      · next ys hy =>
        split at post
        · next hz =>
          obtain ⟨xs, q1, q2⟩ := Option.bind_eq_some_iff.mp hy
          obtain ⟨p, vs, rfl, g2, g3⟩ := sqOf_ok rl ry q1
          rw [toSs_ok g3 q2] at g2
          exact ⟨z, p, ys, rfl, rfl, g2, hz, post _ φ S H rl (Step.refl _ _ _) (.str _)⟩
        · exact post.elim
      · exact post.elim
    | _ => exact post.elim
  · cases x <;> first
      | exact ⟨_, rfl⟩
      | exact absurd rfl q
end
/-! ### defs by their names -/
def OkF (P : Program) (w : World) (K : PySem.W.Frag) (mg : Str → Option Value) (base : Heap) (k : Nat) (x : Str) (ps : List Str) (sem : List D → Hv → R D) : Prop :=
  ∃ fd, (∃ oc od osl, K.lookup (He.ga K x) = some ⟨oc, od, .func fd, osl⟩) ∧ FnOk P w K mg base (L2.CX P w) k (He.ga K x) fd ps (spOf K sem) ∧ Binds K fd ps [] ∧ mg x = some (.ref (He.ga K x)) ∧ PySem.W.keepIn K (.ref (He.ga K x)) = true
section
variable {P : Program} {w : World} {K : PySem.W.Frag} {mg : Str → Option Value} {base : Heap}
theorem okF_mk {x : Str} {st : Stmt} {fd : FuncData} {N ps : List Str} {k np nl : Nat} {body : SS} (F : Fun K x x st (He.ga K x) fd) (Sc : FnScope N ps (defScope st)) (hps : ps.length = np) (hN : N.length = np + nl) (g : mg x = some (.ref (He.ga K x))) (b : Binds K fd ps [])
    (hbody : ∀ (cdv : Value) (A : Around) (outer : List Env) (s : Shared) (H : Hp) (E : XK), Room k (A.deeper (envOfC x (defScope st) s.heap.objs.size (He.ga K x) cdv)) →
      QB (cxOf (L2.CX P w) P w K mg base N x (defScope st) (He.ga K x) cdv A outer s H E) (fun cls d _ H' => E cls d H') (defBody st) body) : OkF P w K mg base (k + 1) x ps (fnS np nl body) := ⟨fd, let ⟨oc, od, _, _, _, _, _, _, osl, _, lk, _⟩ := F.ex; ⟨oc, od, osl, lk⟩, fn_ok F Sc hps hN hbody, b, g, F.kp⟩
theorem takes_fn {N : List Str} {qual : Str} {scope : Scope} {f : Addr} {cd : Value} {A : Around} {outer : List Env} {s : Shared} {H : Hp} {E : XK} : Takes (cxOf (L2.CX P w) P w K mg base N qual scope f cd A outer s H E) (fun cls d _ H' => E cls d H') := takes_of rfl rfl rfl rfl
theorem passes_fn {N : List Str} {qual : Str} {scope : Scope} {f : Addr} {cd : Value} {A : Around} {outer : List Env} {s : Shared} {H : Hp} {E : XK} :
    PassesOwn (model (cxOf (L2.CX P w) P w K mg base N qual scope f cd A outer s H E).prog (cxOf (L2.CX P w) P w K mg base N qual scope f cd A outer s H E).w) (cxOf (L2.CX P w) P w K mg base N qual scope f cd A outer s H E).A (cxOf (L2.CX P w) P w K mg base N qual scope f cd A outer s H E).env (cxOf (L2.CX P w) P w K mg base N qual scope f cd A outer s H E).xe :=
  passes_of (X := cxOf (L2.CX P w) P w K mg base N qual scope f cd A outer s H E) (K := fun e s'' => L2.CX P w outer H s E e s'') (E₁ := fun e' s'' => L2.CX P w outer H s E e' s'') rfl
end
/-- how a call is told -/
inductive Cm where
  | P | B | M
def Cm.f : Cm → (List D → Hv → R D) → List D → Hv → R D
  | .P => callP
  | .B => callB
  | .M => callM
theorem cm_ok (c : Cm) {K : PySem.W.Frag} {sem : List D → Hv → R D} {φ : List Addr} {S H : Hp} {h : Hv} {ds : List D} {vs : List V} {Q : VK} {E : XK} (rl : Rel K φ S H h) (ra : RpA K φ S vs ds) (post : Post K (repV K) φ S H (c.f sem ds h) Q E) : spOf K sem vs H Q E := by
  cases c with
  | P => exact spOf_P rl ra post
  | B => exact spOf_B rl ra post
  | M => exact spOf_M rl ra post
theorem se_fn {X : Cx} {W : WX} {k : Nat} {ps : List Str} {sem : List D → Hv → R D} {x : Str} {p pos : Pos} {e : Expr} {es : List Expr} {la : LS} (c : Cm)
    (o : OkF X.prog X.w X.K X.mg X.base k x ps sem) (hr : Room k X.A) (tk : Takes X W) (ha : SA X W (e :: es) la)
    (hg : Gl X x := by rfl) (hdb : (x == ("__debug__" : Str)) = false := by decide) (he : starEach (e :: es) X.env = (false, eval e X.env) :: starEach es X.env := by rfl) (hpl : (backTo pos (starEach es X.env)).any (·.1) = false := by rfl) :
    SE X W (.Call (.Name x p) (e :: es) [] pos) (eCa (c.f sem) la) := by
  obtain ⟨fd, _, F, b, g, kp⟩ := o
  exact se_call (cm_ok c) F hr tk g kp b ha hg hdb he hpl
/-! ### the end -/
theorem cx_false {P : Program} {w : World} {outer : List Env} {H : Hp} {s : Shared} {e : Value} {s' : Shared} (z : L2.CX P w outer H s (fun _ _ _ => False) e s') : False := by
  obtain ⟨_, _, _, _, _, _, _, _, _, _, _, _, z⟩ := z
  exact z
theorem excT_of {K : PySem.W.Frag} {mg : Str → Option Value} {x : Str} (g : mg x = some (.ref (He.ga K x))) (c : PySem.W.excIn K (He.ga K x) He.veBase "ValueError.__new__" = true ∧ PySem.W.keepIn K (.ref (He.ga K x)) = true ∧ PySem.W.subIn K (.ref (He.ga K x)) (.type "BaseException") = some true ∧
    PySem.W.typeIn K (.ref (He.ga K x)) = some (.type "type")) : ExcT K mg x (He.ga K x) := ⟨g, c.1, c.2.1, c.2.2.1, c.2.2.2⟩
theorem law_end {P : Program} {w : World} {K : PySem.W.Frag} {mg : Str → Option Value} {h : Heap} {x : Str} {k n : Nat} {fa : Addr} {sem : List D → Hv → R D} {st : Stmt} (KX : K.In h) (hF : ∃ fd, Fun K "law" "law" st (He.ga K "law") fd) (g : mg "law" = some (.ref (He.ga K "law"))) (hmg : mg "law" = some (.ref fa))
    (hb : ∀ fd : FuncData, Fun K "law" "law" st (He.ga K "law") fd → ∀ (s : Shared) (u : Value), BindsTo s fd ⟨[u], []⟩ [(x, u)])
    (o : ∀ base : Heap, OkF P w K mg base k "law" [x] sem) (hs : ∀ ns : List Int, ns.length ≤ n → sem [.fz (ns.map .int)] [] = .ok (.bl true) []) :
    ∃ (K : PySem.W.Frag) (fd : FuncData) (sp : Sp), K.In h ∧ (∀ (s : Shared) (u : Value), BindsTo s fd ⟨[u], []⟩ [(x, u)]) ∧
        (∀ (H : Hp) (a : Addr) (ns : List Int), ns.length ≤ n → Only H → SqL K H a (ns.map V.int) → sp [.ref a] H (fun v _ => v = .bl true) fun _ _ _ => False) ∧
        ∀ base : Heap, K.In base → base.Ns mainGlobals mg → FnOk P w K mg base (L2.CX P w) k fa fd [x] sp := by
  obtain ⟨fd, F⟩ := hF
  have e := g.symm.trans hmg
  cases e
  refine ⟨K, fd, spOf K sem, KX, hb fd F, fun H a ns hl _ hS => law_sp hs H a ns hl hS, fun base _ _ => ?_⟩
  obtain ⟨fd', ⟨oc, od, osl, lk⟩, F', _⟩ := o base
  obtain ⟨oc2, od2, _, _, _, _, _, _, osl2, _, lk2, _⟩ := F.ex
  rw [lk] at lk2
  have e2 : fd' = fd := by
    injection lk2 with lk2
    injection lk2 with _ _ lk2 _
    injection lk2
  subst e2
  exact F'
/-- list(range(n)) -/
noncomputable def lRg1 (f : ES) : LS := fun σ h => (f σ h).bind fun d h1 => match d with
  | .int n => @ite _ ((-(2 ^ 62) ≤ n ∧ n < 2 ^ 62) ∧ n.toNat ≤ 2 ^ 24) (Classical.propDecidable _) (.ok (rgD 0 n.toNat) h1) .stuck
  | _ => .stuck
theorem rgV_rp {K : PySem.W.Frag} {φ : List Addr} {S : Hp} (n : Nat) : ∀ (f : Nat → Int), RpA K φ S ((List.range n).map fun i => V.int (f i)) ((List.range n).map fun i => D.int (f i)) := by
  induction n with
  | zero => intro f; exact .nil
  | succ n ih =>
    intro f
    rw [List.range_succ_eq_map, List.map_cons, List.map_cons, List.map_map, List.map_map]
    exact .cons (.int _) (ih fun i => f (i + 1))
theorem sl_listRg1 {X : Cx} {W : WX} {a : Expr} {fa : ES} {p p2 pos pos2 : Pos} (hml : X.mg "list" = none) (hmr : X.mg "range" = none) (ha : SE X W a fa) (hgl : Gl X "list" := by rfl) (hgr : Gl X "range" := by rfl) (hc : X.calm = true := by rfl)
    (na : starEach [a] X.env = (false, eval a X.env) :: starEach [] X.env := by rfl) (nb : starEach [Expr.Call (.Name "range" p2) [a] [] pos2] X.env = (false, eval (Expr.Call (.Name "range" p2) [a] [] pos2) X.env) :: starEach [] X.env := by rfl) :
    SL X W (.Call (.Name "list" p) [.Call (.Name "range" p2) [a] [] pos2] [] pos) (lRg1 fa) := by
  obtain ⟨ta, h1, h2⟩ := ha
  refine ⟨_, pe_listRg hc hgl hml (prg_1 hgr hmr h1 na) nb, ⟨fun rl rs post => h2.bind rl rs post fun d h1 v φ1 S1 H1 rl1 rs1 st rp post => ?_⟩⟩
  cases d with
  | int n =>
    cases (show Rp _ _ _ _ _ from rp)
    by_cases q : (-(2 ^ 62) ≤ n ∧ n < 2 ^ 62) ∧ n.toNat ≤ 2 ^ 24
    · simp only [if_pos q] at post
      refine ⟨n, rfl, ⟨by decide, by decide, q.1.1, q.1.2, by rw [Int.sub_zero]; exact q.2⟩, fun p hp => ?_⟩
      obtain ⟨r2, s2⟩ := rl1.hold (o := .lst (rgV 0 n)) hp
      refine post (.ref p) φ1 _ _ r2 s2 ⟨p, rgV 0 n, rfl, hp, upd_same, rl1.snone hp, rl1.notin hp, ?_⟩
      unfold rgV rgD
      rw [Int.sub_zero]
      exact rgV_rp _ _
    · simp only [if_neg q] at post
      exact post.elim
  | _ => exact post.elim
/-- a law's end, where what a raise leaves may lean on the world -/
theorem walk_own {lw : PySem.W.OpenLaw} {num lev : Nat} {pr : Program} {ls : List Str} {X1 : (Str → Option Value) → Heap → Prop} {Y1 : World → Heap → Prop} {dr : DefRec} {CC : World → CXT} {nm : Str} (e1 : lw.most = some num) (e2 : num ≤ sizeLine) (e3 : dr.params.defaults = []) (e4 : Room lev callerA)
    (body : ∀ (w : World) (mg : Str → Option Value) (fa : Addr) (h : Heap), Y1 w h → h.Ns mainGlobals mg → mg dr.name = some (.ref fa) → ∃ (K : PySem.W.Frag) (fd : FuncData) (sp : Sp), K.In h ∧ (∀ (s : Shared) (u : Value), BindsTo s fd ⟨[u], []⟩ [(nm, u)]) ∧ (∀ (H : Hp) (a : Addr) (ns : List Int), ns.length ≤ num → Only H → SqL K H a (ns.map V.int) → sp [.ref a] H (fun v _ => v = .bl true) fun _ _ _ => False) ∧ ∀ base : Heap, K.In base → base.Ns mainGlobals mg → FnOk lw.prog w K mg base (CC w) lev fa fd [nm] sp)
    (noX : ∀ (w : World) (H : Hp) (s : Shared) (e : Value) (s' : Shared), CC w [] H s (fun _ _ _ => False) e s' → False) : PySem.W.WalkO pr ls X1 Y1 lw.row.toRowW dr [] (fun f vs => PySem.call f vs) := by
  refine Att.attach_call e1 e3 fun w s0 s1 mg mb fa ob pm cdv doc ad vals nms gg yy q1 q2 q3 q4 q5 q6 q7 q8 => ?_
  obtain ⟨K, fd, sp, kx, kb, ks, kf⟩ := body w mg fa _ yy gg.T.g q4
  exact law_call kx gg.T.g gg.T.b gg.T.builtins gg.T.nolimit q8 q5 q6 (Nat.le_trans q7 e2) e4 kf kb (fun H hO hS => ks H ad nms q7 hO hS) fun H e s' => noX w H s1 e s'
end
end VD

set_option Elab.async false
set_option linter.all false
set_option maxRecDepth 100000
set_option maxHeartbeats 4000000
namespace VD
open PySem PySem.Spec PyProof.Rows L2
noncomputable section
/-! ### defs whose new objects the caller goes on changing -/
mutual
def shD (n : Nat) : D → D
  | .lst ds => .lst (shL n ds)
  | .fz ds => .fz (shL n ds)
  | .tup ds => .tup (shL n ds)
  | .cell m => .cell (n + m)
  | .non => .non
  | .bl b => .bl b
  | .int i => .int i
  | .str x => .str x
  | .raw v => .raw v
  | .dct ks ds => .dct ks (shL n ds)
  | .obj c ks ds => .obj c ks (shL n ds)
  | .exv a dd f d => .exv a dd f (shD n d)
def shL (n : Nat) : List D → List D
  | [] => []
  | d :: ds => shD n d :: shL n ds
end
def shP {κ : Type} (n : Nat) (kvs : List (κ × D)) : List (κ × D) := kvs.map fun p => (p.1, shD n p.2)
def shC (n : Nat) : Cell → Cell
  | .lst ds => .lst (shL n ds)
  | .dK kvs => .dK (shP n kvs)
  | .dF kvs => .dF (shP n kvs)
  | .ins C fs => .ins C (shP n fs)
  | .dN w kvs => .dN w (shP n kvs)
theorem shL_eq (n : Nat) : ∀ ds : List D, shL n ds = ds.map (shD n)
  | [] => rfl
  | d :: ds => by rw [shL, shL_eq n ds]; rfl
section
variable {K : PySem.W.Frag} {φ ψ : List Addr} {S : Hp}
mutual
theorem Rp.sh : ∀ {v : V} {d : D}, Rp K ψ S v d → Rp K (φ ++ ψ) S v (shD φ.length d)
  | _, _, .non => .non
  | _, _, .bl b => .bl b
  | _, _, .int i => .int i
  | _, _, .str x => .str x
  | _, _, .lst h r => .lst h (RpA.sh r)
  | _, _, .fz h r => .fz h (RpA.sh r)
  | _, _, .tup h r => .tup h (RpA.sh r)
  | _, _, .cell (n := n) h => .cell (by rw [List.getElem?_append_right (Nat.le_add_right _ _), Nat.add_sub_cancel_left]; exact h)
  | _, _, .raw v => .raw v
  | _, _, .dct h k r => .dct h k (RpA.sh r)
  | _, _, .obj h k r => .obj h k (RpA.sh r)
  | _, _, .exv h r => .exv h (Rp.sh r)
theorem RpA.sh : ∀ {vs : List V} {ds : List D}, RpA K ψ S vs ds → RpA K (φ ++ ψ) S vs (shL φ.length ds)
  | _, _, .nil => .nil
  | _, _, .cons r t => .cons (Rp.sh r) (RpA.sh t)
end
theorem shP_1 {κ : Type} (n : Nat) (kvs : List (κ × D)) : (shP n kvs).map (·.1) = kvs.map (·.1) := by
  unfold shP
  rw [List.map_map]
  rfl
theorem shP_2 {κ : Type} (n : Nat) (kvs : List (κ × D)) : (shP n kvs).map (·.2) = shL n (kvs.map (·.2)) := by
  unfold shP
  rw [List.map_map, shL_eq, List.map_map]
  rfl
theorem RpC.sh {c : Cell} {o : HO} (h : RpC K ψ S c o) : RpC K (φ ++ ψ) S (shC φ.length c) o := by
  cases c with
  | lst ds =>
    obtain ⟨vs, h1, h2⟩ := h
    exact ⟨vs, h1, h2.sh⟩
  | dK kvs =>
    obtain ⟨vs, h1, h2, h3⟩ := h
    exact ⟨vs, h1, by rw [shP_1]; exact h2, by rw [shP_2]; exact h3.sh⟩
  | dF kvs =>
    obtain ⟨od, vs, h1, h2, h3⟩ := h
    exact ⟨od, vs, h1, by rw [shP_1]; exact h2, by rw [shP_2]; exact h3.sh⟩
  | ins C fs =>
    obtain ⟨dx, vs, h1, h2, h3⟩ := h
    exact ⟨dx, vs, h1, by rw [shP_1]; exact h2, by rw [shP_2]; exact h3.sh⟩
  | dN w kvs =>
    obtain ⟨a, xs, h1, h2, h3, h4⟩ := h
    exact ⟨a, xs, h1, by rw [shP_1]; exact h2, h3, by rw [shP_2]; exact h4.sh⟩
end
/-- the call: run on no objects, its new ones behind the caller's -/
def callC (sem : List D → Hv → R D) (ds : List D) (h : Hv) : R D := match pureD ds with
  | some ds' => (match sem ds' [] with
    | .ok d h' => .ok (shD h.length d) (h ++ h'.map (shC h.length))
    | .exc x [] => .exc x h
    | _ => .stuck)
  | none => .stuck
theorem join_rel {K : PySem.W.Frag} {φ φ' : List Addr} {S H S' H' : Hp} {h h' : Hv} (rl : Rel K φ S H h) (r2 : Rel K φ' S' H' h') (st : Step [] S H φ' S' H') : Rel K (φ ++ φ') S' H' (h ++ h'.map (shC h.length)) ∧ Step φ S H (φ ++ φ') S' H' := by
  obtain ⟨ψ, e, hn⟩ := st.pre
  rw [List.nil_append] at e
  subst e
  have dis : ∀ a ∈ φ, a ∉ φ' := fun a ha hb => by
    have := (rl.mem ha).2
    exact this (hn a hb)
  refine ⟨⟨by rw [List.length_append, List.length_append, List.length_map, rl.len, r2.len], r2.sub, List.nodup_append.mpr ⟨rl.nd, r2.nd, fun a ha b hb e => dis a ha (e ▸ hb)⟩, fun n a c e1 e2 => ?_⟩, ⟨⟨φ', rfl, hn⟩, st.sub, st.old, fun a o e _ => st.keep a o e (fun z => nomatch z), st.there⟩⟩
  by_cases q : n < φ.length
  · rw [List.getElem?_append_left q] at e1
    rw [List.getElem?_append_left (by rw [← rl.len]; exact q)] at e2
    obtain ⟨h1, o, h2, h3⟩ := rl.cel n a c e1 e2
    exact ⟨(st.old a (by rw [h2]; exact fun z => nomatch z)).trans h1, o, st.keep a o h2 (fun z => nomatch z), h3.mono ⟨φ', rfl⟩ st.sub⟩
  · rw [List.getElem?_append_right (by omega)] at e1
    rw [List.getElem?_append_right (by rw [← rl.len]; omega), ← rl.len, List.getElem?_map] at e2
    obtain ⟨c0, hc0, rfl⟩ := Option.map_eq_some_iff.mp e2
    obtain ⟨h1, o, h2, h3⟩ := r2.cel _ a c0 e1 hc0
    exact ⟨h1, o, h2, h3.sh⟩
theorem spOf_C {K : PySem.W.Frag} {sem : List D → Hv → R D} {φ : List Addr} {S H : Hp} {h : Hv} {ds : List D} {vs : List V} {Q : VK} {E : XK} (rl : Rel K φ S H h) (ra : RpA K φ S vs ds) (post : Post K (repV K) φ S H (callC sem ds h) Q E) : spOf K sem vs H Q E := by
  unfold callC at post
  split at post
  · next ds' q =>
    refine ⟨[], S, [], ds', Rel.bare rl.sub, frzA_of (n0 := 0) (h := []) (fun d v d' r e => frz0_ok 12 d v d' r e) ds vs ds' ra q, ?_⟩
    split at post
    · next d h' hs =>
      rw [hs]
      intro v φ' S' H' r2 st rv
      obtain ⟨r3, s3⟩ := join_rel rl r2 st
      rw [← rl.len] at post r3
      exact post v _ _ _ r3 s3 rv.sh
    · next x hs =>
      rw [hs]
      intro cls dd φ' S' H' r2 st rx
      obtain ⟨r3, s3⟩ := join_rel rl r2 st
      have e : φ' = [] := List.length_eq_zero_iff.mp r2.len
      subst e
      rw [List.append_nil] at r3 s3
      rw [List.map_nil, List.append_nil] at r3
      refine post cls dd _ _ _ r3 s3 ⟨rx.1, ?_⟩
      have rx2 := rx.2
      cases hp : x.pay with
      | none => rw [hp] at rx2; exact rx2
      | some p =>
        rw [hp] at rx2
        obtain ⟨dx, v, e2, e3, rv⟩ := rx2
        exact ⟨dx, v, e2, e3, Rp.mono ⟨φ, rfl⟩ (Ex.refl _) rv⟩
    · exact post.elim
  · exact post.elim
def fnU (np nl : Nat) (body : SS) : List D → Hv → R D := fun ds h => if ds.length = np then (match body (ds.map some ++ List.replicate nl none) h with
  | .ret d h' => .ok d h'
  | .exc x _ h' => exitX h.length x h'
  | _ => .stuck) else .stuck
theorem fnU_len {np nl : Nat} {body : SS} {ds : List D} {h : Hv} (e : fnU np nl body ds h ≠ .stuck) : ds.length = np := by
  unfold fnU at e
  split at e
  · next q => exact q
  · exact absurd rfl e
section
variable {P : Program} {w : World} {K : PySem.W.Frag} {mg : Str → Option Value} {base : Heap}
theorem fnU_ok {x qual : Str} {st : Stmt} {f : Addr} {fd : FuncData} {N ps : List Str} {k np nl : Nat} {body : SS} (F : Fun K x qual st f fd) (Sc : FnScope N ps (defScope st)) (hps : ps.length = np) (hN : N.length = np + nl)
    (hbody : ∀ (cdv : Value) (A : Around) (outer : List Env) (s : Shared) (H : Hp) (E : XK), Room k (A.deeper (envOfC qual (defScope st) s.heap.objs.size f cdv)) →
      QB (cxOf (L2.CX P w) P w K mg base N qual (defScope st) f cdv A outer s H E) (fun cls d _ H' => E cls d H') (defBody st) body) : FnOk P w K mg base (L2.CX P w) (k + 1) f fd ps (spOf K (fnU np nl body)) := by
  refine F.okX Sc (fun vs H Q E h => ?_) (fun cdv A outer s H vs Q E hr h => ?_)
  · obtain ⟨φ, S, h, ds, rl, ra, post⟩ := h
    rw [ra.length, hps]
    refine fnU_len (nl := nl) (body := body) (h := h) fun z => ?_
    rw [z] at post
    exact post.elim
  · obtain ⟨φ, S, h, ds, rl, ra, post⟩ := h
    obtain ⟨t, h1, h2⟩ := hbody cdv A outer s H E hr
    refine ⟨t, h1, h2.run rl (relS_start ra nl N (by
      have hl : ds.length = np := fnU_len (nl := nl) (body := body) (h := h) fun z => by
        rw [z] at post
        exact post.elim
      rw [hl]
      exact hN)) ?_⟩
    unfold fnU at post
    have hl : ds.length = np := by
      refine Classical.byContradiction fun z => ?_
      rw [if_neg z] at post
      exact post.elim
    rw [if_pos hl] at post
    have en : h.length = φ.length := rl.len.symm
    cases hb : body (ds.map some ++ List.replicate nl none) h with
    | next σ' h' => rw [hb] at post; exact post.elim
    | ret d h' =>
      rw [hb] at post
      exact fun v φ' S' H' r2 st rv => post v φ' S' H' r2 st rv
    | brk σ' h' => rw [hb] at post; exact post.elim
    | cont σ' h' => rw [hb] at post; exact post.elim
    | stuck => rw [hb] at post; exact post.elim
    | exc x σ' h' =>
      rw [hb] at post
      intro σ1 cls dd φ' S' H' r2 _ st rx
      simp only [exitX] at post
      obtain ⟨s2, _⟩ := exit_step st r2
      obtain ⟨e1, rx⟩ := rx
      cases hp : x.pay with
      | none =>
        simp only [hp] at post rx
        split at post
        · next h'' q2 =>
          split at post
          · next hn =>
            rw [en] at q2 hn
            exact post cls dd _ _ H' (exit_rel r2 hn q2) s2 ⟨e1, by rw [hp]; exact rx⟩
          · exact post.elim
        · exact post.elim
      | some p =>
        obtain ⟨fl, d⟩ := p
        simp only [hp] at post rx
        obtain ⟨dx, v, e2, e3, rv⟩ := rx
        split at post
        · next d' h'' q1 q2 =>
          split at post
          · next hn =>
            rw [en] at q1 q2 hn
            exact post cls dd _ _ H' (exit_rel r2 hn q2) s2 ⟨e1, dx, v, e2, still_ex r2 _ _ e3, frz_ok r2 _ _ _ _ rv q1⟩
          · exact post.elim
        · exact post.elim
theorem okU_mk {x : Str} {st : Stmt} {fd : FuncData} {N ps : List Str} {k np nl : Nat} {body : SS} (F : Fun K x x st (He.ga K x) fd) (Sc : FnScope N ps (defScope st)) (hps : ps.length = np) (hN : N.length = np + nl) (g : mg x = some (.ref (He.ga K x))) (b : Binds K fd ps [])
    (hbody : ∀ (cdv : Value) (A : Around) (outer : List Env) (s : Shared) (H : Hp) (E : XK), Room k (A.deeper (envOfC x (defScope st) s.heap.objs.size (He.ga K x) cdv)) →
      QB (cxOf (L2.CX P w) P w K mg base N x (defScope st) (He.ga K x) cdv A outer s H E) (fun cls d _ H' => E cls d H') (defBody st) body) : OkF P w K mg base (k + 1) x ps (fnU np nl body) := ⟨fd, let ⟨oc, od, _, _, _, _, _, _, osl, _, lk, _⟩ := F.ex; ⟨oc, od, osl, lk⟩, fnU_ok F Sc hps hN hbody, b, g, F.kp⟩
end
theorem se_fnC {X : Cx} {W : WX} {k : Nat} {ps : List Str} {sem : List D → Hv → R D} {x : Str} {p pos : Pos} {e : Expr} {es : List Expr} {la : LS} (o : OkF X.prog X.w X.K X.mg X.base k x ps sem) (hr : Room k X.A) (tk : Takes X W) (ha : SA X W (e :: es) la)
    (hg : Gl X x := by rfl) (hdb : (x == ("__debug__" : Str)) = false := by decide) (he : starEach (e :: es) X.env = (false, eval e X.env) :: starEach es X.env := by rfl) (hpl : (backTo pos (starEach es X.env)).any (·.1) = false := by rfl) : SE X W (.Call (.Name x p) (e :: es) [] pos) (eCa (callC sem) la) := by
  obtain ⟨fd, _, F, b, g, kp⟩ := o
  exact se_call spOf_C F hr tk g kp b ha hg hdb he hpl
end
end VD

set_option Elab.async false
set_option linter.all false
set_option maxRecDepth 100000
set_option maxHeartbeats 4000000
namespace VD
open PySem PySem.Spec PyProof.Rows L2
noncomputable section
/-! ### try, except -/
/-- the canonical reading of a text whose computing is known -/
def TSof (K : PySem.W.Frag) (W : WX) (ss : SS) : TS := fun D σ H => ∃ φ S h σv, Rel K φ S H h ∧ RelS K φ S σv σ ∧ PostS K φ S H (ss σv h) D W
theorem psof {X : Cx} {W : WX} {st : List Stmt} {ss : SS} (q : QB X W st ss) : PSs X st (TSof X.K W ss) := by
  obtain ⟨t, h1, h2⟩ := q
  refine ⟨fun pins s σ H D I h => ?_⟩
  obtain ⟨φ, S, hv, σv, rl, rs, post⟩ := h
  exact h1.run pins s σ H D I (h2.run rl rs post)
/-- a slot forgotten behind the suite -/
def wipeR (i : Nat) (r : RS) : RS := match r with
  | .next σ h => .next (σ.set i none) h
  | .brk σ h => .brk (σ.set i none) h
  | .cont σ h => .cont (σ.set i none) h
  | .ret d h => .ret d h
  | _ => .stuck
/-- what the slot of a caught error holds -/
def exD (a dd : Addr) : Option (Str × D) → D
  | none => .raw (.ref a)
  | some (f, d) => .exv a dd f d
abbrev exM (a dd : Addr) (p : Option (Str × D)) : Option D := some (exD a dd p)
def exA (dd : Addr) : Option (Str × D) → Option Addr
  | none => none
  | some _ => some dd
/-- a suite's end, where it is the same whatever address the error has -/
def tryA (i : Nat) (p : Option (Str × D)) (s : Addr → Addr → SS) (σ : VS) (h : Hv) : RS := @dite RS (∃ r, ∀ a dd, wipeR i (s a dd (σ.set i (exM a dd p)) h) = r) (Classical.propDecidable _) (fun z => Classical.choose z) (fun _ => .stuck)
theorem tryA_eq {i : Nat} {p : Option (Str × D)} {s : Addr → Addr → SS} {σ : VS} {h : Hv} {r : RS} (e : ∀ a dd, wipeR i (s a dd (σ.set i (exM a dd p)) h) = r) : tryA i p s σ h = r := by
  have z : ∃ r, ∀ a dd, wipeR i (s a dd (σ.set i (exM a dd p)) h) = r := ⟨r, e⟩
  unfold tryA
  rw [dif_pos z]
  rw [← Classical.choose_spec z 0 0]
  exact e 0 0
theorem tryA_at {i : Nat} {p : Option (Str × D)} {s : Addr → Addr → SS} {σ : VS} {h : Hv} (n : tryA i p s σ h ≠ .stuck) (a dd : Addr) : wipeR i (s a dd (σ.set i (exM a dd p)) h) = tryA i p s σ h := by
  by_cases z : ∃ r, ∀ a dd, wipeR i (s a dd (σ.set i (exM a dd p)) h) = r
  · obtain ⟨r, e⟩ := z
    rw [tryA_eq e]
    exact e a dd
  · unfold tryA at n
    rw [dif_neg z] at n
    exact absurd rfl n
/-- try: body; except y as (slot i): suite; tb tells whether a class is under another -/
def sTryAs (tb : Str → Str → Option Bool) (y : Str) (i : Nat) (suite : Xn → Addr → Addr → SS) (body : SS) : SS := fun σ h => match body σ h with
  | .exc x σ' h' => (match tb x.cls y with
    | some true => tryA i x.pay (suite x) σ' h'
    | some false => .exc x σ' h'
    | none => .stuck)
  | r => r
def W00 : WX := fun _ _ _ _ => False
/-- what the table says is so -/
def TabOk (K : PySem.W.Frag) (tb : Str → Str → Option Bool) : Prop := ∀ x y b, tb x y = some b → PySem.W.exmOne K (.ref (He.ga K x)) (.ref (He.ga K y)) = some b
theorem qs_try_as {X : Cx} {W : WX} {y n : Str} {i : Nat} {body suite : List Stmt} {b₀ : Stmt} {np pos pos' : Pos} {tb : Str → Str → Option Bool} {bs : SS} {den : Xn → Addr → Addr → SS} (tk : Takes X W) (tok : TabOk X.K tb) (g : X.mg y = some (.ref (He.ga X.K y)))
    (hb : ∀ (W : WX) (pn : List (Addr × Obj)) (xe : Value → Shared → Prop), Takes (X.tr pn xe) W → PassesOwn (model X.prog X.w) X.A X.env xe → QB (X.tr pn xe) W body bs)
    (hsu : ∀ (x : Xn) (a dd : Addr) (oe : Obj) (pn : List (Addr × Obj)), tb x.cls y = some true → Zc (.ref (He.ga X.K x.cls)) (exA dd x.pay) oe → (∃ vs, oe.data = .fields vs) → QB (X.suite a ((a, oe) :: pn)) W00 (b₀ :: suite) (den x a dd))
    (hN : X.N.Nodup) (hi : X.N[i]? = some n := by rfl) (hs : X.stack = X.env :: X.outer := by rfl) (hf : X.env.frame = some X.env.locals := by rfl) (hln : X.env.kindOf n = some .local := by rfl) (hg : Gl X y := by rfl) (hdb : (y == ("__debug__" : Str)) = false := by decide) :
    QS X W (.Try body [.ExceptHandler (some (.Name y np)) (some n) (b₀ :: suite) pos'] [] [] pos) (sTryAs tb y i den bs) := by
  refine ⟨_, ps_try_as (ts := fun a cls d D σ H => ∃ (x : Xn) (dd : Addr), tb x.cls y = some true ∧ cls = .ref (He.ga X.K x.cls) ∧ d = exA dd x.pay ∧ TSof X.K W00 (den x a dd) D σ H) (tb := fun W => TSof X.K W bs) (Wout := W) hs hf hN hi hln ⟨hg, hdb, .inl g⟩ tk (fun W pn xe t1 t2 => psof (hb W pn xe t1 t2)) (fun a oe cls d pn z hfl => ⟨fun pins s σ H D I h => ?_⟩), ⟨fun {φ S H h σv σ D} rl rs post => ?_⟩⟩
  · obtain ⟨x, dd, hc, rfl, rfl, h⟩ := h
    exact (psof (hsu x a dd oe pn hc z hfl)).run pins s σ H D I h
  · refine ⟨φ, S, h, σv, rl, rs, ?_⟩
    unfold sTryAs at post
    cases qb : bs σv h with
    | next σ' h' => simp only [qb] at post; exact post
    | brk σ' h' => simp only [qb] at post; exact post
    | cont σ' h' => simp only [qb] at post; exact post
    | ret d h' => simp only [qb] at post; exact post
    | stuck => simp only [qb] at post; exact post.elim
    | exc x σ' h' =>
      simp only [qb] at post
      intro σ1 cls dd φ' S' H' r2 rs2 st rx
      obtain ⟨e1, rx2⟩ := rx
      subst e1
      cases qt : tb x.cls y with
      | none => simp only [qt] at post; exact post.elim
      | some b =>
        refine ⟨b, tok _ _ _ qt, fun hb1 a ha => ?_, fun hb1 => ?_⟩
        · subst hb1
          simp only [qt] at post
          have nst : tryA i x.pay (den x) σ' h' ≠ .stuck := fun z => by rw [z] at post; exact post.elim
          obtain ⟨d0, ed, rm⟩ : ∃ d0, dd = exA d0 x.pay ∧ Rp X.K φ' S' (.ref a) (exD a d0 x.pay) := by
            cases qp : x.pay with
            | none =>
              rw [qp] at rx2
              exact ⟨0, rx2, .raw _⟩
            | some p =>
              obtain ⟨f, d⟩ := p
              rw [qp] at rx2
              obtain ⟨dx, v, e1, e2, e3⟩ := rx2
              exact ⟨dx, e1, .exv e2 e3⟩
          refine ⟨x, d0, qt, rfl, ed, φ', S', h', σ'.set i (exM a d0 x.pay), r2, rs2.set rm i, ?_⟩
          rw [← tryA_at nst a d0] at post
          cases qd : den x a d0 (σ'.set i (exM a d0 x.pay)) h' with
          | next σ2 h2 =>
            simp only [qd, wipeR] at post
            exact fun σ3 φ3 S3 H3 r3 rs3 st3 => post _ φ3 S3 H3 r3 (rs3.unset i none) (st.trans st3)
          | brk σ2 h2 =>
            simp only [qd, wipeR] at post
            exact fun σ3 φ3 S3 H3 r3 rs3 st3 => post _ φ3 S3 H3 r3 (rs3.unset i none) (st.trans st3)
          | cont σ2 h2 =>
            simp only [qd, wipeR] at post
            exact fun σ3 φ3 S3 H3 r3 rs3 st3 => post _ φ3 S3 H3 r3 (rs3.unset i none) (st.trans st3)
          | ret d h2 =>
            simp only [qd, wipeR] at post
            exact fun v φ3 S3 H3 r3 st3 rv => post v φ3 S3 H3 r3 (st.trans st3) rv
          | exc x2 σ2 h2 => simp only [qd, wipeR] at post; exact post.elim
          | stuck => simp only [qd, wipeR] at post; exact post.elim
        · subst hb1
          simp only [qt] at post
          exact post σ1 (.ref (He.ga X.K x.cls)) dd φ' S' H' r2 rs2 st ⟨rfl, rx2⟩
/-- try: body; except y: suite -/
def sTryO (tb : Str → Str → Option Bool) (y : Str) (suite : SS) (body : SS) : SS := fun σ h => match body σ h with
  | .exc x σ' h' => (match tb x.cls y with
    | some true => (match suite σ' h' with
      | .exc _ _ _ => .stuck
      | r => r)
    | some false => .exc x σ' h'
    | none => .stuck)
  | r => r
theorem qs_try_only {X : Cx} {W : WX} {y : Str} {body suite : List Stmt} {b₀ : Stmt} {np pos pos' : Pos} {tb : Str → Str → Option Bool} {bs : SS} {den : SS} (tk : Takes X W) (tok : TabOk X.K tb) (g : X.mg y = some (.ref (He.ga X.K y)))
    (hb : ∀ (W : WX) (pn : List (Addr × Obj)) (xe : Value → Shared → Prop), Takes (X.tr pn xe) W → PassesOwn (model X.prog X.w) X.A X.env xe → QB (X.tr pn xe) W body bs)
    (hsu : ∀ (a : Addr) (oe : Obj) (pn : List (Addr × Obj)), QB (X.suite a ((a, oe) :: pn)) W00 (b₀ :: suite) den)
    (hs : X.stack = X.env :: X.outer := by rfl) (hf : X.env.frame = some X.env.locals := by rfl) (hg : Gl X y := by rfl) (hdb : (y == ("__debug__" : Str)) = false := by decide) :
    QS X W (.Try body [.ExceptHandler (some (.Name y np)) none (b₀ :: suite) pos'] [] [] pos) (sTryO tb y den bs) := by
  refine ⟨_, ps_try_only (ts := fun a cls d D σ H => TSof X.K W00 den D σ H) (tb := fun W => TSof X.K W bs) (Wout := W) hs hf ⟨hg, hdb, .inl g⟩ tk (fun W pn xe t1 t2 => psof (hb W pn xe t1 t2)) (fun a oe cls d pn z hfl => ⟨fun pins s σ H D I h => ?_⟩), ⟨fun {φ S H h σv σ D} rl rs post => ?_⟩⟩
  · exact (psof (hsu a oe pn)).run pins s σ H D I h
  · refine ⟨φ, S, h, σv, rl, rs, ?_⟩
    unfold sTryO at post
    cases qb : bs σv h with
    | next σ' h' => simp only [qb] at post; exact post
    | brk σ' h' => simp only [qb] at post; exact post
    | cont σ' h' => simp only [qb] at post; exact post
    | ret d h' => simp only [qb] at post; exact post
    | stuck => simp only [qb] at post; exact post.elim
    | exc x σ' h' =>
      simp only [qb] at post
      intro σ1 cls dd φ' S' H' r2 rs2 st rx
      obtain ⟨e1, rx2⟩ := rx
      subst e1
      cases qt : tb x.cls y with
      | none => simp only [qt] at post; exact post.elim
      | some b =>
        refine ⟨b, tok _ _ _ qt, fun hb1 a ha => ?_, fun hb1 => ?_⟩
        · subst hb1
          simp only [qt] at post
          refine ⟨φ', S', h', σ', r2, rs2, ?_⟩
          cases qd : den σ' h' with
          | next σ2 h2 =>
            simp only [qd] at post
            exact PostS.up st post
          | brk σ2 h2 =>
            simp only [qd] at post
            exact PostS.up st post
          | cont σ2 h2 =>
            simp only [qd] at post
            exact PostS.up st post
          | ret d h2 =>
            simp only [qd] at post
            exact PostS.up st post
          | exc x2 σ2 h2 => simp only [qd] at post; exact post.elim
          | stuck => simp only [qd] at post; exact post.elim
        · subst hb1
          simp only [qt] at post
          exact post σ1 (.ref (He.ga X.K x.cls)) dd φ' S' H' r2 rs2 st ⟨rfl, rx2⟩
/-! ### facts of classes -/
/-- what is asked of the classes: one's own exceptions; one under another; isinstance -/
inductive Ef where
  | exc (x : Str)
  | sub (x y : Str) (b : Bool)
  | isa (x y : Str) (b : Bool)
  | isT (x : Str) (T : String) (b : Bool)
  | oex (x : Str)
  | nof (x f : Str)
  | bi (x : Str)
def excB (K : PySem.W.Frag) (D : Addr) : Bool := decide (PySem.W.findIn K (.ref D) "__getattribute__" = some (some (.builtin "BaseException.__getattribute__"))) && (decide (PySem.W.findIn K (.ref D) "__getattr__" = some none) && (decide (PySem.W.subIn K (.ref D) (.type "BaseException") = some true) && (PySem.W.hasDictIn K D && (decide (PySem.W.findIn K (.ref D) "__class__" = some (some (.builtin "object.__class__"))) && (decide (PySem.W.specialIn K (.builtin "object.__class__") "__get__" = some (some (.builtin "getset_descriptor.__get__"))) && (decide (PySem.W.takesIn K (.builtin "object.__class__") = some true) && decide (PySem.W.mroIn K D (.type "object") = some true)))))))
theorem and_of {a b : Bool} (h : (a && b) = true) : a = true ∧ b = true := by
  cases a <;> cases b <;> first | exact ⟨rfl, rfl⟩ | cases h
theorem excB_ok {K : PySem.W.Frag} {D : Addr} (h : excB K D = true) : ExcC K D := by
  unfold excB at h
  obtain ⟨a1, h⟩ := and_of h
  obtain ⟨a2, h⟩ := and_of h
  obtain ⟨a3, h⟩ := and_of h
  obtain ⟨a4, h⟩ := and_of h
  obtain ⟨a5, h⟩ := and_of h
  obtain ⟨a6, h⟩ := and_of h
  obtain ⟨a7, a8⟩ := and_of h
  exact ⟨of_decide_eq_true a1, of_decide_eq_true a2, of_decide_eq_true a3, a4, of_decide_eq_true a5, of_decide_eq_true a6, of_decide_eq_true a7, of_decide_eq_true a8⟩
/-- a class of errors with an __init__ of its own -/
def oexB (K : PySem.W.Frag) (C : Addr) : Bool := (match K.lookup C with
  | some ⟨.type "type", _, .cls cd, sl⟩ => (match cd.mro, sl.toList with
    | .ref C' :: bm, [_, _, _, _, some (.builtin n), _] => decide (C' = C) && (decide (n = "ValueError.__new__") && (!cd.hasDel && (cd.hasDict && PySem.HandSPX.refsVE bm)))
    | _, _ => false)
  | _ => false) && (decide (PySem.W.findIn K (.ref C) "__setattr__" = some (some (.builtin "object.__setattr__"))) && (decide (PySem.W.subIn K (.ref C) (.type "BaseException") = some true) && (decide (PySem.W.typeIn K (.ref C) = some (.type "type")) && PySem.W.keepIn K (.ref C))))
theorem oexB_ok {K : PySem.W.Frag} {C : Addr} (h : oexB K C = true) : OexC K C := by
  obtain ⟨q, h⟩ := and_of h
  obtain ⟨h1, h⟩ := and_of h
  obtain ⟨h2, h⟩ := and_of h
  obtain ⟨h3, h4⟩ := and_of h
  refine ⟨?_, of_decide_eq_true h1, of_decide_eq_true h2, of_decide_eq_true h3, h4⟩
  split at q
  · rename_i dd cd sl ho
    split at q
    · rename_i C' bm k0 k1 k2 k3 n k5 hm hs
      obtain ⟨q1, q⟩ := and_of q
      obtain ⟨q2, q⟩ := and_of q
      obtain ⟨q3, q⟩ := and_of q
      obtain ⟨q4, q5⟩ := and_of q
      cases of_decide_eq_true q1
      cases of_decide_eq_true q2
      obtain ⟨cn, cb, cm, cns, cq, chd, csn, csub, cab, ccol, cdl⟩ := cd
      dsimp only at hm q3 q4
      subst hm q4
      have q3 : cdl = false := by cases cdl <;> first | rfl | cases q3
      subst q3
      have esl : sl = #[k0, k1, k2, k3, some (.builtin "ValueError.__new__"), k5] := Array.toList_inj.mp hs
      subst esl
      exact ⟨cn, cq, cns, cb, bm, csn, csub, cab, ccol, dd, k0, k1, k2, k3, k5, ho, q5⟩
    · cases q
  · cases q
/-- a class whose __init__ is ValueError's -/
def biB (K : PySem.W.Frag) (C : Addr) : Bool := PySem.W.readsIn K C (.type "type") && (decide (PySem.W.specialIn K (.ref C) "__getattribute__" = some (some (.builtin "type.__getattribute__"))) && (match PySem.W.findCls K (.ref C) (.type "type") "__init__" with
  | some (.val (.builtin s)) => decide (s = "ValueError.__init__")
  | _ => false))
def Ef.ok (K : PySem.W.Frag) : Ef → Bool
  | .exc x => excB K (He.ga K x)
  | .sub x y b => decide (PySem.W.exmOne K (.ref (He.ga K x)) (.ref (He.ga K y)) = some b)
  | .isa x y b => decide (PySem.W.kitOne K (.ref (He.ga K x)) (.ref (He.ga K y)) = some b)
  | .isT x T b => decide (PySem.W.kitOne K (.ref (He.ga K x)) (.type T) = some b)
  | .oex x => oexB K (He.ga K x)
  | .nof x f => decide (PySem.W.findIn K (.ref (He.ga K x)) f = some none)
  | .bi x => biB K (He.ga K x)
def obsE (n : Nat) (fa : List He.Fa) (fn : List He.DefD) (ef : List Ef) (g : Addr → Option Obj) : He.AlD × Bool := (He.obsD fa fn (He.frG g ((He.asD g n ++ [cStatics]))), ef.all fun f => f.ok (He.frG g ((He.asD g n ++ [cStatics]))))
def hookE (n : Nat) (fa : List He.Fa) (fn : List He.DefD) (ef : List Ef) : PySem.W.Hook where
  α := He.AlD × Bool
  obs := fun s => obsE n fa fn ef s.heap.get?
  val := fun _ => (He.valD fn, true)
  says := fun _ h => ∃ K : PySem.W.Frag, K.In h ∧ He.SaysD fa fn K ∧ (ef.all fun f => f.ok K) = true
  of := fun _ _ e => ⟨_, He.frG_in, congrArg (fun z : He.AlD × Bool => z.1) e, congrArg (fun z : He.AlD × Bool => z.2) e⟩
  keeps := fun _ _ _ z k => by
    obtain ⟨K, hK, c, d⟩ := z
    exact ⟨K, PySem.W.Frag.In.keeps hK k, c, d⟩
theorem obsE_eq {n : Nat} {fa : List He.Fa} {fn : List He.DefD} {ef : List Ef} {g : Addr → Option Obj} {s : Shared} (h : ∀ a, g a = s.heap.get? a) : obsE n fa fn ef g = (hookE n fa fn ef).obs s := by
  have e : g = s.heap.get? := funext h
  rw [e] <;> rfl
theorem ef_at {K : PySem.W.Frag} {ef : List Ef} (h : (ef.all fun f => f.ok K) = true) {f : Ef} (hm : f ∈ ef) : f.ok K = true := List.all_eq_true.mp h f hm
/-- the table of what stands there -/
def tabE : List Ef → Str → Str → Option Bool
  | [], _, _ => none
  | .sub a b r :: l, x, y => if a = x ∧ b = y then some r else tabE l x y
  | _ :: l, x, y => tabE l x y
theorem tabE_ok {K : PySem.W.Frag} : ∀ {ef : List Ef}, (ef.all fun f => f.ok K) = true → TabOk K (tabE ef)
  | [], _, x, y, b, e => by cases e
  | f :: l, h, x, y, b, e => by
    rw [List.all_cons] at h
    obtain ⟨h1, h2⟩ := and_of h
    have ih := tabE_ok h2 x y b
    cases f with
    | sub a c r =>
      simp only [tabE] at e
      by_cases q : a = x ∧ c = y
      · rw [if_pos q] at e
        cases e
        obtain ⟨rfl, rfl⟩ := q
        exact of_decide_eq_true h1
      · rw [if_neg q] at e
        exact ih e
    | exc a => exact ih e
    | isa a c r => exact ih e
    | isT a T r => exact ih e
    | oex a => exact ih e
    | nof a f => exact ih e
    | bi a => exact ih e
/-! ### isinstance(e, C), e what the suite holds -/
/-- the slot still holds what was caught -/
def isEx (a dd : Addr) (p : Option (Str × D)) (d : D) : Bool := match p, d with
  | none, .raw (.ref b) => decide (b = a)
  | some _, .exv b d0 _ _ => decide (b = a) && decide (d0 = dd)
  | _, _ => false
theorem isEx_ok {K : PySem.W.Frag} {φ : List Addr} {S : Hp} {a dd : Addr} {p : Option (Str × D)} {d : D} {v : V} (e : isEx a dd p d = true) (r : Rp K φ S v d) : v = .ref a ∧ (exA dd p = none ∨ ∃ fs, exA dd p = some dd ∧ S dd = some (.xd fs)) := by
  unfold isEx at e
  split at e
  · cases r
    exact ⟨by rw [of_decide_eq_true e], .inl rfl⟩
  · obtain ⟨e1, e2⟩ := and_of e
    cases r with
    | exv h1 h2 =>
      cases of_decide_eq_true e1
      cases of_decide_eq_true e2
      exact ⟨rfl, .inr ⟨_, rfl, h1⟩⟩
  · cases e
theorem isEx_exv {a dd b d0 : Addr} {p : Option (Str × D)} {g : Str} {d : D} (e : isEx a dd p (.exv b d0 g d) = true) : b = a ∧ d0 = dd ∧ exA dd p = some dd := by
  cases p with
  | none => cases e
  | some q =>
    have e' : (decide (b = a) && decide (d0 = dd)) = true := e
    obtain ⟨z1, z2⟩ := and_of e'
    exact ⟨of_decide_eq_true z1, of_decide_eq_true z2, rfl⟩
def eIsE (i : Nat) (x : Xn) (a dd : Addr) (r : Bool) : ES := fun σ h => (eVar i σ h).bind fun d h1 => if isEx a dd x.pay d = true then .ok (.bl r) h1 else .stuck
/-- what is known of the exception's own dict -/
def dctX (H : Hp) (d : Option Addr) : Prop := d = none ∨ ∃ dd fs, d = some dd ∧ H dd = some (.xd fs)
theorem inst_ex {X : Cx} {pins : List (Addr × Obj)} {σ : L2.St} {H : Hp} {s : Shared} {a D : Addr} {d : Option Addr} {oe : Obj} {pn : List (Addr × Obj)} (hz : Zc (.ref D) d oe) (hf : ∃ vs, oe.data = .fields vs) (I : Inv (X.suite a ((a, oe) :: pn)) pins σ H s) (hd : dctX H d) : ∃ od, PySem.W.InstAt s.heap a oe D od := by
  obtain ⟨hget, _⟩ := I.pin (a, oe) (List.mem_append.mpr (.inl List.mem_cons_self))
  obtain ⟨vs, hv⟩ := hf
  obtain ⟨oc, od, oda, osl⟩ := oe
  obtain ⟨h1, h2⟩ := hz
  dsimp only at h1 h2 hv
  subst h1 h2 hv
  rcases hd with rfl | ⟨dd, fs, rfl, ea⟩
  · exact ⟨none, hget, rfl, rfl, trivial⟩
  · obtain ⟨mA, hns, hr⟩ := (show ObjOk X.prog X.w H s.heap dd (.xd fs) from I.hok dd _ ea)
    obtain ⟨o2, ho, hl⟩ := lookIn_ns hns
    exact ⟨some o2, hget, rfl, rfl, ho⟩
def rIsX (K : PySem.W.Frag) (D a : Addr) (d : Option Addr) : List V → Hp → VK → Prop := fun xs H Q => ∃ (c : V) (cv : Value) (b : Bool), xs = [.ref a, c] ∧ (∀ u, RelV c u → u = cv) ∧ PySem.W.kitOne K (.ref D) cv = some b ∧ dctX H d ∧ Q (.bl b) H
theorem exc_cls {K : PySem.W.Frag} {D : Addr} (C : ExcC K D) : (PySem.W.clsIn K D).isSome = true := by
  obtain ⟨cd, hc, _⟩ := PySem.W.any_some C.hd
  rw [hc]; rfl
theorem call_isX {X : Cx} {a D : Addr} {d : Option Addr} {oe : Obj} {pn : List (Addr × Obj)} (C : ExcC X.K D) (hz : Zc (.ref D) d oe) (hf : ∃ vs, oe.data = .fields vs) : CallR (X.suite a ((a, oe) :: pn)) (.builtin "isinstance") (rIsX X.K D a d) := by
  intro pins s σ H xs us Q I r h
  obtain ⟨c, cv, b, rfl, hcv, e, hd, q⟩ := h
  cases r with
  | cons rx rr =>
    cases rr with
    | cons rt rr =>
      cases rr
      cases rx
      have ec := hcv _ rt
      subst ec
      obtain ⟨od, J⟩ := inst_ex hz hf I hd
      exact PySem.W.kia_one (PySem.W.kitx_exc (exc_cls C) C.hg C.hk C.hs C.ha C.hn C.ht C.hm) I.kIn J e (fun z => nomatch z) fun tk => ⟨.bl b, H, I.kept (t' := tk) fun _ _ z => z, rfl, q⟩
section
variable {X : Cx} {W : WX} {a D dd : Addr} {x : Xn} {oe : Obj} {pn : List (Addr × Obj)} {e : Expr} {i : Nat} {p p2 pos : Pos} {r : Bool} {y : Str}
theorem dctX_of {K : PySem.W.Frag} {φ : List Addr} {S H : Hp} {h : Hv} {p : Option (Str × VD.D)} (rl : Rel K φ S H h) (z : exA dd p = none ∨ ∃ fs, exA dd p = some dd ∧ S dd = some (.xd fs)) : dctX H (exA dd p) := by
  rcases z with z | ⟨fs, z1, z2⟩
  · exact .inl z
  · exact .inr ⟨dd, fs, z1, rl.sub _ _ z2⟩
theorem se_isE (C : ExcC X.K D) (hz : Zc (.ref D) (exA dd x.pay) oe) (hfl : ∃ vs, oe.data = .fields vs) (hm : X.mg "isinstance" = none) {cv : V} {cu : Value} (hcv : ∀ u, RelV cv u → u = cu) (hk : PySem.W.kitOne X.K (.ref D) cu = some r)
    (ha : SE (X.suite a ((a, oe) :: pn)) W e (eVar i)) (hT : PE (X.suite a ((a, oe) :: pn)) (.Name y p2) (tC cv)) (hg : Gl (X.suite a ((a, oe) :: pn)) "isinstance" := by rfl)
    (h1 : starEach [.Name y p2] (X.suite a ((a, oe) :: pn)).env = (false, eval (.Name y p2) (X.suite a ((a, oe) :: pn)).env) :: starEach [] (X.suite a ((a, oe) :: pn)).env := by rfl)
    (he : starEach (e :: [.Name y p2]) (X.suite a ((a, oe) :: pn)).env = (false, eval e (X.suite a ((a, oe) :: pn)).env) :: starEach [.Name y p2] (X.suite a ((a, oe) :: pn)).env := by rfl) (hpl : (backTo pos (starEach [.Name y p2] (X.suite a ((a, oe) :: pn)).env)).any (·.1) = false := by rfl) :
    SE (X.suite a ((a, oe) :: pn)) W (.Call (.Name "isinstance" p) [e, .Name y p2] [] pos) (eIsE i x a dd r) := by
  obtain ⟨ta, k1, k2⟩ := ha
  have hA : PA (X.suite a ((a, oe) :: pn)) [e, .Name y p2] (tCons ta (tCons (tC cv) tNil)) := pa_cons k1 (pa_cons hT pa_nil h1) he
  refine ⟨_, pe_callB (call_isX C hz hfl) hg hm (by decide +kernel) hA (by decide) (by decide) he hpl, ⟨fun rl rs post => k2.bind rl rs post fun d h1 v φ1 S1 H1 rl1 rs1 st rp post2 => ?_⟩⟩
  by_cases q : isEx a dd x.pay d = true
  · rw [if_pos q] at post2
    obtain ⟨ev, ed⟩ := isEx_ok q rp
    subst ev
    exact ⟨cv, cu, r, rfl, hcv, hk, dctX_of rl1 ed, post2 _ φ1 S1 H1 rl1 (Step.refl _ _ _) (.bl r)⟩
  · rw [if_neg q] at post2
    exact post2.elim
def tCs : List V → TA
  | [] => tNil
  | v :: r => tCons (tC v) (tCs r)
theorem tCs_run : ∀ (cs : List V) {σ : L2.St} {H : Hp} {Q : List V → Hp → Prop}, Q cs H → tCs cs σ H Q
  | [], _, _, _, q => q
  | v :: r, _, _, _, q => tCs_run r q
/-- isinstance(e, (c1, c2, ..)) -/
def rIsET (K : PySem.W.Frag) (D a : Addr) (d : Option Addr) : List V → Hp → VK → Prop := fun xs H Q => ∃ (tp : Addr) (cs : List V) (us : List Value) (b : Bool), xs = [.ref a, .ref tp] ∧ H tp = some (.tup cs) ∧ Paired ClsV cs us ∧ PySem.W.kitAny K (.ref D) us = some b ∧ dctX H d ∧ Q (.bl b) H
theorem call_isET {d : Option Addr} (C : ExcC X.K D) (hz : Zc (.ref D) d oe) (hf : ∃ vs, oe.data = .fields vs) : CallR (X.suite a ((a, oe) :: pn)) (.builtin "isinstance") (rIsET X.K D a d) := by
  intro pins s σ H xs us Q I r0 h
  obtain ⟨tp, cs, ws, b, rfl, hT, k, ek, hd, q⟩ := h
  obtain ⟨u1, u2, rfl, r1, r2⟩ := vals2 r0
  cases (show u1 = Value.ref a from r1)
  cases (show u2 = Value.ref tp from r2)
  obtain ⟨od, J⟩ := inst_ex hz hf I hd
  obtain ⟨_, its, rv, o, g1, g2, n, g3⟩ := (show ObjOk X.prog X.w H s.heap tp (.tup cs) from I.hok tp _ hT)
  have g4 := ClsV.all k rv
  subst g4
  obtain ⟨oc, od, dt, sl⟩ := o
  simp only at g2 g3
  subst g2 g3
  exact PySem.W.kia_tup (PySem.W.kitx_exc (exc_cls C) C.hg C.hk C.hs C.ha C.hn C.ht C.hm) I.kIn J g1 ek (fun z => nomatch z) fun tk => ⟨.bl b, H, I.kept (t' := tk) fun _ _ z => z, rfl, q⟩
theorem se_isET {x1} {pt : Pos} {es : List Expr} {cs : List V} {us : List Value} (C : ExcC X.K D) (hz : Zc (.ref D) (exA dd x.pay) oe) (hfl : ∃ vs, oe.data = .fields vs) (hm : X.mg "isinstance" = none) (k : Paired ClsV cs us) (hl : cs.length ≤ 100) (hk : PySem.W.kitAny X.K (.ref D) us = some r)
    (ha : SE (X.suite a ((a, oe) :: pn)) W e (eVar i)) (hT : PA (X.suite a ((a, oe) :: pn)) es (tCs cs)) (hg : Gl (X.suite a ((a, oe) :: pn)) "isinstance" := by rfl)
    (h1 : starEach [.Tuple es x1 pt] (X.suite a ((a, oe) :: pn)).env = (false, eval (.Tuple es x1 pt) (X.suite a ((a, oe) :: pn)).env) :: starEach [] (X.suite a ((a, oe) :: pn)).env := by rfl)
    (he : starEach (e :: [.Tuple es x1 pt]) (X.suite a ((a, oe) :: pn)).env = (false, eval e (X.suite a ((a, oe) :: pn)).env) :: starEach [.Tuple es x1 pt] (X.suite a ((a, oe) :: pn)).env := by rfl) (hpl : (backTo pos (starEach [.Tuple es x1 pt] (X.suite a ((a, oe) :: pn)).env)).any (·.1) = false := by rfl) :
    SE (X.suite a ((a, oe) :: pn)) W (.Call (.Name "isinstance" p) [e, .Tuple es x1 pt] [] pos) (eIsE i x a dd r) := by
  obtain ⟨ta, k1, k2⟩ := ha
  have hA : PA (X.suite a ((a, oe) :: pn)) [e, .Tuple es x1 pt] (tCons ta (tCons (tTup (tCs cs)) tNil)) := pa_cons k1 (pa_cons (pe_tup hT) pa_nil h1) he
  refine ⟨_, pe_callB (call_isET C hz hfl) hg hm (by decide +kernel) hA (by decide) (by decide) he hpl, ⟨fun rl rs post => k2.bind rl rs post fun d h1 v φ1 S1 H1 rl1 rs1 st rp post2 => ?_⟩⟩
  by_cases q : isEx a dd x.pay d = true
  · rw [if_pos q] at post2
    obtain ⟨ev, ed⟩ := isEx_ok q rp
    subst ev
    refine tCs_run cs ⟨by rw [line_eq]; omega, fun p hp => ?_⟩
    obtain ⟨r2, s2⟩ := rl1.lay (o := .tup cs) hp
    refine ⟨p, cs, us, r, rfl, upd_same, k, hk, ?_, post2 _ φ1 _ _ r2 s2 (.bl r)⟩
    rcases ed with z | ⟨fs, z1, z2⟩
    · exact .inl z
    · exact .inr ⟨dd, fs, z1, r2.sub _ _ (s2.sub _ _ z2)⟩
  · rw [if_neg q] at post2
    exact post2.elim
/-- e.f -/
def eFldE (i : Nat) (x : Xn) (a dd : Addr) (f : Str) : ES := fun σ h => (eVar i σ h).bind fun d h1 => match d with
  | .exv b d0 g d' => if isEx a dd x.pay (.exv b d0 g d') = true ∧ g = f then .ok d' h1 else .stuck
  | _ => .stuck
theorem se_fldE {f : Str} (C : ExcC X.K D) (hno : PySem.W.findIn X.K (.ref D) f = some none) (hz : Zc (.ref D) (exA dd x.pay) oe) (hfl : ∃ vs, oe.data = .fields vs) (ha : SE (X.suite a ((a, oe) :: pn)) W e (eVar i))
    (hb : attributeBase e f (X.suite a ((a, oe) :: pn)).env (eval e (X.suite a ((a, oe) :: pn)).env) = eval e (X.suite a ((a, oe) :: pn)).env := by rfl) :
    SE (X.suite a ((a, oe) :: pn)) W (.Attribute e f pos) (eFldE i x a dd f) := by
  obtain ⟨ta, k1, k2⟩ := ha
  refine ⟨_, pe_xf ⟨C.hg, C.hk, C.hs, C.hd⟩ hno hz hfl k1 hb, ⟨fun rl rs post => k2.bind rl rs post fun d h1 v φ1 S1 H1 rl1 rs1 st rp post2 => ?_⟩⟩
  cases d with
  | exv b d0 g d' =>
    dsimp only at post2
    by_cases q : isEx a dd x.pay (.exv b d0 g d') = true ∧ g = f
    · rw [if_pos q] at post2
      obtain ⟨q1, rfl⟩ := q
      obtain ⟨ev, ed⟩ := isEx_ok q1 rp
      cases (show Rp X.K φ1 S1 v (.exv b d0 g d') from rp) with
      | @exv _ _ _ w _ g1 g2 =>
        obtain ⟨_, z2, z3⟩ := isEx_exv q1
        subst z2
        exact ⟨ev, rfl, d0, _, w, z3, rl1.sub _ _ g1, by simp, post2 w φ1 S1 H1 rl1 (Step.refl _ _ _) g2⟩
    · rw [if_neg q] at post2
      exact post2.elim
  | _ => exact post2.elim
end
/-! .. told by the table -/
def exT : List Ef → Str → Bool
  | [], _ => false
  | .exc a :: l, x => if a = x then true else exT l x
  | _ :: l, x => exT l x
theorem exT_ok {K : PySem.W.Frag} {x : Str} : ∀ {ef : List Ef}, (ef.all fun f => f.ok K) = true → exT ef x = true → ExcC K (He.ga K x)
  | [], _, e => by cases e
  | f :: l, h, e => by
    rw [List.all_cons] at h
    obtain ⟨h1, h2⟩ := and_of h
    have ih := exT_ok (x := x) h2
    cases f with
    | exc a =>
      simp only [exT] at e
      by_cases q : a = x
      · subst q
        exact excB_ok h1
      · rw [if_neg q] at e
        exact ih e
    | sub a c r => exact ih e
    | isa a c r => exact ih e
    | isT a T r => exact ih e
    | oex a => exact ih e
    | nof a f => exact ih e
    | bi a => exact ih e
def isaE : List Ef → Str → Str → Option Bool
  | [], _, _ => none
  | .isa a b r :: l, x, y => if a = x ∧ b = y then some r else isaE l x y
  | _ :: l, x, y => isaE l x y
theorem isaE_ok {K : PySem.W.Frag} {x y : Str} {b : Bool} : ∀ {ef : List Ef}, (ef.all fun f => f.ok K) = true → isaE ef x y = some b → PySem.W.kitOne K (.ref (He.ga K x)) (.ref (He.ga K y)) = some b
  | [], _, e => by cases e
  | f :: l, h, e => by
    rw [List.all_cons] at h
    obtain ⟨h1, h2⟩ := and_of h
    have ih := isaE_ok (x := x) (y := y) (b := b) h2
    cases f with
    | isa a c r =>
      simp only [isaE] at e
      by_cases q : a = x ∧ c = y
      · rw [if_pos q] at e
        cases e
        obtain ⟨rfl, rfl⟩ := q
        exact of_decide_eq_true h1
      · rw [if_neg q] at e
        exact ih e
    | exc a => exact ih e
    | sub a c r => exact ih e
    | isT a T r => exact ih e
    | oex a => exact ih e
    | nof a f => exact ih e
    | bi a => exact ih e
def isTE : List Ef → Str → String → Option Bool
  | [], _, _ => none
  | .isT a b r :: l, x, y => if a = x ∧ b = y then some r else isTE l x y
  | _ :: l, x, y => isTE l x y
theorem isTE_ok {K : PySem.W.Frag} {x : Str} {y : String} {b : Bool} : ∀ {ef : List Ef}, (ef.all fun f => f.ok K) = true → isTE ef x y = some b → PySem.W.kitOne K (.ref (He.ga K x)) (.type y) = some b
  | [], _, e => by cases e
  | f :: l, h, e => by
    rw [List.all_cons] at h
    obtain ⟨h1, h2⟩ := and_of h
    have ih := isTE_ok (x := x) (y := y) (b := b) h2
    cases f with
    | isT a c r =>
      simp only [isTE] at e
      by_cases q : a = x ∧ c = y
      · rw [if_pos q] at e
        cases e
        obtain ⟨rfl, rfl⟩ := q
        exact of_decide_eq_true h1
      · rw [if_neg q] at e
        exact ih e
    | exc a => exact ih e
    | sub a c r => exact ih e
    | isa a c r => exact ih e
    | oex a => exact ih e
    | nof a f => exact ih e
    | bi a => exact ih e
def anyE (ef : List Ef) (x : Str) : List Str → Option Bool
  | [] => some false
  | y :: r => match isaE ef x y with
    | some true => some true
    | some false => anyE ef x r
    | none => none
theorem anyE_ok {K : PySem.W.Frag} {ef : List Ef} {x : Str} {b : Bool} (h : (ef.all fun f => f.ok K) = true) : ∀ {ys : List Str}, anyE ef x ys = some b → PySem.W.kitAny K (.ref (He.ga K x)) (ys.map fun y => .ref (He.ga K y)) = some b
  | [], e => e
  | y :: r, e => by
    unfold anyE at e
    rw [List.map_cons]
    unfold PySem.W.kitAny
    cases q : isaE ef x y with
    | none => rw [q] at e; cases e
    | some z =>
      rw [q] at e
      rw [isaE_ok h q]
      cases z with
      | true => exact e
      | false => exact anyE_ok h e
/-- what the suite asks of what it caught: o, where the slot holds it -/
def eIsO (i : Nat) (x : Xn) (a dd : Addr) (o : Option Bool) : ES := fun σ h => (eVar i σ h).bind fun d h1 => if isEx a dd x.pay d = true then (match o with
    | some r => .ok (.bl r) h1
    | none => .stuck) else .stuck
theorem eIsO_some {i : Nat} {x : Xn} {a dd : Addr} {r : Bool} : eIsO i x a dd (some r) = eIsE i x a dd r := rfl
theorem eVar_bind {α : Type} {i : Nat} {σ : VS} {h : Hv} {f : D → Hv → R α} (hf : ∀ d h1, f d h1 = .stuck) : (eVar i σ h).bind f = .stuck := by
  cases q : eVar i σ h with
  | ok d h1 => rw [R.bind_ok, hf]
  | exc x h1 =>
    unfold eVar at q
    split at q <;> cases q
  | stuck => rfl
theorem se_stuck {X : Cx} {W : WX} {e : Expr} {f : ES} (hs : ∀ σ h, f σ h = .stuck) : SE X W e f :=
  ⟨fun _ _ _ => False, ⟨fun _ _ _ _ _ _ z => z.elim⟩, ⟨fun {φ S H h σv σ Q} rl rs post => by
    rw [hs] at post
    exact post.elim⟩⟩
theorem se_isO_of {X : Cx} {W : WX} {e : Expr} {i : Nat} {x : Xn} {a dd : Addr} {o : Option Bool} (hs : ∀ r, o = some r → SE X W e (eIsE i x a dd r)) : SE X W e (eIsO i x a dd o) := by
  cases o with
  | some r => exact hs r rfl
  | none => exact se_stuck fun σ h => eVar_bind fun d h1 => by split <;> rfl
/-- the classes of a tuple -/
theorem cls_pair {K : PySem.W.Frag} : ∀ ys : List Str, Paired ClsV (ys.map fun y => V.ref (He.ga K y)) (ys.map fun y => Value.ref (He.ga K y))
  | [] => .nil
  | y :: r => .cons (.own _) (cls_pair r)
def nofE : List Ef → Str → Str → Bool
  | [], _, _ => false
  | .nof a b :: l, x, y => if a = x ∧ b = y then true else nofE l x y
  | _ :: l, x, y => nofE l x y
theorem nofE_ok {K : PySem.W.Frag} {x y : Str} : ∀ {ef : List Ef}, (ef.all fun f => f.ok K) = true → nofE ef x y = true → PySem.W.findIn K (.ref (He.ga K x)) y = some none
  | [], _, e => by cases e
  | f :: l, h, e => by
    rw [List.all_cons] at h
    obtain ⟨h1, h2⟩ := and_of h
    have ih := nofE_ok (x := x) (y := y) h2
    cases f with
    | nof a c =>
      simp only [nofE] at e
      by_cases q : a = x ∧ c = y
      · obtain ⟨rfl, rfl⟩ := q
        exact of_decide_eq_true h1
      · rw [if_neg q] at e
        exact ih e
    | exc a => exact ih e
    | sub a c r => exact ih e
    | isa a c r => exact ih e
    | isT a T r => exact ih e
    | oex a => exact ih e
    | bi a => exact ih e
section
variable {X : Cx} {W : WX} {a dd : Addr} {x : Xn} {oe : Obj} {pn : List (Addr × Obj)} {e : Expr} {i : Nat} {p p2 pos : Pos} {y : Str} {ef : List Ef}
def xIs (ef : List Ef) (c y : Str) : Option Bool := if exT ef c = true then isaE ef c y else none
def xIsT (ef : List Ef) (c : Str) (T : String) : Option Bool := if exT ef c = true then isTE ef c T else none
def xIsA (ef : List Ef) (c : Str) (ys : List Str) : Option Bool := if exT ef c = true then anyE ef c ys else none
def eFldX (ef : List Ef) (i : Nat) (x : Xn) (a dd : Addr) (f : Str) : ES := if exT ef x.cls = true ∧ nofE ef x.cls f = true then eFldE i x a dd f else fun _ _ => .stuck
theorem se_isO (ce : (ef.all fun f => f.ok X.K) = true) (hz : Zc (.ref (He.ga X.K x.cls)) (exA dd x.pay) oe) (hfl : ∃ vs, oe.data = .fields vs) (hm : X.mg "isinstance" = none) (gy : X.mg y = some (.ref (He.ga X.K y))) (ha : SE (X.suite a ((a, oe) :: pn)) W e (eVar i))
    (hgy : Gl (X.suite a ((a, oe) :: pn)) y := by rfl) (hdy : (y == ("__debug__" : Str)) = false := by decide) (hg : Gl (X.suite a ((a, oe) :: pn)) "isinstance" := by rfl)
    (h1 : starEach [.Name y p2] (X.suite a ((a, oe) :: pn)).env = (false, eval (.Name y p2) (X.suite a ((a, oe) :: pn)).env) :: starEach [] (X.suite a ((a, oe) :: pn)).env := by rfl)
    (he : starEach (e :: [.Name y p2]) (X.suite a ((a, oe) :: pn)).env = (false, eval e (X.suite a ((a, oe) :: pn)).env) :: starEach [.Name y p2] (X.suite a ((a, oe) :: pn)).env := by rfl) (hpl : (backTo pos (starEach [.Name y p2] (X.suite a ((a, oe) :: pn)).env)).any (·.1) = false := by rfl) :
    SE (X.suite a ((a, oe) :: pn)) W (.Call (.Name "isinstance" p) [e, .Name y p2] [] pos) (eIsO i x a dd (xIs ef x.cls y)) := se_isO_of fun r hr => by
  unfold xIs at hr
  by_cases q : exT ef x.cls = true
  · rw [if_pos q] at hr
    exact se_isE (exT_ok ce q) hz hfl hm (cv := .ref (He.ga X.K y)) (fun u ru => ru) (isaE_ok ce hr) ha (pe_glob hgy gy rfl hdy) hg h1 he hpl
  · rw [if_neg q] at hr
    cases hr
theorem se_isOT {T : String} (ce : (ef.all fun f => f.ok X.K) = true) (hz : Zc (.ref (He.ga X.K x.cls)) (exA dd x.pay) oe) (hfl : ∃ vs, oe.data = .fields vs) (hm : X.mg "isinstance" = none) (my : X.mg y = none) (hv : bootBuiltins y = some (.type T)) (ha : SE (X.suite a ((a, oe) :: pn)) W e (eVar i))
    (hgy : Gl (X.suite a ((a, oe) :: pn)) y := by rfl) (hdy : (y == ("__debug__" : Str)) = false := by decide) (hny : y ≠ "__name__" := by decide) (hg : Gl (X.suite a ((a, oe) :: pn)) "isinstance" := by rfl)
    (h1 : starEach [.Name y p2] (X.suite a ((a, oe) :: pn)).env = (false, eval (.Name y p2) (X.suite a ((a, oe) :: pn)).env) :: starEach [] (X.suite a ((a, oe) :: pn)).env := by rfl)
    (he : starEach (e :: [.Name y p2]) (X.suite a ((a, oe) :: pn)).env = (false, eval e (X.suite a ((a, oe) :: pn)).env) :: starEach [.Name y p2] (X.suite a ((a, oe) :: pn)).env := by rfl) (hpl : (backTo pos (starEach [.Name y p2] (X.suite a ((a, oe) :: pn)).env)).any (·.1) = false := by rfl) :
    SE (X.suite a ((a, oe) :: pn)) W (.Call (.Name "isinstance" p) [e, .Name y p2] [] pos) (eIsO i x a dd (xIsT ef x.cls T)) := se_isO_of fun r hr => by
  unfold xIsT at hr
  by_cases q : exT ef x.cls = true
  · rw [if_pos q] at hr
    exact se_isE (exT_ok ce q) hz hfl hm (cv := .ty T) (fun u ru => ru) (isTE_ok ce hr) ha (pe_bltn hgy my hv rfl hny hdy) hg h1 he hpl
  · rw [if_neg q] at hr
    cases hr
theorem se_isOA {x1} {pt : Pos} {es : List Expr} {ys : List Str} (ce : (ef.all fun f => f.ok X.K) = true) (hz : Zc (.ref (He.ga X.K x.cls)) (exA dd x.pay) oe) (hfl : ∃ vs, oe.data = .fields vs) (hm : X.mg "isinstance" = none) (hl : ys.length ≤ 100) (ha : SE (X.suite a ((a, oe) :: pn)) W e (eVar i))
    (hT : PA (X.suite a ((a, oe) :: pn)) es (tCs (ys.map fun y => V.ref (He.ga X.K y)))) (hg : Gl (X.suite a ((a, oe) :: pn)) "isinstance" := by rfl)
    (h1 : starEach [.Tuple es x1 pt] (X.suite a ((a, oe) :: pn)).env = (false, eval (.Tuple es x1 pt) (X.suite a ((a, oe) :: pn)).env) :: starEach [] (X.suite a ((a, oe) :: pn)).env := by rfl)
    (he : starEach (e :: [.Tuple es x1 pt]) (X.suite a ((a, oe) :: pn)).env = (false, eval e (X.suite a ((a, oe) :: pn)).env) :: starEach [.Tuple es x1 pt] (X.suite a ((a, oe) :: pn)).env := by rfl) (hpl : (backTo pos (starEach [.Tuple es x1 pt] (X.suite a ((a, oe) :: pn)).env)).any (·.1) = false := by rfl) :
    SE (X.suite a ((a, oe) :: pn)) W (.Call (.Name "isinstance" p) [e, .Tuple es x1 pt] [] pos) (eIsO i x a dd (xIsA ef x.cls ys)) := se_isO_of fun r hr => by
  unfold xIsA at hr
  by_cases q : exT ef x.cls = true
  · rw [if_pos q] at hr
    exact se_isET (exT_ok ce q) hz hfl hm (cls_pair ys) (by rw [List.length_map]; exact hl) (anyE_ok ce hr) ha hT hg h1 he hpl
  · rw [if_neg q] at hr
    cases hr
theorem se_fldX {f : Str} (ce : (ef.all fun f => f.ok X.K) = true) (hz : Zc (.ref (He.ga X.K x.cls)) (exA dd x.pay) oe) (hfl : ∃ vs, oe.data = .fields vs) (ha : SE (X.suite a ((a, oe) :: pn)) W e (eVar i))
    (hb : attributeBase e f (X.suite a ((a, oe) :: pn)).env (eval e (X.suite a ((a, oe) :: pn)).env) = eval e (X.suite a ((a, oe) :: pn)).env := by rfl) :
    SE (X.suite a ((a, oe) :: pn)) W (.Attribute e f pos) (eFldX ef i x a dd f) := by
  unfold eFldX
  by_cases q : exT ef x.cls = true ∧ nofE ef x.cls f = true
  · rw [if_pos q]
    exact se_fldE (exT_ok ce q.1) (nofE_ok ce q.2) hz hfl ha hb
  · rw [if_neg q]
    exact se_stuck fun _ _ => rfl
/-- one class more in the tuple -/
theorem pa_cls {X : Cx} {y : Str} {p : Pos} {es : List Expr} {vs : List V} (gy : X.mg y = some (.ref (He.ga X.K y))) (h : PA X es (tCs vs)) (hgy : Gl X y := by rfl) (hdy : (y == ("__debug__" : Str)) = false := by decide)
    (he : starEach (.Name y p :: es) X.env = (false, eval (.Name y p) X.env) :: starEach es X.env := by rfl) : PA X (.Name y p :: es) (tCs (.ref (He.ga X.K y) :: vs)) := pa_cons (pe_glob hgy gy rfl hdy) h he
theorem pa_cls0 {X : Cx} : PA X [] (tCs []) := pa_nil
end
end
end VD

set_option Elab.async false
set_option linter.all false
set_option maxRecDepth 100000
set_option maxHeartbeats 4000000
namespace VD
open PySem PySem.Spec PyProof.Rows L2
noncomputable section
/-- a method's statement -/
def clsS : Stmt → Nat → Stmt
  | .ClassDef _ _ _ b _ _ _ _ _ _ _, j => b.getD j (.Pass ⟨0, 0, 0, 0⟩)
  | s, _ => s
/-! ### errors that bear a value -/
/-- what such an __init__ does -/
def spPay (K : PySem.W.Frag) (C : Addr) (f : Str) : Sp := fun vs H Q _ => ∃ (a : Addr) (v : V), vs = [.ref a, v] ∧ H a = some (exo a C none) ∧ OexC K C ∧ PySem.W.findIn K (.ref C) f = some none ∧
  ∀ dx, H dx = none → dx ≠ a → Q .non (upd (upd H dx (exd dx [(f, v)])) a (exo a C (some dx)))
section
variable {X : Cx} {e : Expr} {es : List Expr} {ta : TA} {b : Str} {B : Addr} {p1 p2 pos : Pos}
theorem biB_ok {K : PySem.W.Frag} {C : Addr} (h : biB K C = true) : PySem.W.readsIn K C (.type "type") = true ∧ PySem.W.specialIn K (.ref C) "__getattribute__" = some (some (.builtin "type.__getattribute__")) ∧ PySem.W.findCls K (.ref C) (.type "type") "__init__" = some (.val (.builtin "ValueError.__init__")) := by
  unfold biB at h
  obtain ⟨h1, h⟩ := and_of h
  obtain ⟨h2, h3⟩ := and_of h
  refine ⟨h1, of_decide_eq_true h2, ?_⟩
  split at h3
  · next s q =>
    rw [q, of_decide_eq_true h3]
  · cases h3
theorem pe_ceinit {pl : Sem Bool} (hg : Gl X b) (hm : X.mg b = some (.ref B)) (bi : biB X.K B = true) (ha : PA X (e :: es) ta) (hdb : (b == ("__debug__" : Str)) = false := by decide)
    (hc : eval (.Call (.Attribute (.Name b p1) "__init__" p2) (e :: es) [] pos) X.env = (do
      let ov ← eval (.Name b p1) X.env
      standAt p2.atName
      let (f, first) ← holding [ov] (getMethod ov "__init__" pl)
      callWith pos f first (backTo pos (starEach (e :: es) X.env)) (backToKw pos (keywordEach [] X.env))) := by rfl)
    (he : starEach (e :: es) X.env = (false, eval e X.env) :: starEach es X.env := by rfl) (hpl : (backTo pos (starEach es X.env)).any (·.1) = false := by rfl) :
    PE X (.Call (.Attribute (.Name b p1) "__init__" p2) (e :: es) [] pos) (tVeI X.K ta) := by
  obtain ⟨b1, b2, b3⟩ := biB_ok bi
  have fin : ∀ {pins : List (Addr × Obj)} {s1 : Shared} {σ : L2.St} {H1 : Hp} {Q : VK} {us : List Value} {vs : List V}, Inv X pins σ H1 s1 → Vals vs us → (∃ (x Y : Addr) (more : List V), vs = .ref x :: more ∧ more.length ≤ 1000 ∧ OexC X.K Y ∧ H1 x = some (exo x Y none) ∧ Q .non H1) →
      wpAny (model X.prog X.w) X.A (call (.builtin "ValueError.__init__") us) (EP X pins σ Q) X.xe s1 := fun {pins s1 σ H1 Q us vs} J rv z => by
    obtain ⟨x, Y, more, rfl, few, oy, at_, done⟩ := z
    cases rv with
    | cons r0 rt =>
      cases r0
      refine oinit_ok oy J at_ ?_ fun s2 J2 => ⟨.non, H1, J2, rfl, done⟩
      have e := Paired.length rt
      rw [sizeLine_eq]
      omega
  constructor
  intro pins s σ H Q I0 rd
  exact PySem.W.methodCall_KW (ld_glob I0 hg hm (PySem.W.method_cls I0.kIn b2 (PySem.W.cls_value I0.kIn b1 b3 (by decide +kernel)
    (PyProof.Rows.callWith_method1 (thn (ha.run pos pins _ σ H _ (I0.tok _) rd) fun us s1 ⟨vs, H1, I1, rv, z⟩ => fin I1 rv z) he hpl))) hdb) hc
end
section
variable {P : Program} {w : World} {K : PySem.W.Frag} {mg : Str → Option Value} {base : Heap}
theorem payInit_ok {x qual z fl : Str} {st : Stmt} {f C : Addr} {fd : FuncData} {N ps : List Str} {k : Nat} (F : Fun K x qual st f fd) (Sc : FnScope N ps (defScope st)) (hps : ps.length = 2) (hN : N.length = 2)
    (hbody : ∀ (cdv : Value) (A : Around) (outer : List Env) (s : Shared) (H : Hp) (E : XK), Room k (A.deeper (envOfC qual (defScope st) s.heap.objs.size f cdv)) →
      PSs (cxOf (L2.CX P w) P w K mg base N qual (defScope st) f cdv A outer s H E) (defBody st) (tSeq (tDrop (tVeI K (tCons (tVar 0) (tCons (tC (.str z)) tNil)))) (tOst K fl (tVar 0) (tVar 1)))) : FnOk P w K mg base (L2.CX P w) (k + 1) f fd ps (spPay K C fl) := by
  refine F.okX Sc (fun vs H Q E h => ?_) (fun cdv A outer s H vs Q E hr h => ?_)
  · obtain ⟨a, v, rfl, _⟩ := h
    exact hps.symm
  · obtain ⟨a, v, rfl, ea, ox, no, q⟩ := h
    refine ⟨_, hbody cdv A outer s H E hr, ?_⟩
    have es : L2.start N [.ref a, v] = [some (.ref a), some v] := by
      unfold L2.start
      rw [hN]
      rfl
    rw [es]
    refine ⟨.ref a, rfl, a, C, [.str z], rfl, by simp, ox, ea, v, rfl, .ref a, rfl, a, C, rfl, ox, no, .inl ⟨ea, q⟩⟩
/-- a class of errors that bear a value in the field f -/
structure PayT (P : Program) (w : World) (K : PySem.W.Frag) (mg : Str → Option Value) (base : Heap) (k : Nat) (x f : Str) : Prop where
  g : mg x = some (.ref (He.ga K x))
  ox : OexC K (He.ga K x)
  no : PySem.W.findIn K (.ref (He.ga K x)) f = some none
  ini : ∃ (fI : Addr) (fd : FuncData) (ps : List Str), PySem.W.findIn K (.ref (He.ga K x)) "__init__" = some (some (.ref fI)) ∧ PySem.W.typeIn K (.ref fI) = some (.type "function") ∧ FnOk P w K mg base (L2.CX P w) k fI fd ps (spPay K (He.ga K x) f) ∧ Binds K fd ps []
end
def sRaiseP (C f : Str) (fe : ES) : SS := fun σ h => (fe σ h).then σ fun d h' => .exc ⟨C, some (f, d)⟩ σ h'
theorem del_upd {H : Hp} {a dx : Addr} {o1 o2 o3 u : HO} (ha : H a = none) (hd : dx ≠ a) : upd (del (upd (upd (upd H a o1) dx o2) a o3) a) dx u = upd H dx u := by
  funext b
  by_cases q : b = dx
  · subst q
    rw [upd_same, upd_same]
  · rw [upd_ne q, upd_ne q]
    by_cases q2 : b = a
    · subst q2
      rw [del_same, ha]
    · rw [del_ne q2, upd_ne q2, upd_ne q, upd_ne q2]
section
variable {X : Cx} {W : WX} {e : Expr} {fe : ES} {x f : Str} {k : Nat} {p pos p3 : Pos}
theorem qs_raiseP (T : PayT X.prog X.w X.K X.mg X.base k x f) (hr : Room (k + 1) X.A) (tk : Takes X W) (ha : SE X W e fe) (hg : Gl X x := by rfl) (hdb : (x == ("__debug__" : Str)) = false := by decide) (hc : X.calm = true := by rfl)
    (he : starEach [e] X.env = (false, eval e X.env) :: starEach [] X.env := by rfl) (hpl : (backTo pos (starEach [] X.env)).any (·.1) = false := by rfl) :
    QS X W (.Raise (some (.Call (.Name x p) [e] [] pos)) none p3) (sRaiseP x f fe) := by
  obtain ⟨fI, fd, ps, iC, tI, F1, hb⟩ := T.ini
  obtain ⟨te, k1, k2⟩ := ha
  refine ⟨_, ps_raise hc tk (pmk_oex (ds := []) (dvs := []) T.ox iC tI F1 hr hb .nil (fun _ _ _ _ _ _ _ h => (cx_false h).elim) hg T.g (pa_cons k1 pa_nil he) hdb he hpl), ⟨fun {φ S H h σv σ D} rl rs post => ?_⟩⟩
  · refine k2.thenS rl rs post fun d h1 v φ1 S1 H1 rl1 rs1 st rp post => ?_
    refine ⟨by simp, fun a ha => ⟨a, v, rfl, upd_same, T.ox, T.no, fun dx hdx hne => ?_⟩⟩
    have hdx' : H1 dx = none := by rw [upd_ne hne] at hdx; exact hdx
    refine ⟨rfl, dx, [(f, v)], upd_same, by rw [upd_ne hne, upd_same], hdx', ?_⟩
    rw [del_upd ha hne]
    obtain ⟨r2, s2⟩ := rl1.lay (o := .xd [(f, v)]) hdx'
    exact post σ (.ref (He.ga X.K x)) (some dx) φ1 _ _ r2 (rs1.step s2) s2 ⟨rfl, dx, v, rfl, upd_same, Rp.mono s2.prefix s2.sub rp⟩
end
end
end VD

set_option Elab.async false
set_option linter.all false
set_option maxRecDepth 100000
set_option maxHeartbeats 4000000
namespace VD
open PySem PySem.Spec PyProof.Rows L2
noncomputable section
/-! ### sorted, of pairs of whole numbers -/
def pairOf : D → Option (Int × Int)
  | .tup [.int a, .int b] => some (a, b)
  | _ => none
abbrev pD (p : Int × Int) : D := .tup [.int p.1, .int p.2]
theorem pairOf_ok {d : D} {p : Int × Int} (h : pairOf d = some p) : d = pD p := by
  unfold pairOf at h
  split at h
  · cases h; rfl
  · cases h
def lePB (p q : Int × Int) : Bool := decide (p.1 < q.1 ∨ (p.1 = q.1 ∧ p.2 ≤ q.2))
def LeP (p q : Int × Int) : Prop := p.1 < q.1 ∨ (p.1 = q.1 ∧ p.2 ≤ q.2)
def sortP (ps : List (Int × Int)) : List (Int × Int) := ps.mergeSort lePB
theorem sortP_perm (ps : List (Int × Int)) : (sortP ps).Perm ps := List.mergeSort_perm _ _
theorem sortP_rises (ps : List (Int × Int)) : (sortP ps).Pairwise LeP := by
  have h := List.pairwise_mergeSort (le := lePB) (fun a b c h1 h2 => by
    have := of_decide_eq_true h1
    have := of_decide_eq_true h2
    exact decide_eq_true (by omega)) (fun a b => by
    unfold lePB
    by_cases q : a.1 < b.1 ∨ (a.1 = b.1 ∧ a.2 ≤ b.2)
    · rw [decide_eq_true q]; rfl
    · rw [decide_eq_true (show b.1 < a.1 ∨ (b.1 = a.1 ∧ b.2 ≤ a.2) by omega), Bool.or_true]) ps
  exact h.imp fun h => of_decide_eq_true h
theorem sortP_one {xs ys : List (Int × Int)} (hp : xs.Perm ys) (h1 : xs.Pairwise LeP) (h2 : ys.Pairwise LeP) : xs = ys := hp.eq_of_pairwise (le := LeP) (fun a b _ _ x y => by
  unfold LeP at x y
  exact Prod.ext (by omega) (by omega)) h1 h2
/-- a list of pairs ps -/
def rSortPT (K : PySem.W.Frag) : List V → Hp → VK → Prop := fun vs H Q => ∃ (b : Addr) (ws : List V) (ps : List (Int × Int)), vs = [V.ref b] ∧ SqL K H b ws ∧ ws.length = ps.length ∧ (∀ z ∈ ws.zip ps, ∃ t, z.1 = V.ref t ∧ SqT K H t [.int z.2.1, .int z.2.2]) ∧
  ∀ zs p, zs.length = (sortP ps).length → (∀ z ∈ zs.zip (sortP ps), z ∈ ws.zip ps) → H p = none → Q (.ref p) (upd H p (.lst zs))
def keyZ (ws : List V) (ps : List (Int × Int)) (w : V) : Int × Int := @dite (Int × Int) (∃ p, (w, p) ∈ ws.zip ps) (Classical.propDecidable _) (fun z => Classical.choose z) (fun _ => (0, 0))
theorem keyZ_mem {ws : List V} {ps : List (Int × Int)} (hl : ws.length = ps.length) {w : V} (hw : w ∈ ws) : (w, keyZ ws ps w) ∈ ws.zip ps := by
  have z : ∃ p, (w, p) ∈ ws.zip ps := by
    obtain ⟨i, hi⟩ := List.getElem?_of_mem hw
    have h1 := (List.getElem?_eq_some_iff.mp hi).1
    refine ⟨ps[i]'(by omega), List.mem_of_getElem? (i := i) ?_⟩
    rw [List.getElem?_zip_eq_some]
    exact ⟨hi, List.getElem?_eq_getElem _⟩
  unfold keyZ
  rw [dif_pos z]
  exact Classical.choose_spec z
theorem cr_sortPT {X : Cx} : CallR X (.builtin "sorted") (rSortPT X.K) := by
  intro pins s σ H vs us Q I r hyp
  obtain ⟨b, ws, ps, rfl, hS, len, hE, fin⟩ := hyp
  obtain ⟨its, rv, lst, size⟩ := I.list hS
  obtain ⟨u, rfl, ru⟩ := vals1 r
  obtain rfl : u = Value.ref b := ru
  have one : ∀ {w p q}, (w, p) ∈ ws.zip ps → (w, q) ∈ ws.zip ps → p = q := fun {w p q} h1 h2 => by
    obtain ⟨t, e, s1⟩ := hE _ h1
    obtain ⟨t', e', s2⟩ := hE _ h2
    rw [e] at e'
    cases e'
    have := I.tuple_inj s1 s2
    injection this with a1 a2
    injection a2 with a2 _
    injection a1 with a1
    injection a2 with a2
    exact Prod.ext a1 a2
  have kmap : ws.map (keyZ ws ps) = ps := by
    apply List.ext_getElem
    · rw [List.length_map]; exact len
    · intro i h1 h2
      rw [List.length_map] at h1
      rw [List.getElem_map]
      refine one (keyZ_mem len (List.getElem_mem h1)) (List.mem_of_getElem? (i := i) ?_)
      rw [List.getElem?_zip_eq_some]
      exact ⟨List.getElem?_eq_getElem h1, List.getElem?_eq_getElem h2⟩
  obtain ⟨back, refs⟩ := refs_back rv fun w hw => (hE _ (keyZ_mem len hw)).imp fun t z => z.1
  refine SrtO.sorted_pairsO (k := fun u => keyZ ws ps (backV u)) lst.isList (by rw [← rv.length]; exact size) (fun u hu => ?_) fun g d out ord stb old dl new => ?_
  · obtain ⟨t, rfl⟩ := refs u hu
    obtain ⟨t', e, sq⟩ := hE _ (keyZ_mem len (w := V.ref t) (by rw [back]; exact List.mem_map.mpr ⟨_, hu, rfl⟩))
    cases e
    obtain ⟨its2, r2, ⟨o, ho, oc, n, od⟩, _⟩ := I.tuple sq
    obtain ⟨u1, u2, e2, ⟨t1, e3⟩, ⟨t2, e4⟩⟩ := vals2 r2
    subst e3 e4
    rw [e2] at od
    exact ⟨t, o, t1, t2, n, rfl, ho, oc, od⟩
  · have refs2 : ∀ u ∈ out, ∃ a, u = Value.ref a := fun u hu => refs u (stb.perm.mem_iff.mp hu)
    obtain ⟨n, new⟩ := new
    have pm : (out.map backV).Perm ws := by
      rw [back]
      exact stb.perm.map backV
    have srt : (out.map backV).map (keyZ ws ps) = sortP ps := by
      refine sortP_one ?_ ?_ (sortP_rises ps)
      · have := pm.map (keyZ ws ps)
        rw [kmap] at this
        exact this.trans (sortP_perm ps).symm
      · rw [List.map_map]
        refine List.pairwise_map.mpr (List.Pairwise.imp (fun {x y} z => ?_) ord)
        have := SrtO.lexB_no.mp z
        show (keyZ ws ps (backV x)).1 < (keyZ ws ps (backV y)).1 ∨ ((keyZ ws ps (backV x)).1 = (keyZ ws ps (backV y)).1 ∧ (keyZ ws ps (backV x)).2 ≤ (keyZ ws ps (backV y)).2)
        omega
    refine ⟨.ref d, upd H d (.lst (out.map backV)), I.laid (t' := s.toks) old dl ⟨by rw [pm.length_eq]; exact size, out, n, vals_back refs2, new⟩, rfl, fin _ d (by rw [← srt]; simp) (fun z hz => ?_) (I.hok.fresh dl)⟩
    rw [← srt] at hz
    obtain ⟨i, hi⟩ := List.getElem?_of_mem hz
    rw [List.getElem?_zip_eq_some] at hi
    obtain ⟨h1, h2⟩ := hi
    rw [List.getElem?_map, h1] at h2
    have e : keyZ ws ps z.1 = z.2 := Option.some.inj h2
    have := keyZ_mem len (pm.mem_iff.mp (List.mem_of_getElem? h1))
    rw [e] at this
    exact this
def bSortP : List D → Hv → R (List D) := fun ds h => match ds with
  | [d] => (match (lOf h d).bind (optAll pairOf) with
    | some ps => .ok ((sortP ps).map pD) h
    | none => .stuck)
  | _ => .stuck
theorem ra_zip {K : PySem.W.Frag} {φ : List Addr} {S : Hp} : ∀ {ds : List D} {ps : List (Int × Int)} {vs : List V}, optAll pairOf ds = some ps → RpA K φ S vs ds → vs.length = ps.length ∧ ∀ z ∈ vs.zip ps, Rp K φ S z.1 (pD z.2)
  | [], ps, vs, e, r => by
    cases e
    cases r
    exact ⟨rfl, fun w hw => nomatch hw⟩
  | d :: ds, ps, vs, e, r => by
    simp only [optAll] at e
    cases q : pairOf d with
    | none => rw [q] at e; cases e
    | some p =>
      rw [q] at e
      cases q2 : optAll pairOf ds with
      | none => simp only [q2] at e; cases e
      | some ps2 =>
        simp only [q2] at e
        cases e
        cases r with
        | cons r t =>
          obtain ⟨e1, e2⟩ := ra_zip q2 t
          rw [pairOf_ok q] at r
          refine ⟨by rw [List.length_cons, List.length_cons, e1], fun w hw => ?_⟩
          rw [List.zip_cons_cons] at hw
          rcases List.mem_cons.mp hw with rfl | hw
          · exact r
          · exact e2 w hw
theorem ra_of_zip {K : PySem.W.Frag} {φ : List Addr} {S : Hp} : ∀ {vs : List V} {ps : List (Int × Int)}, vs.length = ps.length → (∀ z ∈ vs.zip ps, Rp K φ S z.1 (pD z.2)) → RpA K φ S vs (ps.map pD)
  | [], [], _, _ => .nil
  | [], _ :: _, e, _ => nomatch e
  | _ :: _, [], e, _ => nomatch e
  | v :: vs, p :: ps, e, q => by
    rw [List.zip_cons_cons] at q
    exact .cons (q (v, p) List.mem_cons_self) (ra_of_zip (Nat.succ.inj e) fun z hz => q z (List.mem_cons_of_mem _ hz))
theorem cl_sortP {K : PySem.W.Frag} : CaL K (rSortPT K) bSortP := by
  intro φ S H h ds vs Q E rl ra post
  unfold bSortP at post
  split at post
  · next d =>
    obtain ⟨v, rfl, r⟩ := ra.one
    split at post
    · next ps hn =>
      obtain ⟨xs, q1, q2⟩ := Option.bind_eq_some_iff.mp hn
      obtain ⟨b, ws, rfl, h2, h3⟩ := lOf_ok rl r q1
      obtain ⟨len, all⟩ := ra_zip q2 h3
      refine ⟨b, ws, ps, rfl, h2, len, fun z hz => ?_, fun zs p l1 l2 hp => ?_⟩
      · have rz := all z hz
        obtain ⟨w, pp⟩ := z
        cases (show Rp K φ S w (.tup [.int pp.1, .int pp.2]) from rz) with
        | tup g1 g2 =>
          cases g2 with
          | cons r1 t1 =>
            cases t1 with
            | cons r2 t2 =>
              cases t2
              cases r1
              cases r2
              exact ⟨_, rfl, rl.sub.sqt g1⟩
      · obtain ⟨r2, s2⟩ := rl.hold (o := .lst zs) hp
        exact post _ φ _ _ r2 s2 ⟨p, _, rfl, hp, upd_same, rl.snone hp, rl.notin hp, ra_of_zip l1 fun z hz => all z (l2 z hz)⟩
    · exact post.elim
  · exact post.elim
end
end VD

set_option Elab.async false
set_option linter.all false
set_option maxRecDepth 100000
set_option maxHeartbeats 4000000
namespace VD
open PySem PySem.Spec PyProof.Rows L2
noncomputable section
/-! ### dicts -/
def keyOf : D → Option Key
  | .int i => some (.inl i)
  | .str x => some (.inr x)
  | _ => none
def keyD : Key → D
  | .inl i => .int i
  | .inr x => .str x
theorem keyOf_ok {K : PySem.W.Frag} {φ : List Addr} {S : Hp} {v : V} {d : D} {k : Key} (r : Rp K φ S v d) (e : keyOf d = some k) : v = kV k := by
  cases r <;> cases e <;> rfl
theorem keyD_ok {K : PySem.W.Frag} {φ : List Addr} {S : Hp} (k : Key) : Rp K φ S (kV k) (keyD k) := by
  cases k with
  | inl i => exact .int i
  | inr x => exact .str x
def getD (kvs : List (Key × D)) (k : Key) : Option D := (kvs.find? fun p => decide (p.1 = k)).map (·.2)
def putD (kvs : List (Key × D)) (k : Key) (d : D) : List (Key × D) := if (kvs.any fun p => decide (p.1 = k)) = true then kvs.map (fun p => if p.1 = k then (p.1, d) else p) else kvs ++ [(k, d)]
def dropD (kvs : List (Key × D)) (k : Key) : List (Key × D) := kvs.filter fun p => decide (p.1 ≠ k)
inductive RpK (K : PySem.W.Frag) (φ : List Addr) (S : Hp) : List (Key × V) → List (Key × D) → Prop where
  | nil : RpK K φ S [] []
  | cons {k : Key} {v : V} {d : D} {kv : List (Key × V)} {kd : List (Key × D)} : Rp K φ S v d → RpK K φ S kv kd → RpK K φ S ((k, v) :: kv) ((k, d) :: kd)
section
variable {K : PySem.W.Frag} {φ : List Addr} {S H : Hp} {h : Hv} {kv : List (Key × V)} {kd : List (Key × D)}
theorem RpK.of : ∀ {kv : List (Key × V)} {kd : List (Key × D)}, kv.map (·.1) = kd.map (·.1) → RpA K φ S (kv.map (·.2)) (kd.map (·.2)) → RpK K φ S kv kd
  | [], [], _, _ => .nil
  | [], _ :: _, e, _ => nomatch e
  | _ :: _, [], e, _ => nomatch e
  | (k, v) :: kv, (j, d) :: kd, e, r => by
    rw [List.map_cons, List.map_cons] at e r
    injection e with e1 e2
    have e1 : k = j := e1
    subst e1
    cases r with
    | cons r t => exact .cons r (RpK.of e2 t)
theorem RpK.to (r : RpK K φ S kv kd) : kv.map (·.1) = kd.map (·.1) ∧ RpA K φ S (kv.map (·.2)) (kd.map (·.2)) := by
  induction r with
  | nil => exact ⟨rfl, .nil⟩
  | cons r _ ih => exact ⟨by rw [List.map_cons, List.map_cons, ih.1], .cons r ih.2⟩
theorem RpK.len (r : RpK K φ S kv kd) : kv.length = kd.length := by
  have := congrArg List.length r.to.1
  rw [List.length_map, List.length_map] at this
  exact this
theorem RpK.get (r : RpK K φ S kv kd) (k : Key) : (getD kd k = none ∧ valV kv k = none) ∨ ∃ d v, getD kd k = some d ∧ valV kv k = some v ∧ Rp K φ S v d := by
  induction r with
  | nil => exact .inl ⟨rfl, rfl⟩
  | @cons j v d kv kd r _ ih =>
    by_cases q : j = k
    · refine .inr ⟨d, v, ?_, ?_, r⟩
      · unfold getD; rw [List.find?_cons_of_pos (by exact decide_eq_true q)]; rfl
      · unfold valV; rw [List.find?_cons_of_pos (by exact decide_eq_true q)]; rfl
    · unfold getD valV at ih ⊢
      rw [List.find?_cons_of_neg (by exact fun z => q (of_decide_eq_true z)), List.find?_cons_of_neg (by exact fun z => q (of_decide_eq_true z))]
      exact ih
theorem RpK.any (r : RpK K φ S kv kd) (k : Key) : (kv.any fun p => decide (p.1 = k)) = (kd.any fun p => decide (p.1 = k)) := by
  induction r with
  | nil => rfl
  | cons r _ ih => rw [List.any_cons, List.any_cons, ih]
theorem RpK.rep (r : RpK K φ S kv kd) (k : Key) {v : V} {d : D} (rv : Rp K φ S v d) : RpK K φ S (kv.map fun p => if p.1 = k then (p.1, v) else p) (kd.map fun p => if p.1 = k then (p.1, d) else p) := by
  induction r with
  | nil => exact .nil
  | @cons j w e kv kd r _ ih =>
    rw [List.map_cons, List.map_cons]
    by_cases q : j = k
    · rw [if_pos q, if_pos q]
      exact .cons rv ih
    · rw [if_neg q, if_neg q]
      exact .cons r ih
theorem RpK.snoc (r : RpK K φ S kv kd) (k : Key) {v : V} {d : D} (rv : Rp K φ S v d) : RpK K φ S (kv ++ [(k, v)]) (kd ++ [(k, d)]) := by
  induction r with
  | nil => exact .cons rv .nil
  | cons r _ ih => exact .cons r ih
theorem RpK.put (r : RpK K φ S kv kd) (k : Key) {v : V} {d : D} (rv : Rp K φ S v d) : RpK K φ S (putK kv k v) (putD kd k d) := by
  unfold putK putD
  rw [r.any k]
  split
  · exact r.rep k rv
  · exact r.snoc k rv
theorem RpK.drop (r : RpK K φ S kv kd) (k : Key) : RpK K φ S (dropK kv k) (dropD kd k) := by
  unfold dropK dropD
  induction r with
  | nil => exact .nil
  | @cons j w e kv kd r _ ih =>
    by_cases q : j = k
    · rw [List.filter_cons_of_neg (by simp [q]), List.filter_cons_of_neg (by simp [q])]
      exact ih
    · rw [List.filter_cons_of_pos (by simp [q]), List.filter_cons_of_pos (by simp [q])]
      exact .cons r ih
theorem RpK.at (r : RpK K φ S kv kd) {i : Nat} {k : Key} {d : D} (e : kd[i]? = some (k, d)) : ∃ v, kv[i]? = some (k, v) ∧ Rp K φ S v d := by
  induction r generalizing i with
  | nil => simp at e
  | cons r _ ih =>
    cases i with
    | zero =>
      rw [List.getElem?_cons_zero] at e ⊢
      cases e
      exact ⟨_, rfl, r⟩
    | succ i =>
      rw [List.getElem?_cons_succ] at e ⊢
      exact ih e
/-- a dict to be read -/
def kvOf (h : Hv) : D → Option (List (Key × D))
  | .cell n => match h[n]? with
    | some (.dK kvs) => some kvs
    | some (.dF kvs) => some kvs
    | _ => none
  | .dct ks ds => if ks.length = ds.length then some (ks.zip ds) else none
  | _ => none
theorem zip_1 : ∀ {ks : List Key} {ds : List D}, ks.length = ds.length → (ks.zip ds).map (·.1) = ks ∧ (ks.zip ds).map (·.2) = ds
  | [], [], _ => ⟨rfl, rfl⟩
  | [], _ :: _, e => nomatch e
  | _ :: _, [], e => nomatch e
  | k :: ks, d :: ds, e => by
    obtain ⟨a, b⟩ := zip_1 (ks := ks) (ds := ds) (Nat.succ.inj e)
    exact ⟨by rw [List.zip_cons_cons, List.map_cons, a], by rw [List.zip_cons_cons, List.map_cons, b]⟩
theorem kvOf_ok (rl : Rel K φ S H h) {d : D} {v : V} (r : Rp K φ S v d) (e : kvOf h d = some kd) : ∃ a kv, v = .ref a ∧ Rd H a (.dK kv) ∧ RpK K φ S kv kd := by
  cases r with
  | @cell a n h1 =>
    obtain ⟨c, hc⟩ := rl.at h1
    obtain ⟨_, o, ho, rc⟩ := rl.cel _ _ _ h1 hc
    simp only [kvOf] at e
    rw [hc] at e
    cases c with
    | dK kvs =>
      obtain ⟨kv, rfl, ek, ra⟩ := rc
      cases e
      exact ⟨a, kv, rfl, .inl ho, .of ek ra⟩
    | dF kvs =>
      obtain ⟨od, kv, rfl, ek, ra⟩ := rc
      cases e
      exact ⟨a, kv, rfl, .inr ⟨od, ho⟩, .of ek ra⟩
    | lst xs => cases e
    | ins C fs => cases e
    | dN w kvs => cases e
  | @dct a od kv ks ds h1 h2 h3 =>
    simp only [kvOf] at e
    split at e
    · next q =>
      cases e
      obtain ⟨z1, z2⟩ := zip_1 q
      exact ⟨a, kv, rfl, .inr ⟨od, rl.sub _ _ h1⟩, .of (by rw [z1]; exact h2) (by rw [z2]; exact h3)⟩
    · cases e
  | _ => cases e
def oDget : D → D → Hv → R D := fun x y h => match kvOf h x, keyOf y with
  | some kd, some k => (match getD kd k with
    | some d => .ok d h
    | none => .stuck)
  | _, _ => .stuck
def oDin : D → D → Hv → R D := fun y x h => match kvOf h x, keyOf y with
  | some kd, some k => .ok (.bl (getD kd k).isSome) h
  | _, _ => .stuck
def oDnin : D → D → Hv → R D := fun y x h => match kvOf h x, keyOf y with
  | some kd, some k => .ok (.bl (!(getD kd k).isSome)) h
  | _, _ => .stuck
end
section
variable {X : Cx} {W : WX} {o i e f value : Expr} {fo fi fe fv : ES} {pos pos' apos cpos : Pos}
theorem sn_din {ty td : TE} {neg : Bool} (h2 : Sn X.K (repV X.K) W ty fi) (k2 : Sn X.K (repV X.K) W td fo) : Sn X.K (repV X.K) W (fun σ H Q => ty σ H fun y H1 => td σ H1 fun x H2 => ∃ a o, x = .ref a ∧ DGet H2 a y o ∧ Q (.bl (if neg then !o.isSome else o.isSome)) H2) (eOp (if neg then oDnin else oDin) fi fo) := ⟨fun rl rs post =>
  h2.bind rl rs post fun y h1 v φ1 S1 H1 rl1 rs1 st rp post =>
  k2.bind rl1 rs1 post fun x h2 u φ2 S2 H2 rl2 rs2 st2 rp2 post => by
    have rv : Rp X.K φ2 S2 v y := Rp.mono st2.prefix st2.sub rp
    cases qx : kvOf h2 x with
    | none => cases neg <;> simp only [Bool.false_eq_true, if_false, if_true, oDin, oDnin, qx] at post <;> exact post.elim
    | some kd =>
      cases qk : keyOf y with
      | none => cases neg <;> simp only [Bool.false_eq_true, if_false, if_true, oDin, oDnin, qx, qk] at post <;> exact post.elim
      | some k =>
        obtain ⟨a, kv, rfl, ha, rk⟩ := kvOf_ok rl2 rp2 qx
        have ev := keyOf_ok rv qk
        subst ev
        refine ⟨a, valV kv k, rfl, .inl ⟨kv, k, ha, rfl, rfl⟩, ?_⟩
        have ei : (valV kv k).isSome = (getD kd k).isSome := by
          rcases rk.get k with ⟨g1, g2⟩ | ⟨d, w, g1, g2, _⟩
          · rw [g1, g2]; rfl
          · rw [g1, g2]; rfl
        cases neg with
        | false =>
          simp only [oDin, qx, qk, Bool.false_eq_true, if_false] at post ⊢
          rw [ei]
          exact post _ φ2 S2 H2 rl2 (Step.refl _ _ _) (.bl _)
        | true =>
          simp only [oDnin, qx, qk, if_true] at post ⊢
          rw [ei]
          exact post _ φ2 S2 H2 rl2 (Step.refl _ _ _) (.bl _)⟩
theorem se_din (hu : X.A.units + 1 < cLine) (hi : SE X W i fi) (ho : SE X W o fo) (hm : behindInMarks .In o = false := by rfl) : SE X W (.Compare i [.In] [o] pos) (eOp oDin fi fo) := by
  obtain ⟨ti, h1, h2⟩ := hi
  obtain ⟨to, k1, k2⟩ := ho
  exact ⟨_, pe_cmp (pc_din hu h1 k1) hm, sn_din (neg := false) h2 k2⟩
theorem se_dnin (hu : X.A.units + 1 < cLine) (hi : SE X W i fi) (ho : SE X W o fo) (hm : behindInMarks .NotIn o = false := by rfl) : SE X W (.Compare i [.NotIn] [o] pos) (eOp oDnin fi fo) := by
  obtain ⟨ti, h1, h2⟩ := hi
  obtain ⟨to, k1, k2⟩ := ho
  exact ⟨_, pe_cmp (pc_dnotin hu h1 k1) hm, sn_din (neg := true) h2 k2⟩
theorem st_din (hu : X.A.units + 1 < cLine) (hi : SE X W i fi) (ho : SE X W o fo) (hm : behindInMarks .In o = false := by rfl) : ST X W (.Compare i [.In] [o] pos) (toB (eOp oDin fi fo)) := by
  obtain ⟨ti, h1, h2⟩ := hi
  obtain ⟨to, k1, k2⟩ := ho
  exact ⟨_, pt_cmp (pc_din hu h1 k1) hm, sn_B (sn_din (neg := false) h2 k2)⟩
theorem st_dnin (hu : X.A.units + 1 < cLine) (hi : SE X W i fi) (ho : SE X W o fo) (hm : behindInMarks .NotIn o = false := by rfl) : ST X W (.Compare i [.NotIn] [o] pos) (toB (eOp oDnin fi fo)) := by
  obtain ⟨ti, h1, h2⟩ := hi
  obtain ⟨to, k1, k2⟩ := ho
  exact ⟨_, pt_cmp (pc_dnotin hu h1 k1) hm, sn_B (sn_din (neg := true) h2 k2)⟩
theorem se_dget (hu : X.A.units + 1 < cLine) (ho : SE X W o fo) (hi : SE X W i fi) (hs : NoSl i := by intro _ _; rfl) : SE X W (.Subscript o i pos) (eOp oDget fo fi) := by
  obtain ⟨to, h1, h2⟩ := ho
  obtain ⟨ti, k1, k2⟩ := hi
  refine ⟨_, pe_dget hu h1 k1 hs, ⟨fun rl rs post =>
    h2.bind rl rs post fun x h1 v φ1 S1 H1 rl1 rs1 st rp post =>
    k2.bind rl1 rs1 post fun y h2 u φ2 S2 H2 rl2 rs2 st2 rp2 post => ?_⟩⟩
  have rv : Rp X.K φ2 S2 v x := Rp.mono st2.prefix st2.sub rp
  cases qx : kvOf h2 x with
  | none => simp only [oDget, qx] at post; exact post.elim
  | some kd =>
    cases qk : keyOf y with
    | none => simp only [oDget, qx, qk] at post; exact post.elim
    | some k =>
      obtain ⟨a, kv, rfl, ha, rk⟩ := kvOf_ok rl2 rv qx
      have ev := keyOf_ok rp2 qk
      subst ev
      rcases rk.get k with ⟨g1, g2⟩ | ⟨d, w, g1, g2, rd⟩
      · simp only [oDget, qx, qk, g1] at post; exact post.elim
      · simp only [oDget, qx, qk, g1] at post
        refine ⟨a, w, rfl, ?_, post w φ2 S2 H2 rl2 (Step.refl _ _ _) rd⟩
        exact .inl ⟨kv, k, ha, rfl, g2.symm⟩
/-- d[i] = v -/
def sDput (fv fo fi : ES) : SS := fun σ h => (fv σ h).then σ fun d h1 => (fo σ h1).then σ fun x h2 => (fi σ h2).then σ fun y h3 => match x, keyOf y with
  | .cell n, some k => (match h3[n]? with
    | some (.dK kd) => if kd.length < 16777216 then .next σ (h3.set n (.dK (putD kd k d))) else .stuck
    | _ => .stuck)
  | _, _ => .stuck
theorem qs_dput (hu : X.A.units + 1 < cLine) (hv : SE X W value fv) (ho : SE X W o fo) (hi : SE X W i fi) (hs : swapsWith value (some (.Subscript o i pos')) pos.line X.env = pure false := by rfl) : QS X W (.Assign [.Subscript o i pos'] value pos) (sDput fv fo fi) := by
  obtain ⟨tv, h1, h2⟩ := hv
  obtain ⟨to, k1, k2⟩ := ho
  obtain ⟨ti, l1, l2⟩ := hi
  refine ⟨_, ps_dput hu k1 l1 h1 hs, ⟨fun rl rs post =>
    h2.thenS rl rs post fun d h1 v φ1 S1 H1 rl1 rs1 st1 rp1 post =>
    k2.thenS rl1 rs1 post fun x h2 u φ2 S2 H2 rl2 rs2 st2 rp2 post =>
    l2.thenS rl2 rs2 post fun y h3 w φ3 S3 H3 rl3 rs3 st3 rp3 post => ?_⟩⟩
  cases qk : keyOf y with
  | none =>
    cases x <;> (simp only [qk] at post; exact post.elim)
  | some k =>
    cases x with
    | cell n =>
      cases hx : h3[n]? with
      | none => simp only [qk, hx] at post; exact post.elim
      | some c =>
        cases c with
        | lst xs => simp only [qk, hx] at post; exact post.elim
        | dF kd => simp only [qk, hx] at post; exact post.elim
        | ins c fs => simp only [qk, hx] at post; exact post.elim
        | dN w kvs => simp only [qk, hx] at post; exact post.elim
        | dK kd =>
          simp only [qk, hx] at post
          by_cases hl : kd.length < 16777216
          · rw [if_pos hl] at post
            cases (show Rp X.K φ2 S2 u (.cell n) from rp2) with
            | @cell a _ ha =>
              have ha3 := st3.prefix.at ha
              obtain ⟨_, o', ho', rc⟩ := rl3.cel n a (.dK kd) ha3 hx
              obtain ⟨kv, rfl, ek, ra⟩ := rc
              have rk : RpK X.K φ3 S3 kv kd := .of ek ra
              have ev := keyOf_ok rp3 qk
              subst ev
              have rv : Rp X.K φ3 S3 v d := Rp.mono st3.prefix st3.sub (Rp.mono st2.prefix st2.sub rp1)
              have rk2 := (rk.put k rv).to
              obtain ⟨r4, s4⟩ := rl3.put (o := .dK (putK kv k v)) (c := .dK (putD kd k d)) ha3 ⟨_, rfl, rk2.1, rk2.2⟩
              exact ⟨a, _, rfl, DPut.k ho' (by rw [rk.len, line_eq]; exact hl), post _ φ3 S3 _ r4 (rs3.step s4) s4⟩
          · rw [if_neg hl] at post
            exact post.elim
    | _ => simp only [qk] at post; exact post.elim
/-- {} -/
def eDnew : ES := fun _ h => .ok (.cell h.length) (h ++ [.dK []])
theorem se_dnew : SE X W (.Dict [] [] pos) eDnew := ⟨_, pe_dnewK, ⟨fun {φ S H h σv σ Q} rl rs post => fun p hp => by
  obtain ⟨r2, s2⟩ := rl.hold (o := .dK []) hp
  have r3 := r2.celled (c := .dK []) upd_same (rl.snone hp) (rl.notin hp) ⟨[], rfl, rfl, .nil⟩
  exact post (.ref p) _ _ _ r3 (s2.celled hp) (.cell (by rw [← rl.len, List.getElem?_append_right (Nat.le_refl _), Nat.sub_self]; rfl))⟩⟩
/-- a dict that changes no more -/
def eLock (f : ES) : ES := fun σ h => (f σ h).bind fun d h1 => match d with
  | .cell n => (match h1[n]? with
    | some (.dK kd) => .ok (.cell n) (h1.set n (.dF kd))
    | _ => .stuck)
  | _ => .stuck
theorem pe_lockP {t : TE} (he : PE X e t) : PE X e (fun σ H Q => t σ H fun v H1 => ∃ d u, H1 d = some u ∧ Mut (some u) ∧ ∀ od, Q v (upd H1 d (.frz od u))) := by
  constructor
  intro pins s σ H Q I rd
  refine thn (he.run pins s σ H _ I rd) fun v s1 z => ?_
  obtain ⟨x, H1, I1, rx, d, u, hd, mu, q⟩ := z
  obtain ⟨od, I2⟩ := I1.lock hd mu
  exact ⟨x, _, I2, rx, q od⟩
theorem se_lock (he : SE X W e fe) : SE X W e (eLock fe) := by
  obtain ⟨te, h1, h2⟩ := he
  refine ⟨_, pe_lockP h1, ⟨fun rl rs post => h2.bind rl rs post fun d h1 v φ1 S1 H1 rl1 rs1 st rp post => ?_⟩⟩
  cases d with
  | cell n =>
    cases hx : h1[n]? with
    | none => simp only [hx] at post; exact post.elim
    | some c =>
      cases c with
      | dK kd =>
        simp only [hx] at post
        cases (show Rp X.K φ1 S1 v (.cell n) from rp) with
        | @cell a _ ha =>
          obtain ⟨_, o', ho', kv, rfl, ek, ra⟩ := rl1.cel n a (.dK kd) ha hx
          refine ⟨a, _, ho', True.intro, fun od => ?_⟩
          obtain ⟨r4, s4⟩ := rl1.put (o := .frz od (.dK kv)) (c := .dF kd) ha ⟨od, kv, rfl, ek, ra⟩
          exact post (.ref a) φ1 S1 _ r4 s4 (.cell ha)
      | _ => simp only [hx] at post; exact post.elim
  | _ => exact post.elim
/-- the keys of a dict that changes no more -/
def iD (f : ES) : IS := fun σ h => (f σ h).bind fun d h1 => match d with
  | .dct ks ds => .ok (ks.map keyD, always) h1
  | _ => .stuck
theorem qi_dict {tg : Expr} (he : SE X W e fe) : QI X W tg e (iD fe) := by
  obtain ⟨te, h1, h2⟩ := he
  refine ⟨_, pi_keys h1, ⟨fun rl rs post => h2.bind rl rs post fun d h1 v φ1 S1 H1 rl1 rs1 st rp post => ?_⟩⟩
  cases d with
  | dct ks ds =>
    cases (show Rp X.K φ1 S1 v (.dct ks ds) from rp) with
    | @dct a od kv _ _ g1 g2 g3 =>
      refine ⟨a, od, rfl, .inl ⟨kv, rl1.sub _ _ g1, post (Itk a od kv) φ1 S1 H1 rl1 (Step.refl _ _ _) ⟨fun {i φ S H h} r2 pr ex _ hi => ?_, fun {φ S H h} r2 pr ex _ => ?_⟩⟩⟩
      · rw [List.length_map, ← g2, List.length_map] at hi
        refine ⟨⟨r2.sub _ _ (ex _ _ g1), hi⟩, fun x H' y => ?_⟩
        obtain ⟨rfl, k, w, hk, rfl⟩ := y
        refine ⟨S, keyD k, ?_, r2, Step.refl _ _ _, keyD_ok k⟩
        rw [← g2, List.map_map, List.getElem?_map, hk]
        rfl
      · refine ⟨r2.sub _ _ (ex _ _ g1), ?_⟩
        rw [List.length_map, ← g2, List.length_map]
        exact Nat.le_refl _
  | _ => exact post.elim
/-! displays -/
abbrev PSd := VS → Hv → R (List (D × D))
def repP (K : PySem.W.Frag) : Rep (List (D × D)) (List (V × V)) := fun _ φ' S' _ b a => RpA K φ' S' (b.map (·.1)) (a.map (·.1)) ∧ RpA K φ' S' (b.map (·.2)) (a.map (·.2))
instance {K : PySem.W.Frag} : Rep.Up (repP K) := ⟨fun _ h => h⟩
def SP (X : Cx) (W : WX) (pos : Pos) (ks : List (Option Expr)) (vs : List Expr) (g : PSd) : Prop := ∃ trs, PPs X pos ks vs trs ∧ Sn X.K (repP X.K) W (tPairs trs) g
def pNil : PSd := fun _ h => .ok [] h
def pCons (fk fv : ES) (g : PSd) : PSd := fun σ h => (fk σ h).bind fun k h1 => (fv σ h1).bind fun v h2 => (g σ h2).bind fun r h3 => .ok ((k, v) :: r) h3
theorem sp_nil : SP X W pos [] [] pNil := ⟨[], pps_nil, ⟨fun {φ S H h σv σ Q} rl rs post => post [] φ S H rl (Step.refl _ _ _) ⟨.nil, .nil⟩⟩⟩
theorem sp_cons {ks : List (Option Expr)} {vs : List Expr} {g : PSd} (hk : SE X W i fi) (hv : SE X W value fv) (hr : SP X W pos ks vs g) : SP X W pos (some i :: ks) (value :: vs) (pCons fi fv g) := by
  obtain ⟨tk, a1, a2⟩ := hk
  obtain ⟨tv, b1, b2⟩ := hv
  obtain ⟨trs, c1, c2⟩ := hr
  exact ⟨_, pps_cons a1 b1 c1, ⟨fun rl rs post =>
    a2.bind rl rs post fun k h1 u φ1 S1 H1 rl1 rs1 st rp post =>
    b2.bind rl1 rs1 post fun v h2 w φ2 S2 H2 rl2 rs2 st2 rp2 post =>
    c2.bind rl2 rs2 post fun r h3 z φ3 S3 H3 rl3 rs3 st3 rp3 post =>
      post ((u, w) :: z) φ3 S3 H3 rl3 (Step.refl _ _ _) ⟨.cons (Rp.mono st3.prefix st3.sub (Rp.mono st2.prefix st2.sub rp)) rp3.1, .cons (Rp.mono st3.prefix st3.sub rp2) rp3.2⟩⟩⟩
def mergeD (kd more : List (Key × D)) : List (Key × D) := more.foldl (fun acc p => putD acc p.1 p.2) kd
theorem RpK.merge {K : PySem.W.Frag} {φ : List Addr} {S : Hp} {more : List (Key × V)} {mored : List (Key × D)} (r2 : RpK K φ S more mored) : ∀ {kv : List (Key × V)} {kd : List (Key × D)}, RpK K φ S kv kd → RpK K φ S (mergeK kv more) (mergeD kd mored) := by
  induction r2 with
  | nil => intro kv kd r; exact r
  | cons r _ ih => intro kv kd r0; exact ih (r0.put _ r)
def keyP (p : D × D) : Option (Key × D) := (keyOf p.1).map fun k => (k, p.2)
theorem keyPs_ok {K : PySem.W.Frag} {φ : List Addr} {S : Hp} : ∀ {b : List (V × V)} {a : List (D × D)} {kd : List (Key × D)}, RpA K φ S (b.map (·.1)) (a.map (·.1)) → RpA K φ S (b.map (·.2)) (a.map (·.2)) → optAll keyP a = some kd → ∃ kv : List (Key × V), b = kv.map (fun p => (kV p.1, p.2)) ∧ RpK K φ S kv kd
  | [], [], kd, _, _, e => by
    cases e
    exact ⟨[], rfl, .nil⟩
  | [], _ :: _, _, r, _, _ => by cases r
  | _ :: _, [], _, r, _, _ => by cases r
  | (u, w) :: b, (k, d) :: a, kd, r1, r2, e => by
    rw [List.map_cons, List.map_cons] at r1 r2
    cases r1 with
    | cons q1 t1 =>
      cases r2 with
      | cons q2 t2 =>
        simp only [optAll] at e
        cases hk : keyOf k with
        | none => simp only [keyP, hk, Option.map_none] at e; cases e
        | some k0 =>
          simp only [keyP, hk, Option.map_some] at e
          cases hr : optAll keyP a with
          | none => simp only [hr] at e; cases e
          | some kd0 =>
            simp only [hr] at e
            cases e
            obtain ⟨kv, rfl, rk⟩ := keyPs_ok t1 t2 hr
            have ev : u = kV k0 := keyOf_ok q1 hk
            refine ⟨(k0, w) :: kv, ?_, .cons q2 rk⟩
            rw [List.map_cons, ev]
def eDisp (g : PSd) : ES := fun σ h => (g σ h).bind fun ps h1 => match optAll keyP ps with
  | some kd => if kd.length ≤ 15 then .ok (.cell h1.length) (h1 ++ [.dK (mergeD [] kd)]) else .stuck
  | none => .stuck
theorem sn_disp {trs : List (TE × TE)} {g : PSd} {α : Type} {rep : Rep α V} {fin : List (Key × D) → Hv → R α} {φ : List Addr} {S H : Hp} {h : Hv} {σv : VS} {σ : L2.St} {E : XK} {T : V → Hp → Prop} {p : Addr} (h2 : Sn X.K (repP X.K) W (tPairs trs) g) (rl : Rel X.K φ S H h) (rs : RelS X.K φ S σv σ) (hp : H p = none)
    (post : ∀ cls dd φ' S' H' h' x, g σv h = .exc x h' → Rel X.K φ' S' H' h' → Step φ S H φ' S' H' → RpX X.K φ' S' H' x cls dd → W cls dd σ H')
    (ok : ∀ ps h' kd (kv : List (Key × V)) φ' S' H', g σv h = .ok ps h' → optAll keyP ps = some kd → Rel X.K φ' S' H' h' → Step φ S (upd H p (.dK [])) φ' S' H' → RpK X.K φ' S' kv kd → S' p = none → p ∉ φ' → H' p = some (.dK []) → kv.length ≤ 15 ∧ T (.ref p) (upd H' p (.dK (mergeK [] kv))))
    (good : ∃ ps h' kd, g σv h = .ok ps h' ∧ optAll keyP ps = some kd ∨ ∃ x, g σv h = .exc x h') :
    tPairs trs σ (upd H p (.dK [])) fun ps H2 => H2 p = some (.dK []) ∧ ∃ kvs : List (Key × V), ps = kvs.map (fun kv => (kV kv.1, kv.2)) ∧ kvs.length ≤ 15 ∧ T (.ref p) (upd H2 p (.dK (mergeK [] kvs))) := by
  obtain ⟨r0, s0⟩ := rl.hold (o := .dK []) hp
  have sp := rl.snone hp
  have np := rl.notin hp
  refine h2.run r0 (rs.step s0) ?_
  cases hg : g σv h with
  | stuck =>
    obtain ⟨ps, h', kd, ⟨e, _⟩ | ⟨x, e⟩⟩ := good
    · rw [hg] at e; cases e
    · rw [hg] at e; cases e
  | exc x h' => exact fun cls dd φ' S' H' r2 st rx => post cls dd φ' S' H' h' x hg r2 (s0.trans st) rx
  | ok ps h' =>
    intro b φ' S' H' r2 st rp
    obtain ⟨ps2, h2', kd, ⟨e, hk⟩ | ⟨x, e⟩⟩ := good
    · rw [hg] at e
      cases e
      obtain ⟨kv, rfl, rk⟩ := keyPs_ok rp.1 rp.2 hk
      have np' : p ∉ φ' := by
        obtain ⟨ψ, e, hn⟩ := st.pre
        rw [e]
        intro z
        rcases List.mem_append.mp z with z | z
        · exact np z
        · have := hn p z
          rw [upd_same] at this
          cases this
      have hp' : H' p = some (.dK []) := st.keep p _ upd_same np
      have sp' : S' p = none := (st.old p (by rw [upd_same]; exact fun z => nomatch z)).trans sp
      obtain ⟨z1, z2⟩ := ok ps h' kd kv φ' S' H' hg hk r2 st rk sp' np' hp'
      exact ⟨hp', kv, rfl, z1, z2⟩
    · rw [hg] at e; cases e
theorem upd_rel {K : PySem.W.Frag} {φ : List Addr} {S H : Hp} {h : Hv} (r : Rel K φ S H h) {p : Addr} {o : HO} (sp : S p = none) (np : p ∉ φ) : Rel K φ S (upd H p o) h := ⟨r.len, fun c u e => by
    have q : c ≠ p := fun z => by rw [z, sp] at e; cases e
    rw [upd_ne q]
    exact r.sub c u e, r.nd, fun n c x e1 e2 => by
    obtain ⟨z1, o, z2, z3⟩ := r.cel n c x e1 e2
    have q : c ≠ p := fun z => np (by rw [← z]; exact List.mem_of_getElem? e1)
    exact ⟨z1, o, by rw [upd_ne q]; exact z2, z3⟩⟩
theorem upd_step {φ φ' : List Addr} {S H S' H' : Hp} (st : Step φ S H φ' S' H') {p : Addr} {o : HO} (hp : H p = none) : Step φ S H φ' S' (upd H' p o) := ⟨st.pre, st.sub, st.old, fun a u e hn => by
    have q : a ≠ p := ne_of_none e hp
    rw [upd_ne q]
    exact st.keep a u e hn, fun a ha => by
    by_cases q : a = p
    · rw [q, upd_same]; exact fun z => nomatch z
    · rw [upd_ne q]; exact st.there a ha⟩
theorem se_disp {ks : List (Option Expr)} {vs : List Expr} {g : PSd} (h : SP X W pos ks vs g) (hall : ks.all (·.isSome) = true := by rfl) (hl : ks.length = vs.length := by rfl) (h0 : ks ≠ [] := by exact fun z => nomatch z) (h15 : ks.length ≤ 15 := by decide) : SE X W (.Dict ks vs pos) (eDisp g) := by
  obtain ⟨trs, h1, h2⟩ := h
  refine ⟨_, pe_disp h1 hall hl h0 h15, ⟨fun {φ S H h σv σ Q} rl rs post p hp => ?_⟩⟩
  obtain ⟨_, s0⟩ := rl.hold (o := .dK []) hp
  unfold eDisp at post
  refine sn_disp (rep := repV X.K) (fin := fun _ _ => .stuck) (E := fun c d H' => W c d σ H') h2 rl rs hp (fun cls dd φ' S' H' h' x e r2 st rx => ?_) (fun ps h' kd kv φ' S' H' e hk r2 st rk sp' np' hp' => ?_) ?_
  · rw [e] at post
    exact post cls dd φ' S' H' r2 st rx
  · rw [e, R.bind_ok] at post
    simp only [hk] at post
    by_cases hz : kd.length ≤ 15
    · rw [if_pos hz] at post
      have rm := ((rk.merge .nil).to : _)
      have r4 := (upd_rel (o := .dK (mergeK [] kv)) r2 sp' np').celled (c := .dK (mergeD [] kd)) upd_same sp' np' ⟨_, rfl, rm.1, rm.2⟩
      exact ⟨by rw [rk.len]; exact hz, post (.ref p) _ _ _ r4 ((upd_step (s0.trans st) hp).celled hp) (.cell (by rw [← r2.len, List.getElem?_append_right (Nat.le_refl _), Nat.sub_self]; rfl))⟩
    · rw [if_neg hz] at post
      exact post.elim
  · cases hg : g σv h with
    | stuck => rw [hg] at post; exact post.elim
    | exc x h' => exact ⟨[], h', [], .inr ⟨x, rfl⟩⟩
    | ok ps h' =>
      rw [hg, R.bind_ok] at post
      cases hk : optAll keyP ps with
      | none => simp only [hk] at post; exact post.elim
      | some kd => exact ⟨ps, h', kd, .inl ⟨rfl, hk⟩⟩
/-- a display that changes no more -/
def eDispF (g : PSd) : ES := fun σ h => (g σ h).bind fun ps h1 => match optAll keyP ps with
  | some kd => if kd.length ≤ 15 then .ok (.dct ((mergeD [] kd).map (·.1)) ((mergeD [] kd).map (·.2))) h1 else .stuck
  | none => .stuck
theorem se_dispF {ks : List (Option Expr)} {vs : List Expr} {g : PSd} (h : SP X W pos ks vs g) (hall : ks.all (·.isSome) = true := by rfl) (hl : ks.length = vs.length := by rfl) (h0 : ks ≠ [] := by exact fun z => nomatch z) (h15 : ks.length ≤ 15 := by decide) : SE X W (.Dict ks vs pos) (eDispF g) := by
  obtain ⟨trs, h1, h2⟩ := h
  refine ⟨_, pe_lockP (pe_disp h1 hall hl h0 h15), ⟨fun {φ S H h σv σ Q} rl rs post p hp => ?_⟩⟩
  obtain ⟨_, s0⟩ := rl.hold (o := .dK []) hp
  unfold eDispF at post
  refine sn_disp (T := fun v H1 => ∃ d u, H1 d = some u ∧ Mut (some u) ∧ ∀ (od : Obj), Q v (upd H1 d (.frz od u))) (rep := repV X.K) (fin := fun _ _ => .stuck) (E := fun c d H' => W c d σ H') h2 rl rs hp (fun cls dd φ' S' H' h' x e r2 st rx => ?_) (fun ps h' kd kv φ' S' H' e hk r2 st rk sp' np' hp' => ?_) ?_
  · rw [e] at post
    exact post cls dd φ' S' H' r2 st rx
  · rw [e, R.bind_ok] at post
    simp only [hk] at post
    by_cases hz : kd.length ≤ 15
    · rw [if_pos hz] at post
      have rm := ((rk.merge .nil).to : _)
      refine ⟨by rw [rk.len]; exact hz, p, _, upd_same, True.intro, fun od => ?_⟩
      rw [upd_upd]
      have r4 := (upd_rel (o := .frz od (.dK (mergeK [] kv))) r2 sp' np').still upd_same sp' np'
      exact post (.ref p) _ _ _ r4 ((upd_step (s0.trans st) hp).still hp sp') (.dct upd_same rm.1 (rm.2.mono (Pre.refl _) (Ex.new sp')))
    · rw [if_neg hz] at post
      exact post.elim
  · cases hg : g σv h with
    | stuck => rw [hg] at post; exact post.elim
    | exc x h' => exact ⟨[], h', [], .inr ⟨x, rfl⟩⟩
    | ok ps h' =>
      rw [hg, R.bind_ok] at post
      cases hk : optAll keyP ps with
      | none => simp only [hk] at post; exact post.elim
      | some kd => exact ⟨ps, h', kd, .inl ⟨rfl, hk⟩⟩
/-! d.pop(k) -/
def eDpop (fo fi : ES) : ES := fun σ h => (fo σ h).bind fun x h1 => match kvOf h1 x with
  | some _ => (fi σ h1).bind fun y h2 => (match x, keyOf y with
    | .cell n, some k => (match h2[n]? with
      | some (.dK kd) => (match getD kd k with
        | some d => .ok d (h2.set n (.dK (dropD kd k)))
        | none => .stuck)
      | _ => .stuck)
    | _, _ => .stuck)
  | none => .stuck
theorem se_dpop (ho : SE X W o fo) (hi : SE X W i fi) (hbase : attributeBase o "pop" X.env (eval o X.env) = eval o X.env := by rfl)
    (hfew : ((backTo cpos (starEach [i] X.env)).all (fun x => !x.1) && (backToKw cpos (keywordEach [] X.env)).all (fun x => x.1.isSome) && decide (([i] : List Expr).length + ([] : List Keyword).length + (if ([] : List Keyword).isEmpty then 0 else 1) < 30)) = true := by rfl)
    (hline : (apos.endLine == cpos.line) = true := by rfl) (htr : backTo cpos (starEach [i] X.env) = [(false, eval i X.env)] := by rfl) : SE X W (.Call (.Attribute o "pop" apos) [i] [] cpos) (eDpop fo fi) := by
  obtain ⟨to, h1, h2⟩ := ho
  obtain ⟨ti, k1, k2⟩ := hi
  refine ⟨_, pe_dpop1 h1 k1 ⟨hbase, hfew, hline, htr⟩, ⟨fun rl rs post => h2.bind rl rs post fun x h1 v φ1 S1 H1 rl1 rs1 st rp post => ?_⟩⟩
  cases qx : kvOf h1 x with
  | none => simp only [qx] at post; exact post.elim
  | some kd0 =>
    simp only [qx] at post
    obtain ⟨a, kv0, rfl, ha0, _⟩ := kvOf_ok rl1 rp qx
    refine ⟨a, rfl, .inl ⟨kv0, ha0⟩, k2.bind rl1 rs1 post fun y h2 u φ2 S2 H2 rl2 rs2 st2 rp2 post => ?_⟩
    cases qk : keyOf y with
    | none => cases x <;> (simp only [qk] at post; exact post.elim)
    | some k =>
      cases x with
      | cell n =>
        cases hx : h2[n]? with
        | none => simp only [qk, hx] at post; exact post.elim
        | some c =>
          cases c with
          | dK kd =>
            cases qg : getD kd k with
            | none => simp only [qk, hx, qg] at post; exact post.elim
            | some d =>
              simp only [qk, hx, qg] at post
              cases (show Rp X.K φ1 S1 (.ref a) (.cell n) from rp) with
              | @cell _ _ hn =>
                have hn2 := st2.prefix.at hn
                obtain ⟨_, o', ho', kv, rfl, ek, ra⟩ := rl2.cel n a (.dK kd) hn2 hx
                have rk : RpK X.K φ2 S2 kv kd := .of ek ra
                have ev := keyOf_ok rp2 qk
                subst ev
                rcases rk.get k with ⟨g1, _⟩ | ⟨d', w, g1, g2, rd⟩
                · rw [qg] at g1; cases g1
                · rw [qg] at g1
                  cases g1
                  have rk2 := (rk.drop k).to
                  obtain ⟨r4, s4⟩ := rl2.put (o := .dK (dropK kv k)) (c := .dK (dropD kd k)) hn2 ⟨_, rfl, rk2.1, rk2.2⟩
                  exact ⟨kv, k, w, ho', rfl, g2, post w φ2 S2 _ r4 s4 rd⟩
          | _ => simp only [qk, hx] at post; exact post.elim
      | _ => simp only [qk] at post; exact post.elim
end
/-! sorted(d), whole numbers as keys -/
def intK : Key → Option Int
  | .inl i => some i
  | .inr _ => none
def bSortDI : List D → Hv → R (List D) := fun ds h => match ds with
  | [d] => (match (kvOf h d).bind fun kd => optAll intK (kd.map (·.1)) with
    | some ns => if ns.length < 64 then .ok ((sortI ns).map .int) h else .stuck
    | none => .stuck)
  | _ => .stuck
def rSortDI (K : PySem.W.Frag) : List V → Hp → VK → Prop := fun xs H Q => ∃ (a : Addr) (kvs : List (Key × V)) (ks : List Int), xs = [.ref a] ∧ Rd H a (.dK kvs) ∧ kvs.map (·.1) = ks.map Sum.inl ∧ ks.length < 64 ∧ ∀ (ys : List Int) (p : Addr), ys.Perm ks → ys.Pairwise (· ≤ ·) → H p = none → Q (.ref p) (upd H p (.lst (ys.map V.int)))
theorem intKs : ∀ {ks : List Key} {ns : List Int}, optAll intK ks = some ns → ks = ns.map Sum.inl
  | [], ns, e => by cases e; rfl
  | k :: ks, ns, e => by
    simp only [optAll] at e
    cases k with
    | inr x => cases e
    | inl i =>
      simp only [intK] at e
      cases q : optAll intK ks with
      | none =>
        simp only [q] at e
        cases e
      | some ns' =>
        simp only [q] at e
        cases e
        rw [intKs q]; rfl
theorem cl_sortDI {K : PySem.W.Frag} : CaL K (rSortDI K) bSortDI := by
  intro φ S H h ds vs Q E rl ra post
  unfold bSortDI at post
  split at post
  · next d =>
    obtain ⟨v, rfl, r⟩ := ra.one
    split at post
    · next ns hn =>
      obtain ⟨kd, q1, q2⟩ := Option.bind_eq_some_iff.mp hn
      split at post
      · next hl =>
        obtain ⟨a, kv, rfl, h2, rk⟩ := kvOf_ok rl r q1
        refine ⟨a, kv, ns, rfl, h2, by rw [rk.to.1]; exact intKs q2, hl, fun ns' p hperm hs hp => ?_⟩
        have e : ns' = sortI ns := sort_one (hperm.trans (sortI_perm ns).symm) hs (sortI_rises ns)
        rw [e]
        obtain ⟨r2, s2⟩ := rl.hold (o := .lst ((sortI ns).map V.int)) hp
        exact post _ φ _ _ r2 s2 ⟨p, _, rfl, hp, upd_same, rl.snone hp, rl.notin hp, .of_ints _⟩
      · exact post.elim
    · exact post.elim
  · exact post.elim
theorem cr_sortDI {X : Cx} (hc : X.calm = true := by rfl) : CallR X (.builtin "sorted") (rSortDI X.K) := call_sortedDI hc
end
end VD

set_option Elab.async false
set_option linter.all false
set_option maxRecDepth 100000
set_option maxHeartbeats 4000000
namespace VD
open PySem PySem.Spec PyProof.Rows L2
noncomputable section
/-! ### text * number, str and int of texts -/
def repS (a : Str) (n : Int) : Str := ⟨((List.replicate n.toNat a.cps.toList).flatten).toArray⟩
theorem rep_fold (xs : List Nat) : ∀ (n : Nat) (acc : Array Nat), ((List.replicate n xs.toArray).foldl (· ++ ·) acc) = acc ++ ((List.replicate n xs).flatten).toArray
  | 0, acc => by simp
  | n + 1, acc => by
    rw [List.replicate_succ, List.replicate_succ, List.foldl_cons, rep_fold xs n, List.flatten_cons]
    simp
def rMulS : R2 := fun x y H Q => ∃ (a : Str) (n : Int), x = .str a ∧ y = .int n ∧ (-1000 ≤ n ∧ n ≤ 1000) ∧ a.length ≤ 1000 ∧ Q (.str (repS a n)) H
theorem op_mulS {X : Cx} : OpR X (binaryOp .Mult) rMulS := by
  intro pins s σ H x y v u Q I rx ry h
  obtain ⟨a, n, rfl, rfl, ⟨b0, b1⟩, hl, q⟩ := h
  obtain ⟨t, rfl⟩ := rx
  obtain ⟨t', rfl⟩ := ry
  have ok : ∀ {tk : Tok} {s' : Shared}, Inv X pins σ H s' → EP X pins σ Q (.str (repS a n) tk) s' := fun {tk s'} J => ⟨.str (repS a n), H, J, ⟨_, rfl⟩, q⟩
  have z0 : ¬ n < -(2 ^ 63 : Int) := by omega
  have z1 : ¬ n ≥ 2 ^ 63 := by omega
  refine P.mul_str (by rw [decide_eq_false z0, decide_eq_false z1]; rfl) (fun h1 _ => ?_) (fun h1 _ => ?_) ?_
  · have h3 : (1000 : Int) ≤ (2 ^ 63 - 1) / n := (Int.le_ediv_iff_mul_le (by omega)).mpr (by omega)
    omega
  · have : a.length * n.toNat ≤ 1000 * 1000 := Nat.mul_le_mul hl (by omega)
    exact decide_eq_false (by rw [line_eq]; omega)
  · by_cases h1 : n < 1
    · rw [if_pos h1]
      have e : repS a n = Str.empty := by
        unfold repS
        have : n.toNat = 0 := by omega
        rw [this]; rfl
      rw [e] at ok
      exact ⟨by decide, ok (I.tok _)⟩
    · rw [if_neg h1]
      by_cases h2 : (n == 1 || a.length == 0) = true
      · rw [if_pos h2]
        have e : repS a n = a := by
          cases a with
          | mk cs =>
            unfold repS
            rw [Bool.or_eq_true, beq_iff_eq, beq_iff_eq] at h2
            rcases h2 with h2 | h2
            · rw [h2]
              show Str.mk _ = Str.mk _
              simp
            · have h2 : cs.size = 0 := h2
              have : cs = #[] := Array.size_eq_zero_iff.mp h2
              subst this
              show Str.mk _ = Str.mk _
              simp
        show EP X pins σ Q (.str a t) s
        exact ⟨.str (repS a n), H, I, ⟨t, by rw [e]⟩, q⟩
      · rw [if_neg h2]
        have e : (⟨(List.replicate n.toNat a.cps).foldl (· ++ ·) #[]⟩ : Str) = repS a n := by
          unfold repS
          have := rep_fold a.cps.toList n.toNat #[]
          rw [Array.toArray_toList] at this
          rw [this]
          simp
        rw [e]
        refine ⟨?_, ok (I.tok _)⟩
        rw [line_eq]
        have : (repS a n).length = n.toNat * a.length := by
          show (((List.replicate n.toNat a.cps.toList).flatten).toArray).size = _
          simp [Str.length]
        rw [this]
        exact Nat.le_trans (Nat.mul_le_mul (show n.toNat ≤ 1000 by omega) hl) (by decide)
section
variable {K : PySem.W.Frag}
def oMulS : D → D → Hv → R D := fun x y h => match x, y with
  | .str a, .int n => @ite _ ((-1000 ≤ n ∧ n ≤ 1000) ∧ a.length ≤ 1000) (Classical.propDecidable _) (.ok (.str (repS a n)) h) .stuck
  | _, _ => .stuck
theorem os_mulS : OpS K rMulS oMulS := by
  intro φ S H h x y v u Q E rl rx ry post
  unfold oMulS at post
  split at post
  · cases rx
    cases ry
    split at post
    · next q => exact ⟨_, _, rfl, rfl, q.1, q.2, post _ φ S H rl (Step.refl _ _ _) (.str _)⟩
    · exact post.elim
  · exact post.elim
/-- str of a whole number or a text, int of a whole number, a truth or a text -/
def bStrA : List D → Hv → R D := fun ds h => match ds with
  | [.int i] => if i.natAbs.log2 < 1920 then .ok (.str (toString i)) h else .stuck
  | [.str a] => .ok (.str a) h
  | _ => .stuck
def rStrA : List V → Hp → VK → Prop := fun xs H Q => (∃ i, xs = [.int i] ∧ i.natAbs.log2 < 1920 ∧ Q (.str (toString i)) H) ∨ ∃ a, xs = [.str a] ∧ Q (.str a) H
theorem call_strA {X : Cx} : CallR X (.type "str") rStrA := by
  intro pins s σ H xs us Q I r h
  rcases h with h | h
  · exact call_str_int pins s σ H xs us Q I r h
  · exact SkE.call_str_str pins s σ H xs us Q I r h
theorem cs_strA : CaS K rStrA bStrA := by
  intro φ S H h ds vs Q E rl ra post
  unfold bStrA at post
  split at post
  · obtain ⟨v, rfl, r⟩ := ra.one
    cases r
    split at post
    · next q => exact .inl ⟨_, rfl, q, post _ φ S H rl (Step.refl _ _ _) (.str _)⟩
    · exact post.elim
  · obtain ⟨v, rfl, r⟩ := ra.one
    cases r
    exact .inr ⟨_, rfl, post _ φ S H rl (Step.refl _ _ _) (.str _)⟩
  · exact post.elim
def bIntA : List D → Hv → R D := fun ds h => match ds with
  | [.int i] => .ok (.int i) h
  | [.bl b] => .ok (.int (if b then 1 else 0)) h
  | [.str a] => (match PySem.intText? a with
    | some n => if a.length ≤ 640 then .ok (.int n) h else .stuck
    | none => .stuck)
  | _ => .stuck
def rIntA : List V → Hp → VK → Prop := fun xs H Q => ((∃ i, xs = [.int i] ∧ Q (.int i) H) ∨ ∃ k, xs = [.bl k] ∧ Q (.int (if k then 1 else 0)) H) ∨ ∃ a n, xs = [.str a] ∧ PySem.intText? a = some n ∧ a.length ≤ 640 ∧ Q (.int n) H
theorem call_intA {X : Cx} : CallR X (.type "int") rIntA := by
  intro pins s σ H xs us Q I r h
  rcases h with h | h
  · exact call_int1 pins s σ H xs us Q I r h
  · exact call_int_str pins s σ H xs us Q I r h
theorem cs_intA : CaS K rIntA bIntA := by
  intro φ S H h ds vs Q E rl ra post
  unfold bIntA at post
  split at post
  · obtain ⟨v, rfl, r⟩ := ra.one
    cases r
    exact .inl (.inl ⟨_, rfl, post _ φ S H rl (Step.refl _ _ _) (.int _)⟩)
  · obtain ⟨v, rfl, r⟩ := ra.one
    cases r
    exact .inl (.inr ⟨_, rfl, post _ φ S H rl (Step.refl _ _ _) (.int _)⟩)
  · split at post
    · next n hn =>
      obtain ⟨v, rfl, r⟩ := ra.one
      cases r
      split at post
      · next hl => exact .inr ⟨_, n, rfl, hn, hl, post _ φ S H rl (Step.refl _ _ _) (.int _)⟩
      · exact post.elim
    · exact post.elim
  · exact post.elim
@[simp] theorem bStrA_str {a : Str} {h : Hv} : bStrA [.str a] h = .ok (.str a) h := rfl
theorem bStrA_int {i : Int} {h : Hv} (h1 : -(10 ^ 77) < i) (h2 : i < 10 ^ 77) : bStrA [.int i] h = .ok (.str (toString i)) h := by
  have e : (10 : Int) ^ 77 = 100000000000000000000000000000000000000000000000000000000000000000000000000000 := by decide
  have e2 : (2 : Nat) ^ 256 = 115792089237316195423570985008687907853269984665640564039457584007913129639936 := by decide
  have l : i.natAbs < 2 ^ 256 := by rw [e] at h1 h2; rw [e2]; omega
  exact if_pos (Nat.lt_of_lt_of_le (PySem.Flt.log2_lt_of (by decide) l) (by decide))
@[simp] theorem bIntA_int {i : Int} {h : Hv} : bIntA [.int i] h = .ok (.int i) h := rfl
@[simp] theorem bIntA_bl {b : Bool} {h : Hv} : bIntA [.bl b] h = .ok (.int (if b then 1 else 0)) h := rfl
theorem bIntA_str {a : Str} {n : Int} {h : Hv} (e : PySem.intText? a = some n) (hl : a.length ≤ 640) : bIntA [.str a] h = .ok (.int n) h := by
  show (match PySem.intText? a with | some n => if a.length ≤ 640 then R.ok (D.int n) h else .stuck | none => .stuck) = _
  rw [e]
  exact if_pos hl
theorem oMulS_ap {a : Str} {n : Int} {h : Hv} (h1 : -1000 ≤ n) (h2 : n ≤ 1000) (h3 : a.length ≤ 1000) : oMulS (.str a) (.int n) h = .ok (.str (repS a n)) h := if_pos ⟨⟨h1, h2⟩, h3⟩
end
/-! ### a thing of any kind among others -/
def seqP : PyData → Option (List PyData)
  | .list xs => some xs
  | .tuple xs => some xs
  | _ => none
def inP (h : Hv) (x y : D) : Option Bool := match toPy h 12 x, (toPy h 12 y).bind seqP with
  | some d, some xs => some (xs.any fun z => PyData.eqv z d)
  | _, _ => none
def oInP : D → D → Hv → R D := fun x y h => match inP h x y with
  | some b => .ok (.bl b) h
  | none => .stuck
def oNotInP : D → D → Hv → R D := fun x y h => match inP h x y with
  | some b => .ok (.bl (!b)) h
  | none => .stuck
def rInP (K : PySem.W.Frag) (neg : Bool) : R2 := fun x y H Q => ∃ d e xs, Dp K H x d ∧ Dp K H y e ∧ seqP e = some xs ∧ (d.plain = true ∧ e.plain = true ∧ d.depth ≤ 63) ∧ Q (.bl (if neg then !xs.any fun z => PyData.eqv z d else xs.any fun z => PyData.eqv z d)) H
theorem op_inP {X : Cx} (hu : X.A.units + 64 < cLine) : OpR X (compareOp .In) (rInP X.K false) := by
  intro pins s σ H x y v u Q I rx ry h
  obtain ⟨d, e, xs, hd, he, es, ⟨pd, pe, dd⟩, q⟩ := h
  obtain ⟨as, r1⟩ := Dp.reads I d x v hd rx
  obtain ⟨bs, r2⟩ := Dp.reads I e y u he ry
  have line : ∀ ys : List PyData, X.A.units + 1 + min (PyData.depthAll ys) d.depth < cLine := fun ys => by
    have := Nat.min_le_right (PyData.depthAll ys) d.depth
    omega
  cases e with
  | list ys =>
    cases es
    exact PySem.SeqAt.in_list_data r2 r1 (by simpa only [PyData.plain] using pe) pd (line _) ⟨.bl _, H, I, rfl, q⟩
  | tuple ys =>
    cases es
    exact PySem.SeqAt.in_tuple_data r2 r1 (by simpa only [PyData.plain] using pe) pd (line _) ⟨.bl _, H, I, rfl, q⟩
  | _ => cases es
theorem op_notInP {X : Cx} (hu : X.A.units + 64 < cLine) : OpR X (compareOp .NotIn) (rInP X.K true) := by
  intro pins s σ H x y v u Q I rx ry h
  obtain ⟨d, e, xs, hd, he, es, ⟨pd, pe, dd⟩, q⟩ := h
  obtain ⟨as, r1⟩ := Dp.reads I d x v hd rx
  obtain ⟨bs, r2⟩ := Dp.reads I e y u he ry
  have line : ∀ ys : List PyData, X.A.units + 1 + min (PyData.depthAll ys) d.depth < cLine := fun ys => by
    have := Nat.min_le_right (PyData.depthAll ys) d.depth
    omega
  cases e with
  | list ys =>
    cases es
    exact PySem.SeqAt.notIn_list_data r2 r1 (by simpa only [PyData.plain] using pe) pd (line _) ⟨.bl _, H, I, rfl, q⟩
  | tuple ys =>
    cases es
    exact PySem.SeqAt.notIn_tuple_data r2 r1 (by simpa only [PyData.plain] using pe) pd (line _) ⟨.bl _, H, I, rfl, q⟩
  | _ => cases es
theorem inP_ok {K : PySem.W.Frag} {φ : List Addr} {S H : Hp} {h : Hv} {x y : D} {v u : V} {b : Bool} (rl : Rel K φ S H h) (rx : Rp K φ S v x) (ry : Rp K φ S u y) (e : inP h x y = some b) :
    ∃ d e xs, Dp K H v d ∧ Dp K H u e ∧ seqP e = some xs ∧ (d.plain = true ∧ e.plain = true ∧ d.depth ≤ 63) ∧ (xs.any fun z => PyData.eqv z d) = b := by
  unfold inP at e
  cases e1 : toPy h 12 x with
  | none => simp only [e1] at e; cases e
  | some d =>
    cases e2 : toPy h 12 y with
    | none => simp only [e1, e2, Option.bind_none] at e; cases e
    | some d2 =>
      simp only [e1, e2, Option.bind_some] at e
      cases e3 : seqP d2 with
      | none => simp only [e3] at e; cases e
      | some xs =>
        simp only [e3] at e
        obtain ⟨p1, p2⟩ := toPy_plain 12 x d e1
        obtain ⟨q1, q2⟩ := toPy_plain 12 y d2 e2
        exact ⟨d, d2, xs, dp_of rl _ _ _ _ rx e1, dp_of rl _ _ _ _ ry e2, e3, ⟨p1, q1, by omega⟩, Option.some.inj e⟩
theorem os_inP {K : PySem.W.Frag} : OpS K (rInP K false) oInP := by
  intro φ S H h x y v u Q E rl rx ry post
  simp only [oInP] at post
  cases e : inP h x y with
  | none => simp only [e] at post; exact post.elim
  | some b =>
    simp only [e] at post
    have fin := post _ φ S H rl (Step.refl _ _ _) (.bl b)
    obtain ⟨d, e', xs, h1, h2, h3, h4, h5⟩ := inP_ok rl rx ry e
    exact ⟨d, e', xs, h1, h2, h3, h4, by rw [if_neg Bool.false_ne_true, h5]; exact fin⟩
theorem os_notInP {K : PySem.W.Frag} : OpS K (rInP K true) oNotInP := by
  intro φ S H h x y v u Q E rl rx ry post
  simp only [oNotInP] at post
  cases e : inP h x y with
  | none => simp only [e] at post; exact post.elim
  | some b =>
    simp only [e] at post
    have fin := post _ φ S H rl (Step.refl _ _ _) (.bl (!b))
    obtain ⟨d, e', xs, h1, h2, h3, h4, h5⟩ := inP_ok rl rx ry e
    exact ⟨d, e', xs, h1, h2, h3, h4, by rw [if_pos rfl, h5]; exact fin⟩
/-! ### what an expression makes is still behind it -/
def frzR (n0 : Nat) (r : R D) : R D := match r with
  | .ok d h => exitD n0 d h
  | _ => .stuck
def eFrz (f : ES) : ES := fun σ h => frzR h.length (f σ h)
theorem se_frz {X : Cx} {W : WX} {e : Expr} {f : ES} (hs : SE X W e f) : SE X W e (eFrz f) := by
  obtain ⟨t, h1, h2⟩ := hs
  refine ⟨t, h1, ⟨fun {φ S H h σv σ Q} rl rs post => h2.run rl rs ?_⟩⟩
  unfold eFrz at post
  have en : h.length = φ.length := rl.len.symm
  cases q : f σv h with
  | ok d h' =>
    rw [q] at post
    intro v φ' S' H' r2 st rv
    simp only [frzR] at post
    unfold exitD at post
    split at post
    · next d' h'' q1 q2 =>
      split at post
      · next hn =>
        rw [en] at q1 q2 hn
        obtain ⟨s2, _⟩ := exit_step st r2
        exact post v _ _ H' (exit_rel r2 hn q2) s2 (frz_ok r2 _ _ _ _ rv q1)
      · exact post.elim
    · exact post.elim
  | exc x h' => rw [q] at post; exact post.elim
  | stuck => rw [q] at post; exact post.elim
end
end VD

set_option Elab.async false
set_option linter.all false
set_option maxRecDepth 100000
set_option maxHeartbeats 4000000
namespace VD
open PySem PySem.Spec PyProof.Rows L2
noncomputable section
/-! ### what is computed, by rewriting -/
@[simp high] theorem at0 {α : Type} (a : α) (l : List α) : (a :: l)[0]? = some a := rfl
section
variable {σ : VS} {h : Hv} {i j : Nat} {d : D} {f g k : ES} {l : LS} {c c2 : CS} {α : Type}
@[simp] theorem eVar_ap : eVar i σ h = (match σ[i]? with
  | some (some d) => .ok d h
  | _ => .stuck) := rfl
@[simp] theorem eK_ap : eK d σ h = .ok d h := rfl
@[simp] theorem eV_ap : eV l σ h = (l σ h).bind fun ds h' => .ok (.lst ds) h' := rfl
@[simp] theorem eC_ap : eC l σ h = (l σ h).bind fun ds h' => .ok (.cell h'.length) (h' ++ [.lst ds]) := rfl
def kOp (ro : D → D → Hv → R α) (g : ES) (σ : VS) (x : D) (h : Hv) : R α := (g σ h).bind (ro x)
@[simp] theorem eOp_ap {ro : D → D → Hv → R α} : eOp ro f g σ h = (f σ h).bind (kOp ro g σ) := rfl
@[simp] theorem kOp_ap {ro : D → D → Hv → R α} {x : D} : kOp ro g σ x h = (g σ h).bind (ro x) := rfl
@[simp] theorem eUn_ap {ro : D → Hv → R D} : eUn ro f σ h = (f σ h).bind ro := rfl
@[simp] theorem toB_ap : toB f σ h = (f σ h).bind fun d h1 => (match d with
  | .bl b => .ok b h1
  | _ => .stuck) := rfl
@[simp] theorem cTru_ap : cTru f σ h = (f σ h).bind fun d h1 => (match dTru h1 d with
  | some b => .ok b h1
  | none => .stuck) := rfl
def kAnd (c2 : CS) (σ : VS) (k : Bool) (h : Hv) : R Bool := if k then c2 σ h else .ok false h
@[simp] theorem cAnd_ap : cAnd c c2 σ h = (c σ h).bind (kAnd c2 σ) := rfl
@[simp] theorem kAnd_ap {k : Bool} : kAnd c2 σ k h = if k then c2 σ h else .ok false h := rfl
def kOr (c2 : CS) (σ : VS) (k : Bool) (h : Hv) : R Bool := if k then .ok true h else c2 σ h
@[simp] theorem cOr_ap : cOr c c2 σ h = (c σ h).bind (kOr c2 σ) := rfl
@[simp] theorem kOr_ap {k : Bool} : kOr c2 σ k h = if k then .ok true h else c2 σ h := rfl
@[simp] theorem cNot_ap : cNot c σ h = (c σ h).bind fun k h1 => .ok (!k) h1 := rfl
def kIf (u v : VS → Hv → R α) (σ : VS) (k : Bool) (h : Hv) : R α := if k then u σ h else v σ h
@[simp] theorem eIf_ap {u v : VS → Hv → R α} : eIf c u v σ h = (c σ h).bind (kIf u v σ) := rfl
@[simp] theorem kIf_ap {u v : VS → Hv → R α} {k : Bool} : kIf u v σ k h = if k then u σ h else v σ h := rfl
@[simp] theorem aNil_ap : aNil σ h = .ok [] h := rfl
def kCons (l : LS) (σ : VS) (d : D) (h : Hv) : R (List D) := (l σ h).bind fun ds h2 => .ok (d :: ds) h2
@[simp] theorem aCons_ap : aCons f l σ h = (f σ h).bind (kCons l σ) := rfl
@[simp] theorem kCons_ap : kCons l σ d h = (l σ h).bind fun ds h2 => .ok (d :: ds) h2 := rfl
@[simp] theorem eTup_ap : eTup l σ h = (l σ h).bind fun ds h1 => if ds.length ≤ 16777216 then .ok (.tup ds) h1 else .stuck := rfl
@[simp] theorem lLst_ap : lLst l σ h = (l σ h).bind fun ds h1 => if ds.length ≤ 16777216 then .ok ds h1 else .stuck := rfl
def kAndV (g : ES) (σ : VS) (d : D) (h : Hv) : R D := match d with
  | .bl true => g σ h
  | .bl false => .ok (.bl false) h
  | _ => .stuck
@[simp] theorem eAndV_ap : eAndV f g σ h = (f σ h).bind (kAndV g σ) := by
  show (f σ h).bind _ = _
  cases f σ h with
  | ok d h1 => cases d with
    | bl b => cases b <;> rfl
    | _ => rfl
  | exc x h1 => rfl
  | stuck => rfl
@[simp] theorem kAndV_ap {k : Bool} : kAndV g σ (.bl k) h = if k then g σ h else .ok (.bl false) h := by cases k <;> rfl
def kOrV (g : ES) (σ : VS) (d : D) (h : Hv) : R D := match d with
  | .bl true => .ok (.bl true) h
  | .bl false => g σ h
  | _ => .stuck
@[simp] theorem eOrV_ap : eOrV f g σ h = (f σ h).bind (kOrV g σ) := by
  show (f σ h).bind _ = _
  cases f σ h with
  | ok d h1 => cases d with
    | bl b => cases b <;> rfl
    | _ => rfl
  | exc x h1 => rfl
  | stuck => rfl
@[simp] theorem kOrV_ap {k : Bool} : kOrV g σ (.bl k) h = if k then .ok (.bl true) h else g σ h := by cases k <;> rfl
@[simp] theorem eNotV_ap : eNotV f σ h = (f σ h).bind fun d h1 => (match d with
  | .bl b => .ok (.bl (!b)) h1
  | _ => .stuck) := rfl
@[simp] theorem eCa_ap {ro : List D → Hv → R α} : eCa ro l σ h = (l σ h).bind ro := rfl
@[simp] theorem eIsi_ap {T : String} : eIsi T f σ h = (f σ h).bind fun d h1 => (match (tyName h1 d).bind fun t => kitB t T with
  | some r => .ok (.bl r) h1
  | none => .stuck) := rfl
@[simp] theorem eChain_ap {o1 o2 : D → D → Hv → R D} : eChain o1 o2 f g k σ h = (f σ h).bind fun x h1 => (g σ h1).bind fun y h2 => (o1 x y h2).bind fun z h3 => (match z with
  | .bl true => (k σ h3).bind fun u h4 => o2 y u h4
  | .bl false => .ok (.bl false) h3
  | _ => .stuck) := rfl
def kStr1 (ro : D → D → Hv → R D) (g : ES) (σ : VS) (x : D) (h : Hv) : R D := match x with
      | .str _ => (g σ h).bind fun y h2 => ro x y h2
      | _ => .stuck
@[simp] theorem eStr1_ap {ro : D → D → Hv → R D} : eStr1 ro f g σ h = (f σ h).bind (kStr1 ro g σ) := rfl
@[simp] theorem kStr1_ap {ro : D → D → Hv → R D} {x : Str} : kStr1 ro g σ (.str x) h = (g σ h).bind (ro (.str x)) := rfl
def kBM (ro : D → List D → Hv → R D) (l : LS) (σ : VS) (x : D) (h : Hv) : R D := match lOf h x with
  | some _ => (l σ h).bind fun ds h2 => ro x ds h2
  | none => .stuck
@[simp] theorem eBM_ap {ro : D → List D → Hv → R D} : eBM ro f l σ h = (f σ h).bind (kBM ro l σ) := rfl
@[simp] theorem kBM_ap {ro : D → List D → Hv → R D} {x : D} : kBM ro l σ x h = match lOf h x with
  | some _ => (l σ h).bind (ro x)
  | none => .stuck := rfl
@[simp] theorem pNo_ap : pNo σ h = .ok none h := rfl
@[simp] theorem pAt_ap : pAt f σ h = (f σ h).bind fun d h1 => (match d with
  | .int i => .ok (some i) h1
  | _ => .stuck) := rfl
def kSl (d : D) (l u : Option Int) (h : Hv) : R (List D) := match lOf h d with
  | some xs => .ok (cutD xs l u) h
  | none => .stuck
def kSl1 (hi : OS) (σ : VS) (d : D) (l : Option Int) (h : Hv) : R (List D) := (hi σ h).bind (kSl d l)
def kSl2 (lo hi : OS) (σ : VS) (d : D) (h : Hv) : R (List D) := (lo σ h).bind (kSl1 hi σ d)
@[simp] theorem lSl_ap {lo hi : OS} : lSl f lo hi σ h = (f σ h).bind (kSl2 lo hi σ) := rfl
@[simp] theorem kSl2_ap {lo hi : OS} : kSl2 lo hi σ d h = (lo σ h).bind (kSl1 hi σ d) := rfl
@[simp] theorem kSl1_ap {hi : OS} {u : Option Int} : kSl1 hi σ d u h = (hi σ h).bind (kSl d u) := rfl
@[simp] theorem kSl_ap {u v : Option Int} : kSl d u v h = match lOf h d with
  | some xs => .ok (cutD xs u v) h
  | none => .stuck := rfl
def kSe (d : D) (l u : Option Int) (h : Hv) : R D := match slD d l u with
  | some d' => .ok d' h
  | none => .stuck
def kSe1 (hi : OS) (σ : VS) (d : D) (l : Option Int) (h : Hv) : R D := (hi σ h).bind (kSe d l)
def kSe2 (lo hi : OS) (σ : VS) (d : D) (h : Hv) : R D := (lo σ h).bind (kSe1 hi σ d)
@[simp] theorem eSl_ap {lo hi : OS} : eSl f lo hi σ h = (f σ h).bind (kSe2 lo hi σ) := rfl
@[simp] theorem kSe2_ap {lo hi : OS} : kSe2 lo hi σ d h = (lo σ h).bind (kSe1 hi σ d) := rfl
@[simp] theorem kSe1_ap {hi : OS} {u : Option Int} : kSe1 hi σ d u h = (hi σ h).bind (kSe d u) := rfl
@[simp] theorem kSe_ap {u v : Option Int} : kSe d u v h = match slD d u v with
  | some d' => .ok d' h
  | none => .stuck := rfl
theorem lLc_ap {is : IS} {gd : GD} {el : ES} {own : List Nat} : lLc is gd c el own σ h = (is σ h).bind fun p h1 => if p.1.length ≤ 16777216 then lcD p.2 gd c el p.1 (wipeV σ own) h1 else .stuck := rfl
@[simp] theorem cYes_ap : cYes σ h = .ok true h := rfl
@[simp] theorem wipeV_nil : wipeV σ [] = σ := rfl
@[simp] theorem wipeV_cons {vs : List Nat} : wipeV σ (i :: vs) = (wipeV σ vs).set i none := rfl
@[simp] theorem cmP {sem : List D → Hv → R D} : Cm.f .P sem = callP sem := rfl
@[simp] theorem cmB {sem : List D → Hv → R D} : Cm.f .B sem = callB sem := rfl
@[simp] theorem cmM {sem : List D → Hv → R D} : Cm.f .M sem = sem := rfl
-- operators
@[simp] theorem oAdd_int {a b : Int} : oAdd (.int a) (.int b) h = .ok (.int (a + b)) h := rfl
theorem oAdd_str {a b : Str} : oAdd (.str a) (.str b) h = if a.length + b.length ≤ 16777216 then .ok (.str (a ++ b)) h else .stuck := rfl
@[simp] theorem oSub_int {a b : Int} : oSub (.int a) (.int b) h = .ok (.int (a - b)) h := rfl
theorem oMul_int {a b : Int} : oMul (.int a) (.int b) h = if mulOk a b then .ok (.int (a * b)) h else .stuck := rfl
@[simp] theorem oMod_int {a b : Int} : oMod (.int a) (.int b) h = if 0 < b then .ok (.int (a % b)) h else .stuck := rfl
theorem oFdiv_int {a b : Int} : oFdiv (.int a) (.int b) h = if divOk b then .ok (.int (a / b)) h else .stuck := rfl
@[simp] theorem oPow_int {a b : Int} : oPow (.int a) (.int b) h = if powOk a b then .ok (.int (a ^ b.toNat)) h else .stuck := rfl
@[simp] theorem uNeg_int {a : Int} : uNeg (.int a) h = .ok (.int (-a)) h := rfl
@[simp] theorem oLt_int {a b : Int} : oLt (.int a) (.int b) h = .ok (.bl (decide (a < b))) h := rfl
@[simp] theorem oGt_int {a b : Int} : oGt (.int a) (.int b) h = .ok (.bl (decide (b < a))) h := rfl
@[simp] theorem oLe_int {a b : Int} : oLe (.int a) (.int b) h = .ok (.bl (decide (a ≤ b))) h := rfl
@[simp] theorem oGe_int {a b : Int} : oGe (.int a) (.int b) h = .ok (.bl (decide (b ≤ a))) h := rfl
theorem oLt_str {a b : Str} : oLt (.str a) (.str b) h = .ok (.bl (decide (a.cps.toList < b.cps.toList))) h := rfl
@[simp] theorem toPy_int {n : Nat} {a : Int} : toPy h (n + 1) (.int a) = some (.int a) := rfl
@[simp] theorem toPy_bl {n : Nat} {a : Bool} : toPy h (n + 1) (.bl a) = some (.bool a) := rfl
@[simp] theorem toPy_str {n : Nat} {a : Str} : toPy h (n + 1) (.str a) = some (.str a) := rfl
@[simp] theorem toPy_non {n : Nat} : toPy h (n + 1) .non = some .none := rfl
@[simp] theorem toPy_lst {n : Nat} {xs : List D} : toPy h (n + 1) (.lst xs) = (optAll (toPy h n) xs).map .list := rfl
@[simp] theorem toPy_fz {n : Nat} {xs : List D} : toPy h (n + 1) (.fz xs) = (optAll (toPy h n) xs).map .list := rfl
@[simp] theorem toPy_tup {n : Nat} {xs : List D} : toPy h (n + 1) (.tup xs) = (optAll (toPy h n) xs).map .tuple := rfl
@[simp] theorem toPy_cell {n m : Nat} : toPy h (n + 1) (.cell m) = (match h[m]? with
    | some (.lst ds) => (optAll (toPy h n) ds).map .list
    | _ => none) := rfl
@[simp] theorem optAll_nil {β : Type} {g : β → Option α} : optAll g [] = some [] := rfl
@[simp] theorem optAll_cons {β : Type} {g : β → Option α} {x : β} {xs : List β} : optAll g (x :: xs) = (match g x with
    | some a => (match optAll g xs with
      | some as => some (a :: as)
      | none => none)
    | none => none) := rfl
theorem optAll_map {β γ : Type} {g : β → Option α} {e : γ → β} {e' : γ → α} : ∀ {xs : List γ}, (∀ x ∈ xs, g (e x) = some (e' x)) → optAll g (xs.map e) = some (xs.map e')
  | [], _ => rfl
  | x :: xs, q => by
    rw [List.map_cons, optAll_cons, q x List.mem_cons_self, optAll_map (xs := xs) fun y hy => q y (List.mem_cons_of_mem _ hy)]
    rfl
theorem optAll_append {β : Type} {g : β → Option α} {xs ys : List β} {as bs : List α} (h1 : optAll g xs = some as) (h2 : optAll g ys = some bs) : optAll g (xs ++ ys) = some (as ++ bs) := by
  induction xs generalizing as with
  | nil => cases h1; exact h2
  | cons x xs ih =>
    rw [optAll_cons] at h1
    cases q : g x with
    | none => rw [q] at h1; cases h1
    | some a =>
      cases q2 : optAll g xs with
      | none => rw [q] at h1; simp only [q2] at h1; cases h1
      | some as' =>
        rw [q] at h1
        simp only [q2] at h1
        cases h1
        rw [List.cons_append, optAll_cons, q, ih q2]
        rfl
@[simp] theorem frz_int {n0 n : Nat} {a : Int} : frz n0 h (n + 1) (.int a) = some (.int a) := rfl
@[simp] theorem frz_bl {n0 n : Nat} {a : Bool} : frz n0 h (n + 1) (.bl a) = some (.bl a) := rfl
@[simp] theorem frz_str {n0 n : Nat} {a : Str} : frz n0 h (n + 1) (.str a) = some (.str a) := rfl
@[simp] theorem frz_non {n0 n : Nat} : frz n0 h (n + 1) .non = some .non := rfl
@[simp] theorem frz_lst {n0 n : Nat} {xs : List D} : frz n0 h (n + 1) (.lst xs) = (optAll (frz n0 h n) xs).map .lst := rfl
@[simp] theorem frz_fz {n0 n : Nat} {xs : List D} : frz n0 h (n + 1) (.fz xs) = (optAll (frz n0 h n) xs).map .fz := rfl
@[simp] theorem frz_tup {n0 n : Nat} {xs : List D} : frz n0 h (n + 1) (.tup xs) = (optAll (frz n0 h n) xs).map .tup := rfl
@[simp] theorem frz_cell {n0 n m : Nat} : frz n0 h (n + 1) (.cell m) = (if m < n0 then some (.cell m) else match h[m]? with
    | some (.lst ds) => (optAll (frz n0 h n) ds).map .lst
    | some (.dF kvs) => (optAll (frz n0 h n) (kvs.map (·.2))).map (.dct (kvs.map (·.1)))
    | some (.ins c fs) => (optAll (frz n0 h n) (fs.map (·.2))).map (.obj c (fs.map (·.1)))
    | _ => none) := rfl
@[simp] theorem frz_dct {n0 n : Nat} {ks : List Key} {xs : List D} : frz n0 h (n + 1) (.dct ks xs) = (optAll (frz n0 h n) xs).map (.dct ks) := rfl
@[simp] theorem frz_obj {n0 n : Nat} {c : Str} {ks : List Str} {xs : List D} : frz n0 h (n + 1) (.obj c ks xs) = (optAll (frz n0 h n) xs).map (.obj c ks) := rfl
@[simp] theorem eqD_int {a b : Int} : eqD h (.int a) (.int b) = some (decide (a = b)) := by
  show some (PyData.eqv (.int a) (.int b)) = _
  simp only [PyData.eqv]
  exact congrArg some (by rw [Bool.beq_eq_decide_eq])
@[simp] theorem eqD_str {a b : Str} : eqD h (.str a) (.str b) = some (decide (a = b)) := by
  show some (PyData.eqv (.str a) (.str b)) = _
  simp only [PyData.eqv]
  exact congrArg some (by rw [Bool.eq_iff_iff, beq_iff_eq, decide_eq_true_eq])
@[simp] theorem eqD_bl {a b : Bool} : eqD h (.bl a) (.bl b) = some (decide (a = b)) := by
  show some (PyData.eqv (.bool a) (.bool b)) = _
  simp only [PyData.eqv]
  exact congrArg some (by cases a <;> cases b <;> rfl)
@[simp] theorem oEq_ap {x y : D} : oEq x y h = (match eqD h x y with
  | some b => .ok (.bl b) h
  | none => .stuck) := rfl
@[simp] theorem oNe_ap {x y : D} : oNe x y h = (match eqD h x y with
  | some b => .ok (.bl (!b)) h
  | none => .stuck) := rfl
@[simp] theorem oIs_ap {x y : D} : oIs x y h = (match isD x y with
  | some b => .ok (.bl b) h
  | none => .stuck) := rfl
@[simp] theorem oIsNot_ap {x y : D} : oIsNot x y h = (match isD x y with
  | some b => .ok (.bl (!b)) h
  | none => .stuck) := rfl
@[simp] theorem isD_nn : isD .non .non = some true := rfl
@[simp] theorem isD_in {a : Int} : isD (.int a) .non = some false := rfl
@[simp] theorem isD_sn {a : Str} : isD (.str a) .non = some false := rfl
@[simp] theorem isD_bn {a : Bool} : isD (.bl a) .non = some false := rfl
@[simp] theorem isD_ln {a : List D} : isD (.lst a) .non = some false := rfl
@[simp] theorem isD_tn {a : List D} : isD (.tup a) .non = some false := rfl
@[simp] theorem isD_cn {n : Nat} : isD (.cell n) .non = some false := rfl
@[simp] theorem isD_bb {a b : Bool} : isD (.bl a) (.bl b) = some (decide (a = b)) := rfl
@[simp] theorem lOf_lst {xs : List D} : lOf h (.lst xs) = some xs := rfl
@[simp] theorem lOf_fz {xs : List D} : lOf h (.fz xs) = some xs := rfl
@[simp] theorem lOf_tup {xs : List D} : lOf h (.tup xs) = none := rfl
@[simp] theorem lOf_str {x : Str} : lOf h (.str x) = none := rfl
@[simp] theorem lOf_cell {n : Nat} : lOf h (.cell n) = (match h[n]? with
    | some (.lst xs) => some xs
    | _ => none) := rfl
@[simp] theorem kOf_lst {xs : List D} : kOf h (.lst xs) = some xs := rfl
@[simp] theorem kOf_cell {n : Nat} : kOf h (.cell n) = (match h[n]? with
    | some (.lst xs) => some xs
    | _ => none) := rfl
@[simp] theorem tOf_tup {xs : List D} : tOf (.tup xs) = some xs := rfl
@[simp] theorem sqOf_ap {x : D} : sqOf h x = (match lOf h x with
  | some xs => some xs
  | none => tOf x) := rfl
@[simp] theorem oIx_ap {x : D} {a : Int} : oIx x (.int a) h = (match ixD h x a with
    | some d => .ok d h
    | none => .stuck) := rfl
@[simp] theorem ixD_lst {xs : List D} {a : Int} : ixD h (.lst xs) a = atI xs a := rfl
@[simp] theorem ixD_fz {xs : List D} {a : Int} : ixD h (.fz xs) a = atI xs a := rfl
@[simp] theorem ixD_tup {xs : List D} {a : Int} : ixD h (.tup xs) a = atI xs a := rfl
theorem ixD_str {x : Str} {a : Int} : ixD h (.str x) a = if x.length ≤ 16777216 then (match atI x.cps.toList a with
    | some c => some (.str ⟨#[c]⟩)
    | none => none) else none := rfl
@[simp] theorem ixD_cell {n : Nat} {a : Int} : ixD h (.cell n) a = (match h[n]? with
    | some (.lst xs) => atI xs a
    | _ => none) := by
  show (match sqOf h (.cell n) with
    | some ds => atI ds a
    | none => none) = _
  simp only [sqOf_ap, lOf_cell]
  cases q : h[n]? with
  | none => rfl
  | some c => cases c <;> rfl
@[simp] theorem bLen_one {x : D} : bLen [x] h = (match lenD h x with
    | some n => .ok (.int n) h
    | none => .stuck) := rfl
@[simp] theorem lenD_lst {xs : List D} : lenD h (.lst xs) = some (xs.length : Int) := rfl
@[simp] theorem lenD_fz {xs : List D} : lenD h (.fz xs) = some (xs.length : Int) := rfl
@[simp] theorem lenD_tup {xs : List D} : lenD h (.tup xs) = some (xs.length : Int) := rfl
theorem lenD_str {x : Str} : lenD h (.str x) = if x.length ≤ 16777216 then some (x.length : Int) else none := rfl
@[simp] theorem lenD_cell {n : Nat} : lenD h (.cell n) = (match h[n]? with
    | some (.lst xs) => some (xs.length : Int)
    | _ => none) := by
  show (sqOf h (.cell n)).map (fun xs : List D => (xs.length : Int)) = _
  simp only [sqOf_ap, lOf_cell]
  cases q : h[n]? with
  | none => rfl
  | some c => cases c <;> rfl
@[simp] theorem bAbs_int {a : Int} : bAbs [.int a] h = .ok (.int (if a < 0 then -a else a)) h := rfl
@[simp] theorem bMax2_int {a b : Int} : bMax2 [.int a, .int b] h = .ok (.int (if b > a then b else a)) h := rfl
@[simp] theorem bMin2_int {a b : Int} : bMin2 [.int a, .int b] h = .ok (.int (if b < a then b else a)) h := rfl
@[simp] theorem bList_one {x : D} : bList [x] h = (match sqOf h x with
    | some xs => .ok xs h
    | none => .stuck) := rfl
theorem toI_map (ns : List Int) : optAll toI (ns.map .int) = some ns := by
  have := optAll_map (g := toI) (e := D.int) (e' := id) (xs := ns) fun _ _ => rfl
  rw [List.map_id] at this
  exact this
theorem toBl_map (ns : List Bool) : optAll toBl (ns.map .bl) = some ns := by
  have := optAll_map (g := toBl) (e := D.bl) (e' := id) (xs := ns) fun _ _ => rfl
  rw [List.map_id] at this
  exact this
theorem toS_map (ns : List Str) : optAll toS (ns.map .str) = some ns := by
  have := optAll_map (g := toS) (e := D.str) (e' := id) (xs := ns) fun _ _ => rfl
  rw [List.map_id] at this
  exact this
@[simp] theorem tyName_non : tyName h .non = some "NoneType" := rfl
@[simp] theorem tyName_bl {b : Bool} : tyName h (.bl b) = some "bool" := rfl
@[simp] theorem tyName_int {b : Int} : tyName h (.int b) = some "int" := rfl
@[simp] theorem tyName_str {b : Str} : tyName h (.str b) = some "str" := rfl
@[simp] theorem tyName_lst {b : List D} : tyName h (.lst b) = some "list" := rfl
@[simp] theorem tyName_tup {b : List D} : tyName h (.tup b) = some "tuple" := rfl
end
section
variable {σ : VS} {h : Hv} {f g k : ES} {l : LS} {c : CS} {s1 s2 : SS} {i : Nat}
@[simp] theorem sNext_ap : sNext σ h = .next σ h := rfl
@[simp] theorem sBrk_ap : sBrk σ h = .brk σ h := rfl
@[simp] theorem sCont_ap : sCont σ h = .cont σ h := rfl
theorem sSeq_ap : sSeq s1 s2 σ h = (match s1 σ h with
  | .next σ' h' => s2 σ' h'
  | r => r) := rfl
@[simp] theorem sDrop_ap : sDrop f σ h = (f σ h).then σ fun _ h' => .next σ h' := rfl
@[simp] theorem sRet_ap : sRet f σ h = (f σ h).then σ fun d h' => .ret d h' := rfl
theorem sIf_ap : sIf c s1 s2 σ h = (c σ h).then σ fun k h' => if k then s1 σ h' else s2 σ h' := rfl
@[simp] theorem sSet_ap : sSet i f σ h = (f σ h).then σ fun d h' => .next (σ.set i (some d)) h' := rfl
@[simp] theorem sPar_ap {j : Nat} : sPar i j l σ h = (l σ h).then σ fun ds h' => (match ds with
  | [x, y] => .next ((σ.set i (some x)).set j (some y)) h'
  | _ => .stuck) := rfl
@[simp] theorem sAsg_ap {gd : GD} : sAsg f gd σ h = (f σ h).then σ fun d h' => (match gd d σ with
  | some σ' => .next σ' h'
  | none => .stuck) := rfl
theorem sFor_ap {is : IS} {gd : GD} : sFor is gd s1 σ h = (is σ h).then σ fun p h1 => forD p.2 gd s1 p.1 σ h1 := rfl
def kSI3 (d x i : D) (σ : VS) (h : Hv) : RS := match x, i with
  | .cell n, .int k => (match h[n]? with
    | some (.lst xs) => (match ixN xs.length k with
      | some j => .next σ (h.set n (.lst (xs.set j d)))
      | none => .stuck)
    | _ => .stuck)
  | _, _ => .stuck
def kSI2 (k : ES) (σ : VS) (d x : D) (h : Hv) : RS := (k σ h).then σ fun i h3 => kSI3 d x i σ h3
def kSI1 (g k : ES) (σ : VS) (d : D) (h : Hv) : RS := (g σ h).then σ (kSI2 k σ d)
@[simp] theorem sSetIx_ap : sSetIx f g k σ h = (f σ h).then σ (kSI1 g k σ) := rfl
@[simp] theorem kSI1_ap {d : D} : kSI1 g k σ d h = (g σ h).then σ (kSI2 k σ d) := rfl
@[simp] theorem kSI2_ap {d x : D} : kSI2 k σ d x h = (k σ h).then σ fun i h3 => kSI3 d x i σ h3 := rfl
@[simp] theorem kSI3_ap {d : D} {n : Nat} {i : Int} : kSI3 d (.cell n) (.int i) σ h = (match h[n]? with
    | some (.lst xs) => (match ixN xs.length i with
      | some j => .next σ (h.set n (.lst (xs.set j d)))
      | none => .stuck)
    | _ => .stuck) := rfl
@[simp] theorem sRaise_ap {C : Str} : sRaise C σ h = .exc ⟨C, none⟩ σ h := rfl
@[simp] theorem gN_ap {d : D} : gN i d σ = some (σ.set i (some d)) := rfl
@[simp] theorem gsNil_ap : gsNil [] σ = some σ := rfl
@[simp] theorem gsCons_ap {gd : GD} {gs : GDs} {d : D} {r : List D} : gsCons gd gs (d :: r) σ = (match gd d σ with
    | some σ' => gs r σ'
    | none => none) := rfl
@[simp] theorem gT_ap {n : Nat} {gs : GDs} {ds : List D} : gT n gs (.tup ds) σ = if ds.length = n then gs ds σ else none := rfl
@[simp] theorem iL_ap : iL f σ h = (f σ h).bind fun d h1 => (match d with
  | .lst ds => .ok (ds, always) h1
  | .fz ds => .ok (ds, always) h1
  | _ => .stuck) := rfl
@[simp] theorem iC_ap : iC f σ h = (f σ h).bind fun d h1 => (match d with
  | .cell n => (match h1[n]? with
    | some (.lst ds) => .ok (ds, isCell n ds) h1
    | _ => .stuck)
  | _ => .stuck) := rfl
@[simp] theorem iT_ap : iT f σ h = (f σ h).bind fun d h1 => (match d with
  | .tup ds => .ok (ds, always) h1
  | _ => .stuck) := rfl
@[simp] theorem iS_ap : iS f σ h = (f σ h).bind fun d h1 => (match d with
  | .str x => .ok (signsD x, always) h1
  | _ => .stuck) := rfl
def kR1 (ds : List D) (h1 : Hv) : R (List D × (Hv → Bool)) := match ds with
  | [.int n] => @ite _ (-(2 ^ 62) ≤ n ∧ n < 2 ^ 62) (Classical.propDecidable _) (.ok (rgD 0 n.toNat, always) h1) .stuck
  | _ => .stuck
def kR2 (ds : List D) (h1 : Hv) : R (List D × (Hv → Bool)) := match ds with
  | [.int m, .int n] => @ite _ ((-(2 ^ 62) ≤ m ∧ m < 2 ^ 62) ∧ (-(2 ^ 62) ≤ n ∧ n < 2 ^ 62)) (Classical.propDecidable _) (.ok (rgD m (n - m).toNat, always) h1) .stuck
  | _ => .stuck
@[simp] theorem iR1_ap : iR1 l σ h = (l σ h).bind kR1 := rfl
@[simp] theorem iR2_ap : iR2 l σ h = (l σ h).bind kR2 := rfl
@[simp] theorem kR1_ap {n : Int} (h0 : -4000000000000000000 ≤ n) (h1 : n ≤ 4000000000000000000) : kR1 [.int n] h = .ok (rgD 0 n.toNat, always) h := if_pos ⟨Int.le_trans (by decide) h0, Int.lt_of_le_of_lt h1 (by decide)⟩
@[simp] theorem kR2_ap {m n : Int} (h0 : -4000000000000000000 ≤ m) (h1 : m ≤ 4000000000000000000) (h2 : -4000000000000000000 ≤ n) (h3 : n ≤ 4000000000000000000) : kR2 [.int m, .int n] h = .ok (rgD m (n - m).toNat, always) h := if_pos ⟨⟨Int.le_trans (by decide) h0, Int.lt_of_le_of_lt h1 (by decide)⟩, ⟨Int.le_trans (by decide) h2, Int.lt_of_le_of_lt h3 (by decide)⟩⟩
def kRg (d : D) (h1 : Hv) : R (List D) := match d with
  | .int n => @ite _ ((-(2 ^ 62) ≤ n ∧ n < 2 ^ 62) ∧ n.toNat ≤ 2 ^ 24) (Classical.propDecidable _) (.ok (rgD 0 n.toNat) h1) .stuck
  | _ => .stuck
@[simp] theorem lRg1_ap : lRg1 f σ h = (f σ h).bind kRg := rfl
@[simp] theorem kRg_ap {n : Int} (h0 : -16000000 ≤ n) (h1 : n ≤ 16000000) : kRg (.int n) h = .ok (rgD 0 n.toNat) h := if_pos ⟨⟨Int.le_trans (by decide) h0, Int.lt_of_le_of_lt h1 (by decide)⟩, by omega⟩
@[simp] theorem iZ_ap : iZ l σ h = (l σ h).bind fun ds h1 => (match ds with
  | [x, y] => (match lsOf x, lsOf y with
    | some xs, some ys => if xs.length = ys.length then .ok (zipD xs ys, always) h1 else .stuck
    | _, _ => .stuck)
  | _ => .stuck) := rfl
@[simp] theorem lsOf_lst {xs : List D} : lsOf (.lst xs) = some xs := rfl
@[simp] theorem lsOf_fz {xs : List D} : lsOf (.fz xs) = some xs := rfl
@[simp] theorem always_ap : always h = true := rfl
@[simp] theorem forD_nil {chk : Hv → Bool} {gd : GD} : forD chk gd s1 [] σ h = if chk h then .next σ h else .stuck := rfl
theorem forD_cons {chk : Hv → Bool} {gd : GD} {d : D} {ds : List D} : forD chk gd s1 (d :: ds) σ h = if chk h then (match gd d σ with
    | some σ1 => (match s1 σ1 h with
      | .next σ2 h2 => forD chk gd s1 ds σ2 h2
      | .cont σ2 h2 => forD chk gd s1 ds σ2 h2
      | .brk σ2 h2 => .next σ2 h2
      | r => r)
    | none => .stuck) else .stuck := rfl
end
/-! ### calls -/
theorem callP_ok {sem : List D → Hv → R D} {ds ds' : List D} {h : Hv} {d : D} (hp : pureD ds = some ds') (e : sem ds' [] = .ok d []) : callP sem ds h = .ok d h := by
  unfold callP
  rw [hp]
  simp only [e]
theorem callP_exc {sem : List D → Hv → R D} {ds ds' : List D} {h : Hv} {x : Xn} (hp : pureD ds = some ds') (e : sem ds' [] = .exc x []) : callP sem ds h = .exc x h := by
  unfold callP
  rw [hp]
  simp only [e]
theorem callB_ok {sem : List D → Hv → R D} {ds ds' : List D} {h : Hv} {d : D} (hp : optAll (frz 0 h 12) ds = some ds') (e : sem ds' [] = .ok d []) (hs : isScal d = true) : callB sem ds h = .ok d h := by
  unfold callB
  rw [hp]
  simp only [e]
  rw [if_pos hs]
theorem callB_exc {sem : List D → Hv → R D} {ds ds' : List D} {h : Hv} {C : Str} (hp : optAll (frz 0 h 12) ds = some ds') (e : sem ds' [] = .exc ⟨C, none⟩ []) : callB sem ds h = .exc ⟨C, none⟩ h := by
  unfold callB
  rw [hp]
  simp only [e]
theorem callB_excP {sem : List D → Hv → R D} {ds ds' : List D} {h : Hv} {C f : Str} {d : D} (hp : optAll (frz 0 h 12) ds = some ds') (e : sem ds' [] = .exc ⟨C, some (f, d)⟩ []) (hs : isScal d = true) : callB sem ds h = .exc ⟨C, some (f, d)⟩ h := by
  unfold callB
  rw [hp]
  simp only [e]
  rw [if_pos hs]
/-- a def without cells of others -/
theorem fnS_ret {np nl : Nat} {body : SS} {ds : List D} {d d' : D} {h' : Hv} (hl : ds.length = np) (hb : body (ds.map some ++ List.replicate nl none) [] = .ret d h') (hf : frz 0 h' 12 d = some d') : fnS np nl body ds [] = .ok d' [] := by
  unfold fnS
  rw [if_pos hl, hb]
  show exitD 0 d h' = _
  unfold exitD
  rw [hf, List.take_zero]
  simp only [optAll_nil, Nat.zero_le, if_true]
theorem fnS_next {np nl : Nat} {body : SS} {ds : List D} {σ : VS} {h' : Hv} (hl : ds.length = np) (hb : body (ds.map some ++ List.replicate nl none) [] = .next σ h') : fnS np nl body ds [] = .ok .non [] := by
  unfold fnS
  rw [if_pos hl, hb]
  show exitD 0 .non h' = _
  unfold exitD
  rw [frz_non, List.take_zero]
  simp only [optAll_nil, Nat.zero_le, if_true]
theorem fnS_exc {np nl : Nat} {body : SS} {ds : List D} {σ : VS} {h' : Hv} {C : Str} (hl : ds.length = np) (hb : body (ds.map some ++ List.replicate nl none) [] = .exc ⟨C, none⟩ σ h') : fnS np nl body ds [] = .exc ⟨C, none⟩ [] := by
  unfold fnS
  rw [if_pos hl, hb]
  show exitX 0 ⟨C, none⟩ h' = _
  unfold exitX
  rw [List.take_zero]
  simp only [optAll_nil, Nat.zero_le, if_true]
theorem fnS_excP {np nl : Nat} {body : SS} {ds : List D} {σ : VS} {h' : Hv} {C f : Str} {d d' : D} (hl : ds.length = np) (hb : body (ds.map some ++ List.replicate nl none) [] = .exc ⟨C, some (f, d)⟩ σ h') (hf : frz 0 h' 12 d = some d') : fnS np nl body ds [] = .exc ⟨C, some (f, d')⟩ [] := by
  unfold fnS
  rw [if_pos hl, hb]
  show exitX 0 ⟨C, some (f, d)⟩ h' = _
  unfold exitX
  dsimp only
  rw [hf, List.take_zero]
  simp only [optAll_nil, List.length_nil, Nat.zero_le, if_true]
/-! ### loops -/
def foldE {α S : Type} (F : S → α → Except D S) : S → List α → Except D S
  | s, [] => .ok s
  | s, a :: as => match F s a with
    | .ok s' => foldE F s' as
    | .error d => .error d
/-- a for loop, its turns told by F: an error is a return -/
theorem forD_run {α S : Type} {chk : Hv → Bool} {gd : GD} {body : SS} (enc : α → D) (I : S → VS → Hv → Prop) (F : S → α → Except D S) (xs : List α)
    (hc : ∀ s σ h, I s σ h → chk h = true)
    (step : ∀ s a σ h, a ∈ xs → I s σ h → ∃ σ1, gd (enc a) σ = some σ1 ∧ match F s a with
      | .ok s' => ∃ σ2 h2, (body σ1 h = .next σ2 h2 ∨ body σ1 h = .cont σ2 h2) ∧ I s' σ2 h2
      | .error d => ∃ h2, body σ1 h = .ret d h2) : ∀ {s σ h}, I s σ h → match foldE F s xs with
    | .ok s' => ∃ σ' h', forD chk gd body (xs.map enc) σ h = .next σ' h' ∧ I s' σ' h'
    | .error d => ∃ h', forD chk gd body (xs.map enc) σ h = .ret d h' := by
  induction xs with
  | nil =>
    intro s σ h i
    refine ⟨σ, h, ?_, i⟩
    rw [List.map_nil, forD_nil, hc s σ h i, if_pos rfl]
  | cons a xs ih =>
    intro s σ h i
    obtain ⟨σ1, e1, e2⟩ := step s a σ h List.mem_cons_self i
    rw [List.map_cons, forD_cons, hc s σ h i, if_pos rfl, e1]
    simp only [foldE]
    cases q : F s a with
    | ok s' =>
      rw [q] at e2
      obtain ⟨σ2, h2, hb, i2⟩ := e2
      have z := ih (fun s a σ h ha => step s a σ h (List.mem_cons_of_mem _ ha)) i2
      rcases hb with hb | hb
      · simp only [hb]
        exact z
      · simp only [hb]
        exact z
    | error d =>
      rw [q] at e2
      obtain ⟨h2, hb⟩ := e2
      exact ⟨h2, by simp only [hb]⟩
theorem forD_fold {α S : Type} {chk : Hv → Bool} {gd : GD} {body : SS} (enc : α → D) (I : S → VS → Hv → Prop) (F : S → α → S) (xs : List α)
    (hc : ∀ s σ h, I s σ h → chk h = true)
    (step : ∀ s a σ h, a ∈ xs → I s σ h → ∃ σ1 σ2 h2, gd (enc a) σ = some σ1 ∧ (body σ1 h = .next σ2 h2 ∨ body σ1 h = .cont σ2 h2) ∧ I (F s a) σ2 h2) {s : S} {σ : VS} {h : Hv} (i : I s σ h) :
    ∃ σ' h', forD chk gd body (xs.map enc) σ h = .next σ' h' ∧ I (xs.foldl F s) σ' h' := by
  have z := forD_run (chk := chk) (gd := gd) (body := body) enc I (fun s a => .ok (F s a)) xs hc (fun s a σ h ha i => by
    obtain ⟨σ1, σ2, h2, e1, e2, e3⟩ := step s a σ h ha i
    exact ⟨σ1, e1, σ2, h2, e2, e3⟩) i
  have e : ∀ (xs : List α) (s : S), foldE (fun s a => (.ok (F s a) : Except D S)) s xs = .ok (xs.foldl F s) := by
    intro xs
    induction xs with
    | nil => intro s; rfl
    | cons a xs ih => intro s; exact ih _
  rw [e] at z
  exact z
/-- a for loop that leaves at the first item that is not well -/
theorem forD_all {α : Type} {chk : Hv → Bool} {gd : GD} {body : SS} (enc : α → D) (I : VS → Hv → Prop) (p : α → Bool) (d : D) (xs : List α)
    (hc : ∀ σ h, I σ h → chk h = true)
    (step : ∀ a σ h, a ∈ xs → I σ h → ∃ σ1, gd (enc a) σ = some σ1 ∧ if p a = true then ∃ σ2 h2, (body σ1 h = .next σ2 h2 ∨ body σ1 h = .cont σ2 h2) ∧ I σ2 h2 else ∃ h2, body σ1 h = .ret d h2) {σ : VS} {h : Hv} (i : I σ h) :
    if xs.all p = true then ∃ σ' h', forD chk gd body (xs.map enc) σ h = .next σ' h' ∧ I σ' h' else ∃ h', forD chk gd body (xs.map enc) σ h = .ret d h' := by
  have z := forD_run (chk := chk) (gd := gd) (body := body) enc (fun (_ : Unit) σ h => I σ h) (fun _ a => if p a = true then .ok () else .error d) xs (fun _ => hc) (fun _ a σ h ha i => by
    obtain ⟨σ1, e1, e2⟩ := step a σ h ha i
    refine ⟨σ1, e1, ?_⟩
    by_cases q : p a = true
    · rw [if_pos q] at e2 ⊢
      exact e2
    · rw [if_neg q] at e2 ⊢
      exact e2) (s := ()) i
  have e : ∀ xs : List α, foldE (fun (_ : Unit) a => if p a = true then .ok () else (.error d : Except D Unit)) () xs = if xs.all p = true then .ok () else .error d := by
    intro xs
    induction xs with
    | nil => rfl
    | cons a xs ih =>
      rw [foldE]
      by_cases q : p a = true
      · rw [if_pos q]
        simp only [ih, List.all_cons, q, Bool.true_and]
      · rw [if_neg q]
        simp only [List.all_cons, q, Bool.false_and]
        rfl
  rw [e] at z
  by_cases q : xs.all p = true
  · rw [if_pos q] at z ⊢
    exact z
  · rw [if_neg q] at z ⊢
    exact z
theorem lcD_filter {α : Type} {chk : Hv → Bool} {gd : GD} {c : CS} {el : ES} {σ : VS} {h : Hv} (enc : α → D) (p : α → Bool) (f : α → D) (hc : chk h = true) : ∀ (xs : List α),
    (∀ a ∈ xs, ∃ σ1, gd (enc a) σ = some σ1 ∧ c σ1 h = .ok (p a) h ∧ (p a = true → el σ1 h = .ok (f a) h)) → lcD chk gd c el (xs.map enc) σ h = .ok ((xs.filter p).map f) h
  | [], _ => by
    rw [List.map_nil]
    simp only [lcD, hc, if_true, List.filter_nil, List.map_nil]
  | a :: xs, q => by
    obtain ⟨σ1, e1, e2, e3⟩ := q a List.mem_cons_self
    have ih := lcD_filter enc p f hc xs fun b hb => q b (List.mem_cons_of_mem _ hb)
    rw [List.map_cons]
    simp only [lcD, hc, if_true, e1, e2, R.calm_ok, R.bind_ok]
    cases pa : p a with
    | true =>
      simp only [if_true, e3 pa, R.calm_ok, R.bind_ok, ih, List.filter_cons, pa, List.map_cons]
    | false =>
      simp only [Bool.false_eq_true, if_false, ih, List.filter_cons, pa]
theorem lcD_map {α : Type} {chk : Hv → Bool} {gd : GD} {el : ES} {σ : VS} {h : Hv} (enc : α → D) (f : α → D) (hc : chk h = true) (xs : List α) (q : ∀ a ∈ xs, ∃ σ1, gd (enc a) σ = some σ1 ∧ el σ1 h = .ok (f a) h) : lcD chk gd cYes el (xs.map enc) σ h = .ok (xs.map f) h := by
  have := lcD_filter (c := cYes) enc (fun _ => true) f hc xs fun a ha => let ⟨σ1, e1, e2⟩ := q a ha; ⟨σ1, e1, rfl, fun _ => e2⟩
  rw [this, List.filter_eq_self.mpr (fun _ _ => rfl)]
/-! ### typed data -/
class En (α : Type) [DecidableEq α] [PySem.W.Datum α] where
  enc : α → D
  py : ∀ (h : Hv) (f : Nat) (a : α), PySem.W.Datum.depth α < f → toPy h f (enc a) = some (PySem.W.Datum.toD a)
  fr : ∀ (n0 : Nat) (h : Hv) (f : Nat) (a : α), PySem.W.Datum.depth α < f → frz n0 h f (enc a) = some (enc a)
instance : En Int := ⟨.int, fun h f a hf => by cases f; exact absurd hf (Nat.not_lt_zero _); rfl, fun n0 h f a hf => by cases f; exact absurd hf (Nat.not_lt_zero _); rfl⟩
instance : En Bool := ⟨.bl, fun h f a hf => by cases f; exact absurd hf (Nat.not_lt_zero _); rfl, fun n0 h f a hf => by cases f; exact absurd hf (Nat.not_lt_zero _); rfl⟩
instance : En Str := ⟨.str, fun h f a hf => by cases f; exact absurd hf (Nat.not_lt_zero _); rfl, fun n0 h f a hf => by cases f; exact absurd hf (Nat.not_lt_zero _); rfl⟩
section
variable {α β γ δ : Type} [DecidableEq α] [PySem.W.Datum α] [En α] [DecidableEq β] [PySem.W.Datum β] [En β] [DecidableEq γ] [PySem.W.Datum γ] [En γ] [DecidableEq δ] [PySem.W.Datum δ] [En δ]
open PySem.W (Datum T3 T4 Tup)
theorem toPy_all {h : Hv} {f : Nat} (hf : Datum.depth α < f) (xs : List α) : optAll (toPy h f) (xs.map En.enc) = some (xs.map Datum.toD) := optAll_map fun x _ => En.py h f x hf
theorem frz_all {n0 : Nat} {h : Hv} {f : Nat} (hf : Datum.depth α < f) (xs : List α) : optAll (frz n0 h f) (xs.map En.enc) = some (xs.map En.enc) := optAll_map fun x _ => En.fr n0 h f x hf
instance : En (List α) where
  enc xs := .lst (xs.map En.enc)
  py h f xs hf := by
    cases f with
    | zero => exact absurd hf (Nat.not_lt_zero _)
    | succ f =>
      have hf' : Datum.depth α + 1 < f + 1 := hf
      rw [toPy_lst, toPy_all (by omega)]
      rfl
  fr n0 h f xs hf := by
    cases f with
    | zero => exact absurd hf (Nat.not_lt_zero _)
    | succ f =>
      have hf' : Datum.depth α + 1 < f + 1 := hf
      rw [frz_lst, frz_all (by omega)]
      rfl
instance : En (α × β) where
  enc p := .tup [En.enc p.1, En.enc p.2]
  py h f p hf := by
    cases f with
    | zero => exact absurd hf (Nat.not_lt_zero _)
    | succ f =>
      have hf' : max (Datum.depth α) (Datum.depth β) + 1 < f + 1 := hf
      rw [toPy_tup, optAll_cons, optAll_cons, En.py h f p.1 (by omega), En.py h f p.2 (by omega)]
      rfl
  fr n0 h f p hf := by
    cases f with
    | zero => exact absurd hf (Nat.not_lt_zero _)
    | succ f =>
      have hf' : max (Datum.depth α) (Datum.depth β) + 1 < f + 1 := hf
      rw [frz_tup, optAll_cons, optAll_cons, En.fr n0 h f p.1 (by omega), En.fr n0 h f p.2 (by omega)]
      rfl
instance : En (T3 α β γ) where
  enc p := .tup [En.enc p.a, En.enc p.b, En.enc p.c]
  py h f p hf := by
    cases f with
    | zero => exact absurd hf (Nat.not_lt_zero _)
    | succ f =>
      have hf' : max (max (Datum.depth α) (Datum.depth β)) (Datum.depth γ) + 1 < f + 1 := hf
      rw [toPy_tup, optAll_cons, optAll_cons, optAll_cons, En.py h f p.a (by omega), En.py h f p.b (by omega), En.py h f p.c (by omega)]
      rfl
  fr n0 h f p hf := by
    cases f with
    | zero => exact absurd hf (Nat.not_lt_zero _)
    | succ f =>
      have hf' : max (max (Datum.depth α) (Datum.depth β)) (Datum.depth γ) + 1 < f + 1 := hf
      rw [frz_tup, optAll_cons, optAll_cons, optAll_cons, En.fr n0 h f p.a (by omega), En.fr n0 h f p.b (by omega), En.fr n0 h f p.c (by omega)]
      rfl
instance : En (T4 α β γ δ) where
  enc p := .tup [En.enc p.a, En.enc p.b, En.enc p.c, En.enc p.d]
  py h f p hf := by
    cases f with
    | zero => exact absurd hf (Nat.not_lt_zero _)
    | succ f =>
      have hf' : max (max (max (Datum.depth α) (Datum.depth β)) (Datum.depth γ)) (Datum.depth δ) + 1 < f + 1 := hf
      rw [toPy_tup, optAll_cons, optAll_cons, optAll_cons, optAll_cons, En.py h f p.a (by omega), En.py h f p.b (by omega), En.py h f p.c (by omega), En.py h f p.d (by omega)]
      rfl
  fr n0 h f p hf := by
    cases f with
    | zero => exact absurd hf (Nat.not_lt_zero _)
    | succ f =>
      have hf' : max (max (max (Datum.depth α) (Datum.depth β)) (Datum.depth γ)) (Datum.depth δ) + 1 < f + 1 := hf
      rw [frz_tup, optAll_cons, optAll_cons, optAll_cons, optAll_cons, En.fr n0 h f p.a (by omega), En.fr n0 h f p.b (by omega), En.fr n0 h f p.c (by omega), En.fr n0 h f p.d (by omega)]
      rfl
theorem eqD_en (h : Hv) (a b : α) (hd : Datum.depth α < 12 := by decide) : eqD h (En.enc a) (En.enc b) = some (decide (a = b)) := by
  unfold eqD
  rw [En.py h 12 a hd, En.py h 12 b hd]
  exact congrArg some (Datum.eqv a b)
@[simp] theorem eFrz_ap {f : ES} {σ : VS} {h : Hv} : eFrz f σ h = frzR h.length (f σ h) := rfl
@[simp] theorem frzR_ok {n0 : Nat} {d : D} {h : Hv} : frzR n0 (.ok d h) = exitD n0 d h := rfl
theorem oInP_en {h : Hv} {a : α} {xs : List α} (hd : Datum.depth α < 11 := by decide) : oInP (En.enc a) (.lst (xs.map En.enc)) h = .ok (.bl (decide (a ∈ xs))) h := by
  have e1 := En.py h 12 a (Nat.lt_succ_of_lt hd)
  have e2 : toPy h 12 (.lst (xs.map En.enc)) = some (.list (xs.map Datum.toD)) := by
    rw [toPy_lst, toPy_all hd]; rfl
  unfold oInP inP
  rw [e1, e2]
  simp only [Option.bind_some, seqP]
  congr 2
  rw [List.any_map, Bool.eq_iff_iff, List.any_eq_true, decide_eq_true_eq]
  constructor
  · rintro ⟨b, hb, q⟩
    have q : PyData.eqv (Datum.toD b) (Datum.toD a) = true := q
    rw [Datum.eqv] at q
    have := of_decide_eq_true q
    rw [← this]; exact hb
  · intro ha
    refine ⟨a, ha, ?_⟩
    show PyData.eqv (Datum.toD a) (Datum.toD a) = true
    rw [Datum.eqv]; exact decide_eq_true rfl
theorem oNotInP_en {h : Hv} {a : α} {xs : List α} (hd : Datum.depth α < 11 := by decide) : oNotInP (En.enc a) (.lst (xs.map En.enc)) h = .ok (.bl (!decide (a ∈ xs))) h := by
  have := oInP_en (h := h) (a := a) (xs := xs) hd
  unfold oInP at this
  unfold oNotInP
  cases e : inP h (En.enc a) (.lst (xs.map En.enc)) with
  | none => rw [e] at this; cases this
  | some b =>
    rw [e] at this
    simp only at this ⊢
    injection this with this _
    injection this with this
    rw [this]
theorem frz_en (n0 : Nat) (h : Hv) (a : α) (hd : Datum.depth α < 12 := by decide) : frz n0 h 12 (En.enc a) = some (En.enc a) := En.fr n0 h 12 a hd
end
@[simp] theorem enc_int (i : Int) : (En.enc i : D) = .int i := rfl
@[simp] theorem enc_bl (i : Bool) : (En.enc i : D) = .bl i := rfl
@[simp] theorem enc_str (i : Str) : (En.enc i : D) = .str i := rfl
theorem enc_ints (ns : List Int) : (En.enc ns : D) = .lst (ns.map .int) := rfl
/-! ### places -/
theorem ixN_nat {n : Nat} {k : Int} (h0 : 0 ≤ k) (h1 : k < n) : ixN n k = some k.toNat := by
  unfold ixN
  rw [if_pos h0, if_pos h1]
theorem ixN_some {n : Nat} {k : Int} {j : Nat} (e : k = j) (h1 : j < n) : ixN n k = some j := by
  subst e
  rw [ixN_nat (by omega) (by omega)]
  rfl
theorem atI_at {α : Type} {xs : List α} {k : Int} {j : Nat} {a : α} (e : k = j) (h : xs[j]? = some a) : atI xs k = some a := by
  unfold atI
  rw [ixN_some e (List.getElem?_eq_some_iff.mp h).1]
  exact h
theorem atI_map {α β : Type} {xs : List α} {e : α → β} {k : Int} {a : α} (h : atI xs k = some a) : atI (xs.map e) k = some (e a) := by
  unfold atI at h ⊢
  rw [List.length_map]
  cases q : ixN xs.length k with
  | none => rw [q] at h; cases h
  | some j =>
    rw [q] at h
    have h' : xs[j]? = some a := h
    show (xs.map e)[j]? = some (e a)
    rw [List.getElem?_map, h']
    rfl
theorem atI_get {α : Type} {xs : List α} {k : Int} (h0 : 0 ≤ k) (h1 : k < xs.length) : ∃ a, a ∈ xs ∧ xs[k.toNat]? = some a ∧ atI xs k = some a := by
  have h2 : k.toNat < xs.length := by omega
  exact ⟨xs[k.toNat], List.getElem_mem h2, List.getElem?_eq_getElem h2, atI_at (by omega) (List.getElem?_eq_getElem h2)⟩
theorem atI_getD {xs : List Int} {k : Int} (h0 : 0 ≤ k) (h1 : k < xs.length) : atI xs k = some (xs.getD k.toNat 0) := by
  obtain ⟨a, _, h2, h3⟩ := atI_get h0 h1
  rw [h3, List.getD_eq_getElem?_getD, h2]
  rfl
/-! ### sizes -/
theorem mulOk_of {i j : Int} {a b : Nat} (ha : i.natAbs < 2 ^ a) (hb : j.natAbs < 2 ^ b) (h0 : 0 < a) (h1 : 0 < b) (h : a + b ≤ 1000000) : mulOk i j = true := decide_eq_true (wide_mul ha hb h0 h1 h)
theorem lt_2_256 {i : Int} (h1 : -(10 ^ 77) < i) (h2 : i < 10 ^ 77) : i.natAbs < 2 ^ 256 := by
  have e : (10 : Int) ^ 77 = 100000000000000000000000000000000000000000000000000000000000000000000000000000 := by decide
  have e2 : (2 : Nat) ^ 256 = 115792089237316195423570985008687907853269984665640564039457584007913129639936 := by decide
  rw [e] at h1 h2
  rw [e2]
  omega
/-- a product of numbers of at most 77 figures -/
theorem mulOk77 {i j : Int} (h1 : -(10 ^ 77) < i) (h2 : i < 10 ^ 77) (h3 : -(10 ^ 77) < j) (h4 : j < 10 ^ 77) : mulOk i j = true := mulOk_of (lt_2_256 h1 h2) (lt_2_256 h3 h4) (by decide) (by decide) (by decide)
theorem divOk77 {j : Int} (h1 : 0 < j) (h2 : j < 10 ^ 77) : divOk j = true := decide_eq_true (wide_div (i := 0) h1 (lt_2_256 (by omega) h2) (by decide) (by decide))
@[simp] theorem oMul77 {i j : Int} {h : Hv} (h1 : -(10 ^ 77) < i) (h2 : i < 10 ^ 77) (h3 : -(10 ^ 77) < j) (h4 : j < 10 ^ 77) : oMul (.int i) (.int j) h = .ok (.int (i * j)) h := by rw [oMul_int, if_pos (mulOk77 h1 h2 h3 h4)]
@[simp] theorem oFdiv77 {i j : Int} {h : Hv} (h1 : 0 < j) (h2 : j < 10 ^ 77) : oFdiv (.int i) (.int j) h = .ok (.int (i / j)) h := by rw [oFdiv_int, if_pos (divOk77 h1 h2)]
/-! ### ranges, zips -/
theorem rgD_map (lo : Int) (n : Nat) : rgD lo n = (List.range n).map (fun i => D.int (lo + (i : Nat))) := rfl
theorem rgD_len (lo : Int) (n : Nat) : (rgD lo n).length = n := by
  unfold rgD
  rw [List.length_map, List.length_range]
theorem zipD_map {α β : Type} (e1 : α → D) (e2 : β → D) : ∀ (xs : List α) (ys : List β), zipD (xs.map e1) (ys.map e2) = (xs.zip ys).map fun p => .tup [e1 p.1, e2 p.2]
  | [], _ => rfl
  | _ :: _, [] => rfl
  | x :: xs, y :: ys => by
    rw [List.map_cons, List.map_cons, List.zip_cons_cons, List.map_cons, ← zipD_map e1 e2 xs ys]
    rfl
/-- a for loop by what holds between two turns -/
theorem forD_inv {α : Type} {chk : Hv → Bool} {gd : GD} {body : SS} (enc : α → D) (I : Nat → VS → Hv → Prop) (xs : List α) (hc : ∀ i σ h, I i σ h → chk h = true)
    (step : ∀ i a σ h, xs[i]? = some a → I i σ h → ∃ σ1 σ2 h2, gd (enc a) σ = some σ1 ∧ (body σ1 h = .next σ2 h2 ∨ body σ1 h = .cont σ2 h2) ∧ I (i + 1) σ2 h2) {σ : VS} {h : Hv} (i0 : I 0 σ h) :
    ∃ σ' h', forD chk gd body (xs.map enc) σ h = .next σ' h' ∧ I xs.length σ' h' := by
  have key : ∀ (n : Nat) (i : Nat) σ h, xs.length - i = n → i ≤ xs.length → I i σ h → ∃ σ' h', forD chk gd body ((xs.drop i).map enc) σ h = .next σ' h' ∧ I xs.length σ' h' := by
    intro n
    induction n with
    | zero =>
      intro i σ h hn hi q
      have e : i = xs.length := by omega
      subst e
      refine ⟨σ, h, ?_, q⟩
      rw [List.drop_length, List.map_nil, forD_nil, hc _ _ _ q, if_pos rfl]
    | succ n ih =>
      intro i σ h hn hi q
      have hlt : i < xs.length := by omega
      obtain ⟨σ1, σ2, h2, e1, e2, q2⟩ := step i xs[i] σ h (List.getElem?_eq_getElem hlt) q
      obtain ⟨σ', h', e3, q3⟩ := ih (i + 1) σ2 h2 (by omega) (by omega) q2
      refine ⟨σ', h', ?_, q3⟩
      rw [List.drop_eq_getElem_cons hlt, List.map_cons, forD_cons, hc _ _ _ q, if_pos rfl, e1]
      rcases e2 with e2 | e2
      · simp only [e2]; exact e3
      · simp only [e2]; exact e3
  have z := key xs.length 0 σ h (by omega) (by omega) i0
  rw [List.drop_zero] at z
  exact z
/-- .. one that may leave by a return -/
theorem forD_ret {α : Type} {chk : Hv → Bool} {gd : GD} {body : SS} (enc : α → D) (I : Nat → VS → Hv → Prop) (Rt : D → Hv → Prop) (xs : List α) (hc : ∀ i σ h, I i σ h → chk h = true)
    (step : ∀ i a σ h, xs[i]? = some a → I i σ h → ∃ σ1, gd (enc a) σ = some σ1 ∧ ((∃ σ2 h2, (body σ1 h = .next σ2 h2 ∨ body σ1 h = .cont σ2 h2) ∧ I (i + 1) σ2 h2) ∨ ∃ d h2, body σ1 h = .ret d h2 ∧ Rt d h2)) {σ : VS} {h : Hv} (i0 : I 0 σ h) :
    (∃ σ' h', forD chk gd body (xs.map enc) σ h = .next σ' h' ∧ I xs.length σ' h') ∨ ∃ d h', forD chk gd body (xs.map enc) σ h = .ret d h' ∧ Rt d h' := by
  have key : ∀ (n : Nat) (i : Nat) σ h, xs.length - i = n → i ≤ xs.length → I i σ h → (∃ σ' h', forD chk gd body ((xs.drop i).map enc) σ h = .next σ' h' ∧ I xs.length σ' h') ∨ ∃ d h', forD chk gd body ((xs.drop i).map enc) σ h = .ret d h' ∧ Rt d h' := by
    intro n
    induction n with
    | zero =>
      intro i σ h hn hi q
      have e : i = xs.length := by omega
      subst e
      refine .inl ⟨σ, h, ?_, q⟩
      rw [List.drop_length, List.map_nil, forD_nil, hc _ _ _ q, if_pos rfl]
    | succ n ih =>
      intro i σ h hn hi q
      have hlt : i < xs.length := by omega
      obtain ⟨σ1, e1, e2⟩ := step i xs[i] σ h (List.getElem?_eq_getElem hlt) q
      rw [List.drop_eq_getElem_cons hlt, List.map_cons, forD_cons, hc _ _ _ q, if_pos rfl, e1]
      rcases e2 with ⟨σ2, h2, e2 | e2, q2⟩ | ⟨d, h2, e2, q2⟩
      · simp only [e2]; exact ih (i + 1) σ2 h2 (by omega) (by omega) q2
      · simp only [e2]; exact ih (i + 1) σ2 h2 (by omega) (by omega) q2
      · exact .inr ⟨d, h2, by simp only [e2], q2⟩
  have z := key xs.length 0 σ h (by omega) (by omega) i0
  rw [List.drop_zero] at z
  exact z
/-! ### dicts -/
section
variable {σ : VS} {h : Hv} {f g k : ES} {d : D}
@[simp] theorem keyOf_int {i : Int} : keyOf (.int i) = some (.inl i) := rfl
@[simp] theorem keyOf_str {x : Str} : keyOf (.str x) = some (.inr x) := rfl
@[simp] theorem kvOf_cell {n : Nat} : kvOf h (.cell n) = (match h[n]? with
    | some (.dK kvs) => some kvs
    | some (.dF kvs) => some kvs
    | _ => none) := rfl
@[simp] theorem kvOf_dct {ks : List Key} {ds : List D} : kvOf h (.dct ks ds) = if ks.length = ds.length then some (ks.zip ds) else none := rfl
@[simp] theorem oDget_ap {x y : D} : oDget x y h = (match kvOf h x, keyOf y with
  | some kd, some k => (match getD kd k with
    | some d => .ok d h
    | none => .stuck)
  | _, _ => .stuck) := rfl
@[simp] theorem oDin_ap {x y : D} : oDin y x h = (match kvOf h x, keyOf y with
  | some kd, some k => .ok (.bl (getD kd k).isSome) h
  | _, _ => .stuck) := rfl
@[simp] theorem oDnin_ap {x y : D} : oDnin y x h = (match kvOf h x, keyOf y with
  | some kd, some k => .ok (.bl (!(getD kd k).isSome)) h
  | _, _ => .stuck) := rfl
def kDp3 (d x y : D) (σ : VS) (h : Hv) : RS := match x, keyOf y with
  | .cell n, some k => (match h[n]? with
    | some (.dK kd) => if kd.length < 16777216 then .next σ (h.set n (.dK (putD kd k d))) else .stuck
    | _ => .stuck)
  | _, _ => .stuck
def kDp2 (k : ES) (σ : VS) (d x : D) (h : Hv) : RS := (k σ h).then σ fun y h3 => kDp3 d x y σ h3
def kDp1 (g k : ES) (σ : VS) (d : D) (h : Hv) : RS := (g σ h).then σ (kDp2 k σ d)
@[simp] theorem sDput_ap : sDput f g k σ h = (f σ h).then σ (kDp1 g k σ) := rfl
@[simp] theorem kDp1_ap : kDp1 g k σ d h = (g σ h).then σ (kDp2 k σ d) := rfl
@[simp] theorem kDp2_ap {x : D} : kDp2 k σ d x h = (k σ h).then σ fun y h3 => kDp3 d x y σ h3 := rfl
@[simp] theorem kDp3_ap {n : Nat} {y : D} : kDp3 d (.cell n) y σ h = (match keyOf y with
  | some k => (match h[n]? with
    | some (.dK kd) => if kd.length < 16777216 then .next σ (h.set n (.dK (putD kd k d))) else .stuck
    | _ => .stuck)
  | none => .stuck) := by
  show (match D.cell n, keyOf y with
  | .cell n, some k => (match h[n]? with
    | some (.dK kd) => if kd.length < 16777216 then RS.next σ (h.set n (.dK (putD kd k d))) else .stuck
    | _ => .stuck)
  | _, _ => .stuck) = _
  cases keyOf y <;> rfl
@[simp] theorem eDnew_ap : eDnew σ h = .ok (.cell h.length) (h ++ [.dK []]) := rfl
@[simp] theorem eLock_ap : eLock f σ h = (f σ h).bind fun d h1 => (match d with
  | .cell n => (match h1[n]? with
    | some (.dK kd) => .ok (.cell n) (h1.set n (.dF kd))
    | _ => .stuck)
  | _ => .stuck) := rfl
@[simp] theorem iD_ap : iD f σ h = (f σ h).bind fun d h1 => (match d with
  | .dct ks ds => .ok (ks.map keyD, always) h1
  | _ => .stuck) := rfl
@[simp] theorem pNil_ap : pNil σ h = .ok [] h := rfl
def kPc2 (gp : PSd) (σ : VS) (k v : D) (h : Hv) : R (List (D × D)) := (gp σ h).bind fun r h3 => .ok ((k, v) :: r) h3
def kPc1 (g : ES) (gp : PSd) (σ : VS) (k : D) (h : Hv) : R (List (D × D)) := (g σ h).bind (kPc2 gp σ k)
@[simp] theorem pCons_ap {gp : PSd} : pCons f g gp σ h = (f σ h).bind (kPc1 g gp σ) := rfl
@[simp] theorem kPc1_ap {gp : PSd} {x : D} : kPc1 g gp σ x h = (g σ h).bind (kPc2 gp σ x) := rfl
@[simp] theorem kPc2_ap {gp : PSd} {x y : D} : kPc2 gp σ x y h = (gp σ h).bind fun r h3 => .ok ((x, y) :: r) h3 := rfl
@[simp] theorem keyP_ap {p : D × D} : keyP p = (keyOf p.1).map fun k => (k, p.2) := rfl
@[simp] theorem eDisp_ap {gp : PSd} : eDisp gp σ h = (gp σ h).bind fun ps h1 => (match optAll keyP ps with
  | some kd => if kd.length ≤ 15 then .ok (.cell h1.length) (h1 ++ [.dK (mergeD [] kd)]) else .stuck
  | none => .stuck) := rfl
@[simp] theorem eDispF_ap {gp : PSd} : eDispF gp σ h = (gp σ h).bind fun ps h1 => (match optAll keyP ps with
  | some kd => if kd.length ≤ 15 then .ok (.dct ((mergeD [] kd).map (·.1)) ((mergeD [] kd).map (·.2))) h1 else .stuck
  | none => .stuck) := rfl
def kDpop2 (x y : D) (h2 : Hv) : R D := match x, keyOf y with
    | .cell n, some k => (match h2[n]? with
      | some (.dK kd) => (match getD kd k with
        | some d => .ok d (h2.set n (.dK (dropD kd k)))
        | none => .stuck)
      | _ => .stuck)
    | _, _ => .stuck
def kDpop1 (g : ES) (σ : VS) (x : D) (h1 : Hv) : R D := match kvOf h1 x with
  | some _ => (g σ h1).bind (kDpop2 x)
  | none => .stuck
@[simp] theorem eDpop_ap : eDpop f g σ h = (f σ h).bind (kDpop1 g σ) := rfl
@[simp] theorem kDpop1_ap {x : D} : kDpop1 g σ x h = (match kvOf h x with
  | some _ => (g σ h).bind (kDpop2 x)
  | none => .stuck) := rfl
@[simp] theorem kDpop2_int {n : Nat} {i : Int} : kDpop2 (.cell n) (.int i) h = (match h[n]? with
      | some (.dK kd) => (match getD kd (.inl i) with
        | some d => .ok d (h.set n (.dK (dropD kd (.inl i))))
        | none => .stuck)
      | _ => .stuck) := rfl
@[simp] theorem getD_nil {k : Key} : getD [] k = none := rfl
theorem getD_cons {k j : Key} {kd : List (Key × D)} : getD ((j, d) :: kd) k = if j = k then some d else getD kd k := by
  unfold getD
  by_cases q : j = k
  · rw [List.find?_cons_of_pos (by exact decide_eq_true q), if_pos q]; rfl
  · rw [List.find?_cons_of_neg (by exact fun z => q (of_decide_eq_true z)), if_neg q]
end
end
end VD

set_option Elab.async false
set_option linter.all false
set_option maxRecDepth 100000
set_option maxHeartbeats 4000000
namespace VD
open PySem PySem.Spec PyProof.Rows L2
noncomputable section
/-! ### what a def comes to, told from its end -/
structure Wp (Q : RS → Prop) (r : RS) : Prop where
  run : Q r
theorem Wp.eq (Q : RS → Prop) (r : RS) : Wp Q r = Q r := propext ⟨Wp.run, Wp.mk⟩
def Sq (Q : RS → Prop) (b : SS) (r : RS) : Prop := match r with
  | .next σ h => Wp Q (b σ h)
  | r => Wp Q r
def Br (Q : RS → Prop) (a b : SS) (σ : VS) (r : R Bool) : Prop := Wp Q (r.then σ fun k h => if k then a σ h else b σ h)
section
variable {Q : RS → Prop} {a b : SS} {σ : VS} {h : Hv} {d : D} {c : CS} {x : Xn} {p : Prop} [Decidable p] {r1 r2 : R Bool} {s1 s2 : RS} {k k2 : Bool}
@[simp] theorem Wp_seq : Wp Q (sSeq a b σ h) = Wp (Sq Q b) (a σ h) := by
  rw [sSeq_ap]
  cases a σ h <;> (rw [Wp.eq (Sq Q b)]; rfl)
@[simp] theorem Wp_sq_next : Wp (Sq Q b) (.next σ h) = Wp Q (b σ h) := Wp.eq _ _
@[simp] theorem Wp_sq_ret : Wp (Sq Q b) (.ret d h) = Wp Q (.ret d h) := Wp.eq _ _
@[simp] theorem Wp_sq_brk : Wp (Sq Q b) (.brk σ h) = Wp Q (.brk σ h) := Wp.eq _ _
@[simp] theorem Wp_sq_cont : Wp (Sq Q b) (.cont σ h) = Wp Q (.cont σ h) := Wp.eq _ _
@[simp] theorem Wp_sq_exc : Wp (Sq Q b) (.exc x σ h) = Wp Q (.exc x σ h) := Wp.eq _ _
@[simp] theorem Wp_sq_stuck : Wp (Sq Q b) .stuck = Wp Q .stuck := Wp.eq _ _
@[simp] theorem Wp_if : Wp Q (sIf c a b σ h) = Br Q a b σ (c σ h) := rfl
@[simp] theorem Br_t : Br Q a b σ (.ok true h) = Wp Q (a σ h) := rfl
@[simp] theorem Br_f : Br Q a b σ (.ok false h) = Wp Q (b σ h) := rfl
@[simp] theorem Br_exc : Br Q a b σ (.exc x h) = Wp Q (.exc x σ h) := rfl
@[simp] theorem Br_stuck : Br Q a b σ .stuck = Wp Q .stuck := rfl
theorem Br_ok : Br Q a b σ (.ok k h) = if k = true then Wp Q (a σ h) else Wp Q (b σ h) := by cases k <;> rfl
@[simp] theorem Br_dec : Br Q a b σ (.ok (decide p) h) = if p then Wp Q (a σ h) else Wp Q (b σ h) := by
  by_cases q : p
  · rw [if_pos q, decide_eq_true q]; rfl
  · rw [if_neg q, decide_eq_false q]; rfl
@[simp] theorem Br_not : Br Q a b σ (.ok (!k) h) = Br Q b a σ (.ok k h) := by cases k <;> rfl
@[simp] theorem Br_ite : Br Q a b σ (if p then r1 else r2) = if p then Br Q a b σ r1 else Br Q a b σ r2 := by
  by_cases q : p
  · rw [if_pos q, if_pos q]
  · rw [if_neg q, if_neg q]
@[simp] theorem Wp_ite : Wp Q (if p then s1 else s2) = if p then Wp Q s1 else Wp Q s2 := by
  by_cases q : p
  · rw [if_pos q, if_pos q]
  · rw [if_neg q, if_neg q]
end
/-! try -/
def Wy (Q : RS → Prop) (i : Nat) (r : RS) : Prop := match r with
  | .next σ h => Wp Q (.next (σ.set i none) h)
  | .brk σ h => Wp Q (.brk (σ.set i none) h)
  | .cont σ h => Wp Q (.cont (σ.set i none) h)
  | .ret d h => Wp Q (.ret d h)
  | _ => Wp Q .stuck
/-- what an except clause makes of an error -/
def tryR (tb : Str → Str → Option Bool) (y : Str) (i : Nat) (suite : Xn → Addr → Addr → SS) (x : Xn) (σ : VS) (h : Hv) : RS := match tb x.cls y with
  | some true => tryA i x.pay (suite x) σ h
  | some false => .exc x σ h
  | none => .stuck
def Ty (Q : RS → Prop) (tb : Str → Str → Option Bool) (y : Str) (i : Nat) (suite : Xn → Addr → Addr → SS) (r : RS) : Prop := match r with
  | .exc x σ h => Wp Q (tryR tb y i suite x σ h)
  | r => Wp Q r
def Is (r : RS) : RS → Prop := fun z => z = r
def tryOR (tb : Str → Str → Option Bool) (y : Str) (suite : SS) (x : Xn) (σ : VS) (h : Hv) : RS := match tb x.cls y with
  | some true => (match suite σ h with
    | .exc _ _ _ => .stuck
    | r => r)
  | some false => .exc x σ h
  | none => .stuck
def To (Q : RS → Prop) (tb : Str → Str → Option Bool) (y : Str) (suite : SS) (r : RS) : Prop := match r with
  | .exc x σ h => Wp Q (tryOR tb y suite x σ h)
  | r => Wp Q r
def Tn (Q : RS → Prop) (r : RS) : Prop := match r with
  | .exc _ _ _ => Wp Q .stuck
  | r => Wp Q r
section
variable {Q : RS → Prop} {tb : Str → Str → Option Bool} {y : Str} {i : Nat} {suite : Xn → Addr → Addr → SS} {su body : SS} {σ : VS} {h : Hv} {x : Xn} {d : D} {r : RS}
@[simp] theorem Wp_wipe : Wp Q (wipeR i r) = Wp (Wy Q i) r := by
  cases r <;> (rw [Wp.eq (Wy Q i)]; rfl)
@[simp] theorem Wp_wy_next : Wp (Wy Q i) (.next σ h) = Wp Q (.next (σ.set i none) h) := Wp.eq _ _
@[simp] theorem Wp_wy_brk : Wp (Wy Q i) (.brk σ h) = Wp Q (.brk (σ.set i none) h) := Wp.eq _ _
@[simp] theorem Wp_wy_cont : Wp (Wy Q i) (.cont σ h) = Wp Q (.cont (σ.set i none) h) := Wp.eq _ _
@[simp] theorem Wp_wy_ret : Wp (Wy Q i) (.ret d h) = Wp Q (.ret d h) := Wp.eq _ _
@[simp] theorem Wp_try : Wp Q (sTryAs tb y i suite body σ h) = Wp (Ty Q tb y i suite) (body σ h) := by
  unfold sTryAs
  cases body σ h <;> (rw [Wp.eq (Ty Q tb y i suite)]; rfl)
@[simp] theorem Wp_ty_next : Wp (Ty Q tb y i suite) (.next σ h) = Wp Q (.next σ h) := Wp.eq _ _
@[simp] theorem Wp_ty_ret : Wp (Ty Q tb y i suite) (.ret d h) = Wp Q (.ret d h) := Wp.eq _ _
@[simp] theorem Wp_ty_brk : Wp (Ty Q tb y i suite) (.brk σ h) = Wp Q (.brk σ h) := Wp.eq _ _
@[simp] theorem Wp_ty_cont : Wp (Ty Q tb y i suite) (.cont σ h) = Wp Q (.cont σ h) := Wp.eq _ _
@[simp] theorem Wp_ty_stuck : Wp (Ty Q tb y i suite) .stuck = Wp Q .stuck := Wp.eq _ _
@[simp] theorem Wp_ty_exc : Wp (Ty Q tb y i suite) (.exc x σ h) = Wp Q (tryR tb y i suite x σ h) := Wp.eq _ _
@[simp] theorem Wp_is_next {r : RS} : Wp (Is r) (.next σ h) = (RS.next σ h = r) := Wp.eq _ _
@[simp] theorem Wp_is_ret {r : RS} : Wp (Is r) (.ret d h) = (RS.ret d h = r) := Wp.eq _ _
@[simp] theorem Wp_is_brk {r : RS} : Wp (Is r) (.brk σ h) = (RS.brk σ h = r) := Wp.eq _ _
@[simp] theorem Wp_is_cont {r : RS} : Wp (Is r) (.cont σ h) = (RS.cont σ h = r) := Wp.eq _ _
/-- the clause takes it: the suite comes to r, whatever the error's address -/
theorem Wp_tryR {x : Xn} (r : RS) (t : tb x.cls y = some true) (hr : ∀ a dd, Wp (Wy (Is r) i) (suite x a dd (σ.set i (exM a dd x.pay)) h)) (q : Wp Q r) : Wp Q (tryR tb y i suite x σ h) := by
  have e : tryA i x.pay (suite x) σ h = r := tryA_eq fun a dd => by
    have z := hr a dd
    rw [← Wp_wipe] at z
    exact z.run
  unfold tryR
  rw [t]
  simp only [e]
  exact q
theorem tryR_no {x : Xn} (e : tb x.cls y = some false) : tryR tb y i suite x σ h = .exc x σ h := by
  unfold tryR
  simp only [e]
@[simp] theorem exM_none {a dd : Addr} : exM a dd none = some (.raw (.ref a)) := rfl
@[simp] theorem exM_some {a dd : Addr} {f : Str} : exM a dd (some (f, d)) = some (.exv a dd f d) := rfl
@[simp] theorem exD_none {a dd : Addr} : exD a dd none = .raw (.ref a) := rfl
@[simp] theorem exD_some {a dd : Addr} {f : Str} : exD a dd (some (f, d)) = .exv a dd f d := rfl
@[simp] theorem isEx_none {a dd : Addr} : isEx a dd none (.raw (.ref a)) = true := decide_eq_true rfl
@[simp] theorem isEx_some {a dd : Addr} {p : Str × D} {f : Str} : isEx a dd (some p) (.exv a dd f d) = true := by
  show (decide _ && decide _) = true
  rw [decide_eq_true rfl, decide_eq_true rfl]; rfl
@[simp] theorem Wp_tryO : Wp Q (sTryO tb y su body σ h) = Wp (To Q tb y su) (body σ h) := by
  unfold sTryO
  cases body σ h <;> (rw [Wp.eq (To Q tb y su)]; rfl)
@[simp] theorem Wp_to_next : Wp (To Q tb y su) (.next σ h) = Wp Q (.next σ h) := Wp.eq _ _
@[simp] theorem Wp_to_ret : Wp (To Q tb y su) (.ret d h) = Wp Q (.ret d h) := Wp.eq _ _
@[simp] theorem Wp_to_brk : Wp (To Q tb y su) (.brk σ h) = Wp Q (.brk σ h) := Wp.eq _ _
@[simp] theorem Wp_to_cont : Wp (To Q tb y su) (.cont σ h) = Wp Q (.cont σ h) := Wp.eq _ _
@[simp] theorem Wp_to_stuck : Wp (To Q tb y su) .stuck = Wp Q .stuck := Wp.eq _ _
@[simp] theorem Wp_to_exc : Wp (To Q tb y su) (.exc x σ h) = Wp Q (tryOR tb y su x σ h) := Wp.eq _ _
theorem tryOR_yes {c : Str} {p : Option (Str × D)} (e : tb c y = some true) : Wp Q (tryOR tb y su ⟨c, p⟩ σ h) = Wp (Tn Q) (su σ h) := by
  unfold tryOR
  simp only [e]
  cases su σ h <;> (rw [Wp.eq (Tn Q)]; rfl)
@[simp] theorem Wp_tn_next : Wp (Tn Q) (.next σ h) = Wp Q (.next σ h) := Wp.eq _ _
@[simp] theorem Wp_tn_ret : Wp (Tn Q) (.ret d h) = Wp Q (.ret d h) := Wp.eq _ _
@[simp] theorem Wp_tn_brk : Wp (Tn Q) (.brk σ h) = Wp Q (.brk σ h) := Wp.eq _ _
@[simp] theorem Wp_tn_cont : Wp (Tn Q) (.cont σ h) = Wp Q (.cont σ h) := Wp.eq _ _
end
@[simp] theorem eIsO_ap {i : Nat} {x : Xn} {a dd : Addr} {o : Option Bool} {σ : VS} {h : Hv} : eIsO i x a dd o σ h = (eVar i σ h).bind fun d h1 => if isEx a dd x.pay d = true then (match o with
    | some r => .ok (.bl r) h1
    | none => .stuck) else .stuck := rfl
theorem eFldX_ap {ef : List Ef} {i : Nat} {x : Xn} {a dd : Addr} {f : Str} {σ : VS} {h : Hv} (e1 : exT ef x.cls = true) (e2 : nofE ef x.cls f = true) : eFldX ef i x a dd f σ h = (eVar i σ h).bind fun d h1 => (match d with
  | .exv b d0 g d' => if isEx a dd x.pay (.exv b d0 g d') = true ∧ g = f then .ok d' h1 else .stuck
  | _ => .stuck) := by
  unfold eFldX
  rw [if_pos ⟨e1, e2⟩]
  rfl
@[simp] theorem sRaiseP_ap {C f : Str} {fe : ES} {σ : VS} {h : Hv} : sRaiseP C f fe σ h = (fe σ h).then σ fun d h' => .exc ⟨C, some (f, d)⟩ σ h' := rfl
/-- the end of a def that stands alone -/
def Rt (P : R D → Prop) (r : RS) : Prop := match r with
  | .ret d h => ∃ d', frz 0 h 12 d = some d' ∧ P (.ok d' [])
  | .next _ _ => P (.ok .non [])
  | .exc x _ h => match x.pay with
    | none => P (.exc ⟨x.cls, none⟩ [])
    | some (f, d) => ∃ d', frz 0 h 12 d = some d' ∧ P (.exc ⟨x.cls, some (f, d')⟩ [])
  | _ => False
section
variable {P : R D → Prop} {σ : VS} {h : Hv} {d : D} {C f : Str}
@[simp] theorem Wp_rt_ret : Wp (Rt P) (.ret d h) = ∃ d', frz 0 h 12 d = some d' ∧ P (.ok d' []) := Wp.eq _ _
@[simp] theorem Wp_rt_next : Wp (Rt P) (.next σ h) = P (.ok .non []) := Wp.eq _ _
@[simp] theorem Wp_rt_exc : Wp (Rt P) (.exc ⟨C, none⟩ σ h) = P (.exc ⟨C, none⟩ []) := by
  rw [Wp.eq, Rt]
@[simp] theorem Wp_rt_excP : Wp (Rt P) (.exc ⟨C, some (f, d)⟩ σ h) = ∃ d', frz 0 h 12 d = some d' ∧ P (.exc ⟨C, some (f, d')⟩ []) := by
  rw [Wp.eq, Rt]
@[simp] theorem Wp_rt_stuck : Wp (Rt P) .stuck = False := Wp.eq _ _
end
theorem fnS_of {P : R D → Prop} {np nl : Nat} {body : SS} {ds : List D} (hl : ds.length = np) (hw : Wp (Rt P) (body (ds.map some ++ List.replicate nl none) [])) : P (fnS np nl body ds []) := by
  replace hw := hw.run
  unfold Rt at hw
  split at hw
  · next d h e =>
    obtain ⟨d', e1, e2⟩ := hw
    rw [fnS_ret hl e e1]
    exact e2
  · next e => rw [fnS_next hl e]; exact hw
  · next x _ _ e =>
    cases x with
    | mk c p =>
      cases p with
      | none =>
        rw [fnS_exc hl e]
        exact hw
      | some q =>
        obtain ⟨d', e1, e2⟩ := hw
        rw [fnS_excP hl e e1]
        exact e2
  · exact hw.elim
/-- the end of a def that hands its objects on -/
def Ru (P : R D → Prop) (r : RS) : Prop := match r with
  | .ret d h => P (.ok d h)
  | .exc x _ _ => x.pay = none ∧ P (.exc ⟨x.cls, none⟩ [])
  | _ => False
section
variable {P : R D → Prop} {σ : VS} {h : Hv} {d : D} {C : Str}
@[simp] theorem Wp_ru_ret : Wp (Ru P) (.ret d h) = P (.ok d h) := Wp.eq _ _
@[simp] theorem Wp_ru_exc : Wp (Ru P) (.exc ⟨C, none⟩ σ h) = P (.exc ⟨C, none⟩ []) := by
  rw [Wp.eq, Ru]
  simp
@[simp] theorem Wp_ru_stuck : Wp (Ru P) .stuck = False := Wp.eq _ _
end
theorem fnU_of {P : R D → Prop} {np nl : Nat} {body : SS} {ds : List D} (hl : ds.length = np) (hw : Wp (Ru P) (body (ds.map some ++ List.replicate nl none) [])) : P (fnU np nl body ds []) := by
  replace hw := hw.run
  unfold fnU
  rw [if_pos hl]
  generalize body (ds.map some ++ List.replicate nl none) [] = r at hw ⊢
  cases r with
  | ret d h => exact hw
  | exc x σ h =>
    obtain ⟨e1, e2⟩ := hw
    cases x with
    | mk c p =>
      cases e1
      show P (exitX 0 ⟨c, none⟩ h)
      unfold exitX
      rw [List.take_zero]
      simp only [optAll_nil, Nat.zero_le, if_true]
      exact e2
  | next σ h => exact hw.elim
  | brk σ h => exact hw.elim
  | cont σ h => exact hw.elim
  | stuck => exact hw.elim
theorem callC_ok {sem : List D → Hv → R D} {ds ds' : List D} {h h' : Hv} {d : D} (hp : pureD ds = some ds') (e : sem ds' [] = .ok d h') : callC sem ds h = .ok (shD h.length d) (h ++ h'.map (shC h.length)) := by
  unfold callC
  rw [hp]
  simp only [e]
/-! loops -/
def Lp (Q : RS → Prop) (I : VS → Hv → Prop) (r : RS) : Prop := match r with
  | .next σ h => I σ h
  | .cont σ h => I σ h
  | .brk σ h => Wp Q (.next σ h)
  | .stuck => False
  | r => Wp Q r
section
variable {Q : RS → Prop} {I : VS → Hv → Prop} {σ : VS} {h : Hv} {d : D} {x : Xn}
@[simp] theorem Wp_lp_next : Wp (Lp Q I) (.next σ h) = I σ h := Wp.eq _ _
@[simp] theorem Wp_lp_cont : Wp (Lp Q I) (.cont σ h) = I σ h := Wp.eq _ _
@[simp] theorem Wp_lp_brk : Wp (Lp Q I) (.brk σ h) = Wp Q (.next σ h) := Wp.eq _ _
@[simp] theorem Wp_lp_ret : Wp (Lp Q I) (.ret d h) = Wp Q (.ret d h) := Wp.eq _ _
@[simp] theorem Wp_lp_exc : Wp (Lp Q I) (.exc x σ h) = Wp Q (.exc x σ h) := Wp.eq _ _
@[simp] theorem Wp_lp_stuck : Wp (Lp Q I) .stuck = False := Wp.eq _ _
end
theorem forD_wp {α : Type} {Q : RS → Prop} {chk : Hv → Bool} {gd : GD} {body : SS} (enc : α → D) (xs : List α) (I : Nat → VS → Hv → Prop)
    (hc : ∀ i σ h, I i σ h → chk h = true)
    (step : ∀ i a σ h, xs[i]? = some a → I i σ h → ∃ σ1, gd (enc a) σ = some σ1 ∧ Wp (Lp Q (I (i + 1))) (body σ1 h))
    (fin : ∀ σ h, I xs.length σ h → Wp Q (.next σ h)) {σ : VS} {h : Hv} (i0 : I 0 σ h) : Wp Q (forD chk gd body (xs.map enc) σ h) := by
  have key : ∀ (n : Nat) (i : Nat) σ h, xs.length - i = n → i ≤ xs.length → I i σ h → Wp Q (forD chk gd body ((xs.drop i).map enc) σ h) := by
    intro n
    induction n with
    | zero =>
      intro i σ h hn hi q
      have e : i = xs.length := by omega
      subst e
      rw [List.drop_length, List.map_nil, forD_nil, hc _ _ _ q, if_pos rfl]
      exact fin _ _ q
    | succ n ih =>
      intro i σ h hn hi q
      have hlt : i < xs.length := by omega
      obtain ⟨σ1, e1, e2⟩ := step i xs[i] σ h (List.getElem?_eq_getElem hlt) q
      rw [List.drop_eq_getElem_cons hlt, List.map_cons, forD_cons, hc _ _ _ q, if_pos rfl, e1]
      cases eb : body σ1 h with
      | next σ2 h2 => rw [eb, Wp_lp_next] at e2; simp only [eb]; exact ih (i + 1) σ2 h2 (by omega) (by omega) e2
      | cont σ2 h2 => rw [eb, Wp_lp_cont] at e2; simp only [eb]; exact ih (i + 1) σ2 h2 (by omega) (by omega) e2
      | brk σ2 h2 => rw [eb, Wp_lp_brk] at e2; simp only [eb]; exact e2
      | ret d h2 => rw [eb, Wp_lp_ret] at e2; simp only [eb]; exact e2
      | exc x σ2 h2 => rw [eb, Wp_lp_exc] at e2; simp only [eb]; exact e2
      | stuck => rw [eb, Wp_lp_stuck] at e2; exact e2.elim
  have z := key xs.length 0 σ h (by omega) (by omega) i0
  rw [List.drop_zero] at z
  exact z
theorem Wp.loop {α : Type} {Q : RS → Prop} {is : IS} {gd : GD} {body : SS} {σ : VS} {h : Hv} (enc : α → D) (xs : List α) (I : Nat → VS → Hv → Prop) {chk : Hv → Bool} {h0 : Hv}
    (his : is σ h = .ok (xs.map enc, chk) h0) (i0 : I 0 σ h0)
    (hc : ∀ i σ h, I i σ h → chk h = true)
    (step : ∀ i a σ h, xs[i]? = some a → I i σ h → ∃ σ1, gd (enc a) σ = some σ1 ∧ Wp (Lp Q (I (i + 1))) (body σ1 h))
    (fin : ∀ σ h, I xs.length σ h → Wp Q (.next σ h)) : Wp Q (sFor is gd body σ h) := by
  rw [sFor_ap, his]
  exact forD_wp enc xs I hc step fin i0
/-- a loop that doesn't look at a changing list -/
theorem Wp.loopA {α : Type} {Q : RS → Prop} {is : IS} {gd : GD} {body : SS} {σ : VS} {h : Hv} (enc : α → D) (xs : List α) (I : Nat → VS → Hv → Prop) {h0 : Hv}
    (his : is σ h = .ok (xs.map enc, always) h0) (i0 : I 0 σ h0)
    (step : ∀ i a σ h, xs[i]? = some a → I i σ h → ∃ σ1, gd (enc a) σ = some σ1 ∧ Wp (Lp Q (I (i + 1))) (body σ1 h))
    (fin : ∀ σ h, I xs.length σ h → Wp Q (.next σ h)) : Wp Q (sFor is gd body σ h) := Wp.loop enc xs I his i0 (fun _ _ _ _ => rfl) step fin
theorem Wp.range {Q : RS → Prop} {is : IS} {gd : GD} {body : SS} {σ : VS} {h : Hv} (lo : Int) (n : Nat) (I : Nat → VS → Hv → Prop) {h0 : Hv}
    (his : is σ h = .ok (rgD lo n, always) h0) (i0 : I 0 σ h0)
    (step : ∀ i σ h, i < n → I i σ h → ∃ σ1, gd (.int (lo + i)) σ = some σ1 ∧ Wp (Lp Q (I (i + 1))) (body σ1 h))
    (fin : ∀ σ h, I n σ h → Wp Q (.next σ h)) : Wp Q (sFor is gd body σ h) := by
  refine Wp.loopA (fun i : Nat => D.int (lo + i)) (List.range n) I (his.trans rfl) i0 (fun i a σ h ha hi => ?_) (by rw [List.length_range]; exact fin)
  obtain ⟨hlt, rfl⟩ := List.getElem?_eq_some_iff.mp ha
  rw [List.length_range] at hlt
  rw [List.getElem_range]
  exact step i σ h hlt hi
theorem Wp.while {Q : RS → Prop} {c : CS} {body : SS} (I : VS → Hv → Prop) (μ : VS → Hv → Nat)
    (step : ∀ σ h, I σ h → ∃ b, c σ h = .ok b h ∧ if b = true then Wp (Lp Q fun σ' h' => I σ' h' ∧ μ σ' h' < μ σ h) (body σ h) else Wp Q (.next σ h)) {σ : VS} {h : Hv} (i0 : I σ h) : Wp Q (sLoop c body σ h) := by
  have key : ∀ (m : Nat) σ h, μ σ h < m → I σ h → ∃ n, whileD c body n σ h ≠ .stuck ∧ Wp Q (whileD c body n σ h) := by
    intro m
    induction m with
    | zero => intro σ h hm; exact absurd hm (Nat.not_lt_zero _)
    | succ m ih =>
      intro σ h hm i
      obtain ⟨b, e1, e2⟩ := step σ h i
      cases b with
      | false =>
        refine ⟨1, ?_, ?_⟩
        · simp only [whileD, e1, R.then_ok]
          intro z; cases z
        · simp only [whileD, e1, R.then_ok]
          exact e2
      | true =>
        rw [if_pos rfl] at e2
        cases eb : body σ h with
        | next σ2 h2 =>
          rw [eb, Wp_lp_next] at e2
          obtain ⟨n, n1, n2⟩ := ih σ2 h2 (by omega) e2.1
          refine ⟨n + 1, ?_, ?_⟩
          · simp only [whileD, e1, R.then_ok, if_true, eb]; exact n1
          · simp only [whileD, e1, R.then_ok, if_true, eb]; exact n2
        | cont σ2 h2 =>
          rw [eb, Wp_lp_cont] at e2
          obtain ⟨n, n1, n2⟩ := ih σ2 h2 (by omega) e2.1
          refine ⟨n + 1, ?_, ?_⟩
          · simp only [whileD, e1, R.then_ok, if_true, eb]; exact n1
          · simp only [whileD, e1, R.then_ok, if_true, eb]; exact n2
        | brk σ2 h2 =>
          rw [eb, Wp_lp_brk] at e2
          refine ⟨1, ?_, ?_⟩
          · simp only [whileD, e1, R.then_ok, if_true, eb]
            intro z; cases z
          · simp only [whileD, e1, R.then_ok, if_true, eb]
            exact e2
        | ret d h2 =>
          rw [eb, Wp_lp_ret] at e2
          refine ⟨1, ?_, ?_⟩
          · simp only [whileD, e1, R.then_ok, if_true, eb]
            intro z; cases z
          · simp only [whileD, e1, R.then_ok, if_true, eb]
            exact e2
        | exc x σ2 h2 =>
          rw [eb, Wp_lp_exc] at e2
          refine ⟨1, ?_, ?_⟩
          · simp only [whileD, e1, R.then_ok, if_true, eb]
            intro z; cases z
          · simp only [whileD, e1, R.then_ok, if_true, eb]
            exact e2
        | stuck => rw [eb, Wp_lp_stuck] at e2; exact e2.elim
  obtain ⟨n, n1, n2⟩ := key (μ σ h + 1) σ h (by omega) i0
  rw [sLoop_at n1]
  exact n2
/-- the whole number in a slot -/
def slN (σ : VS) (j : Nat) : Nat := match σ[j]? with
  | some (some (.int y)) => y.toNat
  | _ => 0
/-! comprehensions -/
theorem lLc_map {α : Type} {is : IS} {gd : GD} {el : ES} {own : List Nat} {σ : VS} {h h0 : Hv} {chk : Hv → Bool} (enc : α → D) (f : α → D) (xs : List α) (his : is σ h = .ok (xs.map enc, chk) h0) (hc : chk h0 = true) (hl : xs.length ≤ 16777216)
    (q : ∀ a ∈ xs, ∃ σ1, gd (enc a) (wipeV σ own) = some σ1 ∧ el σ1 h0 = .ok (f a) h0) : lLc is gd cYes el own σ h = .ok (xs.map f) h0 := by
  rw [lLc_ap, his, R.bind_ok, List.length_map, if_pos hl]
  exact lcD_map enc f hc xs q
theorem lLc_filter {α : Type} {is : IS} {gd : GD} {c : CS} {el : ES} {own : List Nat} {σ : VS} {h h0 : Hv} {chk : Hv → Bool} (enc : α → D) (p : α → Bool) (f : α → D) (xs : List α) (his : is σ h = .ok (xs.map enc, chk) h0) (hc : chk h0 = true) (hl : xs.length ≤ 16777216)
    (q : ∀ a ∈ xs, ∃ σ1, gd (enc a) (wipeV σ own) = some σ1 ∧ c σ1 h0 = .ok (p a) h0 ∧ (p a = true → el σ1 h0 = .ok (f a) h0)) : lLc is gd c el own σ h = .ok ((xs.filter p).map f) h0 := by
  rw [lLc_ap, his, R.bind_ok, List.length_map, if_pos hl]
  exact lcD_filter enc p f hc xs q
theorem mul_bd {a u : Int} {k b : Nat} (h0 : 0 ≤ a) (h1 : a ≤ k) (h2 : 0 ≤ u) (h3 : u ≤ b) : 0 ≤ a * u ∧ a * u ≤ ((k * b : Nat) : Int) := by
  refine ⟨Int.mul_nonneg h0 h2, ?_⟩
  rw [Int.natCast_mul]
  exact Int.mul_le_mul h1 h3 h2 (by omega)
theorem lLc_ex {α : Type} {is : IS} {gd : GD} {el : ES} {own : List Nat} {σ : VS} {h h0 : Hv} {chk : Hv → Bool} (enc : α → D) (P : α → D → Prop) (xs : List α) (his : is σ h = .ok (xs.map enc, chk) h0) (hc : chk h0 = true) (hl : xs.length ≤ 16777216)
    (q : ∀ a ∈ xs, ∃ σ1 d, gd (enc a) (wipeV σ own) = some σ1 ∧ el σ1 h0 = .ok d h0 ∧ P a d) : ∃ f : α → D, lLc is gd cYes el own σ h = .ok (xs.map f) h0 ∧ ∀ a ∈ xs, P a (f a) := by
  have key : ∃ f : α → D, ∀ a ∈ xs, ∃ σ1, gd (enc a) (wipeV σ own) = some σ1 ∧ el σ1 h0 = .ok (f a) h0 ∧ P a (f a) := by
    refine ⟨fun a => @dite D (∃ d, ∃ σ1, gd (enc a) (wipeV σ own) = some σ1 ∧ el σ1 h0 = .ok d h0 ∧ P a d) (Classical.propDecidable _) (fun z => Classical.choose z) (fun _ => .non), fun a ha => ?_⟩
    have z : ∃ d, ∃ σ1, gd (enc a) (wipeV σ own) = some σ1 ∧ el σ1 h0 = .ok d h0 ∧ P a d := by
      obtain ⟨σ1, d, e⟩ := q a ha
      exact ⟨d, σ1, e⟩
    simp only [z, dite_true]
    exact Classical.choose_spec z
  obtain ⟨f, hf⟩ := key
  refine ⟨f, lLc_map enc f xs his hc hl fun a ha => ?_, fun a ha => ?_⟩
  · obtain ⟨σ1, e1, e2, _⟩ := hf a ha
    exact ⟨σ1, e1, e2⟩
  · obtain ⟨_, _, _, e⟩ := hf a ha
    exact e
/-- a comprehension whose items are new lists that change later -/
theorem lLc_cells {α : Type} {is : IS} {gd : GD} {el : ES} {own : List Nat} {σ : VS} {h h0 : Hv} (enc : α → D) (f : α → List D) (xs : List α) (his : is σ h = .ok (xs.map enc, always) h0) (hl : xs.length ≤ 16777216)
    (q : ∀ a ∈ xs, ∃ σ1, gd (enc a) (wipeV σ own) = some σ1 ∧ ∀ h1, el σ1 h1 = .ok (.cell h1.length) (h1 ++ [.lst (f a)])) : lLc is gd cYes el own σ h = .ok ((List.range xs.length).map fun i => .cell (h0.length + i)) (h0 ++ xs.map fun a => .lst (f a)) := by
  rw [lLc_ap, his, R.bind_ok, List.length_map, if_pos hl]
  have key : ∀ (xs : List α) (h : Hv), (∀ a ∈ xs, ∃ σ1, gd (enc a) (wipeV σ own) = some σ1 ∧ ∀ h1, el σ1 h1 = .ok (.cell h1.length) (h1 ++ [.lst (f a)])) → lcD always gd cYes el (xs.map enc) (wipeV σ own) h = .ok ((List.range xs.length).map fun i => .cell (h.length + i)) (h ++ xs.map fun a => .lst (f a)) := by
    intro xs
    induction xs with
    | nil =>
      intro h _
      simp [lcD]
    | cons a xs ih =>
      intro h q
      obtain ⟨σ1, e1, e2⟩ := q a List.mem_cons_self
      have ih := ih (h ++ [.lst (f a)]) fun b hb => q b (List.mem_cons_of_mem _ hb)
      rw [List.map_cons]
      simp only [lcD, always_ap, if_true, e1, cYes_ap, R.calm_ok, R.bind_ok, e2, ih]
      rw [List.length_cons, List.range_succ_eq_map, List.map_cons, List.map_map, List.length_append, List.map_cons, List.append_assoc]
      congr 1
      congr 1
      apply List.map_congr_left
      intro i _
      show D.cell _ = D.cell _
      congr 1
      simp
      omega
  exact key xs h0 q
theorem cutD_map {α : Type} (e : α → D) (xs : List α) (lo hi : Option Int) : ∃ ys : List α, cutD (xs.map e) lo hi = ys.map e ∧ ys.length ≤ xs.length := by
  refine ⟨(xs.drop (HT.sIx (xs.map e).length 0 lo)).take (HT.sIx (xs.map e).length (xs.map e).length hi - HT.sIx (xs.map e).length 0 lo), ?_, ?_⟩
  · rw [List.map_take, List.map_drop]; rfl
  · rw [List.length_take, List.length_drop]; omega
theorem set_wp {σ : VS} {i j : Nat} {v : Option D} (h : i ≠ j) : (σ.set j v).set i none = (σ.set i none).set j v := List.set_comm _ _ (Ne.symm h)
/-! ### numbers drawn -/
abbrev scr (ns : List Int) : D := .fz (ns.map .int)
@[simp] theorem pureD_ap {ds : List D} : pureD ds = optAll (frz 0 [] 12) ds := rfl
/-- a call's outcome, from the def's on data without cells -/
theorem cP {sem : List D → Hv → R D} {ds : List D} {d : D} (e : sem ds [] = .ok d []) (hp : pureD ds = some ds := by simp) (h : Hv) : callP sem ds h = .ok d h := callP_ok hp e
theorem cX {sem : List D → Hv → R D} {ds : List D} {x : Xn} (e : sem ds [] = .exc x []) (hp : pureD ds = some ds := by simp) (h : Hv) : callP sem ds h = .exc x h := callP_exc hp e
def drawF (ns : List Int) (k m : Int) : Int := if k < ns.length then ns[k.toNat]?.getD 0 % m else (((k * k + 3 + (if 0 < ns.length then ns[(k % ns.length).toNat]?.getD 0 % 65521 else 0)) * 48271 % 65521 + 5) * 40692 % 65519) % m
theorem drawF_bd (ns : List Int) (k : Int) {m : Int} (h : 0 < m) : 0 ≤ drawF ns k m ∧ drawF ns k m < m := by
  unfold drawF
  split
  · exact ⟨Int.emod_nonneg _ (by omega), Int.emod_lt_of_pos _ h⟩
  · exact ⟨Int.emod_nonneg _ (by omega), Int.emod_lt_of_pos _ h⟩
/-- the draw of k31 and of most laws behind it -/
def drawB : SS := sSeq (sIf (toB (eOp oLt (eVar 1) (eCa bLen (aCons (eVar 0) (aNil))))) (sRet (eOp oMod (eOp oIx (eVar 0) (eVar 1)) (eVar 2))) (sNext)) (sSeq (sSet 3 (eOp oAdd (eOp oMul (eVar 1) (eVar 1)) (eK (.int 3)))) (sSeq (sIf (toB (eOp oGt (eCa bLen (aCons (eVar 0) (aNil))) (eK (.int 0)))) (sSet 3 (eOp oAdd (eVar 3) (eOp oMod (eOp oIx (eVar 0) (eOp oMod (eVar 1) (eCa bLen (aCons (eVar 0) (aNil))))) (eK (.int 65521))))) (sNext)) (sRet (eOp oMod (eOp oMod (eOp oMul (eOp oAdd (eOp oMod (eOp oMul (eVar 3) (eK (.int 48271))) (eK (.int 65521))) (eK (.int 5))) (eK (.int 40692))) (eK (.int 65519))) (eVar 2)))))
def drawM : List D → Hv → R D := fnS 3 1 drawB
@[simp] theorem frz_ints {n0 f : Nat} {h : Hv} {xs : List Int} : optAll (frz n0 h (f + 1)) (xs.map D.int) = some (xs.map D.int) := optAll_map fun _ _ => rfl
@[simp] theorem frz_bls {n0 f : Nat} {h : Hv} {xs : List Bool} : optAll (frz n0 h (f + 1)) (xs.map D.bl) = some (xs.map D.bl) := optAll_map fun _ _ => rfl
@[simp] theorem frz_strs {n0 f : Nat} {h : Hv} {xs : List Str} : optAll (frz n0 h (f + 1)) (xs.map D.str) = some (xs.map D.str) := optAll_map fun _ _ => rfl
section
open PySem.W (Datum T3 T4 Tup)
@[simp] theorem enc_i3 (a : T3 Int Int Int) : (En.enc a : D) = .tup [.int a.a, .int a.b, .int a.c] := rfl
@[simp] theorem enc_i4 (a : T4 Int Int Int Int) : (En.enc a : D) = .tup [.int a.a, .int a.b, .int a.c, .int a.d] := rfl
@[simp] theorem enc_i2 (a : Int × Int) : (En.enc a : D) = .tup [.int a.1, .int a.2] := rfl
@[simp] theorem frz_i3 {n0 f : Nat} {h : Hv} {xs : List (T3 Int Int Int)} : optAll (frz n0 h (f + 2)) (xs.map En.enc) = some (xs.map En.enc) := optAll_map fun _ _ => rfl
@[simp] theorem frz_i4 {n0 f : Nat} {h : Hv} {xs : List (T4 Int Int Int Int)} : optAll (frz n0 h (f + 2)) (xs.map En.enc) = some (xs.map En.enc) := optAll_map fun _ _ => rfl
@[simp] theorem frz_i2 {n0 f : Nat} {h : Hv} {xs : List (Int × Int)} : optAll (frz n0 h (f + 2)) (xs.map En.enc) = some (xs.map En.enc) := optAll_map fun _ _ => rfl
end
theorem bInts_lst {f : List Int → Option D} {ns : List Int} {h : Hv} : bInts f [.lst (ns.map .int)] h = match f ns with
  | some z => .ok z h
  | none => .stuck := by
  show (match (some (ns.map D.int)).bind (optAll toI) with | some ns => (match f ns with | some z => R.ok z h | none => .stuck) | none => .stuck) = _
  rw [Option.bind_some, toI_map]
@[simp] theorem bSum_lst {ns : List Int} {h : Hv} : bSum [.lst (ns.map .int)] h = .ok (.int ns.sum) h := bInts_lst
theorem bInts_cell {f : List Int → Option D} {n : Nat} {h : Hv} {ns : List Int} (e : h[n]? = some (.lst (ns.map .int))) : bInts f [.cell n] h = match f ns with
  | some z => .ok z h
  | none => .stuck := by
  show (match (lOf h (.cell n)).bind (optAll toI) with | some ns => (match f ns with | some z => R.ok z h | none => .stuck) | none => .stuck) = _
  rw [lOf_cell, e]
  simp only [Option.bind_some, toI_map]
@[simp] theorem bSum_c0 {h : Hv} {ns : List Int} : bSum [.cell 0] (.lst (ns.map .int) :: h) = .ok (.int ns.sum) (.lst (ns.map .int) :: h) := bInts_cell rfl
@[simp] theorem bSum_c1 {h : Hv} {c : Cell} {ns : List Int} : bSum [.cell 1] (c :: .lst (ns.map .int) :: h) = .ok (.int ns.sum) (c :: .lst (ns.map .int) :: h) := bInts_cell rfl
theorem bMax_cell {n : Nat} {h : Hv} {ns : List Int} {m : Int} (e : h[n]? = some (.lst (ns.map .int))) (q : maxI ns = some m) : bMax [.cell n] h = .ok (.int m) h := by
  unfold bMax
  rw [bInts_cell e, q]
  rfl
theorem bMax_lst {h : Hv} {ns : List Int} {m : Int} (q : maxI ns = some m) : bMax [.lst (ns.map .int)] h = .ok (.int m) h := by
  unfold bMax
  rw [bInts_lst, q]
  rfl
theorem bMin_cell {n : Nat} {h : Hv} {ns : List Int} {m : Int} (e : h[n]? = some (.lst (ns.map .int))) (q : minI ns = some m) : bMin [.cell n] h = .ok (.int m) h := by
  unfold bMin
  rw [bInts_cell e, q]
  rfl
theorem bMin_lst {h : Hv} {ns : List Int} {m : Int} (q : minI ns = some m) : bMin [.lst (ns.map .int)] h = .ok (.int m) h := by
  unfold bMin
  rw [bInts_lst, q]
  rfl
theorem mIndex_cell {n : Nat} {h : Hv} {ns : List Int} {i : Int} {j : Nat} (e : h[n]? = some (.lst (ns.map .int))) (q : firstIx i ns = some j) : mIndex (.cell n) [.int i] h = .ok (.int (j : Nat)) h := by
  show (match (lOf h (.cell n)).bind (optAll toI) with | some ns => (match firstIx i ns with | some j => R.ok (D.int (j : Nat)) h | none => .stuck) | none => .stuck) = _
  rw [lOf_cell, e]
  simp only [Option.bind_some, toI_map, q]
theorem eqD_same {h : Hv} {x y : D} {p : PyData} (hx : toPy h 12 x = some p) (hy : toPy h 12 y = some p) : eqD h x y = some true := by
  unfold eqD
  rw [hx, hy]
  exact congrArg some (PySem.SeqAt.eqv_refl_plain p (toPy_plain _ _ _ hx).1)
@[simp] theorem toPy_ints {n : Nat} {h : Hv} {xs : List Int} : optAll (toPy h (n + 1)) (xs.map D.int) = some (xs.map PyData.int) := optAll_map fun _ _ => rfl
@[simp] theorem toPy_strs {n : Nat} {h : Hv} {xs : List Str} : optAll (toPy h (n + 1)) (xs.map D.str) = some (xs.map PyData.str) := optAll_map fun _ _ => rfl
@[simp] theorem shL_ints {n : Nat} {xs : List Int} : shL n (xs.map D.int) = xs.map D.int := by
  rw [shL_eq, List.map_map]; rfl
theorem bBools_lst {f : List Bool → Bool} {ns : List Bool} {h : Hv} : bBools f [.lst (ns.map .bl)] h = .ok (.bl (f ns)) h := by
  show (match (some (ns.map D.bl)).bind (optAll toBl) with | some ns => R.ok (D.bl (f ns)) h | none => .stuck) = _
  rw [Option.bind_some, toBl_map]
@[simp] theorem bAll_lst {ns : List Bool} {h : Hv} : bAll [.lst (ns.map .bl)] h = .ok (.bl (ns.all id)) h := bBools_lst
@[simp] theorem bAny_lst {ns : List Bool} {h : Hv} : bAny [.lst (ns.map .bl)] h = .ok (.bl (ns.any id)) h := bBools_lst
theorem cutD_from {xs : List D} {c : Int} (h0 : 0 ≤ c) (h1 : c ≤ xs.length) : cutD xs (some c) none = xs.drop c.toNat := by
  unfold cutD
  have e : HT.sIx xs.length 0 (some c) = c.toNat := by
    show (if c < 0 then _ else min c.toNat xs.length) = _
    rw [if_neg (by omega)]
    omega
  rw [e, HT.sIx_none, List.take_of_length_le (by rw [List.length_drop]; omega)]
theorem cutD_to {xs : List D} {c : Int} (h0 : 0 ≤ c) (h1 : c ≤ xs.length) : cutD xs none (some c) = xs.take c.toNat := by
  unfold cutD
  have e : HT.sIx xs.length xs.length (some c) = c.toNat := by
    show (if c < 0 then _ else min c.toNat xs.length) = _
    rw [if_neg (by omega)]
    omega
  rw [e, HT.sIx_none, List.drop_zero, Nat.sub_zero]
theorem mPopAt_c {α : Type} {e : α → D} {xs : List α} {i : Int} (h0 : 0 ≤ i) (h1 : i < xs.length) (h2 : i < 2 ^ 63) : ∃ y, mPopAt (.cell 0) [.int i] [.lst (xs.map e)] = .ok y [.lst ((xs.eraseIdx i.toNat).map e)] := by
  have h3 : i.toNat < xs.length := by omega
  refine ⟨e xs[i.toNat], ?_⟩
  show (@ite _ (-(2 ^ 63) ≤ i ∧ i < 2 ^ 63) (Classical.propDecidable _) (match seqIndex? i (xs.map e).length with
      | some k => (match (xs.map e)[k]? with
        | some y => R.ok y (([.lst (xs.map e)] : Hv).set 0 (.lst ((xs.map e).eraseIdx k)))
        | none => .stuck)
      | none => .stuck) .stuck) = _
  have es : seqIndex? i (xs.map e).length = some i.toNat := by
    unfold seqIndex?
    have e1 : (if i < 0 then i + ((xs.map e).length : Int) else i) = i := if_neg (by omega)
    simp only [e1]
    rw [if_pos]
    rw [Bool.and_eq_true, decide_eq_true_eq, decide_eq_true_eq, List.length_map]
    exact ⟨h0, by omega⟩
  rw [if_pos ⟨by omega, h2⟩, es]
  simp only [List.getElem?_map, List.getElem?_eq_getElem h3, Option.map_some, List.set_cons_zero]
  rw [List.eraseIdx_eq_take_drop_succ, List.eraseIdx_eq_take_drop_succ, List.map_append, List.map_take, List.map_drop]
theorem mInsert_c {xs : List D} {i : Int} {d : D} (h0 : 0 ≤ i) (h1 : i < 2 ^ 63) (h2 : xs.length < 16777216) : mInsert (.cell 0) [.int i, d] [.lst xs] = .ok .non [.lst (xs.take i.toNat ++ [d] ++ xs.drop i.toNat)] := by
  show (@ite _ ((0 ≤ i ∧ i < 2 ^ 63) ∧ xs.length < 16777216) (Classical.propDecidable _) (R.ok D.non (([.lst xs] : Hv).set 0 (.lst (xs.take i.toNat ++ [d] ++ xs.drop i.toNat)))) .stuck) = _
  rw [if_pos ⟨⟨h0, h1⟩, h2⟩]
  rfl
@[simp] theorem mAppend_ap {n : Nat} {d : D} {h : Hv} : mAppend (.cell n) [d] h = (match h[n]? with
    | some (.lst xs) => if xs.length < 16777216 then .ok .non (h.set n (.lst (xs ++ [d]))) else .stuck
    | _ => .stuck) := rfl
@[simp] theorem mReverse_ap {n : Nat} {h : Hv} : mReverse (.cell n) [] h = (match h[n]? with
    | some (.lst xs) => .ok .non (h.set n (.lst xs.reverse))
    | _ => .stuck) := rfl
@[simp] theorem oCat_ap {x y : D} {h : Hv} : oCat x y h = (match kOf h x, kOf h y with
  | some xs, some ys => if xs.length + ys.length ≤ 16777216 then .ok (xs ++ ys) h else .stuck
  | _, _ => .stuck) := rfl
@[simp] theorem oRep_one {x : D} {k : Int} {h : Hv} (h0 : 0 ≤ k) (h1 : k ≤ 16777216) : oRep (.lst [x]) (.int k) h = .ok (List.replicate k.toNat x) h := by
  show (@ite _ ([x].length * k.toNat ≤ 16777216 ∧ -(2 ^ 63) ≤ k ∧ k < 2 ^ 63) (Classical.propDecidable _) (R.ok (List.replicate k.toNat [x]).flatten h) .stuck) = _
  rw [if_pos ⟨by rw [List.length_singleton]; omega, by omega, by omega⟩, ]
  congr 1
  generalize k.toNat = m
  induction m with
  | zero => rfl
  | succ m ih => rw [List.replicate_succ, List.flatten_cons, ih]; rfl
section
variable {h : Hv} {ds : List D} {d : D} {c c1 : Cell}
theorem eqD_cellL {n : Nat} (e : h[n]? = some (.lst ds)) : eqD h (.cell n) d = eqD h (.lst ds) d := by
  have e2 : toPy h 12 (.cell n) = toPy h 12 (.lst ds) := by rw [toPy_cell, e, toPy_lst]
  unfold eqD
  rw [e2]
theorem eqD_cellR {n : Nat} (e : h[n]? = some (.lst ds)) : eqD h d (.cell n) = eqD h d (.lst ds) := by
  have e2 : toPy h 12 (.cell n) = toPy h 12 (.lst ds) := by rw [toPy_cell, e, toPy_lst]
  unfold eqD
  rw [e2]
@[simp] theorem eqD_cL0 : eqD (.lst ds :: h) (.cell 0) d = eqD (.lst ds :: h) (.lst ds) d := eqD_cellL rfl
@[simp] theorem eqD_cR0 : eqD (.lst ds :: h) d (.cell 0) = eqD (.lst ds :: h) d (.lst ds) := eqD_cellR rfl
@[simp] theorem eqD_cL1 : eqD (c :: .lst ds :: h) (.cell 1) d = eqD (c :: .lst ds :: h) (.lst ds) d := eqD_cellL rfl
@[simp] theorem eqD_cR1 : eqD (c :: .lst ds :: h) d (.cell 1) = eqD (c :: .lst ds :: h) d (.lst ds) := eqD_cellR rfl
@[simp] theorem eqD_ints {xs ys : List Int} : eqD h (.lst (xs.map .int)) (.lst (ys.map .int)) = some (decide (xs = ys)) := eqD_en h xs ys
end
theorem map_app {α β : Type} {f : α → β} {xs ys : List α} : xs.map f ++ ys.map f = (xs ++ ys).map f := List.map_append.symm
theorem map_one {α β : Type} {f : α → β} {x : α} : [f x] = [x].map f := rfl
theorem map_tk {α β : Type} {f : α → β} {xs : List α} {n : Nat} : (xs.map f).take n = (xs.take n).map f := List.map_take.symm
theorem map_dr {α β : Type} {f : α → β} {xs : List α} {n : Nat} : (xs.map f).drop n = (xs.drop n).map f := List.map_drop.symm
theorem map_rv {α β : Type} {f : α → β} {xs : List α} : (xs.map f).reverse = xs.reverse.map f := List.map_reverse.symm
def gI (xs : List Int) (k : Int) : Int := xs[k.toNat]?.getD 0
theorem ix_ints {xs : List Int} {j : Int} (h0 : 0 ≤ j) (h1 : j < xs.length) : atI (xs.map D.int) j = some (.int (gI xs j)) := by
  rw [atI_map (atI_getD h0 h1), List.getD_eq_getElem?_getD]
  rfl
def sI (xs : List Int) (k v : Int) : List Int := xs.set k.toNat v
@[simp] theorem sI_len {xs : List Int} {k v : Int} : (sI xs k v).length = xs.length := List.length_set
theorem set_int {xs : List Int} {k v : Int} : (xs.map D.int).set k.toNat (.int v) = (sI xs k v).map D.int := List.map_set.symm
section
variable {α : Type} {a b c d e f : α} {l : List α}
@[simp] theorem atI_0 : atI (a :: l) 0 = some a := atI_at (j := 0) (by rfl) (by rfl)
@[simp] theorem atI_1 : atI (a :: b :: l) 1 = some b := atI_at (j := 1) (by rfl) (by rfl)
@[simp] theorem atI_2 : atI (a :: b :: c :: l) 2 = some c := atI_at (j := 2) (by rfl) (by rfl)
@[simp] theorem atI_3 : atI (a :: b :: c :: d :: l) 3 = some d := atI_at (j := 3) (by rfl) (by rfl)
@[simp] theorem atI_4 : atI (a :: b :: c :: d :: e :: l) 4 = some e := atI_at (j := 4) (by rfl) (by rfl)
end
theorem drawM_eq {ns : List Int} {k m : Int} (h0 : 0 ≤ k) (h1 : k < 10 ^ 30) (hm : 0 < m) (hl : ns.length ≤ 63) : drawM [scr ns, .int k, .int m] [] = .ok (.int (drawF ns k m)) [] := by
  refine fnS_of (P := fun r => r = .ok (.int (drawF ns k m)) []) rfl ?_
  have hkk : k * k < 10 ^ 61 := by
    have := Int.mul_le_mul (show k ≤ 10 ^ 30 by omega) (show k ≤ 10 ^ 30 by omega) h0 (by decide)
    have e : (10 : Int) ^ 30 * 10 ^ 30 < 10 ^ 61 := by decide
    exact Int.lt_of_le_of_lt this e
  have hk0 : 0 ≤ k * k := Int.mul_nonneg h0 h0
  unfold drawB drawF
  by_cases q : k < ns.length
  · simp [q, ix_ints h0 q, hm, gI]
  · by_cases q2 : 0 < ns.length
    · have e1 : 0 ≤ k % (ns.length : Int) := Int.emod_nonneg _ (by omega)
      have e2 : k % (ns.length : Int) < ns.length := Int.emod_lt_of_pos _ (by omega)
      simp (disch := omega) [q, q2, hm, ix_ints e1 e2, gI]
    · simp (disch := omega) [q, q2, hm]
/-- .. called -/
theorem callP_draw {ns : List Int} {k m : Int} {h : Hv} (h0 : 0 ≤ k) (h1 : k < 10 ^ 30) (hm : 0 < m) (hl : ns.length ≤ 63) : callP drawM [scr ns, .int k, .int m] h = .ok (.int (drawF ns k m)) h := by
  refine callP_ok ?_ (drawM_eq h0 h1 hm hl)
  simp
end
end VD

set_option Elab.async false
set_option linter.all false
set_option maxRecDepth 100000
set_option maxHeartbeats 4000000
namespace VD
open PySem PySem.Spec PyProof.Rows L2
noncomputable section
/-! ### what a def has built is still from here on -/
def sealO (n0 : Nat) (h : Hv) (o : Option D) : Option D := o.bind (frz n0 h 12)
def sSeal (n0 : Nat) (s : SS) : SS := fun σ h => match optAll (frzC n0 h) (h.take n0) with
  | some h' => if n0 ≤ h.length then s (σ.map (sealO n0 h)) h' else .stuck
  | none => .stuck
def sBlk (f : Nat → SS) : SS := fun σ h => f h.length σ h
structure SnP (K : PySem.W.Frag) (W : WX) (ts : TS) (ss : Nat → SS) : Prop where
  run : ∀ {φ0 φ : List Addr} {S0 H0 S H : Hp} {h : Hv} {σv : VS} {σ : L2.St} {D : Ends}, Step φ0 S0 H0 φ S H → Rel K φ S H h → RelS K φ S σv σ → PostS K φ0 S0 H0 (ss φ0.length σv h) D W → ts D σ H
def QP (X : Cx) (W : WX) (st : List Stmt) (ss : Nat → SS) : Prop := ∃ t, PSs X st t ∧ SnP X.K W t ss
section
variable {X : Cx} {W : WX} {st : Stmt} {rest : List Stmt} {s1 : SS} {s2 : Nat → SS}
theorem qp_cons (h1 : QS X W st s1) (h2 : QP X W rest s2) : QP X W (st :: rest) (fun n => sSeq s1 (s2 n)) := by
  obtain ⟨t1, a1, b1⟩ := h1
  obtain ⟨t2, a2, b2⟩ := h2
  refine ⟨_, pss_cons a1 a2, ⟨fun {φ0 φ S0 H0 S H h σv σ D} st0 rl rs post => b1.run rl rs ?_⟩⟩
  unfold sSeq at post
  cases q : s1 σv h with
  | next σ' h' =>
    rw [q] at post
    exact fun σ1 φ1 S1 H1 rl1 rs1 st1 => b2.run (st0.trans st1) rl1 rs1 post
  | _ => rw [q] at post; exact PostS.up st0 post
theorem qp_seal (h2 : QB X W rest s1) : QP X W rest (fun n => sSeal n s1) := by
  obtain ⟨t2, a2, b2⟩ := h2
  refine ⟨_, a2, ⟨fun {φ0 φ S0 H0 S H h σv σ D} st0 rl rs post => ?_⟩⟩
  unfold sSeal at post
  split at post
  · next h' q =>
    split at post
    · next hn =>
      obtain ⟨s3, e3⟩ := exit_step st0 rl
      refine b2.run (exit_rel rl hn q) ?_ (PostS.up s3 post)
      refine ⟨by rw [List.length_map]; exact rs.len, fun i d hd => ?_⟩
      rw [List.getElem?_map] at hd
      cases q1 : σv[i]? with
      | none => rw [q1] at hd; cases hd
      | some o =>
        rw [q1] at hd
        cases o with
        | none => simp [sealO] at hd
        | some d0 =>
          obtain ⟨v, hv, rv⟩ := rs.at_ i d0 q1
          refine ⟨v, hv, frz_ok rl 12 d0 v d rv ?_⟩
          simpa [sealO] using hd
    · exact post.elim
  · exact post.elim
theorem qb_blk (h2 : QP X W rest s2) : QB X W rest (sBlk s2) := by
  obtain ⟨t2, a2, b2⟩ := h2
  refine ⟨_, a2, ⟨fun {φ S H h σv σ D} rl rs post => b2.run (Step.refl _ _ _) rl rs ?_⟩⟩
  unfold sBlk at post
  rw [rl.len]
  exact post
end
@[simp] theorem sBlk_ap {f : Nat → SS} {σ : VS} {h : Hv} : sBlk f σ h = f h.length σ h := rfl
@[simp] theorem sSeal_ap {n : Nat} {s : SS} {σ : VS} {h : Hv} : sSeal n s σ h = match optAll (frzC n h) (h.take n) with
  | some h' => if n ≤ h.length then s (σ.map (sealO n h)) h' else .stuck
  | none => .stuck := rfl
@[simp] theorem sSeal_0 {s : SS} {σ : VS} {h : Hv} : sSeal 0 s σ h = s (σ.map (sealO 0 h)) [] := by
  rw [sSeal_ap, List.take_zero]
  simp
@[simp] theorem sealO_none {n : Nat} {h : Hv} : sealO n h none = none := rfl
@[simp] theorem sealO_some {n : Nat} {h : Hv} {d : D} : sealO n h (some d) = frz n h 12 d := rfl
/-! ### of a call's new objects those alone that its answer holds -/
def ownA (g : Nat → D → Option (D × List Cell × List Nat)) : Nat → List D → Option (List D × List Cell × List Nat)
  | _, [] => some ([], [], [])
  | b, d :: ds => match g b d with
    | some (d', cs, ns) => (match ownA g (b + cs.length) ds with
      | some (ds', cs', ns') => some (d' :: ds', cs ++ cs', ns ++ ns')
      | none => none)
    | none => none
def ownD (h : Hv) : Nat → Nat → D → Option (D × List Cell × List Nat)
  | 0, _, _ => none
  | f + 1, b, .cell n => (match h[n]? with
    | some (.lst ds) => (match ownA (ownD h f) (b + 1) ds with
      | some (ds', cs, ns) => some (.cell b, .lst ds' :: cs, n :: ns)
      | none => none)
    | _ => none)
  | f + 1, b, .tup ds => (match ownA (ownD h f) b ds with
    | some (ds', cs, ns) => some (.tup ds', cs, ns)
    | none => none)
  | f + 1, _, d => (frz 0 [] (f + 1) d).map fun d' => (d', [], [])
def gcR : R D → R D
  | .ok d h => (match ownD h 12 0 d with
    | some (d', cs, ns) => @ite _ ns.Nodup (Classical.propDecidable _) (.ok d' cs) .stuck
    | none => .stuck)
  | .exc x h => .exc x h
  | .stuck => .stuck
def gcS (sem : List D → Hv → R D) : List D → Hv → R D := fun ds h => match h with
  | [] => gcR (sem ds [])
  | _ => .stuck
def OwnOk (K : PySem.W.Frag) (φ ψ : List Addr) (S : Hp) (h : Hv) (cs : List Cell) (ns : List Nat) : Prop := cs.length = ns.length ∧ ∀ (i n : Nat), ns[i]? = some n → ∃ c c' : Cell, h[n]? = some c ∧ cs[i]? = some c' ∧ ∀ o, RpC K φ S c o → RpC K ψ S c' o
section
variable {K : PySem.W.Frag} {φ ψ : List Addr} {S H : Hp} {h : Hv}
theorem OwnOk.append {cs cs' : List Cell} {ns ns' : List Nat} (a : OwnOk K φ ψ S h cs ns) (b : OwnOk K φ ψ S h cs' ns') : OwnOk K φ ψ S h (cs ++ cs') (ns ++ ns') := by
  refine ⟨by rw [List.length_append, List.length_append, a.1, b.1], fun i n hi => ?_⟩
  by_cases q : i < ns.length
  · rw [List.getElem?_append_left q] at hi
    obtain ⟨c, c', h1, h2, h3⟩ := a.2 i n hi
    exact ⟨c, c', h1, by rw [List.getElem?_append_left (by rw [a.1]; exact q)]; exact h2, h3⟩
  · rw [List.getElem?_append_right (by omega)] at hi
    obtain ⟨c, c', h1, h2, h3⟩ := b.2 _ n hi
    exact ⟨c, c', h1, by rw [List.getElem?_append_right (by rw [a.1]; omega), a.1]; exact h2, h3⟩
theorem ownA_ok {g : Nat → D → Option (D × List Cell × List Nat)} (hg : ∀ b d d' cs ns, g b d = some (d', cs, ns) → (∀ i n, ns[i]? = some n → ψ[b + i]? = φ[n]?) → OwnOk K φ ψ S h cs ns ∧ ∀ v, Rp K φ S v d → Rp K ψ S v d')
    (hl : ∀ b d d' cs ns, g b d = some (d', cs, ns) → cs.length = ns.length) :
    ∀ (ds : List D) b ds' cs ns, ownA g b ds = some (ds', cs, ns) → (∀ i n, ns[i]? = some n → ψ[b + i]? = φ[n]?) → OwnOk K φ ψ S h cs ns ∧ ∀ vs, RpA K φ S vs ds → RpA K ψ S vs ds'
  | [], b, ds', cs, ns, e, _ => by
    cases e
    exact ⟨⟨rfl, fun i n z => by simp at z⟩, fun vs r => by cases r; exact .nil⟩
  | d :: ds, b, ds', cs, ns, e, hp => by
    simp only [ownA] at e
    cases q1 : g b d with
    | none => rw [q1] at e; cases e
    | some p1 =>
      obtain ⟨d1, c1, n1⟩ := p1
      rw [q1] at e
      simp only at e
      cases q2 : ownA g (b + c1.length) ds with
      | none => rw [q2] at e; cases e
      | some p2 =>
        obtain ⟨d2, c2, n2⟩ := p2
        rw [q2] at e
        cases e
        have l1 := hl b d d1 c1 n1 q1
        obtain ⟨o1, r1⟩ := hg b d d1 c1 n1 q1 fun i n hi => hp i n (by rw [List.getElem?_append_left (List.getElem?_eq_some_iff.mp hi).1]; exact hi)
        obtain ⟨o2, r2⟩ := ownA_ok hg hl ds (b + c1.length) d2 c2 n2 q2 fun i n hi => by
          have := hp (n1.length + i) n (by rw [List.getElem?_append_right (by omega), Nat.add_sub_cancel_left]; exact hi)
          rw [← this, l1, Nat.add_assoc]
        exact ⟨o1.append o2, fun vs r => by
          cases r with
          | cons ra rb => exact .cons (r1 _ ra) (r2 _ rb)⟩
theorem ownA_len {g : Nat → D → Option (D × List Cell × List Nat)} (hl : ∀ b d d' cs ns, g b d = some (d', cs, ns) → cs.length = ns.length) :
    ∀ (ds : List D) b ds' cs ns, ownA g b ds = some (ds', cs, ns) → cs.length = ns.length
  | [], b, ds', cs, ns, e => by cases e; rfl
  | d :: ds, b, ds', cs, ns, e => by
    simp only [ownA] at e
    cases q1 : g b d with
    | none => rw [q1] at e; cases e
    | some p1 =>
      obtain ⟨d1, c1, n1⟩ := p1
      rw [q1] at e
      simp only at e
      cases q2 : ownA g (b + c1.length) ds with
      | none => rw [q2] at e; cases e
      | some p2 =>
        obtain ⟨d2, c2, n2⟩ := p2
        rw [q2] at e
        cases e
        rw [List.length_append, List.length_append, hl _ _ _ _ _ q1, ownA_len hl ds _ _ _ _ q2]
theorem ownD_len : ∀ (f : Nat) b d d' cs ns, ownD h f b d = some (d', cs, ns) → cs.length = ns.length := by
  intro f
  induction f with
  | zero => intro b d d' cs ns e; simp [ownD] at e
  | succ f ih =>
    intro b d d' cs ns e
    have all := ownA_len ih
    have other : ∀ d0, (frz 0 [] (f + 1) d0).map (fun d' => (d', ([] : List Cell), ([] : List Nat))) = some (d', cs, ns) → cs.length = ns.length := fun d0 e => by
      obtain ⟨_, _, z⟩ := Option.map_eq_some_iff.mp e
      cases z; rfl
    cases d with
    | cell n =>
      simp only [ownD] at e
      split at e
      · split at e
        · next ds' cs' ns' q => cases e; rw [List.length_cons, List.length_cons, all _ _ _ _ _ q]
        · cases e
      · cases e
    | tup ds =>
      simp only [ownD] at e
      split at e
      · next ds' cs' ns' q => cases e; exact all _ _ _ _ _ q
      · cases e
    | _ => exact other _ e
theorem ownD_ok : ∀ (f : Nat) b d d' cs ns, ownD h f b d = some (d', cs, ns) → (∀ i n, ns[i]? = some n → ψ[b + i]? = φ[n]?) → OwnOk K φ ψ S h cs ns ∧ ∀ v, Rp K φ S v d → Rp K ψ S v d' := by
  intro f
  induction f with
  | zero => intro b d d' cs ns e; simp [ownD] at e
  | succ f ih =>
    intro b d d' cs ns e hp
    have all := ownA_ok ih (ownD_len f)
    have other : (frz 0 [] (f + 1) d).map (fun d' => (d', ([] : List Cell), ([] : List Nat))) = some (d', cs, ns) → OwnOk K φ ψ S h cs ns ∧ ∀ v, Rp K φ S v d → Rp K ψ S v d' := fun e => by
      obtain ⟨d1, e1, z⟩ := Option.map_eq_some_iff.mp e
      cases z
      exact ⟨⟨rfl, fun i n z => by simp at z⟩, fun v r => Rp.mono ⟨ψ, rfl⟩ (Ex.refl _) (frz0_ok _ _ _ _ r e1)⟩
    cases d with
    | cell n =>
      simp only [ownD] at e
      split at e
      · next ds q1 =>
        split at e
        · next ds' cs' ns' q =>
          cases e
          obtain ⟨o1, r1⟩ := all _ _ _ _ _ q fun i m hi => by
            have := hp (i + 1) m (by rw [List.getElem?_cons_succ]; exact hi)
            rw [← this, Nat.add_assoc, Nat.add_comm 1 i]
          have h0 := hp 0 n rfl
          rw [Nat.add_zero] at h0
          refine ⟨⟨by rw [List.length_cons, List.length_cons, o1.1], fun i m hi => ?_⟩, fun v r => ?_⟩
          · cases i with
            | zero =>
              rw [List.getElem?_cons_zero] at hi
              cases Option.some.inj hi
              exact ⟨_, _, q1, rfl, fun o ⟨vs, ho, ra⟩ => ⟨vs, ho, r1 vs ra⟩⟩
            | succ i =>
              rw [List.getElem?_cons_succ] at hi ⊢
              exact o1.2 i m hi
          · cases r with
            | cell hc => exact .cell (h0.trans hc)
        · cases e
      · cases e
    | tup ds =>
      simp only [ownD] at e
      split at e
      · next ds' cs' ns' q =>
        cases e
        obtain ⟨o1, r1⟩ := all _ _ _ _ _ q hp
        exact ⟨o1, fun v r => by
          cases r with
          | tup h1 h2 => exact .tup h1 (r1 _ h2)⟩
      · cases e
    | _ => exact other e
theorem Post.gc {S0 H0 : Hp} {r : R D} {Q : VK} {E : XK} (post : Post K (repV K) [] S0 H0 (gcR r) Q E) : Post K (repV K) [] S0 H0 r Q E := by
  cases r with
  | exc x h => exact post
  | stuck => exact post
  | ok d h =>
    intro v φ S H rl st rv
    simp only [gcR] at post
    split at post
    · next d' cs ns q =>
      split at post
      · next nd =>
        have ln := ownD_len _ _ _ _ _ _ q
        have o0 := (ownD_ok (K := K) (φ := φ) (S := S) (ψ := ns.map fun n => φ[n]?.getD 0) _ _ _ _ _ _ q)
        -- all of ns are there
        have lt : ∀ n ∈ ns, n < φ.length := by
          have : ∀ (f : Nat) b d d' cs ns, ownD h f b d = some (d', cs, ns) → ∀ n ∈ ns, n < h.length := by
            intro f
            induction f with
            | zero => intro b d d' cs ns e; simp [ownD] at e
            | succ f ih =>
              have all : ∀ (ds : List D) b ds' cs ns, ownA (ownD h f) b ds = some (ds', cs, ns) → ∀ n ∈ ns, n < h.length := by
                intro ds
                induction ds with
                | nil => intro b ds' cs ns e; cases e; intro n hn; cases hn
                | cons d ds ih2 =>
                  intro b ds' cs ns e
                  simp only [ownA] at e
                  split at e
                  · next q1 =>
                    split at e
                    · next q2 =>
                      cases e
                      intro n hn
                      rcases List.mem_append.mp hn with hn | hn
                      · exact ih _ _ _ _ _ q1 n hn
                      · exact ih2 _ _ _ _ q2 n hn
                    · cases e
                  · cases e
              intro b d d' cs ns e
              have other : ∀ d0, (frz 0 [] (f + 1) d0).map (fun d' => (d', ([] : List Cell), ([] : List Nat))) = some (d', cs, ns) → ∀ n ∈ ns, n < h.length := fun d0 e => by
                obtain ⟨_, _, z⟩ := Option.map_eq_some_iff.mp e
                cases z
                intro n hn; cases hn
              cases d with
              | cell n =>
                simp only [ownD] at e
                split at e
                · next ds q1 =>
                  split at e
                  · next q =>
                    cases e
                    intro m hm
                    cases hm with
                    | head => exact (List.getElem?_eq_some_iff.mp q1).1
                    | tail _ hm => exact all _ _ _ _ _ q m hm
                  · cases e
                · cases e
              | tup ds =>
                simp only [ownD] at e
                split at e
                · next q => cases e; exact all _ _ _ _ _ q
                · cases e
              | _ => exact other _ e
          intro n hn
          rw [rl.len]
          exact this _ _ _ _ _ _ q n hn
        have at_ : ∀ i n, ns[i]? = some n → (ns.map fun n => φ[n]?.getD 0)[0 + i]? = φ[n]? := fun i n hi => by
          rw [Nat.zero_add, List.getElem?_map, hi]
          have := lt n (List.mem_of_getElem? hi)
          rw [Option.map_some, List.getElem?_eq_getElem this]; rfl
        obtain ⟨o1, r1⟩ := o0 at_
        have mem : ∀ a ∈ (ns.map fun n => φ[n]?.getD 0), a ∈ φ := fun a ha => by
          obtain ⟨n, hn, rfl⟩ := List.mem_map.mp ha
          rw [List.getElem?_eq_getElem (lt n hn)]
          exact List.getElem_mem _
        refine post v _ S H ⟨?_, rl.sub, ?_, fun i a c e1 e2 => ?_⟩ ⟨⟨_, (List.nil_append _).symm, fun a ha => ?_⟩, st.sub, st.old, st.keep, st.there⟩ (r1 v rv)
        · rw [List.length_map, ln]
        · rw [List.nodup_iff_pairwise_ne, List.pairwise_map]
          rw [List.nodup_iff_pairwise_ne] at nd
          refine List.Pairwise.imp_of_mem (fun {x y} hx hy hne z => hne ?_) nd
          have hx2 := lt x hx
          have hy2 := lt y hy
          rw [List.getElem?_eq_getElem hx2, List.getElem?_eq_getElem hy2] at z
          exact nd_ix rl.nd (List.getElem?_eq_getElem hx2) (by rw [List.getElem?_eq_getElem hy2]; exact congrArg some z.symm)
        · have hi : i < ns.length := by
            have := (List.getElem?_eq_some_iff.mp e2).1
            omega
          have en := List.getElem?_eq_getElem hi
          obtain ⟨c0, c', h1, h2, h3⟩ := o1.2 i _ en
          rw [e2] at h2
          cases h2
          have e3 := at_ i _ en
          rw [Nat.zero_add, e1] at e3
          obtain ⟨k1, o, k2, k3⟩ := rl.cel _ a c0 e3.symm h1
          exact ⟨k1, o, k2, h3 o k3⟩
        · obtain ⟨ψ, e, hn⟩ := st.pre
          rw [List.nil_append] at e
          exact hn a (by rw [← e]; exact mem a ha)
      · exact post.elim
    · exact post.elim
end
theorem spOf_T {K : PySem.W.Frag} {sem : List D → Hv → R D} {φ : List Addr} {S H : Hp} {h : Hv} {ds : List D} {vs : List V} {Q : VK} {E : XK} (rl : Rel K φ S H h) (ra : RpA K φ S vs ds) (post : Post K (repV K) φ S H (callC (gcS sem) ds h) Q E) : spOf K sem vs H Q E := by
  unfold callC at post
  split at post
  · next ds' q =>
    refine ⟨[], S, [], ds', Rel.bare rl.sub, frzA_of (n0 := 0) (h := []) (fun d v d' r e => frz0_ok 12 d v d' r e) ds vs ds' ra q, ?_⟩
    refine Post.gc ?_
    have e : gcR (sem ds' []) = gcS sem ds' [] := rfl
    rw [e]
    split at post
    · next d h' hs =>
      rw [hs]
      intro v φ' S' H' r2 st rv
      obtain ⟨r3, s3⟩ := join_rel rl r2 st
      rw [← rl.len] at post r3
      exact post v _ _ _ r3 s3 rv.sh
    · next x hs =>
      rw [hs]
      intro cls dd φ' S' H' r2 st rx
      obtain ⟨r3, s3⟩ := join_rel rl r2 st
      have e : φ' = [] := List.length_eq_zero_iff.mp r2.len
      subst e
      rw [List.append_nil] at r3 s3
      rw [List.map_nil, List.append_nil] at r3
      refine post cls dd _ _ _ r3 s3 ⟨rx.1, ?_⟩
      have rx2 := rx.2
      cases hp : x.pay with
      | none => rw [hp] at rx2; exact rx2
      | some p =>
        rw [hp] at rx2
        obtain ⟨dx, v, e2, e3, rv⟩ := rx2
        exact ⟨dx, v, e2, e3, Rp.mono ⟨φ, rfl⟩ (Ex.refl _) rv⟩
    · exact post.elim
  · exact post.elim
theorem se_fnT {X : Cx} {W : WX} {k : Nat} {ps : List Str} {sem : List D → Hv → R D} {x : Str} {p pos : Pos} {e : Expr} {es : List Expr} {la : LS} (o : OkF X.prog X.w X.K X.mg X.base k x ps sem) (hr : Room k X.A) (tk : Takes X W) (ha : SA X W (e :: es) la)
    (hg : Gl X x := by rfl) (hdb : (x == ("__debug__" : Str)) = false := by decide) (he : starEach (e :: es) X.env = (false, eval e X.env) :: starEach es X.env := by rfl) (hpl : (backTo pos (starEach es X.env)).any (·.1) = false := by rfl) : SE X W (.Call (.Name x p) (e :: es) [] pos) (eCa (callC (gcS sem)) la) := by
  obtain ⟨fd, _, F, b, g, kp⟩ := o
  exact se_call spOf_T F hr tk g kp b ha hg hdb he hpl
/-- the end of a def that hands its objects on, with errors that bear values -/
def Rv (P : R D → Prop) (r : RS) : Prop := match r with
  | .ret d h => P (.ok d h)
  | .exc x _ h => (match x.pay with
    | none => P (.exc ⟨x.cls, none⟩ [])
    | some (f, d) => ∃ d', frz 0 h 12 d = some d' ∧ P (.exc ⟨x.cls, some (f, d')⟩ []))
  | _ => False
section
variable {P : R D → Prop} {σ : VS} {h : Hv} {d : D} {C f : Str}
@[simp] theorem Wp_rv_ret : Wp (Rv P) (.ret d h) = P (.ok d h) := Wp.eq _ _
@[simp] theorem Wp_rv_exc : Wp (Rv P) (.exc ⟨C, none⟩ σ h) = P (.exc ⟨C, none⟩ []) := by
  rw [Wp.eq, Rv]
@[simp] theorem Wp_rv_excP : Wp (Rv P) (.exc ⟨C, some (f, d)⟩ σ h) = ∃ d', frz 0 h 12 d = some d' ∧ P (.exc ⟨C, some (f, d')⟩ []) := by
  rw [Wp.eq, Rv]
@[simp] theorem Wp_rv_stuck : Wp (Rv P) .stuck = False := Wp.eq _ _
end
theorem fnU_ofX {P : R D → Prop} {np nl : Nat} {body : SS} {ds : List D} (hl : ds.length = np) (hw : Wp (Rv P) (body (ds.map some ++ List.replicate nl none) [])) : P (fnU np nl body ds []) := by
  replace hw := hw.run
  unfold fnU
  rw [if_pos hl]
  generalize body (ds.map some ++ List.replicate nl none) [] = r at hw ⊢
  cases r with
  | ret d h => exact hw
  | exc x σ h =>
    cases x with
    | mk c p =>
      cases p with
      | none =>
        show P (exitX 0 ⟨c, none⟩ h)
        unfold exitX
        rw [List.take_zero]
        simp only [optAll_nil, Nat.zero_le, if_true]
        exact hw
      | some q =>
        obtain ⟨f, d⟩ := q
        obtain ⟨d', e1, e2⟩ := hw
        show P (exitX 0 ⟨c, some (f, d)⟩ h)
        unfold exitX
        rw [List.take_zero]
        simp only [e1, optAll_nil, Nat.zero_le, if_true]
        exact e2
  | next σ h => exact hw.elim
  | brk σ h => exact hw.elim
  | cont σ h => exact hw.elim
  | stuck => exact hw.elim
end
end VD

set_option Elab.async false
set_option linter.all false
set_option maxRecDepth 100000
set_option maxHeartbeats 4000000
namespace VD
open PySem PySem.Spec PyProof.Rows L2 RT
noncomputable section
/-! ### list(reversed(a list)) -/
section
variable {prog : Program} {w : World} {A : Around} {E : Value → Shared → Prop} {s : Shared}
theorem init_rev {R : Result → Shared → Prop} {it l S : Addr} {items : Array Value} (hh : A.handled = none) (hit : s.heap.IsRevIter it l ((items.size : Int) - 1)) (hl : s.heap.IsList l items) (hne : l ≠ it) (hn : items.size ≤ sizeLine)
    (hSi : S ≠ it) (hSl : S ≠ l) (hS : s.heap.get? S = some { cls := .type "list", data := .seq #[] })
    (hR : ∀ h' tk acc' c', (∀ b o, b ≠ S → b ≠ it → s.heap.get? b = some o → h'.get? b = some o) → h'.get? S = some { cls := .type "list", dict := none, data := .seq acc' c', slots := #[] } →
      ItemsOf (fun i v => items[items.size - 1 - i]? = some v) acc' items.size → R (.ok (.ret .none)) { s with heap := h', toks := tk }) :
    wpAny (model prog w) A.in1 (Builtin.«list.__init__» ⟨[.ref S, .ref it], []⟩)
      (fun fin s' => match fin with | .done f => R (.ok f) s' | .again c' => c'.quiet = true ∧ codeAny (model prog w) A c' R s') (fun e s' => R (.error e) s') s := by
  show wpAny _ _ (do let old ← Builtin.List.listItems (.ref S); Builtin.List.listUpdate (.ref S) (fun _ => #[]); letGo old.toList.reverse; Builtin.List.listExtendWith (.ref S) (.ref it) .none) _ _ s
  refine wpAny_bind ?_
  unfold Builtin.List.listItems
  refine wpAny_bind (wpAny_seqItems hS rfl (wpAny_pure ?_))
  show wpAny _ _ (updateSeq S (fun _ => #[]) >>= fun _ => letGo (#[] : Array Value).toList.reverse >>= fun _ => Builtin.List.listExtendWith (.ref S) (.ref it) .none) _ _ s
  refine wpAny_bind (wpAny_updateSeq hS rfl ?_)
  have hS₂ := Heap.get?_update_self (Obj.mapSeq (fun _ => (#[] : Array Value))) hS rfl
  have oth : ∀ b o, b ≠ S → s.heap.get? b = some o → (s.heap.update S (Obj.mapSeq (fun _ => (#[] : Array Value)))).get? b = some o :=
    fun b o hb e => (Heap.get?_update_other _ _ (Ne.symm hb)).trans e
  refine wpAny_bind (wpAny_letGo ?_)
  have W := (Walks.listRev (prog := prog) (w := w) (A := A.in1) hh it l hne items).toS
  have hit1 : (s.heap.update S (Obj.mapSeq (fun _ => (#[] : Array Value)))).IsRevIter it l ((items.size : Int) - 1) := hit.at fun o e => oth _ _ (Ne.symm hSi) e
  have hl1 : (s.heap.update S (Obj.mapSeq (fun _ => (#[] : Array Value)))).IsList l items := by
    obtain ⟨ol, hol, r⟩ := hl
    exact ⟨ol, oth _ _ (Ne.symm hSl) hol, r⟩
  have hSf : S ∉ [it, l] := by simp only [List.mem_cons, List.not_mem_nil, or_false, not_or]; exact ⟨hSi, hSl⟩
  generalize hh2 : s.heap.update S (Obj.mapSeq (fun _ => (#[] : Array Value))) = h2 at *
  have hT : ({ s with heap := h2 } : Shared).TypeIs (.ref it) "list_reverseiterator" := Heap.IsRevIter.typeIs (s := { s with heap := h2 }) hit1
  have h1 : Builtin.List.listSameRef (.ref S) (.ref it) = false := by simp [Builtin.List.listSameRef, hSi]
  unfold Builtin.List.listExtendWith
  refine wpAny_bind (wpAny_typeOf hT ?_)
  rw [if_neg (by rw [h1]; decide)]
  refine wpAny_bind (wpAny_pyIter_revIter (s := { s with heap := h2 }) hit1 ?_)
  refine wpAny_bind (wpAny_holding ?_)
  unfold Builtin.List.listLengthHint
  refine wpAny_bind (wpAny_specialOf hT nolen_lri ?_)
  show wpAny _ A.in1 (specialOf (Value.ref it) (Str.ofString "__length_hint__") >>= _) _ _ _
  refine wpAny_bind (wpAny_specialOf hT hint_lri ?_)
  generalize hid : ("list_reverseiterator.__length_hint__" : String) = id0
  wp_delta
  rw [show splitId id0 = some ("list_reverseiterator", "__length_hint__") from by subst hid; decide +kernel]
  subst hid
  refine wpAny_bind (wpAny_isInstance (b := true) hT (by rw [isSubtype_type]; kernel_rfl) ?_)
  refine wpAny_pure ?_
  rw [if_neg (by decide)]
  have e0 : ((items.size : Nat) : Int) - 1 - ((0 : Nat) : Int) = (items.size : Int) - 1 := by omega
  refine wpAny_pure ⟨plainId_quiet F.plain_extend_loop _, codeAny_extend_loopS W hn _ hSf _ items.size 0 _ _ _ rfl (Nat.zero_le _) ⟨Nat.zero_le _, by rw [e0]; exact hit1, hl1⟩ hS₂ (ItemsOf.nil _) fun s' acc' c' hm hS' hacc => ?_⟩
  rw [Moved.eq_with hm]
  refine hR s'.heap s'.toks acc' c' (fun b o hb1 hb2 e => hm.heap b o (fun hmem => ?_) (oth b o hb1 e)) hS' hacc
  rcases List.mem_cons.mp hmem with e' | hmem
  · exact hb1 e'
  · exact hb2 (List.mem_singleton.mp hmem)
theorem call_list_rev {Q : Value → Shared → Prop} {it l : Addr} {items : Array Value} (hh : A.handled = none) (hit : s.heap.IsRevIter it l ((items.size : Int) - 1)) (hl : s.heap.IsList l items) (hne : l ≠ it) (hn : items.size ≤ sizeLine)
    (hQ : ∀ h' tk acc' c', (∀ b o, b ≠ it → s.heap.get? b = some o → h'.get? b = some o) → h'.get? s.heap.objs.size = some { cls := .type "list", dict := none, data := .seq acc' c', slots := #[] } →
      ItemsOf (fun i v => items[items.size - 1 - i]? = some v) acc' items.size → Q (.ref s.heap.objs.size) { s with heap := h', toks := tk }) :
    wpAny (model prog w) A (call (.type "list") [.ref it]) Q E s := by
  obtain ⟨oi, hoi, _⟩ := id hit
  obtain ⟨ol, hol, _⟩ := id hl
  refine callType_codes (Q₁ := fun obj s₁ => obj = .ref s.heap.objs.size ∧ s₁ = { s with heap := s.heap.push { cls := .type "list", data := .seq #[] } }) F.called_list (F.typeCall_list_1 _) F.entry_list_init
    (code_list_new _ ⟨rfl, rfl⟩) fun obj s₁ h₁ => ?_
  obtain ⟨rfl, rfl⟩ := h₁
  have hS : (s.heap.push { cls := .type "list", data := .seq #[] }).get? s.heap.objs.size = some { cls := .type "list", data := .seq #[] } := Heap.get?_push_size _ rfl
  refine ⟨⟨_, hS, rfl⟩, F.args_list_init_2 _ _, init_rev (A := A.in1) (s := { s with heap := s.heap.push { cls := .type "list", data := .seq #[] } }) hh (hit.at fun o e => Heap.get?_push_of_some _ e) (hl.push _) hne hn (Nat.ne_of_gt (Heap.lt_size hoi)) (Nat.ne_of_gt (Heap.lt_size hol)) hS fun h' tk acc' c' hk hS' hacc => ?_⟩
  exact ⟨rfl, hQ h' tk acc' c' (fun b o hb e => hk b o (Nat.ne_of_lt (Heap.lt_size e)) hb (Heap.get?_push_of_some _ e)) hS' hacc⟩
end
def tLstRev (K : PySem.W.Frag) (te : TE) : TE := fun σ H Q => te σ H fun v H1 => ∃ (a : Addr) (xs : List V), v = .ref a ∧ SqL K H1 a xs ∧ ∀ q, H1 q = none → Q (.ref q) (upd H1 q (.lst xs.reverse))
section
variable {X : Cx}
theorem pe_listRev {e : Expr} {te : TE} {p p2 pos pos2 : Pos} (hc : X.calm = true) (hg : Gl X "list") (hm : X.mg "list" = none) (hg2 : Gl X "reversed") (hm2 : X.mg "reversed" = none) (he : PE X e te)
    (hs : starEach [e] X.env = (false, eval e X.env) :: starEach [] X.env := by rfl)
    (hs2 : starEach [.Call (.Name "reversed" p2) [e] [] pos2] X.env = (false, eval (.Call (.Name "reversed" p2) [e] [] pos2) X.env) :: starEach [] X.env := by rfl) :
    PE X (.Call (.Name "list" p) [.Call (.Name "reversed" p2) [e] [] pos2] [] pos) (tLstRev X.K te) := by
  refine ⟨fun pins s σ H Q I h => ?_⟩
  refine Call_ (ld_blt I hg hm boot_list (PyProof.Rows.callWith_type1 (args_cons (Call_ (ld_blt I hg2 hm2 PyProof.Rows.boot_reversed (PyProof.Rows.callWith_type1 (args_cons (thn (he.run pins s σ H _ I h) fun u s1 ⟨v, H1, I1, r1, q1⟩ => args_nil ?_) hs) hs rfl))) hs2) hs2 rfl))
  obtain ⟨a, xs, ev, hq, q⟩ := q1
  subst ev
  obtain rfl : u = Value.ref a := r1
  obtain ⟨its, rv, p', hz⟩ := I1.list hq
  refine call_reversed_list p'.isList (args_nil ?_)
  have k0 : ∀ b o, s1.heap.get? b = some o → (s1.heap.push (revObj a ((its.toArray.size : Int) - 1))).get? b = some o := fun b o e => Heap.get?_push_of_some _ e
  have I2 : Inv X pins σ H1 { s1 with heap := s1.heap.push (revObj a ((its.toArray.size : Int) - 1)) } := I1.kept (t' := s1.toks) k0
  obtain ⟨f0, f1, f2, f3, f4, f5⟩ := I1.fpOk (H' := H1) (b := s1.heap.objs.size) (Nat.le_refl _) (I1.hok.fresh (Nat.le_refl _))
  have hl := p'.isList
  obtain ⟨ol, hol, _⟩ := id hl
  have hne : a ≠ s1.heap.objs.size := Nat.ne_of_lt (Heap.lt_size hol)
  have hn : its.toArray.size ≤ sizeLine := by rw [List.size_toArray, ← rv.length]; exact hz
  refine call_list_rev (s := { s1 with heap := s1.heap.push (revObj a ((its.toArray.size : Int) - 1)) }) (I1.ok.hd hc) ⟨_, Heap.get?_push_size _ rfl, rfl, rfl⟩ (hl.push _) hne hn fun h' tk acc c' hk e' hi => ?_
  have hS : s1.heap.objs.size ≤ (s1.heap.push (revObj a ((its.toArray.size : Int) - 1))).objs.size := by
    show s1.heap.objs.size ≤ (s1.heap.objs.push _).size
    rw [Array.size_push]
    exact Nat.le_succ _
  refine ⟨.ref (s1.heap.push (revObj a ((its.toArray.size : Int) - 1))).objs.size, upd H1 (s1.heap.push (revObj a ((its.toArray.size : Int) - 1))).objs.size (.lst xs.reverse), I1.laid (t' := tk) (fun b u e => hk b u (Nat.ne_of_lt (Heap.lt_size e)) (k0 b u e)) hS (show ObjOk X.prog X.w _ _ _ (.lst xs.reverse) from ⟨by rw [List.length_reverse]; exact hz, acc.toList, c', vals_rev rv hi, ?_⟩), rfl, q _ (I1.hok.fresh hS)⟩
  rw [Array.toArray_toList]
  exact e'
end
def lRev (f : ES) : LS := fun σ h => (f σ h).bind fun d h1 => match lOf h1 d with
  | some xs => .ok xs.reverse h1
  | none => .stuck
@[simp] theorem lRev_ap {f : ES} {σ : VS} {h : Hv} : lRev f σ h = (f σ h).bind fun d h1 => match lOf h1 d with
  | some xs => .ok xs.reverse h1
  | none => .stuck := rfl
theorem sl_listRev {X : Cx} {W : WX} {a : Expr} {fa : ES} {p p2 pos pos2 : Pos} (hml : X.mg "list" = none) (hmr : X.mg "reversed" = none) (ha : SE X W a fa) (hgl : Gl X "list" := by rfl) (hgr : Gl X "reversed" := by rfl) (hc : X.calm = true := by rfl)
    (na : starEach [a] X.env = (false, eval a X.env) :: starEach [] X.env := by rfl) (nb : starEach [Expr.Call (.Name "reversed" p2) [a] [] pos2] X.env = (false, eval (Expr.Call (.Name "reversed" p2) [a] [] pos2) X.env) :: starEach [] X.env := by rfl) :
    SL X W (.Call (.Name "list" p) [.Call (.Name "reversed" p2) [a] [] pos2] [] pos) (lRev fa) := by
  obtain ⟨ta, h1, h2⟩ := ha
  refine ⟨_, pe_listRev hc hgl hml hgr hmr h1 na nb, ⟨fun rl rs post => h2.bind rl rs post fun d h1 v φ1 S1 H1 rl1 rs1 st rp post => ?_⟩⟩
  split at post
  · next xs q =>
    obtain ⟨a0, vs, rfl, hs, ra⟩ := lOf_ok rl1 rp q
    refine ⟨a0, vs, rfl, hs, fun p hp => ?_⟩
    obtain ⟨r2, s2⟩ := rl1.hold (o := .lst vs.reverse) hp
    exact post (.ref p) φ1 _ _ r2 s2 ⟨p, vs.reverse, rfl, hp, upd_same, rl1.snone hp, rl1.notin hp, ra.reverse⟩
  · exact post.elim
end
end VD

set_option Elab.async false
set_option linter.all false
set_option maxRecDepth 100000
set_option maxHeartbeats 4000000
namespace VD
open PySem PySem.Spec PyProof.Rows L2
noncomputable section
/-! ### objects with methods -/
section
variable {X : Cx} {CX : CXT} {k : Nat} {f C : Addr} {fd : FuncData} {ps : List Str} {sp : Sp} {E : L2.St → XK} {x m : Str} {p pos apos : Pos} {e o : Expr} {es : List Expr} {ta : TE} {t : TA}
def tMethW (C : Addr) (m : Str) (sp : Sp) (E : L2.St → XK) (ta : TE) (t : TA) : TE := fun σ H Q => ta σ H fun x H1 => ∃ a dx fs, x = .ref a ∧ H1 a = some (.ins C dx fs) ∧ fs.lookup m = none ∧ t σ H1 fun vs H2 => sp (x :: vs) H2 Q (E σ)
theorem pe_methW {pl : Sem Bool} (he : PE X o ta) (c : Cls X.K C) (hm : Meth X.K C m f) (F : FnOk X.prog X.w X.K X.mg X.base CX k f fd ps sp) (hr : Room k X.A) (hb : Binds X.K fd ps []) (hx : ∀ σ, PassesAt CX X σ (E σ)) (ha : PA X (e :: es) t)
    (hst : starEach (e :: es) X.env = (false, eval e X.env) :: starEach es X.env := by rfl) (hpl : (backTo pos (starEach es X.env)).any (·.1) = false := by rfl)
    (ht : eval (.Call (.Attribute o m apos) (e :: es) [] pos) X.env = (do
      let ov ← eval o X.env
      standAt apos.atName
      let (f, first) ← holding [ov] (getMethod ov m pl)
      callWith pos f first (backTo pos (starEach (e :: es) X.env)) (backToKw pos (keywordEach [] X.env))) := by rfl) :
    PE X (.Call (.Attribute o m apos) (e :: es) [] pos) (tMethW C m sp E ta t) := by
  refine ⟨fun pins s σ H Q I h => ?_⟩
  refine PySem.W.methodCall_KW (pl := pl) (thn (he.run pins s σ H _ I h) fun u s1 ⟨x, H1, I1, rx, a, dx, fs, ex, ea, l, q⟩ => ?_) ht
  subst ex
  obtain rfl : u = Value.ref a := rx
  refine getmeth_ok I1 ea c hm l ?_
  refine PySem.W.callWith_K (first := [.ref a]) (h₀ := X.base) I.ok.mod.kin hm.kp (thn (ha.run pos pins s1 σ H1 _ I1 q) fun us s2 ⟨vs, H2, I2, r, q2⟩ => ⟨I2.kIn, ?_⟩) hst hpl
  exact run_fnS (us := .ref a :: us) (vs := .ref a :: vs) F hr hb (hx σ) I2 (.cons rfl r) q2
theorem pe_methW0 {pl : Sem Bool} (he : PE X o ta) (c : Cls X.K C) (hm : Meth X.K C m f) (F : FnOk X.prog X.w X.K X.mg X.base CX k f fd ps sp) (hr : Room k X.A) (hb : Binds X.K fd ps []) (hx : ∀ σ, PassesAt CX X σ (E σ))
    (ht : eval (.Call (.Attribute o m apos) [] [] pos) X.env = (do
      let ov ← eval o X.env
      standAt apos.atName
      let (f, first) ← holding [ov] (getMethod ov m pl)
      callWith pos f first (backTo pos (starEach [] X.env)) (backToKw pos (keywordEach [] X.env))) := by rfl) :
    PE X (.Call (.Attribute o m apos) [] [] pos) (tMethW C m sp E ta tNil) := by
  refine ⟨fun pins s σ H Q I h => ?_⟩
  refine PySem.W.methodCall_KW (pl := pl) (thn (he.run pins s σ H _ I h) fun u s1 ⟨x, H1, I1, rx, a, dx, fs, ex, ea, l, q⟩ => ?_) ht
  subst ex
  obtain rfl : u = Value.ref a := rx
  refine getmeth_ok I1 ea c hm l ?_
  exact PySem.W.callWith_K0 (first := [.ref a]) I1.kIn hm.kp (run_fnS (us := [.ref a]) (vs := [.ref a]) F hr hb (hx σ) I1 (.cons rfl .nil) q)
/-- what making asks -/
def spMk (C : Addr) (sp : Sp) : Sp := fun vs H Q E => ∀ x dx, H x = none → H dx = none → dx ≠ x → sp (.ref x :: vs) (upd (upd H dx (.own x)) x (.ins C dx [])) (fun v H2 => v = .non ∧ Q (.ref x) H2) E
theorem run_makeS {pins : List (Addr × Obj)} {σ : L2.St} {H : Hp} {s : Shared} {Q : VK} {us : List Value} {vs : List V} (M : Mk X.K C f) (F : FnOk X.prog X.w X.K X.mg X.base CX k f fd ps sp) (hr : Room (k + 1) X.A) (hb : Binds X.K fd ps []) (hx : PassesAt CX X σ (E σ))
    (I : Inv X pins σ H s) (r : Vals vs us) (h : spMk C sp vs H Q (E σ)) :
    wpAny (model X.prog X.w) X.A (call (.ref C) us) (EP X pins σ Q) X.xe s := by
  have hq := h (s.heap.objs.size + 1) s.heap.objs.size (I.hok.fresh (Nat.le_succ _)) (I.hok.fresh (Nat.le_refl _)) (Nat.ne_of_lt (Nat.lt_succ_self _))
  have I2 := Inv.made (C := C) I
  have r2 : Vals (V.ref (s.heap.objs.size + 1) :: vs) (Value.ref (s.heap.objs.size + 1) :: us) := .cons rfl r
  have hl : (Value.ref (s.heap.objs.size + 1) :: us).length = ps.length := by
    have e := r2.length
    rw [F.len _ _ _ _ hq] at e
    exact e.symm
  have b := hb _ (Value.ref (s.heap.objs.size + 1) :: us) I2.kIn (by rw [List.append_nil]; exact hl)
  rw [List.append_nil] at b
  refine wpAny_call (make_map (f := f) I.kIn M.makes M.init (beq_iff_eq.mp M.fn) (codeAny_mono (F.run _ X.stack _ _ ⟨Value.ref (s.heap.objs.size + 1) :: us, []⟩ (Value.ref (s.heap.objs.size + 1) :: us) _ _ (E σ) (hr.make C us [])
    (I2.env0.make C us []) b r2 hq) fun r s' hq' => ?_))
  cases r with
  | error e => exact hx pins _ _ e s' I2 hq'
  | ok fl =>
    cases fl with
    | ret u =>
      obtain ⟨v, H', I3, rv, ev, q3⟩ := I2.after hq'
      subst ev
      exact ⟨rv, ⟨V.ref (s.heap.objs.size + 1), H', I3, rfl, q3⟩⟩
    | next => exact False.elim hq'
    | brk => exact False.elim hq'
    | cont => exact False.elim hq'
theorem pe_makeW (M : Mk X.K C f) (F : FnOk X.prog X.w X.K X.mg X.base CX k f fd ps sp) (hr : Room (k + 1) X.A) (hg : Gl X x) (hm : X.mg x = some (.ref C)) (hb : Binds X.K fd ps []) (hx : ∀ σ, PassesAt CX X σ (E σ))
    (ha : PA X (e :: es) t) (hdb : (x == ("__debug__" : Str)) = false := by decide) (he : starEach (e :: es) X.env = (false, eval e X.env) :: starEach es X.env := by rfl) (hpl : (backTo pos (starEach es X.env)).any (·.1) = false := by rfl) :
    PE X (.Call (.Name x p) (e :: es) [] pos) (tCallS (spMk C sp) E t) := by
  refine ⟨fun pins s σ H Q I h => ?_⟩
  refine wpAny_Call_Name_kw (ld_glob I hg hm ?_ hdb)
  refine PySem.W.callWith_K (h₀ := X.base) I.ok.mod.kin M.kp (thn (ha.run pos pins s σ H _ I h) fun us s1 ⟨vs, H1, I1, r, q⟩ => ⟨I1.kIn, ?_⟩) he hpl
  exact run_makeS M F hr hb (hx σ) I1 r q
end
/-! ### fields -/
theorem lookup_ok {K : PySem.W.Frag} {φ : List Addr} {S : Hp} {f : Str} : ∀ {fv : List (Str × V)} {fs : List (Str × D)}, fv.map (·.1) = fs.map (·.1) → RpA K φ S (fv.map (·.2)) (fs.map (·.2)) →
    (∀ d, fs.lookup f = some d → ∃ v, fv.lookup f = some v ∧ Rp K φ S v d) ∧ (fs.lookup f = none → fv.lookup f = none)
  | [], [], _, _ => ⟨fun d h => (by cases h), fun _ => rfl⟩
  | (g, v) :: fv, (g', d) :: fs, ek, ra => by
    injection ek with e1 e2
    rw [List.map_cons, List.map_cons] at ra
    cases ra with
    | cons r t =>
      obtain ⟨h1, h2⟩ := lookup_ok (f := f) e2 t
      have e1' : g = g' := e1
      subst e1'
      rw [List.lookup_cons, List.lookup_cons]
      cases q : f == g with
      | true => exact ⟨fun d' e => by cases e; exact ⟨v, rfl, r⟩, fun e => by cases e⟩
      | false => exact ⟨h1, h2⟩
  | [], _ :: _, ek, _ => by cases ek
  | _ :: _, [], ek, _ => by cases ek
def putS (f : Str) (v : D) : List (Str × D) → List (Str × D)
  | [] => [(f, v)]
  | (g, x) :: r => if g = f then (g, v) :: r else (g, x) :: putS f v r
theorem putS_ok {K : PySem.W.Frag} {φ : List Addr} {S : Hp} {f : Str} {v : V} {d : D} (r : Rp K φ S v d) : ∀ {fv : List (Str × V)} {fs : List (Str × D)}, fv.map (·.1) = fs.map (·.1) → RpA K φ S (fv.map (·.2)) (fs.map (·.2)) →
    (putF f v fv).map (·.1) = (putS f d fs).map (·.1) ∧ RpA K φ S ((putF f v fv).map (·.2)) ((putS f d fs).map (·.2))
  | [], [], _, _ => ⟨rfl, .cons r .nil⟩
  | (g, v0) :: fv, (g', d0) :: fs, ek, ra => by
    injection ek with e1 e2
    rw [List.map_cons, List.map_cons] at ra
    cases ra with
    | cons r0 t =>
      have e1' : g = g' := e1
      subst e1'
      obtain ⟨h1, h2⟩ := putS_ok r e2 t
      unfold putF putS
      by_cases q : g = f
      · rw [if_pos q, if_pos q]
        exact ⟨by rw [List.map_cons, List.map_cons, e2], .cons r t⟩
      · rw [if_neg q, if_neg q]
        exact ⟨by rw [List.map_cons, List.map_cons, h1], .cons r0 h2⟩
  | [], _ :: _, ek, _ => by cases ek
  | _ :: _, [], ek, _ => by cases ek
/-- an object's fields -/
def fldsOf (h : Hv) (C : Str) : D → Option (List (Str × D))
  | .cell n => (match h[n]? with
    | some (.ins c fs) => if c = C then some fs else none
    | _ => none)
  | .obj c ks ds => if c = C then some (ks.zip ds) else none
  | _ => none
theorem RpA.zip {K : PySem.W.Frag} {φ : List Addr} {S : Hp} : ∀ {fv : List (Str × V)} {ks : List Str} {ds : List D}, fv.map (·.1) = ks → RpA K φ S (fv.map (·.2)) ds → fv.map (·.1) = (ks.zip ds).map (·.1) ∧ RpA K φ S (fv.map (·.2)) ((ks.zip ds).map (·.2))
  | [], ks, ds, ek, ra => by
    cases ek
    cases ra
    exact ⟨rfl, .nil⟩
  | (g, v) :: fv, ks, ds, ek, ra => by
    rw [List.map_cons] at ek ra
    cases ek
    cases ra with
    | cons r t =>
      obtain ⟨h1, h2⟩ := RpA.zip (fv := fv) rfl t
      exact ⟨congrArg (List.cons g) h1, .cons r h2⟩
theorem fldsOf_ok {K : PySem.W.Frag} {φ : List Addr} {S H : Hp} {h : Hv} {C : Str} {d : D} {v : V} {fs : List (Str × D)} (rl : Rel K φ S H h) (rp : Rp K φ S v d) (e : fldsOf h C d = some fs) :
    ∃ a dx fv, v = .ref a ∧ H a = some (.ins (He.ga K C) dx fv) ∧ fv.map (·.1) = fs.map (·.1) ∧ RpA K φ S (fv.map (·.2)) (fs.map (·.2)) := by
  cases rp with
  | @cell a n h1 =>
    simp only [fldsOf] at e
    obtain ⟨c, hc⟩ := rl.at h1
    obtain ⟨_, o, ho, rc⟩ := rl.cel _ _ _ h1 hc
    rw [hc] at e
    cases c with
    | ins c fs0 =>
      simp only at e
      split at e
      · next q =>
        cases e
        subst q
        obtain ⟨dx, fv, rfl, ek, ra⟩ := rc
        exact ⟨a, dx, fv, rfl, ho, ek, ra⟩
      · cases e
    | _ => cases e
  | @obj a dx fv c ks ds h1 h2 h3 =>
    simp only [fldsOf] at e
    split at e
    · next q =>
      cases e
      subst q
      obtain ⟨k1, k2⟩ := RpA.zip h2 h3
      exact ⟨a, dx, fv, rfl, rl.sub _ _ h1, k1, k2⟩
    · cases e
  | _ => cases e
section
variable {X : Cx} {W : WX} {e : Expr} {fa fv : ES} {f C : Str} {pos pos' : Pos}
def eFld (C f : Str) (fa : ES) : ES := fun σ h => (fa σ h).bind fun d h1 => match (fldsOf h1 C d).bind fun fs => fs.lookup f with
  | some x => .ok x h1
  | none => .stuck
theorem se_fld (c : Cls X.K (He.ga X.K C)) (n : NoAttr X.K (He.ga X.K C) f) (ha : SE X W e fa) (hb : attributeBase e f X.env (eval e X.env) = eval e X.env := by rfl) : SE X W (.Attribute e f pos) (eFld C f fa) := by
  obtain ⟨ta, k1, k2⟩ := ha
  refine ⟨_, pe_fld k1 hb, ⟨fun rl rs post => k2.bind rl rs post fun d h1 v φ1 S1 H1 rl1 rs1 st rp post2 => ?_⟩⟩
  split at post2
  · next x q =>
    obtain ⟨fs, q1, q2⟩ := Option.bind_eq_some_iff.mp q
    obtain ⟨a, dx, fv, rfl, h1, ek, ra⟩ := fldsOf_ok rl1 rp q1
    obtain ⟨u, hu, ru⟩ := (lookup_ok (f := f) ek ra).1 x q2
    exact ⟨a, _, dx, fv, u, rfl, h1, c, n, hu, post2 u φ1 S1 H1 rl1 (Step.refl _ _ _) ru⟩
  · exact post2.elim
/-- e.f = value -/
def sSetFld (C f : Str) (fa fv : ES) : SS := fun σ h => (fv σ h).then σ fun y h1 => (fa σ h1).then σ fun d h2 => match d with
  | .cell n => (match h2[n]? with
    | some (.ins c fs) => if c = C ∧ fs.length < 1000 then .next σ (h2.set n (.ins c (putS f y fs))) else .stuck
    | _ => .stuck)
  | _ => .stuck
theorem qs_setFld {value : Expr} (c : Cls X.K (He.ga X.K C)) (n : NoAttr X.K (He.ga X.K C) f) (hv : SE X W value fv) (ha : SE X W e fa) (hs : swapsWith value (some (.Attribute e f pos')) pos.line X.env = pure false := by rfl) : QS X W (.Assign [.Attribute e f pos'] value pos) (sSetFld C f fa fv) := by
  obtain ⟨ta, k1, k2⟩ := ha
  obtain ⟨tv, l1, l2⟩ := hv
  refine ⟨_, ps_fld k1 l1 hs, ⟨fun {φ S H h σv σ D} rl rs post => l2.thenS rl rs post fun y h1 u φ1 S1 H1 rl1 rs1 st rp post => k2.thenS rl1 rs1 post fun d h2 v φ2 S2 H2 rl2 rs2 st2 rp2 post3 => ?_⟩⟩
  cases d with
  | cell m =>
    simp only at post3
    cases (show Rp _ _ _ _ _ from rp2) with
    | @cell a _ hm =>
      obtain ⟨c0, hc0⟩ := rl2.at hm
      obtain ⟨_, o, ho, rc⟩ := rl2.cel _ _ _ hm hc0
      rw [hc0] at post3
      cases c0 with
      | ins c' fs =>
        simp only at post3
        split at post3
        · next q =>
          obtain ⟨q1, q2⟩ := q
          subst q1
          obtain ⟨dx, fv', rfl, ek, ra⟩ := rc
          have hl : fv'.length = fs.length := by
            have := congrArg List.length ek
            rw [List.length_map, List.length_map] at this
            exact this
          obtain ⟨p1, p2⟩ := putS_ok (f := f) (Rp.mono st2.prefix st2.sub rp) ek ra
          obtain ⟨r3, s3⟩ := rl2.put (o := .ins (He.ga X.K c') dx (putF f u fv')) (c := .ins c' (putS f y fs)) hm ⟨dx, _, rfl, p1, p2⟩
          exact ⟨a, _, dx, fv', rfl, ho, c, n, by omega, post3 σ φ2 S2 _ r3 (rs2.step s3) s3⟩
        · exact post3.elim
      | _ => exact post3.elim
  | _ => exact post3.elim
end
/-! ### the end of an __init__: its new objects live on -/
def fnI (np nl : Nat) (body : SS) : List D → Hv → R D := fun ds h => if ds.length = np then (match body (ds.map some ++ List.replicate nl none) h with
  | .ret d h' => .ok d h'
  | .next _ h' => .ok .non h'
  | .exc x _ h' => exitX h.length x h'
  | _ => .stuck) else .stuck
theorem fnI_len {np nl : Nat} {body : SS} {ds : List D} {h : Hv} (e : fnI np nl body ds h ≠ .stuck) : ds.length = np := by
  unfold fnI at e
  split at e
  · next q => exact q
  · exact absurd rfl e
section
variable {P : Program} {w : World} {K : PySem.W.Frag} {mg : Str → Option Value} {base : Heap}
theorem fnI_ok {x qual : Str} {st : Stmt} {f : Addr} {fd : FuncData} {N ps : List Str} {k np nl : Nat} {body : SS} (F : Fun K x qual st f fd) (Sc : FnScope N ps (defScope st)) (hps : ps.length = np) (hN : N.length = np + nl)
    (hbody : ∀ (cdv : Value) (A : Around) (outer : List Env) (s : Shared) (H : Hp) (E : XK), Room k (A.deeper (envOfC qual (defScope st) s.heap.objs.size f cdv)) →
      QB (cxOf (L2.CX P w) P w K mg base N qual (defScope st) f cdv A outer s H E) (fun cls d _ H' => E cls d H') (defBody st) body) : FnOk P w K mg base (L2.CX P w) (k + 1) f fd ps (spOf K (fnI np nl body)) := by
  refine F.okX Sc (fun vs H Q E h => ?_) (fun cdv A outer s H vs Q E hr h => ?_)
  · obtain ⟨φ, S, h, ds, rl, ra, post⟩ := h
    rw [ra.length, hps]
    refine fnI_len (nl := nl) (body := body) (h := h) fun z => ?_
    rw [z] at post
    exact post.elim
  · obtain ⟨φ, S, h, ds, rl, ra, post⟩ := h
    obtain ⟨t, h1, h2⟩ := hbody cdv A outer s H E hr
    refine ⟨t, h1, h2.run rl (relS_start ra nl N (by
      have hl : ds.length = np := fnI_len (nl := nl) (body := body) (h := h) fun z => by
        rw [z] at post
        exact post.elim
      rw [hl]
      exact hN)) ?_⟩
    unfold fnI at post
    have hl : ds.length = np := by
      refine Classical.byContradiction fun z => ?_
      rw [if_neg z] at post
      exact post.elim
    rw [if_pos hl] at post
    have en : h.length = φ.length := rl.len.symm
    cases hb : body (ds.map some ++ List.replicate nl none) h with
    | next σ' h' =>
      rw [hb] at post
      exact fun σ1 φ' S' H' r2 _ st => post .non φ' S' H' r2 st .non
    | ret d h' =>
      rw [hb] at post
      exact fun v φ' S' H' r2 st rv => post v φ' S' H' r2 st rv
    | brk σ' h' => rw [hb] at post; exact post.elim
    | cont σ' h' => rw [hb] at post; exact post.elim
    | stuck => rw [hb] at post; exact post.elim
    | exc x σ' h' =>
      rw [hb] at post
      intro σ1 cls dd φ' S' H' r2 _ st rx
      simp only [exitX] at post
      obtain ⟨s2, _⟩ := exit_step st r2
      obtain ⟨e1, rx⟩ := rx
      cases hp : x.pay with
      | none =>
        simp only [hp] at post rx
        split at post
        · next h'' q2 =>
          split at post
          · next hn =>
            rw [en] at q2 hn
            exact post cls dd _ _ H' (exit_rel r2 hn q2) s2 ⟨e1, by rw [hp]; exact rx⟩
          · exact post.elim
        · exact post.elim
      | some p =>
        obtain ⟨fl, d⟩ := p
        simp only [hp] at post rx
        obtain ⟨dx, v, e2, e3, rv⟩ := rx
        split at post
        · next d' h'' q1 q2 =>
          split at post
          · next hn =>
            rw [en] at q1 q2 hn
            exact post cls dd _ _ H' (exit_rel r2 hn q2) s2 ⟨e1, dx, v, e2, still_ex r2 _ _ e3, frz_ok r2 _ _ _ _ rv q1⟩
          · exact post.elim
        · exact post.elim
end
/-! ### methods called -/
def OkM (P : Program) (w : World) (K : PySem.W.Frag) (mg : Str → Option Value) (base : Heap) (k : Nat) (C m : Str) (ps : List Str) (sem : List D → Hv → R D) : Prop :=
  ∃ fd, FnOk P w K mg base (L2.CX P w) k (He.ma K (He.ga K C) m) fd ps (spOf K sem) ∧ Binds K fd ps [] ∧ Meth K (He.ga K C) m (He.ma K (He.ga K C) m)
section
variable {P : Program} {w : World} {K : PySem.W.Frag} {mg : Str → Option Value} {base : Heap}
theorem okM_mk {C m qual : Str} {st : Stmt} {fd : FuncData} {N ps : List Str} {k np nl : Nat} {body : SS} (F : Fun K m qual st (He.ma K (He.ga K C) m) fd) (Sc : FnScope N ps (defScope st)) (hps : ps.length = np) (hN : N.length = np + nl) (hm : Meth K (He.ga K C) m (He.ma K (He.ga K C) m)) (b : Binds K fd ps [])
    (hbody : ∀ (cdv : Value) (A : Around) (outer : List Env) (s : Shared) (H : Hp) (E : XK), Room k (A.deeper (envOfC qual (defScope st) s.heap.objs.size (He.ma K (He.ga K C) m) cdv)) →
      QB (cxOf (L2.CX P w) P w K mg base N qual (defScope st) (He.ma K (He.ga K C) m) cdv A outer s H E) (fun cls d _ H' => E cls d H') (defBody st) body) : OkM P w K mg base (k + 1) C m ps (fnS np nl body) := ⟨fd, fn_ok F Sc hps hN hbody, b, hm⟩
theorem okMI_mk {C m qual : Str} {st : Stmt} {fd : FuncData} {N ps : List Str} {k np nl : Nat} {body : SS} (F : Fun K m qual st (He.ma K (He.ga K C) m) fd) (Sc : FnScope N ps (defScope st)) (hps : ps.length = np) (hN : N.length = np + nl) (hm : Meth K (He.ga K C) m (He.ma K (He.ga K C) m)) (b : Binds K fd ps [])
    (hbody : ∀ (cdv : Value) (A : Around) (outer : List Env) (s : Shared) (H : Hp) (E : XK), Room k (A.deeper (envOfC qual (defScope st) s.heap.objs.size (He.ma K (He.ga K C) m) cdv)) →
      QB (cxOf (L2.CX P w) P w K mg base N qual (defScope st) (He.ma K (He.ga K C) m) cdv A outer s H E) (fun cls d _ H' => E cls d H') (defBody st) body) : OkM P w K mg base (k + 1) C m ps (fnI np nl body) := ⟨fd, fnI_ok F Sc hps hN hbody, b, hm⟩
theorem okMU_mk {C m qual : Str} {st : Stmt} {fd : FuncData} {N ps : List Str} {k np nl : Nat} {body : SS} (F : Fun K m qual st (He.ma K (He.ga K C) m) fd) (Sc : FnScope N ps (defScope st)) (hps : ps.length = np) (hN : N.length = np + nl) (hm : Meth K (He.ga K C) m (He.ma K (He.ga K C) m)) (b : Binds K fd ps [])
    (hbody : ∀ (cdv : Value) (A : Around) (outer : List Env) (s : Shared) (H : Hp) (E : XK), Room k (A.deeper (envOfC qual (defScope st) s.heap.objs.size (He.ma K (He.ga K C) m) cdv)) →
      QB (cxOf (L2.CX P w) P w K mg base N qual (defScope st) (He.ma K (He.ga K C) m) cdv A outer s H E) (fun cls d _ H' => E cls d H') (defBody st) body) : OkM P w K mg base (k + 1) C m ps (fnU np nl body) := ⟨fd, fnU_ok F Sc hps hN hbody, b, hm⟩
end
def eMeth (C m : Str) (sem' : List D → Hv → R D) (fa : ES) (la : LS) : ES := fun σ h => (fa σ h).bind fun d h1 => match fldsOf h1 C d with
  | some fs => if (fs.lookup m).isNone then ((la σ h1).bind fun ds h2 => sem' (d :: ds) h2) else .stuck
  | none => .stuck
section
variable {X : Cx} {W : WX} {k : Nat} {ps : List Str} {sem sem' : List D → Hv → R D} {C m : Str} {o e : Expr} {es : List Expr} {fa : ES} {la : LS} {p apos pos : Pos} {pl : Sem Bool}
theorem se_methG (hsem : ∀ {φ : List Addr} {S H : Hp} {h : Hv} {ds : List D} {vs : List V} {Q : VK} {E : XK}, Rel X.K φ S H h → RpA X.K φ S vs ds → Post X.K (repV X.K) φ S H (sem' ds h) Q E → spOf X.K sem vs H Q E)
    (F : OkM X.prog X.w X.K X.mg X.base k C m ps sem) (c : Cls X.K (He.ga X.K C)) (hr : Room k X.A) (tk : Takes X W) (ho : SE X W o fa) (ha : SA X W (e :: es) la)
    (hst : starEach (e :: es) X.env = (false, eval e X.env) :: starEach es X.env := by rfl) (hpl : (backTo pos (starEach es X.env)).any (·.1) = false := by rfl)
    (ht : eval (.Call (.Attribute o m apos) (e :: es) [] pos) X.env = (do
      let ov ← eval o X.env
      standAt apos.atName
      let (f, first) ← holding [ov] (getMethod ov m pl)
      callWith pos f first (backTo pos (starEach (e :: es) X.env)) (backToKw pos (keywordEach [] X.env))) := by rfl) :
    SE X W (.Call (.Attribute o m apos) (e :: es) [] pos) (eMeth C m sem' fa la) := by
  obtain ⟨fd, G, hb, hm⟩ := F
  obtain ⟨ta, k1, k2⟩ := ho
  obtain ⟨t, h1, h2⟩ := ha
  refine ⟨_, pe_methW k1 c hm G hr hb (fun σ => passAt tk σ) h1 hst hpl ht, ⟨fun rl rs post => k2.bind rl rs post fun d h1 v φ1 S1 H1 rl1 rs1 st rp post2 => ?_⟩⟩
  split at post2
  · next fs q =>
    split at post2
    · next ql =>
      obtain ⟨a, dx, fv, rfl, h1, ek, ra⟩ := fldsOf_ok rl1 rp q
      refine ⟨a, dx, fv, rfl, h1, (lookup_ok (f := m) ek ra).2 (Option.isNone_iff_eq_none.mp ql), h2.bind rl1 rs1 post2 fun ds h3 vs φ2 S2 H2 rl2 rs2 st2 rp2 post3 => ?_⟩
      exact hsem rl2 (.cons (Rp.mono st2.prefix st2.sub rp) rp2) post3
    · exact post2.elim
  · exact post2.elim
theorem se_methG0 (hsem : ∀ {φ : List Addr} {S H : Hp} {h : Hv} {ds : List D} {vs : List V} {Q : VK} {E : XK}, Rel X.K φ S H h → RpA X.K φ S vs ds → Post X.K (repV X.K) φ S H (sem' ds h) Q E → spOf X.K sem vs H Q E)
    (F : OkM X.prog X.w X.K X.mg X.base k C m ps sem) (c : Cls X.K (He.ga X.K C)) (hr : Room k X.A) (tk : Takes X W) (ho : SE X W o fa)
    (ht : eval (.Call (.Attribute o m apos) [] [] pos) X.env = (do
      let ov ← eval o X.env
      standAt apos.atName
      let (f, first) ← holding [ov] (getMethod ov m pl)
      callWith pos f first (backTo pos (starEach [] X.env)) (backToKw pos (keywordEach [] X.env))) := by rfl) :
    SE X W (.Call (.Attribute o m apos) [] [] pos) (eMeth C m sem' fa aNil) := by
  obtain ⟨fd, G, hb, hm⟩ := F
  obtain ⟨ta, k1, k2⟩ := ho
  refine ⟨_, pe_methW0 k1 c hm G hr hb (fun σ => passAt tk σ) ht, ⟨fun rl rs post => k2.bind rl rs post fun d h1 v φ1 S1 H1 rl1 rs1 st rp post2 => ?_⟩⟩
  split at post2
  · next fs q =>
    split at post2
    · next ql =>
      obtain ⟨a, dx, fv, rfl, h1, ek, ra⟩ := fldsOf_ok rl1 rp q
      exact ⟨a, dx, fv, rfl, h1, (lookup_ok (f := m) ek ra).2 (Option.isNone_iff_eq_none.mp ql), hsem rl1 (.cons rp .nil) post2⟩
    · exact post2.elim
  · exact post2.elim
end
/-! ### objects made -/
def mkR (C : Str) (sem : List D → Hv → R D) : List D → Hv → R D := fun ds h1 => match sem (.cell h1.length :: ds) (h1 ++ [.ins C []]) with
  | .ok .non h2 => .ok (.cell h1.length) h2
  | .exc x h2 => exitX h1.length x h2
  | _ => .stuck
/-- .. that stay as they are from then on -/
def fzS (sem : List D → Hv → R D) : List D → Hv → R D := fun ds h => match sem ds h with
  | .ok d h' => exitD h.length d h'
  | .exc x h' => .exc x h'
  | .stuck => .stuck
section
variable {K : PySem.W.Frag} {sem : List D → Hv → R D} {vs : List V} {H : Hp} {Q : VK} {E : XK} {C : Str}
theorem exitX_post {φ φ' : List Addr} {S S' H' : Hp} {h h' : Hv} {x : Xn} {cls : Value} {dd : Option Addr} (rl : Rel K φ S H h) (st : Step φ S H φ' S' H') (r2 : Rel K φ' S' H' h') (rx : RpX K φ' S' H' x cls dd) (post : Post K (repV K) φ S H (exitX h.length x h') Q E) : E cls dd H' := by
  have en : h.length = φ.length := rl.len.symm
  simp only [exitX] at post
  obtain ⟨s2, _⟩ := exit_step st r2
  obtain ⟨e1, rx⟩ := rx
  cases hp : x.pay with
  | none =>
    simp only [hp] at post rx
    split at post
    · next h'' q2 =>
      split at post
      · next hn =>
        rw [en] at q2 hn
        exact post cls dd _ _ H' (exit_rel r2 hn q2) s2 ⟨e1, by rw [hp]; exact rx⟩
      · exact post.elim
    · exact post.elim
  | some p =>
    obtain ⟨fl, d⟩ := p
    simp only [hp] at post rx
    obtain ⟨dx, v, e2, e3, rv⟩ := rx
    split at post
    · next d' h'' q1 q2 =>
      split at post
      · next hn =>
        rw [en] at q1 q2 hn
        exact post cls dd _ _ H' (exit_rel r2 hn q2) s2 ⟨e1, dx, v, e2, still_ex r2 _ _ e3, frz_ok r2 _ _ _ _ rv q1⟩
      · exact post.elim
    · exact post.elim
theorem spOf_mk (z : spOf K (mkR C sem) vs H Q E) : spMk (He.ga K C) (spOf K sem) vs H Q E := by
  obtain ⟨φ, S, h, ds, rl, ra, post⟩ := z
  intro x dx hx hdx ne
  obtain ⟨r1, s1⟩ := rl.hold (o := .own x) hdx
  have hx1 : upd H dx (.own x) x = none := by rw [upd_ne (fun z => ne z.symm)]; exact hx
  obtain ⟨r2, s2⟩ := r1.hold (o := .ins (He.ga K C) dx []) hx1
  have r3 := r2.celled (c := .ins C []) upd_same (rl.snone hx) (rl.notin hx) ⟨dx, [], rfl, rfl, .nil⟩
  have s3 : Step φ S H (φ ++ [x]) S (upd (upd H dx (.own x)) x (.ins (He.ga K C) dx [])) := (s1.trans s2).celled hx
  refine ⟨φ ++ [x], S, h ++ [.ins C []], .cell h.length :: ds, r3, .cons (.cell ?_) (ra.mono ⟨[x], rfl⟩ (Ex.refl _)), ?_⟩
  · rw [← rl.len, List.getElem?_append_right (Nat.le_refl _), Nat.sub_self]; rfl
  have at_ : ∀ φ', Pre (φ ++ [x]) φ' → φ'[h.length]? = some x := fun φ' p => p.at (by rw [← rl.len, List.getElem?_append_right (Nat.le_refl _), Nat.sub_self]; rfl)
  unfold mkR at post
  split at post
  · next h2 hs =>
    rw [hs]
    intro v φ2 S2 H2 r4 st4 rv
    cases (show Rp _ _ _ _ _ from rv)
    exact ⟨rfl, post (.ref x) φ2 S2 H2 r4 (s3.trans st4) (.cell (at_ φ2 st4.prefix))⟩
  · next x' h2 hs =>
    rw [hs]
    intro cls dd φ2 S2 H2 r4 st4 rx
    exact exitX_post rl (s3.trans st4) r4 rx post
  · exact post.elim
theorem spOf_fz (z : spOf K (fzS sem) vs H Q E) : spOf K sem vs H Q E := by
  obtain ⟨φ, S, h, ds, rl, ra, post⟩ := z
  refine ⟨φ, S, h, ds, rl, ra, ?_⟩
  have en : h.length = φ.length := rl.len.symm
  unfold fzS at post
  split at post
  · next d h' hs =>
    rw [hs]
    intro v φ2 S2 H2 r2 st2 rv
    unfold exitD at post
    split at post
    · next d' h'' q1 q2 =>
      split at post
      · next hn =>
        rw [en] at q1 q2 hn
        exact post v _ _ H2 (exit_rel r2 hn q2) (exit_step st2 r2).1 (frz_ok r2 _ _ _ _ rv q1)
      · exact post.elim
    · exact post.elim
  · next x h' hs => rw [hs]; exact post
  · exact post.elim
end
section
variable {X : Cx} {W : WX} {k : Nat} {ps : List Str} {sem sem' : List D → Hv → R D} {C : Str} {e : Expr} {es : List Expr} {la : LS} {p pos : Pos}
theorem se_mkG (hsem : ∀ {φ : List Addr} {S H : Hp} {h : Hv} {ds : List D} {vs : List V} {Q : VK} {E : XK}, Rel X.K φ S H h → RpA X.K φ S vs ds → Post X.K (repV X.K) φ S H (sem' ds h) Q E → spOf X.K (mkR C sem) vs H Q E)
    (M : Mk X.K (He.ga X.K C) (He.ma X.K (He.ga X.K C) "__init__")) (F : OkM X.prog X.w X.K X.mg X.base k C "__init__" ps sem) (hr : Room (k + 1) X.A) (tk : Takes X W) (hm : X.mg C = some (.ref (He.ga X.K C))) (ha : SA X W (e :: es) la)
    (hg : Gl X C := by rfl) (hdb : (C == ("__debug__" : Str)) = false := by decide) (he : starEach (e :: es) X.env = (false, eval e X.env) :: starEach es X.env := by rfl) (hpl : (backTo pos (starEach es X.env)).any (·.1) = false := by rfl) :
    SE X W (.Call (.Name C p) (e :: es) [] pos) (eCa sem' la) := by
  obtain ⟨fd, G, hb, _⟩ := F
  obtain ⟨t, h1, h2⟩ := ha
  exact ⟨_, pe_makeW M G hr hg hm hb (fun σ => passAt tk σ) h1 hdb he hpl, ⟨fun rl rs post => h2.bind rl rs post fun ds h1 vs φ1 S1 H1 rl1 rs1 st rp post => spOf_mk (hsem rl1 rp post)⟩⟩
/-- by the caller's heap, its cells among the arguments -/
theorem se_mkM (M : Mk X.K (He.ga X.K C) (He.ma X.K (He.ga X.K C) "__init__")) (F : OkM X.prog X.w X.K X.mg X.base k C "__init__" ps sem) (hr : Room (k + 1) X.A) (tk : Takes X W) (hm : X.mg C = some (.ref (He.ga X.K C))) (ha : SA X W (e :: es) la)
    (hg : Gl X C := by rfl) (hdb : (C == ("__debug__" : Str)) = false := by decide) (he : starEach (e :: es) X.env = (false, eval e X.env) :: starEach es X.env := by rfl) (hpl : (backTo pos (starEach es X.env)).any (·.1) = false := by rfl) :
    SE X W (.Call (.Name C p) (e :: es) [] pos) (eCa (callM (mkR C sem)) la) := se_mkG spOf_M M F hr tk hm ha hg hdb he hpl
/-- of plain things -/
theorem se_mkC (M : Mk X.K (He.ga X.K C) (He.ma X.K (He.ga X.K C) "__init__")) (F : OkM X.prog X.w X.K X.mg X.base k C "__init__" ps sem) (hr : Room (k + 1) X.A) (tk : Takes X W) (hm : X.mg C = some (.ref (He.ga X.K C))) (ha : SA X W (e :: es) la)
    (hg : Gl X C := by rfl) (hdb : (C == ("__debug__" : Str)) = false := by decide) (he : starEach (e :: es) X.env = (false, eval e X.env) :: starEach es X.env := by rfl) (hpl : (backTo pos (starEach es X.env)).any (·.1) = false := by rfl) :
    SE X W (.Call (.Name C p) (e :: es) [] pos) (eCa (callC (mkR C sem)) la) := se_mkG spOf_C M F hr tk hm ha hg hdb he hpl
/-- one that stays as it is -/
theorem se_mkF (M : Mk X.K (He.ga X.K C) (He.ma X.K (He.ga X.K C) "__init__")) (F : OkM X.prog X.w X.K X.mg X.base k C "__init__" ps sem) (hr : Room (k + 1) X.A) (tk : Takes X W) (hm : X.mg C = some (.ref (He.ga X.K C))) (ha : SA X W (e :: es) la)
    (hg : Gl X C := by rfl) (hdb : (C == ("__debug__" : Str)) = false := by decide) (he : starEach (e :: es) X.env = (false, eval e X.env) :: starEach es X.env := by rfl) (hpl : (backTo pos (starEach es X.env)).any (·.1) = false := by rfl) :
    SE X W (.Call (.Name C p) (e :: es) [] pos) (eCa (callP (fzS (mkR C sem))) la) := se_mkG (fun rl ra post => spOf_fz (spOf_P rl ra post)) M F hr tk hm ha hg hdb he hpl
end
section
variable {X : Cx} {W : WX} {k : Nat} {ps : List Str} {sem : List D → Hv → R D} {C m : Str} {o e : Expr} {es : List Expr} {fa : ES} {la : LS} {p apos pos : Pos} {pl : Sem Bool} (q : Cm)
theorem se_meth (F : OkM X.prog X.w X.K X.mg X.base k C m ps sem) (c : Cls X.K (He.ga X.K C)) (hr : Room k X.A) (tk : Takes X W) (ho : SE X W o fa) (ha : SA X W (e :: es) la)
    (hst : starEach (e :: es) X.env = (false, eval e X.env) :: starEach es X.env := by rfl) (hpl : (backTo pos (starEach es X.env)).any (·.1) = false := by rfl)
    (ht : eval (.Call (.Attribute o m apos) (e :: es) [] pos) X.env = (do
      let ov ← eval o X.env
      standAt apos.atName
      let (f, first) ← holding [ov] (getMethod ov m pl)
      callWith pos f first (backTo pos (starEach (e :: es) X.env)) (backToKw pos (keywordEach [] X.env))) := by rfl) :
    SE X W (.Call (.Attribute o m apos) (e :: es) [] pos) (eMeth C m (q.f sem) fa la) := se_methG (cm_ok q) F c hr tk ho ha hst hpl ht
theorem se_meth0 (F : OkM X.prog X.w X.K X.mg X.base k C m ps sem) (c : Cls X.K (He.ga X.K C)) (hr : Room k X.A) (tk : Takes X W) (ho : SE X W o fa)
    (ht : eval (.Call (.Attribute o m apos) [] [] pos) X.env = (do
      let ov ← eval o X.env
      standAt apos.atName
      let (f, first) ← holding [ov] (getMethod ov m pl)
      callWith pos f first (backTo pos (starEach [] X.env)) (backToKw pos (keywordEach [] X.env))) := by rfl) :
    SE X W (.Call (.Attribute o m apos) [] [] pos) (eMeth C m (q.f sem) fa aNil) := se_methG0 (cm_ok q) F c hr tk ho ht
end
end
end VD

set_option Elab.async false
set_option linter.all false
set_option maxRecDepth 100000
set_option maxHeartbeats 4000000
namespace VD
open PySem PySem.Spec PyProof.Rows L2
noncomputable section
/-! ### data without cells, of any depth -/
mutual
def noC : D → Bool
  | .non => true
  | .bl _ => true
  | .int _ => true
  | .str _ => true
  | .raw _ => true
  | .lst ds => noCL ds
  | .fz ds => noCL ds
  | .tup ds => noCL ds
  | .dct _ ds => noCL ds
  | .obj _ _ ds => noCL ds
  | .cell _ => false
  | .exv _ _ _ _ => false
def noCL : List D → Bool
  | [] => true
  | d :: ds => noC d && noCL ds
end
section
variable {K : PySem.W.Frag} {φ : List Addr} {S : Hp}
mutual
theorem noC_rp : ∀ {v : V} {d : D}, noC d = true → Rp K φ S v d → Rp K [] S v d
  | _, _, _, .non => .non
  | _, _, _, .bl b => .bl b
  | _, _, _, .int i => .int i
  | _, _, _, .str x => .str x
  | _, .lst ds, e, .lst h r => .lst h (noCL_rp (by rw [noC] at e; exact e) r)
  | _, .fz ds, e, .fz h r => .fz h (noCL_rp (by rw [noC] at e; exact e) r)
  | _, .tup ds, e, .tup h r => .tup h (noCL_rp (by rw [noC] at e; exact e) r)
  | _, _, e, .cell _ => by rw [noC] at e; cases e
  | _, _, _, .raw v => .raw v
  | _, .dct ks ds, e, .dct h k r => .dct h k (noCL_rp (by rw [noC] at e; exact e) r)
  | _, .obj c ks ds, e, .obj h k r => .obj h k (noCL_rp (by rw [noC] at e; exact e) r)
  | _, _, e, .exv _ _ => by rw [noC] at e; cases e
theorem noCL_rp : ∀ {vs : List V} {ds : List D}, noCL ds = true → RpA K φ S vs ds → RpA K [] S vs ds
  | _, _, _, .nil => .nil
  | _, d :: ds, e, .cons r t => by
    rw [noCL, Bool.and_eq_true] at e
    exact .cons (noC_rp e.1 r) (noCL_rp e.2 t)
end
end
theorem noCL_all {ds : List D} : noCL ds = ds.all noC := by
  induction ds with
  | nil => rfl
  | cons d ds ih => rw [noCL, ih, List.all_cons]
def frzQ (n0 : Nat) (h : Hv) (d : D) : Option D := if noC d = true then some d else frz n0 h 12 d
theorem frzQ_ok {K : PySem.W.Frag} {φ : List Addr} {S H : Hp} {h : Hv} {n0 : Nat} {v : V} {d d' : D} (rl : Rel K φ S H h) (rp : Rp K φ S v d) (e : frzQ n0 h d = some d') : Rp K (φ.take n0) (still φ n0 S H) v d' := by
  unfold frzQ at e
  split at e
  · next q =>
    cases e
    exact Rp.mono ⟨φ.take n0, rfl⟩ (still_ex rl) (noC_rp q rp)
  · exact frz_ok rl _ _ _ _ rp e
def exitQ (n0 : Nat) (d : D) (h : Hv) : R D := match frzQ n0 h d, optAll (frzC n0 h) (h.take n0) with
  | some d', some h' => if n0 ≤ h.length then .ok d' h' else .stuck
  | _, _ => .stuck
def fnQ (np nl : Nat) (body : SS) : List D → Hv → R D := fun ds h => if ds.length = np then (match body (ds.map some ++ List.replicate nl none) h with
  | .ret d h' => exitQ h.length d h'
  | .next _ h' => exitQ h.length .non h'
  | .exc x _ h' => exitX h.length x h'
  | _ => .stuck) else .stuck
theorem fnQ_len {np nl : Nat} {body : SS} {ds : List D} {h : Hv} (e : fnQ np nl body ds h ≠ .stuck) : ds.length = np := by
  unfold fnQ at e
  split at e
  · next q => exact q
  · exact absurd rfl e
section
variable {P : Program} {w : World} {K : PySem.W.Frag} {mg : Str → Option Value} {base : Heap}
theorem fnQ_ok {x qual : Str} {st : Stmt} {f : Addr} {fd : FuncData} {N ps : List Str} {k np nl : Nat} {body : SS} (F : Fun K x qual st f fd) (Sc : FnScope N ps (defScope st)) (hps : ps.length = np) (hN : N.length = np + nl)
    (hbody : ∀ (cdv : Value) (A : Around) (outer : List Env) (s : Shared) (H : Hp) (E : XK), Room k (A.deeper (envOfC qual (defScope st) s.heap.objs.size f cdv)) →
      QB (cxOf (L2.CX P w) P w K mg base N qual (defScope st) f cdv A outer s H E) (fun cls d _ H' => E cls d H') (defBody st) body) : FnOk P w K mg base (L2.CX P w) (k + 1) f fd ps (spOf K (fnQ np nl body)) := by
  refine F.okX Sc (fun vs H Q E h => ?_) (fun cdv A outer s H vs Q E hr h => ?_)
  · obtain ⟨φ, S, h, ds, rl, ra, post⟩ := h
    rw [ra.length, hps]
    refine fnQ_len (nl := nl) (body := body) (h := h) fun z => ?_
    rw [z] at post
    exact post.elim
  · obtain ⟨φ, S, h, ds, rl, ra, post⟩ := h
    obtain ⟨t, h1, h2⟩ := hbody cdv A outer s H E hr
    refine ⟨t, h1, h2.run rl (relS_start ra nl N (by
      have hl : ds.length = np := fnQ_len (nl := nl) (body := body) (h := h) fun z => by
        rw [z] at post
        exact post.elim
      rw [hl]
      exact hN)) ?_⟩
    unfold fnQ at post
    have hl : ds.length = np := by
      refine Classical.byContradiction fun z => ?_
      rw [if_neg z] at post
      exact post.elim
    rw [if_pos hl] at post
    have en : h.length = φ.length := rl.len.symm
    have out : ∀ {φ' S' H' h' d v}, Rel K φ' S' H' h' → Step φ S H φ' S' H' → Rp K φ' S' v d → Post K (repV K) φ S H (exitQ h.length d h') Q E → Q v H' := fun {φ' S' H' h' d v} r2 st rv post => by
      unfold exitQ at post
      split at post
      · next d' h'' q1 q2 =>
        split at post
        · next hn =>
          rw [en] at q1 q2 hn
          obtain ⟨s2, _⟩ := exit_step st r2
          exact post v _ _ H' (exit_rel r2 hn q2) s2 (frzQ_ok r2 rv q1)
        · exact post.elim
      · exact post.elim
    cases hb : body (ds.map some ++ List.replicate nl none) h with
    | next σ' h' =>
      rw [hb] at post
      exact fun σ1 φ' S' H' r2 _ st => out r2 st .non post
    | ret d h' =>
      rw [hb] at post
      exact fun v φ' S' H' r2 st rv => out r2 st rv post
    | brk σ' h' => rw [hb] at post; exact post.elim
    | cont σ' h' => rw [hb] at post; exact post.elim
    | stuck => rw [hb] at post; exact post.elim
    | exc x σ' h' =>
      rw [hb] at post
      intro σ1 cls dd φ' S' H' r2 _ st rx
      simp only [exitX] at post
      obtain ⟨s2, _⟩ := exit_step st r2
      obtain ⟨e1, rx⟩ := rx
      cases hp : x.pay with
      | none =>
        simp only [hp] at post rx
        split at post
        · next h'' q2 =>
          split at post
          · next hn =>
            rw [en] at q2 hn
            exact post cls dd _ _ H' (exit_rel r2 hn q2) s2 ⟨e1, by rw [hp]; exact rx⟩
          · exact post.elim
        · exact post.elim
      | some p =>
        obtain ⟨fl, d⟩ := p
        simp only [hp] at post rx
        obtain ⟨dx, v, e2, e3, rv⟩ := rx
        split at post
        · next d' h'' q1 q2 =>
          split at post
          · next hn =>
            rw [en] at q1 q2 hn
            exact post cls dd _ _ H' (exit_rel r2 hn q2) s2 ⟨e1, dx, v, e2, still_ex r2 _ _ e3, frz_ok r2 _ _ _ _ rv q1⟩
          · exact post.elim
        · exact post.elim
theorem okQ_mk {x : Str} {st : Stmt} {fd : FuncData} {N ps : List Str} {k np nl : Nat} {body : SS} (F : Fun K x x st (He.ga K x) fd) (Sc : FnScope N ps (defScope st)) (hps : ps.length = np) (hN : N.length = np + nl) (g : mg x = some (.ref (He.ga K x))) (b : Binds K fd ps [])
    (hbody : ∀ (cdv : Value) (A : Around) (outer : List Env) (s : Shared) (H : Hp) (E : XK), Room k (A.deeper (envOfC x (defScope st) s.heap.objs.size (He.ga K x) cdv)) →
      QB (cxOf (L2.CX P w) P w K mg base N x (defScope st) (He.ga K x) cdv A outer s H E) (fun cls d _ H' => E cls d H') (defBody st) body) : OkF P w K mg base (k + 1) x ps (fnQ np nl body) := ⟨fd, let ⟨oc, od, _, _, _, _, _, _, osl, _, lk, _⟩ := F.ex; ⟨oc, od, osl, lk⟩, fnQ_ok F Sc hps hN hbody, b, g, F.kp⟩
end
/-- a call of plain things, of any depth -/
def callQ (sem : List D → Hv → R D) (ds : List D) (h : Hv) : R D := if noCL ds = true then (match sem ds [] with
    | .ok d [] => .ok d h
    | .exc x [] => .exc x h
    | _ => .stuck) else .stuck
theorem spOf_Q {K : PySem.W.Frag} {sem : List D → Hv → R D} {φ : List Addr} {S H : Hp} {h : Hv} {ds : List D} {vs : List V} {Q : VK} {E : XK} (rl : Rel K φ S H h) (ra : RpA K φ S vs ds) (post : Post K (repV K) φ S H (callQ sem ds h) Q E) : spOf K sem vs H Q E := by
  unfold callQ at post
  split at post
  · next q =>
    refine ⟨[], S, [], ds, Rel.bare rl.sub, noCL_rp q ra, ?_⟩
    split at post
    · next d hs =>
      rw [hs]
      intro v φ' S' H' r2 st rv
      obtain ⟨rfl, r3, s3⟩ := rl.frame r2 st
      exact post v φ S' H' r3 s3 (Rp.mono ⟨φ, rfl⟩ (Ex.refl _) rv)
    · next x hs =>
      rw [hs]
      intro cls dd φ' S' H' r2 st rx
      obtain ⟨rfl, r3, s3⟩ := rl.frame r2 st
      refine post cls dd φ S' H' r3 s3 ⟨rx.1, ?_⟩
      have rx2 := rx.2
      cases hp : x.pay with
      | none => rw [hp] at rx2; exact rx2
      | some p =>
        rw [hp] at rx2
        obtain ⟨dx, v, e2, e3, rv⟩ := rx2
        exact ⟨dx, v, e2, e3, Rp.mono ⟨φ, rfl⟩ (Ex.refl _) rv⟩
    · exact post.elim
  · exact post.elim
theorem se_fnQ {X : Cx} {W : WX} {k : Nat} {ps : List Str} {sem : List D → Hv → R D} {x : Str} {p pos : Pos} {e : Expr} {es : List Expr} {la : LS}
    (o : OkF X.prog X.w X.K X.mg X.base k x ps sem) (hr : Room k X.A) (tk : Takes X W) (ha : SA X W (e :: es) la)
    (hg : Gl X x := by rfl) (hdb : (x == ("__debug__" : Str)) = false := by decide) (he : starEach (e :: es) X.env = (false, eval e X.env) :: starEach es X.env := by rfl) (hpl : (backTo pos (starEach es X.env)).any (·.1) = false := by rfl) :
    SE X W (.Call (.Name x p) (e :: es) [] pos) (eCa (callQ sem) la) := by
  obtain ⟨fd, _, F, b, g, kp⟩ := o
  exact se_call spOf_Q F hr tk g kp b ha hg hdb he hpl
/-! the end of such a def -/
def Rq (P : R D → Prop) (r : RS) : Prop := match r with
  | .ret d h => ∃ d', frzQ 0 h d = some d' ∧ P (.ok d' [])
  | .next _ _ => P (.ok .non [])
  | .exc x _ h => match x.pay with
    | none => P (.exc ⟨x.cls, none⟩ [])
    | some (f, d) => ∃ d', frz 0 h 12 d = some d' ∧ P (.exc ⟨x.cls, some (f, d')⟩ [])
  | _ => False
section
variable {P : R D → Prop} {σ : VS} {h : Hv} {d : D} {C f : Str} {n0 : Nat}
@[simp] theorem Wp_rq_ret : Wp (Rq P) (.ret d h) = ∃ d', frzQ 0 h d = some d' ∧ P (.ok d' []) := Wp.eq _ _
@[simp] theorem Wp_rq_next : Wp (Rq P) (.next σ h) = P (.ok .non []) := Wp.eq _ _
@[simp] theorem Wp_rq_exc : Wp (Rq P) (.exc ⟨C, none⟩ σ h) = P (.exc ⟨C, none⟩ []) := by
  rw [Wp.eq, Rq]
@[simp] theorem Wp_rq_excP : Wp (Rq P) (.exc ⟨C, some (f, d)⟩ σ h) = ∃ d', frz 0 h 12 d = some d' ∧ P (.exc ⟨C, some (f, d')⟩ []) := by
  rw [Wp.eq, Rq]
@[simp] theorem Wp_rq_stuck : Wp (Rq P) .stuck = False := Wp.eq _ _
theorem frzQ_y (e : noC d = true) : frzQ n0 h d = some d := by unfold frzQ; rw [if_pos e]
theorem frzQ_n (e : noC d = false) : frzQ n0 h d = frz n0 h 12 d := by unfold frzQ; rw [if_neg (by rw [e]; simp)]
@[simp] theorem frzQ_non : frzQ n0 h .non = some .non := rfl
@[simp] theorem frzQ_bl {b : Bool} : frzQ n0 h (.bl b) = some (.bl b) := rfl
@[simp] theorem frzQ_int {i : Int} : frzQ n0 h (.int i) = some (.int i) := rfl
@[simp] theorem frzQ_str {x : Str} : frzQ n0 h (.str x) = some (.str x) := rfl
@[simp] theorem frzQ_cell {n : Nat} : frzQ n0 h (.cell n) = frz n0 h 12 (.cell n) := rfl
end
theorem fnQ_of {P : R D → Prop} {np nl : Nat} {body : SS} {ds : List D} (hl : ds.length = np) (hw : Wp (Rq P) (body (ds.map some ++ List.replicate nl none) [])) : P (fnQ np nl body ds []) := by
  replace hw := hw.run
  unfold fnQ
  rw [if_pos hl]
  generalize body (ds.map some ++ List.replicate nl none) [] = r at hw ⊢
  cases r with
  | ret d h =>
    obtain ⟨d', e1, e2⟩ := hw
    show P (exitQ 0 d h)
    unfold exitQ
    rw [List.take_zero]
    simp only [e1, optAll_nil, Nat.zero_le, if_true]
    exact e2
  | next σ h =>
    show P (exitQ 0 .non h)
    unfold exitQ
    rw [List.take_zero]
    simp only [frzQ_non, optAll_nil, Nat.zero_le, if_true]
    exact hw
  | exc x σ h =>
    cases x with
    | mk c p =>
      cases p with
      | none =>
        show P (exitX 0 ⟨c, none⟩ h)
        unfold exitX
        rw [List.take_zero]
        simp only [optAll_nil, Nat.zero_le, if_true]
        exact hw
      | some q =>
        obtain ⟨f, d⟩ := q
        obtain ⟨d', e1, e2⟩ := hw
        show P (exitX 0 ⟨c, some (f, d)⟩ h)
        unfold exitX
        rw [List.take_zero]
        simp only [e1, optAll_nil, Nat.zero_le, if_true]
        exact e2
  | brk σ h => exact hw.elim
  | cont σ h => exact hw.elim
  | stuck => exact hw.elim
theorem cQ {sem : List D → Hv → R D} {ds : List D} {d : D} (e : sem ds [] = .ok d []) (hp : noCL ds = true) (h : Hv) : callQ sem ds h = .ok d h := by
  unfold callQ
  rw [if_pos hp, e]
theorem cQX {sem : List D → Hv → R D} {ds : List D} {x : Xn} (e : sem ds [] = .exc x []) (hp : noCL ds = true) (h : Hv) : callQ sem ds h = .exc x h := by
  unfold callQ
  rw [if_pos hp, e]
/-! xs.index(s), texts -/
def firstIxS (n : Str) : List Str → Option Nat
  | [] => none
  | x :: xs => if x = n then some 0 else (firstIxS n xs).map (· + 1)
theorem firstIxS_ok {n : Str} : ∀ {xs : List Str} {j : Nat}, firstIxS n xs = some j → xs[j]? = some n ∧ ∀ m z, m < j → xs[m]? = some z → z ≠ n
  | [], j, h => by cases h
  | x :: xs, j, h => by
    simp only [firstIxS] at h
    split at h
    · next q =>
      cases h
      subst q
      exact ⟨rfl, fun m z hm => by omega⟩
    · next q =>
      obtain ⟨k, hk, rfl⟩ := Option.map_eq_some_iff.mp h
      obtain ⟨h1, h2⟩ := firstIxS_ok hk
      refine ⟨by rw [List.getElem?_cons_succ]; exact h1, fun m z hm hz => ?_⟩
      cases m with
      | zero =>
        rw [List.getElem?_cons_zero] at hz
        cases hz
        exact q
      | succ m =>
        rw [List.getElem?_cons_succ] at hz
        exact h2 m z (by omega) hz
def mIndexS : D → List D → Hv → R D := fun x ds h => match ds with
  | [.str i] => (match (lOf h x).bind (optAll toS) with
    | some ns => (match firstIxS i ns with
      | some j => .ok (.int (j : Nat)) h
      | none => .stuck)
    | none => .stuck)
  | _ => .stuck
theorem ms_indexS {K : PySem.W.Frag} : MtS K (rIndex K) mIndexS := by
  intro φ S H h x v ds vs Q E rl rx ra post
  unfold mIndexS at post
  split at post
  · next i =>
    split at post
    · next ns hn =>
      split at post
      · next j hj =>
        obtain ⟨xs, q1, q2⟩ := Option.bind_eq_some_iff.mp hn
        obtain ⟨a, vs, rfl, h2, h3⟩ := lOf_ok rl rx q1
        rw [toSs_ok h3 q2] at h2
        obtain ⟨u, rfl, ru⟩ := ra.one
        cases ru
        obtain ⟨f1, f2⟩ := firstIxS_ok hj
        refine ⟨a, ns.map V.str, .str i, j, .str i, rfl, rfl, h2, rfl, List.all_eq_true.mpr fun z hz => ?_, by rw [List.getElem?_map, f1]; rfl, (by simp [eqV]), fun m z' hm hz' => ?_, post _ φ S H rl (Step.refl _ _ _) (.int _)⟩
        · obtain ⟨k, _, rfl⟩ := List.mem_map.mp hz
          rfl
        · rw [List.getElem?_map] at hz'
          obtain ⟨k, hk, rfl⟩ := Option.map_eq_some_iff.mp hz'
          have := f2 m k hm hk
          simp [eqV, this]
      · exact post.elim
    · exact post.elim
  · exact post.elim
end
end VD

set_option Elab.async false
set_option linter.all false
set_option maxRecDepth 100000
set_option maxHeartbeats 4000000
namespace VD
open PySem PySem.Spec PyProof.Rows L2
noncomputable section
/-! ### several except clauses, each with the caught error's name (slot i) -/
abbrev Cls := Addr → Value → Option Addr → TS
/-- behind a clause its name is forgotten -/
def gone (i : Nat) (D : Ends) : Ends := { nx := fun σ H => D.nx (σ.set i none) H, rt := D.rt, bk := fun σ H => D.bk (σ.set i none) H, ct := fun σ H => D.ct (σ.set i none) H }
/-- what the clauses wish of an error -/
def wMs (K : PySem.W.Frag) (i : Nat) (Wout : WX) (D : Ends) : List (Value × Cls) → WX
  | [] => Wout
  | (c, ts) :: r => fun cls d σ H => ∃ b, PySem.W.exmOne K cls c = some b ∧ (b = true → ∀ a, H a = none → ts a cls d (gone i D) (σ.set i (some (.ref a))) H) ∧ (b = false → wMs K i Wout D r cls d σ H)
inductive HdsM (X : Cx) (n : Str) : List ExceptHandler → List (Value × Cls) → Prop
  | nil : HdsM X n [] []
  | cons {x : Str} {c : Value} {ts : Cls} {b₀ : Stmt} {suite : List Stmt} {np pos' : Pos} {hds : List ExceptHandler} {l : List (Value × Cls)} (hc : Names X x c)
      (hsu : ∀ (a : Addr) (oe : Obj) (cls : Value) (d : Option Addr) (pn : List (Addr × Obj)), Zc cls d oe → (∃ vs, oe.data = .fields vs) → PSs (X.suite a ((a, oe) :: pn)) (b₀ :: suite) (ts a cls d)) (r : HdsM X n hds l) :
      HdsM X n (.ExceptHandler (some (.Name x np)) (some n) (b₀ :: suite) pos' :: hds) ((c, ts) :: l)
/-- an error in the air: what is known of it while the clauses are tried -/
structure Air (X : Cx) (pins : List (Addr × Obj)) (σ : L2.St) (H : Hp) (B : Heap) (sI s : Shared) (a : Addr) (cls : Value) (d : Option Addr) : Prop where
  I : Inv X pins σ H sI
  nb : ∀ b o, sI.heap.get? b = some o → b ∉ frs X.stack → B.get? b = some o
  up : sI.heap.UpToSlots s.heap
  fl : HandSPX.FlyingZ B (X.env :: X.outer) a (Zc cls d) s.heap
  na : H a = none
  os : sI.os = s.os
  ag : AllBare s.gens
section
variable {X : Cx} {n : Str} {i : Nat} {hds : List ExceptHandler} {l : List (Value × Cls)} {pos : Pos} {tb : WX → TS} {Wout : WX} {pins : List (Addr × Obj)} {σ : L2.St} {H : Hp} {B : Heap} {sI s : Shared} {a : Addr} {cls : Value} {d : Option Addr} {D : Ends}
theorem Air.inv (x : Air X pins σ H B sI s a cls d) : Inv X pins σ H s := by
  obtain ⟨hp, os, gs, ds, ts⟩ := s
  exact x.I.landed x.nb x.fl.1 x.up x.os.symm x.ag
/-- the error's object lies apart from the frames -/
theorem Air.apart (x : Air X pins σ H B sI s a cls d) (hs : X.stack = X.env :: X.outer) (hf : X.env.frame = some X.env.locals) : ∃ oe vs, s.heap.get? a = some oe ∧ Zc cls d oe ∧ oe.data = .fields vs ∧ a ≠ X.env.locals ∧ a ∉ X.fs := by
  obtain ⟨oe, vs, he, hz, hd⟩ := x.fl.there
  have nfr : a ∉ frs (X.env :: X.outer) := fun hm => by
    obtain ⟨_, o', e', hnf⟩ := x.fl.2.2.1.mem hm
    rw [he] at e'; cases e'
    exact hnf _ hd
  refine ⟨oe, vs, he, hz, hd, fun z => nfr (List.mem_filterMap.mpr ⟨X.env, List.mem_cons_self, by rw [hf, z]⟩), fun hm => ?_⟩
  obtain ⟨e, he, q⟩ := List.mem_filterMap.mp hm
  exact nfr (List.mem_filterMap.mpr ⟨e, List.mem_cons_of_mem _ he, q⟩)
/-- the suite of the clause that takes it -/
theorem Air.suite (x : Air X pins σ H B sI s a cls d) (hs : X.stack = X.env :: X.outer) (hf : X.env.frame = some X.env.locals) (hN : X.N.Nodup) (hi : X.N[i]? = some n) (hln : X.env.kindOf n = some .local)
    {ts : Cls} {b₀ : Stmt} {suite : List Stmt} {pos' : Pos} {E : Value → Shared → Prop} {R : Flow → Shared → Prop}
    (hsu : ∀ (oe : Obj) (pn : List (Addr × Obj)), Zc cls d oe → (∃ vs, oe.data = .fields vs) → PSs (X.suite a ((a, oe) :: pn)) (b₀ :: suite) (ts a cls d)) (w : ts a cls d (gone i D) (σ.set i (some (.ref a))) H)
    (hR : ∀ f s', wpAny (model X.prog X.w) X.A (do bindName X.env n .none; unbindBehindTheSuite X.env n pos') (fun _ s2 => L2.SP X pins D f s2) X.xe s' → R f s') :
    wpAny (model X.prog X.w) (X.A.mark (some (.ref a))) (storeName X.env n (.ref a)) (fun _ s2 => wpAny (model X.prog X.w) (X.A.mark (some (.ref a))) (execs (b₀ :: suite) X.env) R E s2) E s := by
  obtain ⟨oe, vs, he, hz, hd, nL, nF⟩ := x.apart hs hf
  have ok := x.I.ok
  refine store_ok (X := X.suite a ((a, oe) :: (X.pn ++ pins))) (v := .ref a) (x.inv.suite he hd x.na nL nF) hN hi (.inl hln) rfl (fun s5 S5 => ?_) (.inr hln)
  refine wpAny_mono ((hsu oe (X.pn ++ pins) hz ⟨_, hd⟩).run [] s5 _ H _ S5 w) (fun f s6 q => hR f s6 ?_) (fun _ _ z => False.elim z)
  cases f with
  | next =>
    obtain ⟨_, _, S6, q6⟩ := q
    exact gone_ok (S6.unsuite ok) hN hi hln fun s7 J7 => ⟨_, _, J7, q6⟩
  | brk =>
    obtain ⟨_, _, S6, q6⟩ := q
    exact gone_ok (S6.unsuite ok) hN hi hln fun s7 J7 => ⟨_, _, J7, q6⟩
  | cont =>
    obtain ⟨_, _, S6, q6⟩ := q
    exact gone_ok (S6.unsuite ok) hN hi hln fun s7 J7 => ⟨_, _, J7, q6⟩
  | ret u =>
    obtain ⟨_, _, _, S6, r6, q6⟩ := q
    exact gone_ok (S6.unsuite ok) hN hi hln fun s7 J7 => ⟨_, _, _, J7, r6, q6⟩
/-- no clause takes it -/
theorem Air.on (x : Air X pins σ H B sI s a cls d) (hs : X.stack = X.env :: X.outer) (hf : X.env.frame = some X.env.locals) (tk : Takes X Wout) (w : Wout cls d σ H) {Q : Flow → Shared → Prop} :
    wpAny (model X.prog X.w) X.A (handleBy (.ref a) X.env []) Q X.xe s := by
  refine wpAny_handleBy_nil ?_
  obtain ⟨_, _, _, oe, vs, T, oT, ts', he, hz, hd, h1, hr⟩ := id x.fl
  unfold PySem.passOn
  refine wpAny_bind (wpAny_field he hd h1 ?_)
  rw [if_neg (show ¬ ((Value.ref T == Value.none) = true) from by simp)]
  have fin : wpAny (model X.prog X.w) X.A (setFlight (.ref a) X.env.frame) (fun _ s4 => wpAny (model X.prog X.w) X.A (throw (.ref a) : Sem Flow) Q X.xe s4) X.xe s := by
    rw [hf]
    refine HandSPX.setFlight_upZ x.fl fun h4 hh4 up4 => wpAny_throw (tk _ _ ?_)
    exact ⟨a, B, sI, pins, σ, H, cls, d, rfl, x.I, x.nb, x.up.trans up4, .inr (.inr (by rw [hs]; exact hh4)), x.na, x.os.symm, x.ag, w⟩
  first
    | exact wpAny_bind (wpAny_pure (wpAny_bind fin))
    | exact wpAny_bind fin
theorem Air.hand (hs : X.stack = X.env :: X.outer) (hf : X.env.frame = some X.env.locals) (hN : X.N.Nodup) (hi : X.N[i]? = some n) (hln : X.env.kindOf n = some .local) (tk : Takes X Wout) (hk : HdsM X n hds l) :
    ∀ {s : Shared}, Air X pins σ H B sI s a cls d → wMs X.K i Wout D l cls d σ H → wpAny (model X.prog X.w) X.A (handleBy (.ref a) X.env hds) (L2.SP X pins D) X.xe s := by
  induction hk with
  | nil => exact fun {s} x w => x.on hs hf tk w
  | @cons x c ts b₀ suite np pos' hds2 l2 hc hsu r ih =>
    intro s y w
    obtain ⟨b, hb1, hyes, hno⟩ := w
    obtain ⟨oe, vs, he, hz, hd, nL, nF⟩ := y.apart hs hf
    refine wpAny_handleBy_cons (codeAny_handlers_test ?_) (by intro q; cases q)
    have LM := PySem.W.exm_one (M := model X.prog X.w) y.inv.kIn (fun A Q E s k q => wpAny_typeOf_ref (k _ _ he) (by rw [hz.1]; exact q)) hb1
    have S := y.inv.suite he hd y.na nL nF
    have test : ∀ {Q : Value → Shared → Prop} {E : Value → Shared → Prop}, Q c s → wpAny (model X.prog X.w) (X.A.mark (some (.ref a))) (eval (.Name x np) X.env) Q E s := fun {Q E} q => by
      obtain ⟨hg, hdbg, hm | ⟨hm, hv, hnn⟩⟩ := hc
      · exact ld_glob (X := X.suite a ((a, oe) :: (X.pn ++ pins))) S hg hm q hdbg
      · exact ld_blt (X := X.suite a ((a, oe) :: (X.pn ++ pins))) S hg hm hv q hnn hdbg
    refine test (LM.here ?_)
    cases b with
    | false =>
      show wpAny _ X.A (handleBy (.ref a) X.env hds2) _ _ _
      exact ih y (hno rfl)
    | true =>
      refine codeAny_handlers_suite_as ?_
      refine HandSPX.lands_againZ y.fl fun h4 fl4 up4 => ?_
      have y4 : Air X pins σ H B sI { s with heap := h4 } a cls d := ⟨y.I, y.nb, y.up.trans up4, fl4, y.na, y.os, y.ag⟩
      refine wpAny_mono (y4.suite (pos' := pos') (E := fun _ _ => False) hs hf hN hi hln (fun oe pn => hsu a oe cls d pn) (hyes rfl a y.na) (fun f s' z => z)) (fun _ s2 z => wpAny_mono z (fun f s3 q => ?_) fun _ _ z => z.elim) fun _ _ z => z.elim
      cases f <;> exact q
theorem ps_try_ms (hs : X.stack = X.env :: X.outer) (hf : X.env.frame = some X.env.locals) (hN : X.N.Nodup) (hi : X.N[i]? = some n) (hln : X.env.kindOf n = some .local) (tk : Takes X Wout) {h₀ : ExceptHandler} {body : List Stmt}
    (hb : ∀ (W : WX) (pn : List (Addr × Obj)) (xe : Value → Shared → Prop), Takes (X.tr pn xe) W → PassesOwn (model X.prog X.w) X.A X.env xe → PSs (X.tr pn xe) body (tb W))
    (hh : HdsM X n (h₀ :: hds) l) : PS X (.Try body (h₀ :: hds) [] [] pos) (fun D σ H => tb (wMs X.K i Wout D l) D σ H) := by
  refine ⟨fun pins s σ H D I h => ?_⟩
  have ok := I.ok
  refine wpAny_Try_except ?_
  have caught : ∀ u s', XE (X.tr (X.pn ++ pins) (fun e s₁ => wpAny (model X.prog X.w) X.A (noteFrame e X.env) (fun _ s₂ => wpAny (model X.prog X.w) X.A (setFlight e none) (fun _ s₃ =>
      wpAny (model X.prog X.w) X.A (handleBy e X.env (h₀ :: hds)) (L2.SP X pins D) X.xe s₃) X.xe s₂) X.xe s₁)) (wMs X.K i Wout D l) u s' → wpAny (model X.prog X.w) X.A (noteFrame u X.env) (fun _ s₂ => wpAny (model X.prog X.w) X.A (setFlight u none) (fun _ s₃ =>
      wpAny (model X.prog X.w) X.A (handleBy u X.env (h₀ :: hds)) (L2.SP X pins D) X.xe s₃) X.xe s₂) X.xe s' := fun u s' xx => by
    obtain ⟨a, B, sI, pins', σ', H', cls, d, rfl, J', nb, up, sky, na, os, ag, w⟩ := xx
    have sky' : Sky B (X.env :: X.outer) a (Zc cls d) X.env.locals s'.heap := by rw [← hs]; exact sky
    refine Sky.land Zc.steady (by rw [ok.frames, hs]) hf sky' fun h3 fl3 up3 => ?_
    exact Air.hand hs hf hN hi hln tk hh (s := { s' with heap := h3 }) ⟨J'.ofTry ok, nb, up.trans up3, fl3, na, os.symm, ag⟩ w
  refine wpAny_mono ((hb _ (X.pn ++ pins) _ (fun u s' xx => caught u s' xx) PassesOwn.looking).run [] s σ H D (I.toTry _) h) (fun f s1 q => ?_) (fun e s1 he => he)
  cases f with
  | next =>
    obtain ⟨_, _, J, q⟩ := q
    exact wpAny_execs_nil ⟨_, _, J.ofTry ok, q⟩
  | brk =>
    obtain ⟨_, _, J, q⟩ := q
    exact ⟨_, _, J.ofTry ok, q⟩
  | cont =>
    obtain ⟨_, _, J, q⟩ := q
    exact ⟨_, _, J.ofTry ok, q⟩
  | ret u =>
    obtain ⟨_, _, _, J, r, q⟩ := q
    exact ⟨_, _, _, J.ofTry ok, r, q⟩
end
/-- what the clauses make of an error -/
def hdsR (tb : Str → Str → Option Bool) (i : Nat) : List (Str × (Xn → Addr → Addr → SS)) → Xn → VS → Hv → RS
  | [], x, σ, h => .exc x σ h
  | (y, den) :: r, x, σ, h => match tb x.cls y with
    | some true => tryA i x.pay (den x) σ h
    | some false => hdsR tb i r x σ h
    | none => .stuck
def sTryMs (tb : Str → Str → Option Bool) (i : Nat) (l : List (Str × (Xn → Addr → Addr → SS))) (body : SS) : SS := fun σ h => match body σ h with
  | .exc x σ' h' => hdsR tb i l x σ' h'
  | r => r
def clsOf (K : PySem.W.Frag) (tb : Str → Str → Option Bool) (p : Str × (Xn → Addr → Addr → SS)) : Value × Cls :=
  (.ref (He.ga K p.1), fun a cls d D σ H => ∃ (x : Xn) (dd : Addr), tb x.cls p.1 = some true ∧ cls = .ref (He.ga K x.cls) ∧ d = exA dd x.pay ∧ TSof K W00 (p.2 x a dd) D σ H)
inductive HdsQ (X : Cx) (n : Str) (tb : Str → Str → Option Bool) : List ExceptHandler → List (Str × (Xn → Addr → Addr → SS)) → Prop
  | nil : HdsQ X n tb [] []
  | cons {y : Str} {den : Xn → Addr → Addr → SS} {b₀ : Stmt} {suite : List Stmt} {np pos' : Pos} {hds : List ExceptHandler} {l : List (Str × (Xn → Addr → Addr → SS))} (g : X.mg y = some (.ref (He.ga X.K y)))
      (hsu : ∀ (x : Xn) (a dd : Addr) (oe : Obj) (pn : List (Addr × Obj)), tb x.cls y = some true → Zc (.ref (He.ga X.K x.cls)) (exA dd x.pay) oe → (∃ vs, oe.data = .fields vs) → QB (X.suite a ((a, oe) :: pn)) W00 (b₀ :: suite) (den x a dd))
      (r : HdsQ X n tb hds l) (hg : Gl X y := by rfl) (hdb : (y == ("__debug__" : Str)) = false := by decide) :
      HdsQ X n tb (.ExceptHandler (some (.Name y np)) (some n) (b₀ :: suite) pos' :: hds) ((y, den) :: l)
theorem HdsQ.hm {X : Cx} {n : Str} {tb : Str → Str → Option Bool} {hds : List ExceptHandler} {l : List (Str × (Xn → Addr → Addr → SS))} (q : HdsQ X n tb hds l) : HdsM X n hds (l.map (clsOf X.K tb)) := by
  induction q with
  | nil => exact .nil
  | @cons y den b₀ suite np pos' hds l g hsu r hg hdb ih =>
    refine .cons ⟨hg, hdb, .inl g⟩ (fun a oe cls d pn z hfl => ⟨fun pins s σ H D I h => ?_⟩) ih
    obtain ⟨x, dd, hc, rfl, rfl, h⟩ := h
    exact (psof (hsu x a dd oe pn hc z hfl)).run pins s σ H D I h
theorem post_hds {K : PySem.W.Frag} {tb : Str → Str → Option Bool} (tok : TabOk K tb) {W : WX} {i : Nat} {D : Ends} {x : Xn} {cls : Value} {dd : Option Addr} {φ φ' : List Addr} {S S' H H' : Hp} {σ' : VS} {h' : Hv} {σ1 : L2.St}
    (r2 : Rel K φ' S' H' h') (rs2 : RelS K φ' S' σ' σ1) (st : Step φ S H φ' S' H') (rx : RpX K φ' S' H' x cls dd) : ∀ l : List (Str × (Xn → Addr → Addr → SS)), PostS K φ S H (hdsR tb i l x σ' h') D W → wMs K i W D (l.map (clsOf K tb)) cls dd σ1 H'
  | [], post => post σ1 cls dd φ' S' H' r2 rs2 st rx
  | (y, den) :: l, post => by
    have e1 := rx.1
    have rx2 := rx.2
    unfold hdsR at post
    cases qt : tb x.cls y with
    | none => simp only [qt] at post; exact post.elim
    | some b =>
      refine ⟨b, by rw [e1]; exact tok _ _ _ qt, fun hb1 a ha => ?_, fun hb1 => ?_⟩
      · subst hb1
        simp only [qt] at post
        have nst : tryA i x.pay (den x) σ' h' ≠ .stuck := fun z => by rw [z] at post; exact post.elim
        obtain ⟨d0, ed, rm⟩ : ∃ d0, dd = exA d0 x.pay ∧ Rp K φ' S' (.ref a) (exD a d0 x.pay) := by
          cases qp : x.pay with
          | none =>
            rw [qp] at rx2
            exact ⟨0, rx2, .raw _⟩
          | some p =>
            obtain ⟨f, d⟩ := p
            rw [qp] at rx2
            obtain ⟨dx, v, e1, e2, e3⟩ := rx2
            exact ⟨dx, e1, .exv e2 e3⟩
        refine ⟨x, d0, qt, e1, ed, φ', S', h', σ'.set i (exM a d0 x.pay), r2, rs2.set rm i, ?_⟩
        rw [← tryA_at nst a d0] at post
        show PostS K φ' S' H' (den x a d0 (σ'.set i (exM a d0 x.pay)) h') (gone i D) W00
        cases qd : den x a d0 (σ'.set i (exM a d0 x.pay)) h' with
        | next σ2 h2 =>
          simp only [qd, wipeR] at post
          exact fun σ3 φ3 S3 H3 r3 rs3 st3 => post _ φ3 S3 H3 r3 (rs3.unset i none) (st.trans st3)
        | brk σ2 h2 =>
          simp only [qd, wipeR] at post
          exact fun σ3 φ3 S3 H3 r3 rs3 st3 => post _ φ3 S3 H3 r3 (rs3.unset i none) (st.trans st3)
        | cont σ2 h2 =>
          simp only [qd, wipeR] at post
          exact fun σ3 φ3 S3 H3 r3 rs3 st3 => post _ φ3 S3 H3 r3 (rs3.unset i none) (st.trans st3)
        | ret d h2 =>
          simp only [qd, wipeR] at post
          exact fun v φ3 S3 H3 r3 st3 rv => post v φ3 S3 H3 r3 (st.trans st3) rv
        | exc x2 σ2 h2 => simp only [qd, wipeR] at post; exact post.elim
        | stuck => simp only [qd, wipeR] at post; exact post.elim
      · subst hb1
        simp only [qt] at post
        exact post_hds tok r2 rs2 st rx l post
theorem qs_try_ms {X : Cx} {W : WX} {n : Str} {i : Nat} {body : List Stmt} {h₀ : ExceptHandler} {hds : List ExceptHandler} {pos : Pos} {tb : Str → Str → Option Bool} {bs : SS} {l : List (Str × (Xn → Addr → Addr → SS))} (tk : Takes X W) (tok : TabOk X.K tb)
    (hb : ∀ (W : WX) (pn : List (Addr × Obj)) (xe : Value → Shared → Prop), Takes (X.tr pn xe) W → PassesOwn (model X.prog X.w) X.A X.env xe → QB (X.tr pn xe) W body bs)
    (hh : HdsQ X n tb (h₀ :: hds) l)
    (hN : X.N.Nodup) (hi : X.N[i]? = some n := by rfl) (hs : X.stack = X.env :: X.outer := by rfl) (hf : X.env.frame = some X.env.locals := by rfl) (hln : X.env.kindOf n = some .local := by rfl) :
    QS X W (.Try body (h₀ :: hds) [] [] pos) (sTryMs tb i l bs) := by
  refine ⟨_, ps_try_ms (tb := fun W => TSof X.K W bs) (Wout := W) hs hf hN hi hln tk (fun W pn xe t1 t2 => psof (hb W pn xe t1 t2)) hh.hm, ⟨fun {φ S H h σv σ D} rl rs post => ?_⟩⟩
  refine ⟨φ, S, h, σv, rl, rs, ?_⟩
  unfold sTryMs at post
  cases qb : bs σv h with
  | next σ' h' => simp only [qb] at post; exact post
  | brk σ' h' => simp only [qb] at post; exact post
  | cont σ' h' => simp only [qb] at post; exact post
  | ret d h' => simp only [qb] at post; exact post
  | stuck => simp only [qb] at post; exact post.elim
  | exc x σ' h' =>
    simp only [qb] at post
    exact fun σ1 cls dd φ' S' H' r2 rs2 st rx => post_hds tok r2 rs2 st rx l post
/-! Wp -/
def Tm (Q : RS → Prop) (tb : Str → Str → Option Bool) (i : Nat) (l : List (Str × (Xn → Addr → Addr → SS))) (r : RS) : Prop := match r with
  | .exc x σ h => Wp Q (hdsR tb i l x σ h)
  | r => Wp Q r
section
variable {Q : RS → Prop} {tb : Str → Str → Option Bool} {y : Str} {i : Nat} {l : List (Str × (Xn → Addr → Addr → SS))} {suite : Xn → Addr → Addr → SS} {body : SS} {σ : VS} {h : Hv} {x : Xn} {d : D} {r : RS}
@[simp] theorem Wp_tryms : Wp Q (sTryMs tb i l body σ h) = Wp (Tm Q tb i l) (body σ h) := by
  unfold sTryMs
  cases body σ h <;> (rw [Wp.eq (Tm Q tb i l)]; rfl)
@[simp] theorem Wp_tm_next : Wp (Tm Q tb i l) (.next σ h) = Wp Q (.next σ h) := Wp.eq _ _
@[simp] theorem Wp_tm_ret : Wp (Tm Q tb i l) (.ret d h) = Wp Q (.ret d h) := Wp.eq _ _
@[simp] theorem Wp_tm_brk : Wp (Tm Q tb i l) (.brk σ h) = Wp Q (.brk σ h) := Wp.eq _ _
@[simp] theorem Wp_tm_cont : Wp (Tm Q tb i l) (.cont σ h) = Wp Q (.cont σ h) := Wp.eq _ _
@[simp] theorem Wp_tm_stuck : Wp (Tm Q tb i l) .stuck = Wp Q .stuck := Wp.eq _ _
@[simp] theorem Wp_tm_exc : Wp (Tm Q tb i l) (.exc x σ h) = Wp Q (hdsR tb i l x σ h) := Wp.eq _ _
theorem hdsR_no {x : Xn} (e : tb x.cls y = some false) : hdsR tb i ((y, suite) :: l) x σ h = hdsR tb i l x σ h := by
  rw [hdsR]; simp only [e]
@[simp] theorem hdsR_nil {x : Xn} : hdsR tb i [] x σ h = .exc x σ h := rfl
theorem Wp_hdsR {x : Xn} (r : RS) (t : tb x.cls y = some true) (hr : ∀ a dd, Wp (Wy (Is r) i) (suite x a dd (σ.set i (exM a dd x.pay)) h)) (q : Wp Q r) : Wp Q (hdsR tb i ((y, suite) :: l) x σ h) := by
  have z := Wp_tryR (Q := Q) (tb := tb) (y := y) (suite := suite) r t hr q
  unfold tryR at z
  rw [t] at z
  rw [hdsR]; simp only [t]
  exact z
end
theorem lLc_pick {α β : Type} {is : IS} {gd : GD} {el : ES} {own : List Nat} {σ : VS} {h h0 : Hv} {chk : Hv → Bool} (enc : α → D) (e2 : β → D) (P : α → β → Prop) (xs : List α) (his : is σ h = .ok (xs.map enc, chk) h0) (hc : chk h0 = true) (hl : xs.length ≤ 16777216)
    (q : ∀ a ∈ xs, ∃ (σ1 : VS) (b : β), gd (enc a) (wipeV σ own) = some σ1 ∧ el σ1 h0 = .ok (e2 b) h0 ∧ P a b) : ∃ ys : List β, lLc is gd cYes el own σ h = .ok (ys.map e2) h0 ∧ ys.length = xs.length ∧ ∀ (i : Nat) a b, xs[i]? = some a → ys[i]? = some b → P a b := by
  obtain ⟨f, e, hf⟩ := lLc_ex enc (fun a d => ∃ b, d = e2 b ∧ P a b) xs his hc hl fun a ha => by
    obtain ⟨σ1, b, e1, e2', p⟩ := q a ha
    exact ⟨σ1, _, e1, e2', b, rfl, p⟩
  clear q his
  have key : ∃ ys : List β, xs.map f = ys.map e2 ∧ ys.length = xs.length ∧ ∀ (i : Nat) a b, xs[i]? = some a → ys[i]? = some b → P a b := by
    clear e hl
    induction xs with
    | nil => exact ⟨[], rfl, rfl, fun i a b h => by simp at h⟩
    | cons a xs ih =>
      obtain ⟨ys, y1, y2, y3⟩ := ih fun a ha => hf a (List.mem_cons_of_mem _ ha)
      obtain ⟨b, b1, b2⟩ := hf a List.mem_cons_self
      refine ⟨b :: ys, by rw [List.map_cons, List.map_cons, y1, b1], by rw [List.length_cons, List.length_cons, y2], fun i a' b' h1 h2 => ?_⟩
      cases i with
      | zero => cases h1; cases h2; exact b2
      | succ i => exact y3 i a' b' h1 h2
  obtain ⟨ys, y1, y2, y3⟩ := key
  exact ⟨ys, by rw [e, y1], y2, y3⟩
end
end VD

set_option Elab.async false
set_option linter.all false
set_option maxRecDepth 100000
set_option maxHeartbeats 4000000
namespace VD
open PySem PySem.Spec PyProof.Rows L2
noncomputable section
/-! ### len(set(xs)), xs a list of whole numbers and texts -/
section
variable {κ : Type} [DecidableEq κ]
def met1 (σ : List κ) (v : κ) : List κ := if v ∈ σ then σ else σ ++ [v]
/-- each thing once, as first met -/
def once (xs : List κ) : List κ := xs.foldl met1 []
def inK (σ : List κ) (k : κ) : Bool := decide (k ∈ σ)
theorem inK_iff {σ : List κ} {k : κ} : inK σ k = true ↔ k ∈ σ := decide_eq_true_iff
theorem once_snoc (xs : List κ) (v : κ) : once (xs ++ [v]) = met1 (once xs) v := by unfold once; rw [List.foldl_append]; rfl
theorem met1_mem {σ : List κ} {v k : κ} : k ∈ met1 σ v ↔ k ∈ σ ∨ k = v := by
  unfold met1
  split
  · next q => exact ⟨.inl, fun z => z.elim id fun z => by rw [z]; exact q⟩
  · simp
theorem met1_len {σ : List κ} {v : κ} : (met1 σ v).length = if v ∈ σ then σ.length else σ.length + 1 := by unfold met1; split <;> simp
theorem once_len (xs : List κ) : (once xs).length ≤ xs.length := by
  have key : ∀ n (xs : List κ), xs.length = n → (once xs).length ≤ xs.length := by
    intro n
    induction n with
    | zero => intro xs h; rw [List.length_eq_zero_iff.mp h]; exact Nat.le_refl _
    | succ n ih =>
      intro xs h
      rcases List.eq_nil_or_concat xs with z | ⟨ys, y, z⟩
      · rw [z]; exact Nat.le_refl _
      · subst z
        rw [List.concat_eq_append] at h ⊢
        rw [once_snoc, met1_len]
        have := ih ys (by simpa using h)
        simp
        split <;> omega
  exact key _ xs rfl
theorem once_mem {xs : List κ} {k : κ} : k ∈ once xs ↔ k ∈ xs := by
  have key : ∀ n (xs : List κ), xs.length = n → (k ∈ once xs ↔ k ∈ xs) := by
    intro n
    induction n with
    | zero => intro xs h; rw [List.length_eq_zero_iff.mp h]; exact Iff.rfl
    | succ n ih =>
      intro xs h
      rcases List.eq_nil_or_concat xs with z | ⟨ys, y, z⟩
      · rw [z]; exact Iff.rfl
      · subst z
        rw [List.concat_eq_append] at h ⊢
        rw [once_snoc, met1_mem, ih ys (by simpa using h)]
        simp
  exact key _ xs rfl
theorem once_nd (xs : List κ) : (once xs).Nodup := by
  have key : ∀ n (xs : List κ), xs.length = n → (once xs).Nodup := by
    intro n
    induction n with
    | zero => intro xs h; rw [List.length_eq_zero_iff.mp h]; exact List.nodup_nil
    | succ n ih =>
      intro xs h
      rcases List.eq_nil_or_concat xs with z | ⟨ys, y, z⟩
      · rw [z]; exact List.nodup_nil
      · subst z
        rw [List.concat_eq_append] at h ⊢
        rw [once_snoc]
        have := ih ys (by simpa using h)
        unfold met1
        split
        · exact this
        · next q =>
          rw [List.nodup_append]
          exact ⟨this, by simp, fun a ha b hb z => by rw [List.mem_singleton.mp hb] at z; exact q (z ▸ ha)⟩
  exact key _ xs rfl
end
section
variable {prog : Program} {w : World} {A : Around} {R : Result → Shared → Prop} {I : Addr} {fp wr : List Addr} {G : Array GenState → Array GenState → Prop} {n : Nat} {PV : Nat → Value → Prop} {St : Nat → Shared → Prop}
abbrev MSet (prog : Program) (w : World) (h : Heap) (a : Addr) (ks : List Key) : Prop := h.SetOf (mixKind prog w) a (fun k => inK (once ks) k) (once ks).length
theorem MSet.moved {prog : Program} {w : World} {h h' : Heap} {a : Addr} {ks : List Key} (m : MSet prog w h a ks) (k : ∀ o, h.get? a = some o → h'.get? a = some o) : MSet prog w h' a ks := setOf_at m k
theorem MSet.more {prog : Program} {w : World} {h : Heap} {a : Addr} {ks : List Key} {x : Key} (m : h.SetOf (mixKind prog w) a (fun k => inK (once ks) k || decide (k = x)) (if inK (once ks) x = true then (once ks).length else (once ks).length + 1)) : MSet prog w h a (ks ++ [x]) := by
  have e1 : (fun k => inK (once ks) k || decide (k = x)) = fun k => inK (once (ks ++ [x])) k := funext fun k => by
    rw [once_snoc]
    apply Bool.eq_iff_iff.mpr
    rw [Bool.or_eq_true, inK_iff, inK_iff, met1_mem, decide_eq_true_iff]
  have e2 : (if inK (once ks) x = true then (once ks).length else (once ks).length + 1) = (once (ks ++ [x])).length := by
    rw [once_snoc, met1_len]
    by_cases q : x ∈ once ks
    · rw [if_pos (inK_iff.mpr q), if_pos q]
    · rw [if_neg (fun z => q (inK_iff.mp z)), if_neg q]
  unfold MSet
  rw [← e1, ← e2]
  exact m
theorem upd_keys (W : WalksS prog w A.in1 I fp wr G n PV St) (b : Addr) (nb : b ∉ fp) (ks : List Key) (hl : ks.length = n) (hv : ∀ i v k, PV i v → ks[i]? = some k → (mixKind prog w).is k v = true ∧ v.scannable = true) (few : n + 1 < scanBound) :
    ∀ (m i : Nat) (z : Shared), n - i = m → i ≤ n → St i z → MSet prog w z.heap b (ks.take i) →
      (∀ z2, Moved (b :: wr) G z z2 → MSet prog w z2.heap b ks → R (.ok (.ret .none)) z2) → codeAny (model prog w) A (.builtin "set.update.loop" ⟨[.ref b, .ref I], []⟩) R z := by
  have nw : b ∉ wr := fun q => nb (W.sub _ q)
  have sb : ∀ c ∈ wr, c ∈ b :: wr := fun c hc => List.mem_cons_of_mem _ hc
  intro m
  induction m with
  | zero =>
    intro i z hm hi st hs hr
    have : i = n := by omega
    subst this
    refine codeAny_builtin PyProof.Rows.F.entry_set_update_loop ?_
    rw [Around.under_plainId PyProof.Rows.F.plain_set_update_loop _]
    show wpAny _ A.in1 (pyNext (.ref I) >>= _) _ _ z
    refine wpAny_bind (W.done z _ _ st fun z2 mv => ?_)
    show wpAny _ A.in1 (ret Value.none) _ _ z2
    rw [List.take_of_length_le (by omega)] at hs
    exact wpAny_pure (hr z2 (mv.mono sb) (hs.moved fun o e => mv.heap b o nw e))
  | succ m ih =>
    intro i z hm hi st hs hr
    have lt : i < n := by omega
    have lk : i < ks.length := by omega
    refine codeAny_builtin PyProof.Rows.F.entry_set_update_loop ?_
    rw [Around.under_plainId PyProof.Rows.F.plain_set_update_loop _]
    show wpAny _ A.in1 (pyNext (.ref I) >>= _) _ _ z
    refine wpAny_bind (W.item i z _ _ lt st fun v z1 pv st1 mv => ?_)
    obtain ⟨hk, hsc⟩ := hv i v ks[i] pv (List.getElem?_eq_getElem lk)
    have s1 : MSet prog w z1.heap b (ks.take i) := hs.moved fun o e => mv.heap b o nw e
    show wpAny _ A.in1 (holding [v] (setAdd b v) >>= _) _ _ z1
    refine wpAny_bind (wpAny_holding ?_)
    unfold setAdd
    refine wpAny_holding (wpAny_bind ((mixKind prog w).pyHash (k := ks[i]) hk ?_))
    have room : (once (ks.take i)).length + 1 < scanBound := by
      have := once_len (ks.take i)
      rw [List.length_take] at this
      omega
    refine wpAny_setAddHashed_of (knd := mixKind prog w) (s := { z1 with toks := z1.toks + 1 }) hk hsc s1 room fun h2 same s2 => ?_
    have s3 : MSet prog w h2 b (ks.take (i + 1)) := by
      rw [List.take_succ, List.getElem?_eq_getElem lk]
      exact MSet.more s2
    refine wpAny_pure ⟨plainId_quiet PyProof.Rows.F.plain_set_update_loop _, ih (i + 1) _ (by omega) lt (W.frame _ z1 _ _ st1 (Nat.le_succ _) fun c hc o e => ?_) s3 fun z3 mv3 s4 => ?_⟩
    · rw [same.2 c (fun q : c = b => nb (by rw [← q]; exact hc))]; exact e
    · refine hr z3 (Moved.trans W.gtrans ((mv.mono sb).then_heap (Nat.le_succ _) fun c o hc e => ?_) mv3) s4
      rw [same.2 c (fun q : c = b => hc (by rw [q]; exact List.mem_cons_self))]; exact e
end
section
variable {prog : Program} {w : World} {A : Around} {E : Value → Shared → Prop} {s : Shared}
abbrev o0 (z : Bool) : Obj := { cls := .type "set", dict := none, data := .set #[] 0 (.fresh 0 0 z) }
theorem items_get {P : Program} {w : World} : ∀ {ks : List Key} {vs : List Value} {i : Nat} {k : Key} {v : Value}, ItemsAre (mixKind P w) ks vs → ks[i]? = some k → vs[i]? = some v → (mixKind P w).is k v = true
  | _, _, i, _, _, .nil, h, _ => by simp at h
  | _, _, 0, _, _, .cons a t, h1, h2 => by cases h1; cases h2; exact a
  | _, _, i + 1, _, _, .cons a t, h1, h2 => items_get (i := i) t h1 h2
theorem call_setK {l : Addr} {items : Array Value} {ks : List Key} {Q : Value → Shared → Prop} (nh : A.handled = none) (il : s.heap.IsList l items) (ik : ItemsAre (mixKind prog w) ks items.toList) (sc : ∀ v ∈ items.toList, v.scannable = true) (few : items.size + 1 < scanBound)
    (q : ∀ (h2 : Heap) (tk : Nat), MSet prog w h2 s.heap.objs.size ks → (∀ b o, b < s.heap.objs.size → s.heap.get? b = some o → h2.get? b = some o) → Q (.ref s.heap.objs.size) { s with heap := h2, toks := tk }) :
    wpAny (model prog w) A (call (.type "set") [.ref l]) Q E s := by
  obtain ⟨c, tl, hmro⟩ := PySem.F.called_set.mro; have hmade := PySem.F.called_set.made
  have hsub := PySem.F.called_set.sub; refine wpAny_call (codeAny_of_tree ?_)
  show wpAny _ _ (callAny (.type "set") _) _ _ _; refine wpAny_pure ⟨Code.quiet_builtin _ (by decide +kernel), codeAny_builtin PySem.F.entry_type_call ?_⟩
  rw [Around.under_plain (weight_type_call_type "set" [.ref l] []) rfl]; have h1 := PySem.F.called_set.notType
  have h2 := PySem.F.called_set.canCreate; have hct := PySem.F.typeCall_set_1 (.ref l)
  repeat (any_goals (first | assumption | wp_step))
  refine codeAny_mono (code_set_new_1 (.ref l) (E := E) (Q₁ := fun v z => ∃ b : Bool, v = .ref s.heap.objs.size ∧ z = { s with heap := s.heap.push (o0 b) }) fun b => ⟨b, rfl, rfl⟩) fun r z hr => ?_
  cases r with
  | error e => exact hr
  | ok fl =>
    cases fl with
    | ret v =>
      obtain ⟨bb, rfl, rfl⟩ := hr
      have gs : (s.heap.push (o0 bb)).get? s.heap.objs.size = some (o0 bb) := Heap.get?_push_size _ rfl
      have ts : Shared.TypeIs { s with heap := s.heap.push (o0 bb) } (.ref s.heap.objs.size) "set" := ⟨_, gs, rfl⟩
      have hli := PySem.F.called_set.init.lookup; have hbi := PySem.F.called_set.init.bind (.ref s.heap.objs.size)
      repeat (any_goals (first | assumption | wp_step))
      refine codeAny_mono (codeAny_call_builtin (R := wants (fun r z2 => r = .none ∧ ∃ h2 tk, z2 = { s with heap := h2, toks := tk } ∧ MSet prog w h2 s.heap.objs.size ks ∧ (∀ b o, b < s.heap.objs.size → s.heap.get? b = some o → h2.get? b = some o)) E) PySem.F.called_set.init.plain PySem.F.entry_set_init (check_set_init_1 ts ?_)) fun r₂ z2 hr₂ => ?_
      · obtain ⟨ol, hol, hcl, nl, hdl⟩ := il
        obtain ⟨xcls, xdict, xdata, xslots⟩ := ol
        simp only at hcl hdl
        subst hcl; subst hdl
        have hol' : (s.heap.push (o0 bb)).get? l = some { cls := .type "list", dict := xdict, data := .seq items nl, slots := xslots } := Heap.get?_push_of_some _ hol
        have hsls := PySem.F.sub_list_set; have hslf := PySem.F.sub_list_frozenset
        have ndc : (Value.type "list" == Value.type "dict") = false := by decide
        have hl1 : (s.heap.push (o0 bb)).IsList l items := ⟨_, hol', rfl, nl, rfl⟩
        unfold Builtin.«set.__init__» noKeywords Builtin.Frozenset.updateFrom
        generalize hPI : pyIter = PI
        wp_walk
        subst hPI
        refine wpAny_pyIter_list hl1 ?_
        refine wpAny_bind (wpAny_runValue ?_)
        have ls : l < s.heap.objs.size := Heap.lt_size hol
        have nh3 : A.in1.in1.in1.handled = none := by simp [nh]
        have ni : l ≠ (s.heap.push (o0 bb)).objs.size := by rw [Heap.size_push]; exact Nat.ne_of_lt (Nat.lt_succ_of_lt ls)
        have nf : s.heap.objs.size ∉ [(s.heap.push (o0 bb)).objs.size, l] := by
          rw [Heap.size_push]; simp only [List.mem_cons, List.mem_singleton, List.not_mem_nil, or_false, not_or]; exact ⟨Nat.ne_of_lt (Nat.lt_succ_self _), Nat.ne_of_gt ls⟩
        have lk : ks.length = items.size := by rw [← Array.length_toList]; exact ItemsAre.length ik
        have vk : ∀ (i : Nat) (v : Value) (k : Key), items[i]? = some v → ks[i]? = some k → (mixKind prog w).is k v = true ∧ v.scannable = true := fun i v k hv hk => by
          rw [← Array.getElem?_toList] at hv
          exact ⟨items_get ik hk hv, sc v (List.mem_of_getElem? hv)⟩
        refine upd_keys ((Walks.list nh3 _ l ni items).toS) s.heap.objs.size nf ks lk vk few (items.size - 0) 0 _ (by omega) (Nat.zero_le _) ⟨⟨_, Heap.get?_push_size _ rfl, rfl, rfl⟩, (hl1.push _)⟩ ?s0 ?s1
        case s0 =>
          have e0 : (fun k : Key => inK (once (ks.take 0)) k) = fun _ => false := funext fun k => rfl
          show Heap.SetOf _ _ _ (fun k : Key => inK (once (ks.take 0)) k) _
          rw [e0]
          exact ⟨_, #[], 0, _, Heap.get?_push_of_some _ gs, ⟨rfl, rfl, rfl⟩, rfl, (fun e he => by simp at he), (fun k => by simp), (by decide), (by rfl), rfl⟩
        case s1 =>
          intro z3 mv s3
          obtain ⟨y1, y2, y3, y4, y5⟩ := z3
          have eg : y2 = s.gens := mv.gens
          have ed : y3 = s.drawn := mv.drawn
          have eo : y5 = s.os := mv.os
          subst eg; subst ed; subst eo
          show wpAny _ _ _ _ _ _
          refine wpAny_pure ?_
          show wpAny _ _ (ret Value.none) _ _ _
          refine wpAny_pure ⟨rfl, y1, y4, rfl, s3, fun b o hb e => ?_⟩
          have g1 : b ≠ s.heap.objs.size := Nat.ne_of_lt hb
          have g2 : b ≠ (s.heap.push (o0 bb)).objs.size := by rw [Heap.size_push]; exact Nat.ne_of_lt (Nat.lt_succ_of_lt hb)
          exact mv.heap b o (by simp only [List.mem_cons, List.mem_singleton, List.not_mem_nil, or_false, not_or]; exact ⟨g1, g2⟩) (Heap.get?_push_of_some _ (Heap.get?_push_of_some _ e))
      · cases r₂ with
        | error e => exact hr₂
        | ok fl₂ =>
          cases fl₂ with
          | ret r =>
            obtain ⟨rfl, y1, tk, rfl, s3, k3⟩ := hr₂
            repeat (any_goals (first | assumption | wp_step))
            exact q _ _ s3 k3
          | _ => exact hr₂.elim
    | _ => exact hr.elim
end
section
variable {X : Cx} {K : PySem.W.Frag}
def SetM (P : Program) (w : World) (a : Addr) (ks : List Key) : HO := SetK P w a (fun k => inK (once ks) k) (once ks).length
def rSetL (K : PySem.W.Frag) (P : Program) (w : World) : List V → Hp → VK → Prop := fun xs H Q => ∃ (l : Addr) (ks : List Key), xs = [V.ref l] ∧ SqL K H l (ks.map kV) ∧ ks.length < 4000 ∧ ∀ p, H p = none → Q (.ref p) (upd H p (SetM P w p ks))
theorem scan_of : ∀ {ks : List Key} {us : List Value}, Vals (ks.map kV) us → ∀ v ∈ us, v.scannable = true
  | [], _, .nil, v, h => nomatch h
  | k :: ks, _, .cons r t, v, h => by
    cases h with
    | head => exact key_scan r
    | tail _ h => exact scan_of t v h
theorem cr_setL (hc : X.calm = true) : CallR X (.type "set") (rSetL X.K X.prog X.w) := by
  intro pins s σ H xs us Q I r h
  obtain ⟨l, ks, rfl, hl, few, q⟩ := h
  rw [Vals.ref1 r]
  obtain ⟨its, rv, pl, hz⟩ := I.list hl
  have hn : H s.heap.objs.size = none := I.hok.fresh (Nat.le_refl _)
  have e1 : its.toArray.size = ks.length := by rw [List.size_toArray, ← rv.length, List.length_map]
  refine call_setK (prog := X.prog) (w := X.w) (ks := ks) (I.ok.hd hc) pl.isList (by simpa using items_are rv) (by simpa using scan_of rv) (by rw [e1]; unfold scanBound; omega) fun h' tk m k => ?_
  exact ⟨.ref s.heap.objs.size, upd H s.heap.objs.size (SetM X.prog X.w s.heap.objs.size ks), I.laid (t' := tk) (fun b u e => k b u (Heap.lt_size e) e) (Nat.le_refl _) (setK_new m), rfl, q _ hn⟩
def rLenM (P : Program) (w : World) : List V → Hp → VK → Prop := fun xs H Q => ∃ (a : Addr) (ks : List Key), xs = [V.ref a] ∧ H a = some (SetM P w a ks) ∧ Q (.int (once ks).length) H
theorem cr_lenM : CallR X (.builtin "len") (rLenM X.prog X.w) := by
  intro pins s σ H xs us Q I r h
  obtain ⟨a, ks, rfl, ha, q⟩ := h
  rw [Vals.ref1 r]
  obtain ⟨o, es, ep, t, ho, hex, hd, hel, hmem, hb, hf, hn⟩ := setK_get I ha
  refine call_len_set ho hex hd hf (by unfold scanBound at hb; omega) ?_
  exact ⟨.int (once ks).length, H, I.tok _, ⟨s.toks + 1, by rw [hn]⟩, q⟩
/-- the keys that some data are -/
def toKy : D → Option Key
  | .int i => some (.inl i)
  | .str x => some (.inr x)
  | _ => none
theorem toKys_ok {φ : List Addr} {S : Hp} : ∀ {vs : List V} {ds : List D} {ks : List Key}, RpA K φ S vs ds → optAll toKy ds = some ks → vs = ks.map kV
  | _, _, ks, .nil, e => by
    cases e; rfl
  | _, _, ks, .cons (d := d) (ds := ds) r t, e => by
    simp only [optAll] at e
    cases q : toKy d with
    | none => rw [q] at e; cases e
    | some k =>
      rw [q] at e
      cases q2 : optAll toKy ds with
      | none => simp only [q2] at e; cases e
      | some ks2 =>
      simp only [q2] at e
      cases e
      rw [toKys_ok t q2]
      cases r <;> first
        | (cases q; rfl)
        | cases q
def bLenSet : List D → Hv → R D := fun ds h => match ds with
  | [d] => (match (lOf h d).bind (optAll toKy) with
    | some ks => if ks.length < 4000 then .ok (.int ((once ks).length : Nat)) h else .stuck
    | none => .stuck)
  | _ => .stuck
/-- both calls as one -/
def rLS (K : PySem.W.Frag) (P : Program) (w : World) (t : TA) : TE := tCB (rLenM P w) (tCons (tCB (rSetL K P w) t) tNil)
theorem sn_lenset {P : Program} {w : World} {W : WX} {t : TA} {la : LS} (h2 : Sn K (repA K) W t la) : Sn K (repV K) W (rLS K P w t) (eCa bLenSet la) := ⟨fun rl rs post => h2.bind rl rs post fun ds h1 vs φ1 S1 H1 rl1 rs1 st rp post => by
  unfold bLenSet at post
  split at post
  · next d =>
    obtain ⟨v, rfl, r⟩ := rp.one
    split at post
    · next ks hk =>
      obtain ⟨xs, q1, q2⟩ := Option.bind_eq_some_iff.mp hk
      split at post
      · next few =>
        obtain ⟨a, us, rfl, h3, h4⟩ := lOf_ok rl1 r q1
        rw [toKys_ok h4 q2] at h3
        refine ⟨a, ks, rfl, h3, few, fun p hp => ?_⟩
        obtain ⟨r2, s2⟩ := rl1.lay (o := SetM P w p ks) hp
        exact ⟨p, ks, rfl, upd_same, post _ φ1 _ _ r2 s2 (.int _)⟩
      · exact post.elim
    · exact post.elim
  · exact post.elim⟩
end
section
variable {X : Cx} {W : WX} {e : Expr} {p pos p2 pos2 : Pos} {la : LS}
theorem se_lenset (hc : X.calm = true) (n1 : X.mg "len" = none) (n2 : X.mg "set" = none) (ha : SA X W [e] la) (hg : Gl X "len" := by rfl) (hg2 : Gl X "set" := by rfl)
    (he : starEach [.Call (.Name "set" p2) [e] [] pos2] X.env = (false, eval (.Call (.Name "set" p2) [e] [] pos2) X.env) :: starEach [] X.env := by rfl) (hpl : (backTo pos (starEach [] X.env)).any (·.1) = false := by rfl)
    (he2 : starEach [e] X.env = (false, eval e X.env) :: starEach [] X.env := by rfl) (hpl2 : (backTo pos2 (starEach [] X.env)).any (·.1) = false := by rfl) : SE X W (.Call (.Name "len" p) [.Call (.Name "set" p2) [e] [] pos2] [] pos) (eCa bLenSet la) := by
  obtain ⟨ta, h1, h2⟩ := ha
  exact ⟨_, pe_callB cr_lenM hg n1 rfl (pa_cons (pe_callTy (cr_setL hc) hg2 n2 rfl h1 (by decide) (by decide) he2 hpl2) pa_nil) (by decide) (by decide) he hpl, sn_lenset h2⟩
end
end
end VD

set_option Elab.async false
set_option linter.all false
set_option maxRecDepth 100000
set_option maxHeartbeats 4000000
namespace VD
open PySem PySem.Spec PyProof.Rows L2
noncomputable section
/-! ### dict(xs), xs a list of pairs -/
section
variable {X : Cx} {K : PySem.W.Frag}
/-- a pair with a key ahead -/
def pairD : D → Option (Key × D)
  | .tup [k, d] => (keyOf k).map fun k => (k, d)
  | _ => none
def bDictP : List D → Hv → R D := fun ds h => match ds with
  | [d] => (match (lOf h d).bind (optAll pairD) with
    | some kd => .ok (.cell h.length) (h ++ [.dK (mergeD [] kd)])
    | none => .stuck)
  | _ => .stuck
def rDictP (K : PySem.W.Frag) : List V → Hp → VK → Prop := fun xs H Q => ∃ (a : Addr) (ps : List Addr) (kvs : List (Key × V)), xs = [.ref a] ∧ SqL K H a (ps.map V.ref) ∧ Paired (fun p kv => SqT K H p [kV kv.1, kv.2]) ps kvs ∧
    ∀ p, H p = none → Q (.ref p) (upd H p (.dK (mergeK [] kvs)))
theorem cr_dictP (hc : X.calm = true) : CallR X (.type "dict") (rDictP X.K) := call_dictP hc
theorem pairs_ok {φ : List Addr} {S H : Hp} (sub : Ex S H) : ∀ {vs : List V} {ds : List D} {kd : List (Key × D)}, RpA K φ S vs ds → optAll pairD ds = some kd → ∃ (ps : List Addr) (kvs : List (Key × V)), vs = ps.map V.ref ∧ Paired (fun p kv => SqT K H p [kV kv.1, kv.2]) ps kvs ∧ RpK K φ S kvs kd
  | _, _, kd, .nil, e => by
    cases e
    exact ⟨[], [], rfl, .nil, .nil⟩
  | _, _, kd, .cons (d := d) (ds := ds) r t, e => by
    simp only [optAll] at e
    cases q : pairD d with
    | none => rw [q] at e; cases e
    | some p =>
      rw [q] at e
      cases q2 : optAll pairD ds with
      | none => simp only [q2] at e; cases e
      | some kd2 =>
        simp only [q2] at e
        cases e
        obtain ⟨ps, kvs, e1, e2, e3⟩ := pairs_ok sub t q2
        unfold pairD at q
        split at q
        · next k d' =>
          obtain ⟨key, hk, rfl⟩ := Option.map_eq_some_iff.mp q
          obtain ⟨a, us, rfl, g1, g2⟩ := tup_of r
          obtain ⟨u1, u2, rfl, r1, r2⟩ := g2.two
          have ek := keyOf_ok r1 hk
          subst ek
          exact ⟨a :: ps, (key, u2) :: kvs, by rw [e1]; rfl, .cons (sub.sqt g1) e2, .cons r2 e3⟩
        · cases q
theorem cs_dictP : CaS K (rDictP K) bDictP := by
  intro φ S H h ds vs Q E rl ra post
  unfold bDictP at post
  split at post
  · next d =>
    obtain ⟨v, rfl, r⟩ := ra.one
    split at post
    · next kd hk =>
      obtain ⟨xs, q1, q2⟩ := Option.bind_eq_some_iff.mp hk
      obtain ⟨a, us, rfl, h3, h4⟩ := lOf_ok rl r q1
      obtain ⟨ps, kvs, rfl, e2, e3⟩ := pairs_ok rl.sub h4 q2
      refine ⟨a, ps, kvs, rfl, h3, e2, fun p hp => ?_⟩
      obtain ⟨r2, s2⟩ := rl.hold (o := .dK (mergeK [] kvs)) hp
      obtain ⟨m1, m2⟩ := (RpK.merge e3 (kv := []) (kd := []) .nil).to
      have r3 := r2.celled (c := .dK (mergeD [] kd)) upd_same (rl.snone hp) (rl.notin hp) ⟨_, rfl, m1, m2⟩
      exact post (.ref p) _ _ _ r3 (s2.celled hp) (.cell (by rw [← rl.len, List.getElem?_append_right (Nat.le_refl _), Nat.sub_self]; rfl))
    · exact post.elim
  · exact post.elim
end
/-! ### xs[::-1] -/
theorem sl_revS {X : Cx} {W : WX} {a : Expr} {fa : ES} {k : Nat} {p1 p2 p3 pos : Pos} (ha : SE X W a fa) : SL X W (.Subscript a (.Slice none none (some (.UnaryOp .USub (.Constant (.int 1) k p1) p2)) p3) pos) (lRev fa) := by
  obtain ⟨ta, h1, h2⟩ := ha
  refine ⟨_, pe_revL h1, ⟨fun rl rs post => h2.bind rl rs post fun d h1 v φ1 S1 H1 rl1 rs1 st rp post => ?_⟩⟩
  split at post
  · next xs q =>
    obtain ⟨a0, vs, rfl, hs, ra⟩ := lOf_ok rl1 rp q
    refine ⟨a0, vs, rfl, hs, fun p hp => ?_⟩
    obtain ⟨r2, s2⟩ := rl1.hold (o := .lst vs.reverse) hp
    exact post (.ref p) φ1 _ _ r2 s2 ⟨p, vs.reverse, rfl, hp, upd_same, rl1.snone hp, rl1.notin hp, ra.reverse⟩
  · exact post.elim
end
end VD

set_option Elab.async false
set_option linter.all false
set_option maxRecDepth 100000
set_option maxHeartbeats 4000000
namespace VD
open PySem PySem.Spec PyProof.Rows L2
noncomputable section
/-! ### xs.pop(), xs.clear() -/
def mPop : D → List D → Hv → R D := fun x ds h => match x, ds with
  | .cell n, [] => (match h[n]? with
    | some (.lst xs) => (match xs[xs.length - 1]? with
      | some y => .ok y (h.set n (.lst xs.dropLast))
      | none => .stuck)
    | _ => .stuck)
  | _, _ => .stuck
theorem RpA.last {K : PySem.W.Frag} {φ : List Addr} {S : Hp} {vs : List V} {ds : List D} (r : RpA K φ S vs ds) : RpA K φ S vs.dropLast ds.dropLast := by
  rw [List.dropLast_eq_take, List.dropLast_eq_take, r.length]
  exact r.take _
theorem ms_pop {K : PySem.W.Frag} : MtS K rPop mPop := by
  intro φ S H h x v ds vs Q E rl rx ra post
  unfold mPop at post
  split at post
  · next n =>
    split at post
    · next xs hx =>
      split at post
      · next y hy =>
        obtain ⟨a, ws, rfl, hn, ho, rw_⟩ := rl.cell rx hx
        cases ra
        obtain ⟨u, h1, h2⟩ := rw_.at hy
        obtain ⟨r2, s2⟩ := rl.put hn (c := .lst xs.dropLast) (o := .lst ws.dropLast) ⟨_, rfl, rw_.last⟩
        exact ⟨a, ws, u, rfl, rfl, ho, by rw [rw_.length]; exact h1, post _ φ S _ r2 s2 h2⟩
      · exact post.elim
    · exact post.elim
  · exact post.elim
def mClear : D → List D → Hv → R D := fun x ds h => match x, ds with
  | .cell n, [] => (match h[n]? with
    | some (.lst xs) => .ok .non (h.set n (.lst []))
    | _ => .stuck)
  | _, _ => .stuck
theorem ms_clear {K : PySem.W.Frag} : MtS K rClear mClear := by
  intro φ S H h x v ds vs Q E rl rx ra post
  unfold mClear at post
  split at post
  · next n =>
    split at post
    · next xs hx =>
      obtain ⟨a, ws, rfl, hn, ho, rw_⟩ := rl.cell rx hx
      cases ra
      obtain ⟨r2, s2⟩ := rl.put hn (c := .lst []) (o := .lst []) ⟨_, rfl, .nil⟩
      exact ⟨a, ws, rfl, rfl, ho, post _ φ S _ r2 s2 .non⟩
    · exact post.elim
  · exact post.elim
@[simp] theorem mPop_ap {n : Nat} {h : Hv} : mPop (.cell n) [] h = (match h[n]? with
  | some (.lst xs) => (match xs[xs.length - 1]? with
    | some y => .ok y (h.set n (.lst xs.dropLast))
    | none => .stuck)
  | _ => .stuck) := rfl
@[simp] theorem mClear_ap {n : Nat} {h : Hv} : mClear (.cell n) [] h = (match h[n]? with
  | some (.lst xs) => .ok .non (h.set n (.lst []))
  | _ => .stuck) := rfl
/-! ### an __init__, a method: told from its end -/
def Ri (P : R D → Prop) (n0 : Nat) (r : RS) : Prop := match r with
  | .ret d h => P (.ok d h)
  | .next _ h => P (.ok .non h)
  | .exc x _ h => P (exitX n0 x h)
  | _ => False
def Rm (P : R D → Prop) (n0 : Nat) (r : RS) : Prop := match r with
  | .ret d h => P (.ok d h)
  | .exc x _ h => P (exitX n0 x h)
  | _ => False
section
variable {P : R D → Prop} {n0 : Nat} {σ : VS} {h : Hv} {d : D} {x : Xn}
@[simp] theorem Wp_ri_ret : Wp (Ri P n0) (.ret d h) = P (.ok d h) := Wp.eq _ _
@[simp] theorem Wp_ri_next : Wp (Ri P n0) (.next σ h) = P (.ok .non h) := Wp.eq _ _
@[simp] theorem Wp_ri_exc : Wp (Ri P n0) (.exc x σ h) = P (exitX n0 x h) := Wp.eq _ _
@[simp] theorem Wp_ri_stuck : Wp (Ri P n0) .stuck = False := Wp.eq _ _
@[simp] theorem Wp_rm_ret : Wp (Rm P n0) (.ret d h) = P (.ok d h) := Wp.eq _ _
@[simp] theorem Wp_rm_exc : Wp (Rm P n0) (.exc x σ h) = P (exitX n0 x h) := Wp.eq _ _
@[simp] theorem Wp_rm_stuck : Wp (Rm P n0) .stuck = False := Wp.eq _ _
end
theorem fnI_of {P : R D → Prop} {np nl : Nat} {body : SS} {ds : List D} {h : Hv} (hl : ds.length = np) (hw : Wp (Ri P h.length) (body (ds.map some ++ List.replicate nl none) h)) : P (fnI np nl body ds h) := by
  replace hw := hw.run
  unfold fnI
  rw [if_pos hl]
  generalize body (ds.map some ++ List.replicate nl none) h = r at hw ⊢
  cases r <;> first
    | exact hw
    | exact hw.elim
theorem fnU_at {P : R D → Prop} {np nl : Nat} {body : SS} {ds : List D} {h : Hv} (hl : ds.length = np) (hw : Wp (Rm P h.length) (body (ds.map some ++ List.replicate nl none) h)) : P (fnU np nl body ds h) := by
  replace hw := hw.run
  unfold fnU
  rw [if_pos hl]
  generalize body (ds.map some ++ List.replicate nl none) h = r at hw ⊢
  cases r <;> first
    | exact hw
    | exact hw.elim
@[simp] theorem callM_ap {sem : List D → Hv → R D} {ds : List D} {h : Hv} : callM sem ds h = sem ds h := rfl
@[simp] theorem eMeth_ap {C m : Str} {sem' : List D → Hv → R D} {fa : ES} {la : LS} {σ : VS} {h : Hv} : eMeth C m sem' fa la σ h = (fa σ h).bind fun d h1 => (match fldsOf h1 C d with
  | some fs => if (fs.lookup m).isNone then ((la σ h1).bind fun ds h2 => sem' (d :: ds) h2) else .stuck
  | none => .stuck) := rfl
@[simp] theorem eFld_ap {C f : Str} {fa : ES} {σ : VS} {h : Hv} : eFld C f fa σ h = (fa σ h).bind fun d h1 => (match (fldsOf h1 C d).bind fun fs => fs.lookup f with
  | some x => .ok x h1
  | none => .stuck) := rfl
def kSF (C f : Str) (fa : ES) (σ : VS) (y : D) (h1 : Hv) : RS := (fa σ h1).then σ fun d h2 => (match d with
  | .cell n => (match h2[n]? with
    | some (.ins c fs) => if c = C ∧ fs.length < 1000 then .next σ (h2.set n (.ins c (putS f y fs))) else .stuck
    | _ => .stuck)
  | _ => .stuck)
@[simp] theorem sSetFld_ap {C f : Str} {fa fv : ES} {σ : VS} {h : Hv} : sSetFld C f fa fv σ h = (fv σ h).then σ (kSF C f fa σ) := rfl
@[simp] theorem kSF_ap {C f : Str} {fa : ES} {σ : VS} {y : D} {h1 : Hv} : kSF C f fa σ y h1 = (fa σ h1).then σ fun d h2 => (match d with
  | .cell n => (match h2[n]? with
    | some (.ins c fs) => if c = C ∧ fs.length < 1000 then RS.next σ (h2.set n (.ins c (putS f y fs))) else .stuck
    | _ => .stuck)
  | _ => .stuck) := rfl
@[simp] theorem fldsOf_cell {h : Hv} {C : Str} {n : Nat} : fldsOf h C (.cell n) = (match h[n]? with
  | some (.ins c fs) => if c = C then some fs else none
  | _ => none) := rfl
theorem mkR_ok {C : Str} {sem : List D → Hv → R D} {ds : List D} {h h2 : Hv} (e : sem (.cell h.length :: ds) (h ++ [.ins C []]) = .ok .non h2) : mkR C sem ds h = .ok (.cell h.length) h2 := by
  unfold mkR
  rw [e]
theorem mkR_exc {C : Str} {sem : List D → Hv → R D} {ds : List D} {h h2 : Hv} {x : Xn} (e : sem (.cell h.length :: ds) (h ++ [.ins C []]) = .exc x h2) : mkR C sem ds h = exitX h.length x h2 := by
  unfold mkR
  rw [e]
theorem callC_exc {sem : List D → Hv → R D} {ds ds' : List D} {h : Hv} {x : Xn} (hp : pureD ds = some ds') (e : sem ds' [] = .exc x []) : callC sem ds h = .exc x h := by
  unfold callC
  rw [hp]
  simp only [e]
end
end VD

set_option Elab.async false
set_option linter.all false
set_option maxRecDepth 100000
set_option maxHeartbeats 4000000
namespace VD
open PySem PySem.Spec PyProof.Rows L2
noncomputable section
/-! ### a def that is handed what an except suite holds -/
theorem pss_noxS {X : Cx} {a : Addr} {oe : Obj} {E : Value → Shared → Prop} {st : List Stmt} {t : TS} (h : PSs (X.suite a [(a, oe)]) st t) : PSs ({ (X.suite a [(a, oe)]) with xe := E }) st t := PSs.nox (X := { (X.suite a [(a, oe)]) with xe := E }) h
/-- its promise, for the one object -/
structure FnP (P : Program) (w : World) (K : PySem.W.Frag) (mg : Str → Option Value) (base : Heap) (k : Nat) (f : Addr) (fd : FuncData) (ps : List Str) (sp : Sp) (a : Addr) (oe : Obj) : Prop where
  len : ∀ vs H Q E, sp vs H Q E → vs.length = ps.length
  run : ∀ (A : Around) (outer : List Env) (s : Shared) (H : Hp) (us : List Value) (vs : List V) (Q : VK) (E : XK), L2H.RoomH k (A.mark (some (.ref a))) → L2H.PinOk outer H s (a, oe) → Env0 P w K mg base (A.mark (some (.ref a))) outer s H →
    BindsTo s fd ⟨us, []⟩ (ps.zip us) → Vals vs us → sp vs H Q E → codeAny (model P w) (A.mark (some (.ref a))) (.call (.ref f) ⟨us, []⟩) (CR (L2.CX P w) outer P w H s Q E) s
theorem fnP_of {P : Program} {w : World} {K : PySem.W.Frag} {mg : Str → Option Value} {base : Heap} {k : Nat} {f a : Addr} {oe : Obj} {x qual : Str} {st : Stmt} {fd : FuncData} {N ps : List Str} {sp : Sp} (F : Fun K x qual st f fd) (Sc : FnScope N ps (defScope st))
    (len : ∀ vs H Q E, sp vs H Q E → vs.length = ps.length)
    (hb : ∀ (cdv : Value) (A : Around) (outer : List Env) (s : Shared) (H : Hp) (vs : List V) (Q : VK) (E : XK), sp vs H Q E →
      ∃ t, PSs ((cxOf (L2.CX P w) P w K mg base N qual (defScope st) f cdv A outer s H E).suite a [(a, oe)]) (defBody st) t ∧ t { nx := fun _ H' => Q .non H', rt := Q } (L2.start N vs) H) : FnP P w K mg base (k + 1) f fd ps sp a oe := by
  obtain ⟨oc, od, kV, doc, pm, an, cdv, ct, osl, rfl, lk, hcd⟩ := F.ex
  refine ⟨len, fun A outer s H us vs Q E room pin e0 bd rv want => ?_⟩
  have inK : K.In s.heap := e0.mod.kin.keeps fun b o e => (e0.bs b o e).1
  have nolim : s.heap.NoLimit := e0.mod.nolimit.keeps fun b o e => (e0.bs b o e).1
  have kinds : ∀ y ∈ ps.zip us, (defScope st).names.lookup y.1 = some .local ∨ ((defScope st).names.lookup y.1 = some .cell ∧ ((cellsFrom (s.heap.objs.size + 1) (defScope st).names []).lookup y.1).isSome = true) := by
    rintro ⟨n, v⟩ hy
    exact (Sc.par n (List.of_mem_zip hy).1).imp id fun q => ⟨q, PySem.W.cellsFrom_some _ _ _ (.inl q)⟩
  refine codeAny_call_function room.depth (inK _ _ lk) rfl Sc.co Sc.gen rfl (PySem.W.codeRec_of inK hcd) (bd _ _ _ _ (wpAny_newFunctionEnv_cells Sc.kind kinds fun env he s1 call => ?_))
  subst he
  refine ⟨nolim.keeps call.toInCall.keep, codeAny_func ?_⟩
  obtain ⟨t, ht, hq⟩ := hb cdv A outer s H vs Q E want
  have I := L2H.inv_startH (CX := L2.CX P w) (A := A.mark (some (.ref a))) (E := E) Sc pin e0 (len _ _ _ _ want) rv call
  refine wpAny_mono ((pss_noxS ht).run [] s1 (L2.start N vs) H _ I hq) (fun fl s' done => ?_) fun _ _ z => z
  cases fl with
  | ret u =>
    obtain ⟨v, σ', H', J, r, q⟩ := done
    exact ⟨v, H', J.os, J.bare, J.base, J.hok, r, q⟩
  | next =>
    obtain ⟨σ', H', J, q⟩ := done
    exact ⟨.non, H', J.os, J.bare, J.base, J.hok, rfl, q⟩
  | brk => exact done.choose_spec.choose_spec.2.elim
  | cont => exact done.choose_spec.choose_spec.2.elim
/-! its reading -/
def spN (K : PySem.W.Frag) (sem : List D → Hv → R D) : Sp := fun vs H Q E => ∃ S ds d, Ex S H ∧ RpA K [] S vs ds ∧ sem ds [] = .ok d [] ∧ Post K (repV K) [] S H (.ok d []) Q E
theorem fnS_ok {np nl : Nat} {body : SS} {ds : List D} {h h2 : Hv} {d : D} (e : fnS np nl body ds h = .ok d h2) : ds.length = np := fnS_len (nl := nl) (body := body) (h := h) fun z => by rw [z] at e; cases e
theorem fnP_ok {P : Program} {w : World} {K : PySem.W.Frag} {mg : Str → Option Value} {base : Heap} {k np nl : Nat} {f a : Addr} {oe : Obj} {x qual : Str} {st : Stmt} {fd : FuncData} {N ps : List Str} {body : SS} (F : Fun K x qual st f fd) (Sc : FnScope N ps (defScope st)) (hps : ps.length = np) (hN : N.length = np + nl)
    (hb : ∀ (cdv : Value) (A : Around) (outer : List Env) (s : Shared) (H : Hp) (E : XK), QB ((cxOf (L2.CX P w) P w K mg base N qual (defScope st) f cdv A outer s H E).suite a [(a, oe)]) W00 (defBody st) body) : FnP P w K mg base (k + 1) f fd ps (spN K (fnS np nl body)) a oe := by
  refine fnP_of F Sc (fun vs H Q E h => ?_) fun cdv A outer s H vs Q E h => ?_
  · obtain ⟨S, ds, d, _, ra, e, _⟩ := h
    rw [ra.length, hps, fnS_ok e]
  · obtain ⟨S, ds, d, sub, ra, e, post⟩ := h
    obtain ⟨t, h1, h2⟩ := hb cdv A outer s H E
    have hl := fnS_ok e
    refine ⟨t, h1, h2.run (Rel.bare sub) (relS_start ra nl N (by rw [hl]; exact hN)) ?_⟩
    unfold fnS at e
    rw [if_pos hl] at e
    have out : ∀ {φ' S' H' h' d0 v}, Rel K φ' S' H' h' → Step [] S H φ' S' H' → Rp K φ' S' v d0 → exitD 0 d0 h' = .ok d [] → Q v H' := fun {φ' S' H' h' d0 v} r2 st rv e => by
      unfold exitD at e
      split at e
      · next d' h'' q1 q2 =>
        split at e
        · next hn =>
          cases e
          obtain ⟨s2, _⟩ := exit_step st r2
          exact post v _ _ H' (exit_rel r2 hn q2) s2 (frz_ok r2 _ _ _ _ rv q1)
        · cases e
      · cases e
    cases hq : body (ds.map some ++ List.replicate nl none) [] with
    | next σ' h' =>
      simp only [hq] at e
      exact fun σ1 φ' S' H' r2 _ st => out r2 st .non e
    | ret d0 h' =>
      simp only [hq] at e
      exact fun v φ' S' H' r2 st rv => out r2 st rv e
    | brk σ' h' => simp only [hq] at e; cases e
    | cont σ' h' => simp only [hq] at e; cases e
    | stuck => simp only [hq] at e; cases e
    | exc x σ' h' =>
      simp only [hq] at e
      unfold exitX at e
      split at e
      · split at e
        · split at e <;> cases e
        · cases e
      · split at e
        · split at e <;> cases e
        · cases e
def OkX (P : Program) (w : World) (K : PySem.W.Frag) (mg : Str → Option Value) (base : Heap) (k : Nat) (f : Str) (ps : List Str) (sem : Xn → Addr → Addr → List D → Hv → R D) : Prop :=
  ∃ fd, (∀ (x : Xn) (a dd : Addr) (oe : Obj), Zc (.ref (He.ga K x.cls)) (exA dd x.pay) oe → (∃ vs, oe.data = .fields vs) → FnP P w K mg base k (He.ga K f) fd ps (spN K (sem x a dd)) a oe) ∧ Binds K fd ps [] ∧ mg f = some (.ref (He.ga K f)) ∧ PySem.W.keepIn K (.ref (He.ga K f)) = true
theorem okX_mk {P : Program} {w : World} {K : PySem.W.Frag} {mg : Str → Option Value} {base : Heap} {f : Str} {st : Stmt} {fd : FuncData} {N ps : List Str} {k np nl : Nat} {body : Xn → Addr → Addr → SS} (F : Fun K f f st (He.ga K f) fd) (Sc : FnScope N ps (defScope st)) (hps : ps.length = np) (hN : N.length = np + nl)
    (g : mg f = some (.ref (He.ga K f))) (b : Binds K fd ps [])
    (hb : ∀ (x : Xn) (a dd : Addr) (oe : Obj), Zc (.ref (He.ga K x.cls)) (exA dd x.pay) oe → (∃ vs, oe.data = .fields vs) → ∀ (cdv : Value) (A : Around) (outer : List Env) (s : Shared) (H : Hp) (E : XK),
      QB ((cxOf (L2.CX P w) P w K mg base N f (defScope st) (He.ga K f) cdv A outer s H E).suite a [(a, oe)]) W00 (defBody st) (body x a dd)) : OkX P w K mg base (k + 1) f ps (fun x a dd => fnS np nl (body x a dd)) :=
  ⟨fd, fun x a dd oe hz hf => fnP_ok F Sc hps hN (hb x a dd oe hz hf), b, g, F.kp⟩
/-! its call -/
def bareX : D → Option D
  | .raw v => some (.raw v)
  | .exv a dd f d => (frz 0 [] 12 d).map (.exv a dd f)
  | _ => none
theorem bareX_ok {K : PySem.W.Frag} {φ : List Addr} {S : Hp} {v : V} {d d' : D} (r : Rp K φ S v d) (e : bareX d = some d') : Rp K [] S v d' := by
  cases r with
  | raw v => cases e; exact .raw v
  | @exv a dd f v d h1 h2 =>
    obtain ⟨p, q, rfl⟩ := Option.map_eq_some_iff.mp (show (frz 0 [] 12 d).map (.exv _ dd f) = some d' from e)
    exact .exv h1 (frz0_ok _ _ _ _ h2 q)
  | _ => cases e
def callX (sem : List D → Hv → R D) (ds : List D) (h : Hv) : R D := match ds with
  | [d] => (match bareX d with
    | some d' => (match sem [d'] [] with
      | .ok r [] => .ok r h
      | _ => .stuck)
    | none => .stuck)
  | _ => .stuck
theorem spN_ok {K : PySem.W.Frag} {sem : List D → Hv → R D} {φ : List Addr} {S H : Hp} {h : Hv} {ds : List D} {vs : List V} {Q : VK} {E : XK} (rl : Rel K φ S H h) (ra : RpA K φ S vs ds) (post : Post K (repV K) φ S H (callX sem ds h) Q E) : spN K sem vs H Q (fun _ _ _ => False) := by
  unfold callX at post
  split at post
  · next d =>
    split at post
    · next d' q =>
      split at post
      · next r hs =>
        cases ra with
        | cons r1 r2 =>
          cases r2
          refine ⟨S, [d'], r, rl.sub, .cons (bareX_ok r1 q) .nil, hs, ?_⟩
          intro v φ' S' H' r2 st rv
          obtain ⟨rfl, r3, s3⟩ := rl.frame r2 st
          exact post v φ S' H' r3 s3 (Rp.mono ⟨φ, rfl⟩ (Ex.refl _) rv)
      · exact post.elim
    · exact post.elim
  · exact post.elim
section
variable {X : Cx} {W : WX} {k : Nat} {f : Str} {ps : List Str} {sem : Xn → Addr → Addr → List D → Hv → R D} {x : Xn} {a dd : Addr} {oe : Obj} {pn : List (Addr × Obj)} {p pos : Pos} {e : Expr} {es : List Expr} {la : LS}
theorem se_fnX (o : OkX X.prog X.w X.K X.mg X.base k f ps sem) (hr : Room k X.A) (hz : Zc (.ref (He.ga X.K x.cls)) (exA dd x.pay) oe) (hfl : ∃ vs, oe.data = .fields vs) (ha : SA (X.suite a ((a, oe) :: pn)) W (e :: es) la)
    (hg : Gl (X.suite a ((a, oe) :: pn)) f := by rfl) (hdb : (f == ("__debug__" : Str)) = false := by decide) (he : starEach (e :: es) (X.suite a ((a, oe) :: pn)).env = (false, eval e (X.suite a ((a, oe) :: pn)).env) :: starEach es (X.suite a ((a, oe) :: pn)).env := by rfl)
    (hpl : (backTo pos (starEach es (X.suite a ((a, oe) :: pn)).env)).any (·.1) = false := by rfl) :
    SE (X.suite a ((a, oe) :: pn)) W (.Call (.Name f p) (e :: es) [] pos) (eCa (callX (sem x a dd)) la) := by
  obtain ⟨fd, F, b, g, kp⟩ := o
  obtain ⟨t, h1, h2⟩ := ha
  have Fx := F x a dd oe hz hfl
  refine ⟨tCallS (fun vs H Q _ => spN X.K (sem x a dd) vs H Q (fun _ _ _ => False)) (fun _ _ _ _ => False) t, ⟨fun pins s σ H Q I h => ?_⟩, ⟨fun rl rs post => h2.bind rl rs post fun ds hh vs φ1 S1 H1 rl1 rs1 st rp post => spN_ok rl1 rp post⟩⟩
  refine wpAny_Call_Name_kw (ld_glob I hg g ?_ hdb)
  refine PySem.W.callWith_K (h₀ := X.base) I.ok.mod.kin kp (thn (h1.run pos pins s σ H _ I h) fun us s1 ⟨vs, H1, I1, r, q⟩ => ⟨I1.kIn, ?_⟩) he hpl
  have hl : us.length = ps.length := by rw [← r.length]; exact Fx.len _ _ _ _ q
  have bd := b s1 us I1.kIn (by rw [List.append_nil]; exact hl)
  rw [List.append_nil] at bd
  obtain ⟨p1, p2, p3, p4, p5⟩ := I1.pin (a, oe) (List.mem_append_left _ List.mem_cons_self)
  have pin : L2H.PinOk X.stack H1 s1 (a, oe) := ⟨p1, p2, fun hm => (List.mem_cons.mp (I1.stkSub a hm)).elim p3 p4, p5⟩
  refine wpAny_call (codeAny_mono (Fx.run X.A X.stack s1 H1 us vs Q _ ⟨hr.dp, hr.un⟩ pin I1.env0 bd r q) fun r s' hq => ?_)
  cases r with
  | error e => exact (cx_false hq).elim
  | ok fl =>
    cases fl with
    | ret u => exact I1.after hq
    | next => exact hq.elim
    | brk => exact hq.elim
    | cont => exact hq.elim
end
end
end VD

set_option Elab.async false
set_option linter.all false
set_option maxRecDepth 100000
set_option maxHeartbeats 4000000
namespace VD
open PySem PySem.Spec PyProof.Rows L2
noncomputable section
/-! ### zip of two tuples, to the end of the shorter one -/
theorem zipD_min : ∀ xs ys : List D, (zipD xs ys).length = min xs.length ys.length
  | [], [] => rfl
  | [], _ :: _ => by show 0 = _; simp
  | _ :: _, [] => by show 0 = _; simp
  | x :: xs, y :: ys => by
    show (zipD xs ys).length + 1 = min (xs.length + 1) (ys.length + 1)
    rw [zipD_min xs ys]; omega
def iZT (g : LS) : IS := fun σ h => (g σ h).bind fun ds h1 => match ds with
  | [.tup xs, .tup ys] => .ok (zipD xs ys, always) h1
  | _ => .stuck
@[simp] theorem iZT_ap {g : LS} {σ : VS} {h : Hv} : iZT g σ h = (g σ h).bind fun ds h1 => (match ds with
  | [.tup xs, .tup ys] => VD.R.ok (zipD xs ys, always) h1
  | _ => .stuck) := rfl
section
variable {X : Cx} {W : WX} {e e2 : Expr} {la : LS} {p pos : Pos}
theorem qi_zipT {elts : List Expr} {kk : Nat} {tpos : Pos} (hm : X.mg "zip" = none) (ha : SA X W [e, e2] la) (hg : Gl X "zip" := by rfl) (hs : starEach [e, e2] X.env = (false, eval e X.env) :: starEach [e2] X.env := by rfl) (hpl : (backTo pos (starEach [e2] X.env)).any (·.1) = false := by rfl) :
    QI X W (.Tuple elts kk tpos) (.Call (.Name "zip" p) [e, e2] [] pos) (iZT la) := by
  obtain ⟨ta, h1, h2⟩ := ha
  refine ⟨_, RZ.pi_zipA hg hm h1 hs hpl, ⟨fun rl rs post => h2.bind rl rs post fun ds h1 vs φ1 S1 H1 rl1 rs1 st rp post => ?_⟩⟩
  have ra : RpA X.K φ1 S1 vs ds := rp
  split at post
  · next xs ys =>
    obtain ⟨v, w, rfl, r, r2⟩ := ra.two
    obtain ⟨a, vs, rfl, a1, a2⟩ := tup_of r
    obtain ⟨b, ws, rfl, b1, b2⟩ := tup_of r2
    refine ⟨a, b, vs, ws, rfl, .inr ⟨rl1.sub.sqt a1, rl1.sub.sqt b1, post (RZ.ItzT X.K a b) φ1 S1 H1 rl1 (Step.refl _ _ _) ⟨fun {i φ S H h} r2 pr ex _ hi => ?_, fun {φ S H h} r2 pr ex _ => ?_⟩⟩⟩
    · rw [zipD_min] at hi
      have hi1 : i < xs.length := by omega
      have hi2 : i < ys.length := by omega
      have s1 : SqT X.K H a vs := r2.sub.sqt (ex.sqt a1)
      have s2 : SqT X.K H b ws := r2.sub.sqt (ex.sqt b1)
      obtain ⟨u1, hu1, ru1⟩ := a2.at (List.getElem?_eq_getElem hi1)
      obtain ⟨u2, hu2, ru2⟩ := b2.at (List.getElem?_eq_getElem hi2)
      refine ⟨⟨vs, ws, u1, u2, s1, s2, hu1, hu2⟩, fun z H' yl => ?_⟩
      obtain ⟨T, x1, x2, rfl, nT, rfl, f1, f2⟩ := yl
      have e1 := f1 vs s1
      rw [hu1] at e1
      cases e1
      have e2 := f2 ws s2
      rw [hu2] at e2
      cases e2
      obtain ⟨r3, s3⟩ := r2.lay (o := .tup [u1, u2]) nT
      exact ⟨upd S T (.tup [u1, u2]), _, zipD_at (List.getElem?_eq_getElem hi1) (List.getElem?_eq_getElem hi2), r3, s3, .tup (.inl (.inl upd_same)) (.cons (Rp.mono pr (ex.trans s3.sub) ru1) (.cons (Rp.mono pr (ex.trans s3.sub) ru2) .nil))⟩
    · refine ⟨vs, ws, r2.sub.sqt (ex.sqt a1), r2.sub.sqt (ex.sqt b1), ?_⟩
      rw [zipD_min, a2.length, b2.length]
      omega
  · exact post.elim
end
end
end VD

set_option Elab.async false
set_option linter.all false
set_option maxRecDepth 100000
set_option maxHeartbeats 4000000
/-! min, max of three; sorted(set(x)), whole numbers, any number of them -/
namespace VD
open PySem PySem.Spec PyProof.Rows L2
noncomputable section
section
variable {K : PySem.W.Frag}
theorem RpA.three {φ : List Addr} {S : Hp} {vs : List V} {x y z : D} (h : RpA K φ S vs [x, y, z]) : ∃ u v w, vs = [u, v, w] ∧ Rp K φ S u x ∧ Rp K φ S v y ∧ Rp K φ S w z := by
  cases h with
  | cons r t => cases t with
    | cons r2 t => cases t with
      | cons r3 t => cases t; exact ⟨_, _, _, rfl, r, r2, r3⟩
def bMin3 : List D → Hv → R D := fun ds h => match ds with
  | [.int i, .int j, .int k] => .ok (.int (if k < (if j < i then j else i) then k else (if j < i then j else i))) h
  | _ => .stuck
def bMax3 : List D → Hv → R D := fun ds h => match ds with
  | [.int i, .int j, .int k] => .ok (.int (if (if i < j then j else i) < k then k else (if i < j then j else i))) h
  | _ => .stuck
theorem nu_if {c : Prop} [Decidable c] {x y : Int} : (if decide c = true then V.int x else V.int y) = V.int (if c then x else y) := by
  by_cases q : c <;> simp [q]
theorem cs_min3 : CaS K (rNuC3 nuMin3) bMin3 := by
  intro φ S H h ds vs Q E rl ra post
  unfold bMin3 at post
  split at post
  · next i j k =>
    obtain ⟨u, v, w, rfl, r, r2, r3⟩ := ra.three
    cases r; cases r2; cases r3
    refine ⟨_, _, _, _, rfl, ?_, post _ φ S H rl (Step.refl _ _ _) (.int _)⟩
    show (nuMin2 (.int i) (.int j)).bind (fun m => nuMin2 m (.int k)) = _
    have e : ∀ a b : Int, nuMin2 (.int a) (.int b) = some (.int (if b < a then b else a)) := fun a b => by
      show some (if decide (b < a) = true then V.int b else V.int a) = _
      rw [nu_if]
    rw [e, Option.bind_some, e]
  · exact post.elim
theorem cs_max3 : CaS K (rNuC3 nuMax3) bMax3 := by
  intro φ S H h ds vs Q E rl ra post
  unfold bMax3 at post
  split at post
  · next i j k =>
    obtain ⟨u, v, w, rfl, r, r2, r3⟩ := ra.three
    cases r; cases r2; cases r3
    refine ⟨_, _, _, _, rfl, ?_, post _ φ S H rl (Step.refl _ _ _) (.int _)⟩
    show (nuMax2 (.int i) (.int j)).bind (fun m => nuMax2 m (.int k)) = _
    have e : ∀ a b : Int, nuMax2 (.int a) (.int b) = some (.int (if a < b then b else a)) := fun a b => by
      show some (if decide (a < b) = true then V.int b else V.int a) = _
      rw [nu_if]
    rw [e, Option.bind_some, e]
  · exact post.elim
@[simp] theorem bMin3_int {i j k : Int} {h : Hv} : bMin3 [.int i, .int j, .int k] h = .ok (.int (if k < (if j < i then j else i) then k else (if j < i then j else i))) h := rfl
@[simp] theorem bMax3_int {i j k : Int} {h : Hv} : bMax3 [.int i, .int j, .int k] h = .ok (.int (if (if i < j then j else i) < k then k else (if i < j then j else i))) h := rfl
end
section
variable {prog : Program} {w : World} {A : Around} {E : Value → Shared → Prop} {s : Shared}
abbrev oS (w : World) : Obj := { cls := .type "set", dict := none, data := .set #[] 0 (.fresh 0 0 (!w.params.followText "set-order")) }
theorem call_setI {l : Addr} {items : Array Value} (ns : List Int) {Q : Value → Shared → Prop} (nh : A.handled = none) (il : s.heap.IsList l items) (ik : IntsAre items.toList ns) (few : ns.length + 1 < scanBound)
    (q : ∀ (h2 : Heap) (tk c : Nat), SetR w h2 s.heap.objs.size (fun j => decide (j ∈ ns)) c → c ≤ ns.length → (∀ b o, s.heap.get? b = some o → h2.get? b = some o) → Q (.ref s.heap.objs.size) { s with heap := h2, toks := tk }) :
    wpAny (model prog w) A (call (.type "set") [.ref l]) Q E s := by
  have lk : items.size = ns.length := by
    have z := IntsAre.length ik
    rw [Array.length_toList] at z; exact z
  obtain ⟨c, tl, hmro⟩ := PySem.F.called_set.mro; have hmade := PySem.F.called_set.made
  have hsub := PySem.F.called_set.sub; refine wpAny_call (codeAny_of_tree ?_)
  show wpAny _ _ (callAny (.type "set") _) _ _ _; refine wpAny_pure ⟨Code.quiet_builtin _ (by decide +kernel), codeAny_builtin PySem.F.entry_type_call ?_⟩
  rw [Around.under_plain (weight_type_call_type "set" [.ref l] []) rfl]; have h1 := PySem.F.called_set.notType
  have h2 := PySem.F.called_set.canCreate; have hct := PySem.F.typeCall_set_1 (.ref l)
  repeat (any_goals (first | assumption | wp_step))
  refine codeAny_mono (code_set_led1 (.ref l) (E := E) (Q₁ := fun v z => v = .ref s.heap.objs.size ∧ z = { s with heap := s.heap.push (oS w) }) ⟨rfl, rfl⟩) fun r z hr => ?_
  cases r with
  | error e => exact hr
  | ok fl =>
    cases fl with
    | ret v =>
      obtain ⟨rfl, rfl⟩ := hr
      have gs : (s.heap.push (oS w)).get? s.heap.objs.size = some (oS w) := Heap.get?_push_size _ rfl
      have ts : Shared.TypeIs { s with heap := s.heap.push (oS w) } (.ref s.heap.objs.size) "set" := ⟨_, gs, rfl⟩
      have hli := PySem.F.called_set.init.lookup; have hbi := PySem.F.called_set.init.bind (.ref s.heap.objs.size)
      repeat (any_goals (first | assumption | wp_step))
      refine codeAny_mono (codeAny_call_builtin (R := wants (fun r z2 => r = .none ∧ ∃ h2 tk c, z2 = { s with heap := h2, toks := tk } ∧ SetR w h2 s.heap.objs.size (fun j => decide (j ∈ ns)) c ∧ c ≤ ns.length ∧ (∀ b o, s.heap.get? b = some o → h2.get? b = some o)) E) PySem.F.called_set.init.plain PySem.F.entry_set_init (check_set_init_1 ts ?_)) fun r₂ z2 hr₂ => ?_
      · obtain ⟨ol, hol, hcl, nl, hdl⟩ := il
        obtain ⟨xcls, xdict, xdata, xslots⟩ := ol
        simp only at hcl hdl
        subst hcl; subst hdl
        have hol' : (s.heap.push (oS w)).get? l = some { cls := .type "list", dict := xdict, data := .seq items nl, slots := xslots } := Heap.get?_push_of_some _ hol
        have hsls := PySem.F.sub_list_set; have hslf := PySem.F.sub_list_frozenset
        have ndc : (Value.type "list" == Value.type "dict") = false := by decide
        have hl1 : (s.heap.push (oS w)).IsList l items := ⟨_, hol', rfl, nl, rfl⟩
        unfold Builtin.«set.__init__» noKeywords Builtin.Frozenset.updateFrom
        generalize hPI : pyIter = PI
        wp_walk
        subst hPI
        refine wpAny_pyIter_list hl1 ?_
        refine wpAny_bind (wpAny_runValue ?_)
        have ls : l < s.heap.objs.size := Heap.lt_size hol
        have nh3 : A.in1.in1.in1.handled = none := by simp [nh]
        have ni : l ≠ (s.heap.push (oS w)).objs.size := by rw [Heap.size_push]; exact Nat.ne_of_lt (Nat.lt_succ_of_lt ls)
        have nf : s.heap.objs.size ∉ [(s.heap.push (oS w)).objs.size, l] := by
          rw [Heap.size_push]; simp only [List.mem_cons, List.mem_singleton, List.not_mem_nil, or_false, not_or]; exact ⟨Nat.ne_of_lt (Nat.lt_succ_self _), Nat.ne_of_gt ls⟩
        have vk : ∀ (i : Nat) (v : Value), items[i]? = some v → ∃ k t, ns[i]? = some k ∧ v = .int k t := fun i v hv => by
          have hi : i < ns.length := by rw [← lk]; exact (Array.getElem?_eq_some_iff.mp hv).1
          obtain ⟨t, e⟩ := PyProof.Rows.IntsAre.int_at ik i v (by rw [Array.getElem?_toList]; exact hv)
          refine ⟨ns[i], t, List.getElem?_eq_getElem hi, ?_⟩
          rw [e, List.getD_eq_getElem?_getD, List.getElem?_eq_getElem hi] <;> rfl
        refine set_update_ints ((Walks.list nh3 _ l ni items).toS) s.heap.objs.size nf ns lk few vk (items.size - 0) 0 _ (by omega) (Nat.zero_le _) ⟨⟨_, Heap.get?_push_size _ rfl, rfl, rfl⟩, (hl1.push _)⟩ ⟨0, Nat.le_refl _, setR_new_at (Heap.get?_push_of_some _ gs)⟩ ?s1
        case s1 =>
          intro z3 c3 mv hc3 s3
          obtain ⟨y1, y2, y3, y4, y5⟩ := z3
          have eg : y2 = s.gens := mv.gens
          have ed : y3 = s.drawn := mv.drawn
          have eo : y5 = s.os := mv.os
          subst eg; subst ed; subst eo
          show wpAny _ _ _ _ _ _
          refine wpAny_pure ?_
          show wpAny _ _ (ret Value.none) _ _ _
          refine wpAny_pure ⟨rfl, y1, y4, c3, rfl, s3, by omega, fun b o e => ?_⟩
          have hb := Heap.lt_size e
          have g1 : b ≠ s.heap.objs.size := Nat.ne_of_lt hb
          have g2 : b ≠ (s.heap.push (oS w)).objs.size := by rw [Heap.size_push]; exact Nat.ne_of_lt (Nat.lt_succ_of_lt hb)
          exact mv.heap b o (by simp only [List.mem_cons, List.mem_singleton, List.not_mem_nil, or_false, not_or]; exact ⟨g1, g2⟩) (Heap.get?_push_of_some _ (Heap.get?_push_of_some _ e))
      · cases r₂ with
        | error e => exact hr₂
        | ok fl₂ =>
          cases fl₂ with
          | ret r =>
            obtain ⟨rfl, y1, tk, c3, rfl, s3, hc3, k3⟩ := hr₂
            repeat (any_goals (first | assumption | wp_step))
            exact q _ _ _ s3 hc3 k3
          | _ => exact hr₂.elim
    | _ => exact hr.elim
/-- sorted(a set of whole numbers), any number of them -/
theorem sorted_setI {a : Addr} {S : Int → Bool} {n : Nat} {Q : Value → Shared → Prop} (m : SetR w s.heap a S n) (nh : A.handled = none)
    (q : ∀ z p (out : Array Value) (c : Nat) (ns : List Int), (∀ b o, s.heap.get? b = some o → z.heap.get? b = some o) → z.gens = s.gens → z.os = s.os → s.heap.objs.size ≤ p →
      z.heap.get? p = some (seqObj "list" out c) → IntsAre out.toList ns → ns.Pairwise (· < ·) → (∀ k, k ∈ ns ↔ S k = true) → ns.length = n → Q (.ref p) z) :
    wpAny (model prog w) A (call (.builtin "sorted") [.ref a]) Q E s := by
  obtain ⟨o, es, ep, t, ho, hex, hd, g, nd, hm, hb, hf, hn, hr, hl⟩ := m
  refine Calls.call_function_entry kind_sorted plain_sorted entry_sorted (args_sorted1 _) ?_
  unfold Builtin.«sorted»; refine wpAny_bind (m := checkCount "sorted" 1 1 _) (wpAny_pure ?_)
  refine wpAny_bind (collect_set (A := A.in1) nh ⟨o, ho, hex.1, hd⟩ hf hb hr hl fun z1 vs k1 hz g1 o1 pm => ?_)
  have lv : vs.length = n := by rw [pm.length_eq, List.length_map, Array.length_toList]; exact hn
  have iv : IntsAre vs (vs.map Builtin.Re.reRawOf) := ints_of vs fun v hv => by
    obtain ⟨e, he, ee⟩ := List.mem_map.mp (pm.mem_iff.mp hv)
    obtain ⟨k, tk, x1, _⟩ := g e he
    exact ⟨k, tk, by rw [← ee]; exact x1⟩
  have pk : (vs.map Builtin.Re.reRawOf).Perm (es.toList.map L2.keyOf) := by
    have z := pm.map Builtin.Re.reRawOf
    rw [List.map_map] at z; exact z
  have big : vs.length ≤ sizeLine := by rw [lv, ← hn, sizeLine_eq]; unfold scanBound at hb; omega
  refine wpAny_bind (wpAny_newList ?_ big)
  have oL : (z1.heap.push (seqObj "list" vs.toArray 0)).get? z1.heap.objs.size = some (seqObj "list" vs.toArray 0) := Heap.get?_push_size _ rfl
  refine wpAny_bind (wpAny_holding (wpAny_call_entry slot_list_sort ⟨_, oL, rfl⟩ entry_list_sort (SrtO.list_sort_ord SrtO.swo_int oL big (fun x2 => SrtO.ints_sortable iv x2) fun out x1 x2 => ⟨_, rfl, ?_⟩) (args_list_sort _)))
  obtain ⟨a1, a2, a3⟩ := SrtO.ints_out iv x1 x2
  obtain ⟨c, hc⟩ := sortedHeap_at (vs := vs) (out := out.toArray) oL
  have pn : (out.map SrtO.iv).Perm (es.toList.map L2.keyOf) := a2.trans pk
  refine wpAny_pure ⟨_, rfl, q _ z1.heap.objs.size out.toArray c (out.map SrtO.iv) (fun b u e => ?_) g1 o1 hz hc (by simpa using a1) (lt_of_le_nodup _ a3 (pn.nodup_iff.mpr nd)) (fun k => by rw [pn.mem_iff, ← hm k]) ?_⟩
  · have z := k1 b u e
    have lt := Heap.lt_size z
    show (sortedHeap (z1.heap.push (seqObj "list" vs.toArray 0)) z1.heap.objs.size vs out.toArray).get? b = some u
    rw [sortedHeap_old (Nat.ne_of_lt lt) (by rw [size_push']; exact Nat.lt_succ_of_lt lt)]
    exact Heap.get?_push_of_some _ z
  · rw [a2.length_eq, List.length_map]; exact lv
end
/-! the two calls as one -/
def insU (x : Int) : List Int → List Int
  | [] => [x]
  | y :: l => if x < y then x :: y :: l else if x = y then y :: l else y :: insU x l
def setI : List Int → List Int
  | [] => []
  | x :: l => insU x (setI l)
theorem insU_mem {x k : Int} : ∀ {l : List Int}, k ∈ insU x l ↔ k = x ∨ k ∈ l
  | [] => by simp [insU]
  | y :: l => by
    unfold insU
    split
    · simp
    · split
      · next e => subst e; simp
      · simp only [List.mem_cons, insU_mem (l := l)]
        constructor
        · rintro (h | h | h) <;> simp [h]
        · rintro (h | h | h) <;> simp [h]
theorem insU_up {x : Int} : ∀ {l : List Int}, l.Pairwise (· < ·) → (insU x l).Pairwise (· < ·)
  | [], _ => by simp [insU]
  | y :: l, h => by
    obtain ⟨h1, h2⟩ := List.pairwise_cons.mp h
    unfold insU
    split
    · next q =>
      refine List.pairwise_cons.mpr ⟨fun z hz => ?_, h⟩
      rcases List.mem_cons.mp hz with rfl | hz
      · exact q
      · have := h1 z hz; omega
    · split
      · exact h
      · next q q2 =>
        refine List.pairwise_cons.mpr ⟨fun z hz => ?_, insU_up h2⟩
        rcases insU_mem.mp hz with rfl | hz
        · omega
        · exact h1 z hz
theorem setI_mem {k : Int} : ∀ {l : List Int}, k ∈ setI l ↔ k ∈ l
  | [] => by simp [setI]
  | x :: l => by rw [setI, insU_mem, setI_mem]; simp
theorem setI_up : ∀ l : List Int, (setI l).Pairwise (· < ·)
  | [] => List.Pairwise.nil
  | x :: l => insU_up (setI_up l)
theorem up_one : ∀ {a b : List Int}, a.Pairwise (· < ·) → b.Pairwise (· < ·) → (∀ k, k ∈ a ↔ k ∈ b) → a = b
  | [], [], _, _, _ => rfl
  | [], y :: b, _, _, h => absurd ((h y).mpr List.mem_cons_self) (by simp)
  | x :: a, [], _, _, h => absurd ((h x).mp List.mem_cons_self) (by simp)
  | x :: a, y :: b, h1, h2, h => by
    obtain ⟨a1, a2⟩ := List.pairwise_cons.mp h1
    obtain ⟨b1, b2⟩ := List.pairwise_cons.mp h2
    have e : x = y := by
      rcases List.mem_cons.mp ((h x).mp List.mem_cons_self) with z | z
      · exact z
      · rcases List.mem_cons.mp ((h y).mpr List.mem_cons_self) with z2 | z2
        · exact z2.symm
        · have := b1 x z
          have := a1 y z2
          omega
    subst e
    rw [up_one a2 b2 fun k => ?_]
    constructor
    · intro hk
      rcases List.mem_cons.mp ((h k).mp (List.mem_cons_of_mem _ hk)) with z | z
      · subst z; have := a1 _ hk; omega
      · exact z
    · intro hk
      rcases List.mem_cons.mp ((h k).mpr (List.mem_cons_of_mem _ hk)) with z | z
      · subst z; have := b1 _ hk; omega
      · exact z
theorem setI_id {l : List Int} : setI l = l ↔ l.Pairwise (· < ·) := by
  constructor
  · intro e; rw [← e]; exact setI_up l
  · intro h; exact up_one (setI_up l) h fun k => setI_mem
section
variable {X : Cx} {K : PySem.W.Frag}
def SetJ (w : World) (a : Addr) (ns : List Int) : HO := .ext fun h => ∃ c, SetR w h a (fun j => decide (j ∈ ns)) c ∧ c ≤ ns.length
theorem setJ_ok {w : World} {P : Program} {H : Hp} {h : Heap} {a : Addr} {ns : List Int} {c : Nat} (m : SetR w h a (fun j => decide (j ∈ ns)) c) (hc : c ≤ ns.length) : ObjOk P w H h a (SetJ w a ns) := by
  have ⟨o, _, _, _, ho, _⟩ := m
  exact ⟨⟨c, m, hc⟩, ⟨o, ho⟩, fun h1 h2 ⟨c, p, pc⟩ k => ⟨c, SetR.at p k, pc⟩⟩
def rSetJ (K : PySem.W.Frag) (w : World) : List V → Hp → VK → Prop := fun xs H Q => ∃ (l : Addr) (ns : List Int), xs = [V.ref l] ∧ SqL K H l (ns.map V.int) ∧ ns.length < 4000 ∧ ∀ p, H p = none → Q (.ref p) (upd H p (SetJ w p ns))
theorem cr_setJ (hc : X.calm = true) : CallR X (.type "set") (rSetJ X.K X.w) := by
  intro pins s σ H xs us Q I r h
  obtain ⟨l, ns, rfl, hl, few, q⟩ := h
  rw [Vals.ref1 r]
  obtain ⟨its, rv, pl, hz⟩ := I.list hl
  have hn : H s.heap.objs.size = none := I.hok.fresh (Nat.le_refl _)
  refine call_setI (prog := X.prog) (w := X.w) ns (I.ok.hd hc) pl.isList (by simpa using rv.ints) (by unfold scanBound; omega) fun h' tk c m hcl k => ?_
  exact ⟨.ref s.heap.objs.size, upd H s.heap.objs.size (SetJ X.w s.heap.objs.size ns), I.laid (t' := tk) (fun b u e => k b u e) (Nat.le_refl _) (setJ_ok m hcl), rfl, q _ hn⟩
def rSortJ (w : World) : List V → Hp → VK → Prop := fun vs H Q => ∃ (a : Addr) (ns : List Int), vs = [V.ref a] ∧ H a = some (SetJ w a ns) ∧ ns.length < 4000 ∧ ∀ (p : Addr), H p = none → Q (.ref p) (upd H p (.lst ((setI ns).map V.int)))
theorem cr_sortJ (hc : X.calm = true) : CallR X (.builtin "sorted") (rSortJ X.w) := by
  intro pins s σ H vs us Q I r h
  obtain ⟨a, ns, rfl, ha, few, q⟩ := h
  obtain ⟨c, m, hcl⟩ := (I.hok a _ ha).1
  rw [Vals.ref1 r]
  refine sorted_setI m (I.ok.hd hc) fun s' p out cc ms k g o hp hg hi hs hm hl => ?_
  have em : ms = setI ns := up_one hs (setI_up ns) fun k => by rw [hm k, decide_eq_true_iff, setI_mem]
  have hlen : (ms.map V.int).length ≤ sizeLine := by rw [List.length_map, hl, sizeLine_eq]; omega
  have hn : H p = none := I.hok.fresh hp
  have J : Inv X pins σ (upd H p (.lst (ms.map V.int))) { s with heap := s'.heap, gens := s'.gens, drawn := s'.drawn, toks := s'.toks } :=
    I.call (ch := []) (Un.laid k hp hn) (I.hok.laid k hp ⟨hlen, out.toList, cc, vals_of_ints hi, hg⟩) (by rw [g]; exact I.bare) (fun _ z => nomatch z)
  have e : s' = { s with heap := s'.heap, gens := s'.gens, drawn := s'.drawn, toks := s'.toks } := by cases s'; cases s; cases o; rfl
  rw [e]
  rw [em] at J
  exact ⟨.ref p, _, J, rfl, q p hn⟩
def bSortSet : List D → Hv → R (List D) := fun ds h => match ds with
  | [d] => (match (lOf h d).bind (optAll toI) with
    | some ns => if ns.length < 4000 then .ok ((setI ns).map .int) h else .stuck
    | none => .stuck)
  | _ => .stuck
def rSS (K : PySem.W.Frag) (w : World) (t : TA) : TE := tCB (rSortJ w) (tCons (tCB (rSetJ K w) t) tNil)
theorem sn_sortset {w : World} {W : WX} {t : TA} {la : LS} (h2 : Sn K (repA K) W t la) : Sn K (repL K) W (rSS K w t) (eCa bSortSet la) := ⟨fun rl rs post => h2.bind rl rs post fun ds h1 vs φ1 S1 H1 rl1 rs1 st rp post => by
  unfold bSortSet at post
  split at post
  · next d =>
    obtain ⟨v, rfl, r⟩ := rp.one
    split at post
    · next ns hn =>
      obtain ⟨xs, q1, q2⟩ := Option.bind_eq_some_iff.mp hn
      split at post
      · next few =>
        obtain ⟨a, us, rfl, h3, h4⟩ := lOf_ok rl1 r q1
        rw [toIs_ok h4 q2] at h3
        refine ⟨a, ns, rfl, h3, few, fun p hp => ?_⟩
        obtain ⟨r2, s2⟩ := rl1.hold (o := SetJ w p ns) hp
        refine ⟨p, ns, rfl, upd_same, few, fun p2 hp2 => ?_⟩
        obtain ⟨r3, s3⟩ := r2.hold (o := .lst ((setI ns).map V.int)) hp2
        have old : H1 p2 = none := s2.fresh hp2
        exact post _ φ1 _ _ r3 (s2.trans s3) ⟨p2, _, rfl, old, upd_same, rl1.snone old, rl1.notin old, .of_ints _⟩
      · exact post.elim
    · exact post.elim
  · exact post.elim⟩
end
section
variable {X : Cx} {W : WX} {e : Expr} {p pos p2 pos2 : Pos} {la : LS}
theorem sl_sortset (hc : X.calm = true) (n1 : X.mg "sorted" = none) (n2 : X.mg "set" = none) (ha : SA X W [e] la) (hg : Gl X "sorted" := by rfl) (hg2 : Gl X "set" := by rfl)
    (he : starEach [.Call (.Name "set" p2) [e] [] pos2] X.env = (false, eval (.Call (.Name "set" p2) [e] [] pos2) X.env) :: starEach [] X.env := by rfl) (hpl : (backTo pos (starEach [] X.env)).any (·.1) = false := by rfl)
    (he2 : starEach [e] X.env = (false, eval e X.env) :: starEach [] X.env := by rfl) (hpl2 : (backTo pos2 (starEach [] X.env)).any (·.1) = false := by rfl) : SL X W (.Call (.Name "sorted" p) [.Call (.Name "set" p2) [e] [] pos2] [] pos) (eCa bSortSet la) := by
  obtain ⟨ta, h1, h2⟩ := ha
  exact ⟨_, pe_callB (cr_sortJ hc) hg n1 rfl (pa_cons (pe_callTy (cr_setJ hc) hg2 n2 rfl h1 (by decide) (by decide) he2 hpl2) pa_nil) (by decide) (by decide) he hpl, sn_sortset h2⟩
end
@[simp] theorem bSortSet_ints {ns : List Int} {h : Hv} (hl : ns.length < 4000) : bSortSet [.lst (ns.map .int)] h = .ok ((setI ns).map .int) h := by
  show (match (lOf h (.lst (ns.map .int))).bind (optAll toI) with
    | some ns => if ns.length < 4000 then R.ok ((setI ns).map D.int) h else .stuck
    | none => .stuck) = _
  simp [toI_map, hl]
/-! sorted(d), whole numbers as keys, any number of them -/
section
variable {X : Cx}
theorem cr_sortDG (hcalm : X.calm = true) : CallR X (.builtin "sorted") (fun xs H Q => ∃ (a : Addr) (kvs : List (Key × V)) (ks : List Int), xs = [.ref a] ∧ Rd H a (.dK kvs) ∧ kvs.map (·.1) = ks.map Sum.inl ∧ ks.length < 4000 ∧
    ∀ (ys : List Int) (p : Addr), ys.Perm ks → ys.Pairwise (· ≤ ·) → H p = none → Q (.ref p) (upd H p (.lst (ys.map V.int)))) := by
  intro pins s σ H xs us Q I r q
  obtain ⟨a, kvs, ks, ex, hd, hks, few, q⟩ := q
  subst ex
  obtain ⟨u, eu, rx⟩ := vals1 r; subst eu; cases rx
  obtain ⟨z, lo, vs, rel, dd⟩ := dk_rd I.hok hd; obtain ⟨ep, hat⟩ := dd.dictAt
  have ek : vs.map (·.1) = ks.map Sum.inl := rel.keys.symm.trans hks
  have hl : vs.length = ks.length := by have e := congrArg List.length ek; rw [List.length_map, List.length_map] at e; exact e
  have big : vs.length ≤ sizeLine := by rw [hl, sizeLine_eq]; omega
  refine Calls.call_function_entry PyProof.Rows.kind_sorted PyProof.Rows.plain_sorted PyProof.Rows.entry_sorted (PyProof.Rows.args_sorted1 _) ?_
  unfold Builtin.«sorted»; refine wpAny_bind (m := checkCount "sorted" 1 1 _) (wpAny_pure ?_)
  refine wpAny_bind (PySem.W.kdu_collect (A := X.A.in1) (PySem.W.kdl_dict (knd := mixKind X.prog X.w) (kvs := vs) (ep := ep) lo) (I.ok.hd hcalm) hat big fun h' tk acc hk hacc => ?_)
  have la : acc.toList.length = ks.length := by rw [Array.length_toList, hacc.1, hl]
  have ia : IntsAre acc.toList ks := ints_each la fun j v e => by
    obtain ⟨k, x, e1, e2⟩ := hacc.2 j v (by rw [← Array.getElem?_toList]; exact e)
    have e3 : (vs.map (·.1))[j]? = some k := by rw [List.getElem?_map, e1]; rfl
    rw [ek, List.getElem?_map] at e3
    cases e4 : ks[j]? with
    | none => rw [e4] at e3; cases e3
    | some y =>
      rw [e4] at e3
      have e5 : Sum.inl y = k := Option.some.inj e3
      subst e5
      rcases keyIs_shape (show keyIs (Sum.inl y) v = true from e2) with ⟨i, t, ek, ev⟩ | ⟨z, t, ek, ev⟩
      · cases ek; exact ⟨y, t, rfl, ev⟩
      · cases ek
  have J : Inv X pins σ H { s with heap := h', toks := tk } := I.kept hk
  have big2 : acc.toList.length ≤ sizeLine := by rw [la, sizeLine_eq]; omega
  refine wpAny_bind (wpAny_newList ?_ big2)
  have oL : (h'.push (seqObj "list" acc.toList.toArray 0)).get? h'.objs.size = some (seqObj "list" acc.toList.toArray 0) := Heap.get?_push_size _ rfl
  show wpAny _ _ _ _ _ { s with heap := h'.push (seqObj "list" acc.toList.toArray 0), toks := tk }
  refine wpAny_bind (wpAny_holding (wpAny_call_entry PyProof.Rows.slot_list_sort ⟨_, oL, rfl⟩ PyProof.Rows.entry_list_sort
    (SrtO.list_sort_ord (s := { s with heap := h'.push (seqObj "list" acc.toList.toArray 0), toks := tk }) SrtO.swo_int oL big2 (fun x2 => SrtO.ints_sortable ia x2) fun out x1 x2 => ⟨_, rfl, ?_⟩) (PyProof.Rows.args_list_sort _)))
  obtain ⟨a1, a2, a3⟩ := SrtO.ints_out ia x1 x2
  obtain ⟨e', he'⟩ := PyProof.Rows.sortedHeap_at (vs := acc.toList) (out := out.toArray) oL
  have hlen : ((out.map SrtO.iv).map V.int).length ≤ sizeLine := by rw [List.length_map, a2.length_eq, sizeLine_eq]; omega
  refine wpAny_pure ⟨_, rfl, .ref h'.objs.size, upd H h'.objs.size (.lst ((out.map SrtO.iv).map V.int)), J.laid (t' := tk) (fun b u e => ?_) (Nat.le_refl _)
    (show ObjOk X.prog X.w _ _ _ (.lst ((out.map SrtO.iv).map V.int)) from ⟨hlen, out, e', vals_of_ints (by simpa using a1), he'⟩), rfl, q _ _ a2 a3 (J.hok.fresh (Nat.le_refl _))⟩
  have hb : b < h'.objs.size := Heap.lt_size e
  rw [PyProof.Rows.sortedHeap_old (Nat.ne_of_lt hb) (by rw [size_push']; exact Nat.lt_succ_of_lt hb)]
  exact Heap.get?_push_of_some _ e
def bSortDG : List D → Hv → R (List D) := fun ds h => match ds with
  | [d] => (match (kvOf h d).bind fun kd => optAll intK (kd.map (·.1)) with
    | some ns => if ns.length < 4000 then .ok ((sortI ns).map .int) h else .stuck
    | none => .stuck)
  | _ => .stuck
def rSortDG (K : PySem.W.Frag) : List V → Hp → VK → Prop := fun xs H Q => ∃ (a : Addr) (kvs : List (Key × V)) (ks : List Int), xs = [.ref a] ∧ Rd H a (.dK kvs) ∧ kvs.map (·.1) = ks.map Sum.inl ∧ ks.length < 4000 ∧ ∀ (ys : List Int) (p : Addr), ys.Perm ks → ys.Pairwise (· ≤ ·) → H p = none → Q (.ref p) (upd H p (.lst (ys.map V.int)))
theorem cl_sortDG {K : PySem.W.Frag} : CaL K (rSortDG K) bSortDG := by
  intro φ S H h ds vs Q E rl ra post
  unfold bSortDG at post
  split at post
  · next d =>
    obtain ⟨v, rfl, r⟩ := ra.one
    split at post
    · next ns hn =>
      obtain ⟨kd, q1, q2⟩ := Option.bind_eq_some_iff.mp hn
      split at post
      · next hl =>
        obtain ⟨a, kv, rfl, h2, rk⟩ := kvOf_ok rl r q1
        refine ⟨a, kv, ns, rfl, h2, by rw [rk.to.1]; exact intKs q2, hl, fun ns' p hperm hs hp => ?_⟩
        have e : ns' = sortI ns := sort_one (hperm.trans (sortI_perm ns).symm) hs (sortI_rises ns)
        rw [e]
        obtain ⟨r2, s2⟩ := rl.hold (o := .lst ((sortI ns).map V.int)) hp
        exact post _ φ _ _ r2 s2 ⟨p, _, rfl, hp, upd_same, rl.snone hp, rl.notin hp, .of_ints _⟩
      · exact post.elim
    · exact post.elim
  · exact post.elim
theorem cr_sortDG' {X : Cx} (hc : X.calm = true := by rfl) : CallR X (.builtin "sorted") (rSortDG X.K) := cr_sortDG hc
end

/-! zip of two lists, changing ones among them (not in the loop) -/
def zsOf (h : Hv) : D → Option (List D × (Hv → Bool))
  | .lst xs => some (xs, always)
  | .fz xs => some (xs, always)
  | .cell n => match h[n]? with
    | some (.lst xs) => some (xs, isCell n xs)
    | _ => none
  | _ => none
@[simp] theorem zsOf_lst {h : Hv} {xs : List D} : zsOf h (.lst xs) = some (xs, always) := rfl
@[simp] theorem zsOf_fz {h : Hv} {xs : List D} : zsOf h (.fz xs) = some (xs, always) := rfl
@[simp] theorem zsOf_cell {h : Hv} {n : Nat} : zsOf h (.cell n) = (match h[n]? with
    | some (.lst xs) => some (xs, isCell n xs)
    | _ => none) := rfl
theorem zsOf_ok {K : PySem.W.Frag} {φ1 : List Addr} {S1 H1 : Hp} {h1 : Hv} {d : D} {v : V} {ds : List D} {chk : Hv → Bool} (rl : Rel K φ1 S1 H1 h1) (r : Rp K φ1 S1 v d) (e : zsOf h1 d = some (ds, chk)) :
    ∃ a, v = .ref a ∧ (∃ vs, SqL K H1 a vs ∧ RpA K φ1 S1 vs ds) ∧ ∀ {φ : List Addr} {S H : Hp} {h : Hv}, Rel K φ S H h → Pre φ1 φ → Ex S1 S → chk h = true → ∃ vs, SqL K H a vs ∧ RpA K φ S vs ds := by
  cases d with
  | lst xs =>
    cases e
    cases r with
    | lst g1 g2 => exact ⟨_, rfl, ⟨_, .inl (.inl (rl.sub _ _ g1)), g2⟩, fun r2 pr ex _ => ⟨_, .inl (.inl (r2.sub _ _ (ex _ _ g1))), g2.mono pr ex⟩⟩
  | fz xs =>
    cases e
    cases r with
    | fz g1 g2 => exact ⟨_, rfl, ⟨_, rl.sub.sql g1, g2⟩, fun r2 pr ex _ => ⟨_, r2.sub.sql (ex.sql g1), g2.mono pr ex⟩⟩
  | cell n =>
    cases r with
    | @cell a _ ha =>
      have look : ∀ {φ : List Addr} {S H : Hp} {h : Hv}, Rel K φ S H h → Pre φ1 φ → h[n]? = some (.lst ds) → ∃ vs, SqL K H a vs ∧ RpA K φ S vs ds := fun {φ S H h} r2 pr e => by
        obtain ⟨_, o, ho, vs, rfl, ra⟩ := r2.cel n a _ (pr.at ha) e
        exact ⟨vs, .inl (.inl ho), ra⟩
      rw [zsOf_cell] at e
      split at e
      · next xs hx =>
        cases e
        exact ⟨a, rfl, look rl (Pre.refl _) hx, fun r2 pr _ ck => look r2 pr (by unfold isCell at ck; exact @of_decide_eq_true _ (Classical.propDecidable _) ck)⟩
      · cases e
  | _ => cases e
def iZG (g : LS) : IS := fun σ h => (g σ h).bind fun ds h1 => match ds with
  | [x, y] => (match zsOf h1 x, zsOf h1 y with
    | some (xs, c1), some (ys, c2) => if xs.length = ys.length then .ok (zipD xs ys, fun h => c1 h && c2 h) h1 else .stuck
    | _, _ => .stuck)
  | _ => .stuck
@[simp] theorem iZG_ap {l : LS} {σ : VS} {h : Hv} : iZG l σ h = (l σ h).bind fun ds h1 => (match ds with
  | [x, y] => (match zsOf h1 x, zsOf h1 y with
    | some (xs, c1), some (ys, c2) => if xs.length = ys.length then .ok (zipD xs ys, fun h => c1 h && c2 h) h1 else .stuck
    | _, _ => .stuck)
  | _ => .stuck) := rfl
theorem qi_zipG {X : Cx} {W : WX} {e e2 : Expr} {p pos : Pos} {la : LS} {elts : List Expr} {kk : Nat} {tpos : Pos} (hm : X.mg "zip" = none) (ha : SA X W [e, e2] la) (hg : Gl X "zip" := by rfl) (hs : starEach [e, e2] X.env = (false, eval e X.env) :: starEach [e2] X.env := by rfl) (hpl : (backTo pos (starEach [e2] X.env)).any (·.1) = false := by rfl) :
    QI X W (.Tuple elts kk tpos) (.Call (.Name "zip" p) [e, e2] [] pos) (iZG la) := by
  obtain ⟨ta, h1, h2⟩ := ha
  refine ⟨_, pi_zip hg hm h1 hs hpl, ⟨fun rl rs post => h2.bind rl rs post fun ds h1 vs φ1 S1 H1 rl1 rs1 st rp post => ?_⟩⟩
  have ra : RpA X.K φ1 S1 vs ds := rp
  split at post
  · next x y =>
    obtain ⟨v, w, rfl, r, r2⟩ := ra.two
    split at post
    · next xs c1 ys c2 q1 q2 =>
      split at post
      · next hl =>
        obtain ⟨a, rfl, ⟨vs, a1, a2⟩, la⟩ := zsOf_ok rl1 r q1
        obtain ⟨b, rfl, ⟨ws, b1, b2⟩, lb⟩ := zsOf_ok rl1 r2 q2
        refine ⟨a, b, vs, ws, rfl, a1, b1, post (Itz X.K a b) φ1 S1 H1 rl1 (Step.refl _ _ _) ⟨fun {i φ S H h} r2 pr ex ck hi => ?_, fun {φ S H h} r2 pr ex ck => ?_⟩⟩
        · rw [zipD_len hl] at hi
          have ck2 : c1 h = true ∧ c2 h = true := by
            have z : (c1 h && c2 h) = true := ck
            rw [Bool.and_eq_true] at z; exact z
          have hi2 : i < ys.length := by omega
          obtain ⟨vs, s1, t1⟩ := la r2 pr ex ck2.1
          obtain ⟨ws, s2, t2⟩ := lb r2 pr ex ck2.2
          obtain ⟨u1, hu1, ru1⟩ := t1.at (List.getElem?_eq_getElem hi)
          obtain ⟨u2, hu2, ru2⟩ := t2.at (List.getElem?_eq_getElem hi2)
          refine ⟨⟨vs, ws, u1, u2, s1, s2, hu1, hu2⟩, fun z H' yl => ?_⟩
          obtain ⟨T, x1, x2, rfl, nT, rfl, f1, f2⟩ := yl
          have e1 := f1 vs s1
          rw [hu1] at e1
          cases e1
          have e2 := f2 ws s2
          rw [hu2] at e2
          cases e2
          obtain ⟨r3, s3⟩ := r2.lay (o := .tup [u1, u2]) nT
          exact ⟨upd S T (.tup [u1, u2]), _, zipD_at (List.getElem?_eq_getElem hi) (List.getElem?_eq_getElem hi2), r3, s3, .tup (.inl (.inl upd_same)) (.cons (Rp.mono (Pre.refl _) s3.sub ru1) (.cons (Rp.mono (Pre.refl _) s3.sub ru2) .nil))⟩
        · have ck2 : c1 h = true ∧ c2 h = true := by
            have z : (c1 h && c2 h) = true := ck
            rw [Bool.and_eq_true] at z; exact z
          obtain ⟨vs, s1, t1⟩ := la r2 pr ex ck2.1
          obtain ⟨ws, s2, t2⟩ := lb r2 pr ex ck2.2
          exact ⟨vs, ws, s1, s2, .inl (by rw [zipD_len hl, t1.length]; exact Nat.le_refl _)⟩
      · exact post.elim
    · exact post.elim
  · exact post.elim

end
end VD

set_option Elab.async false
set_option linter.all false
set_option maxRecDepth 100000
set_option maxHeartbeats 4000000
namespace VD
open PySem PySem.Spec PyProof.Rows L2
noncomputable section
/-! ### texts as lists of signs; cells mixed -/
abbrev sx (cs : List Nat) : Str := ⟨cs.toArray⟩
abbrev tx (cs : List Nat) : D := .str (sx cs)
theorem sx_len (cs : List Nat) : (sx cs).length = cs.length := by
  show (cs.toArray).size = _
  simp
theorem sx_inj {a b : List Nat} : sx a = sx b ↔ a = b := by
  constructor
  · intro e
    have := congrArg (fun z : Str => z.cps.toList) e
    simpa using this
  · intro e; rw [e]
theorem sx_app (a b : List Nat) : (sx a ++ sx b : Str) = sx (a ++ b) := by
  show Str.mk _ = Str.mk _
  simp
@[simp] theorem oAdd_tx {a b : List Nat} {h : Hv} (hl : a.length + b.length ≤ 16777216) : oAdd (tx a) (tx b) h = .ok (tx (a ++ b)) h := by
  rw [oAdd_str, sx_len, sx_len, if_pos hl, sx_app]
@[simp] theorem signsD_tx (cs : List Nat) : signsD (sx cs) = cs.map fun c => tx [c] := by
  unfold signsD
  simp
@[simp] theorem ixD_tx {cs : List Nat} {h : Hv} {k : Int} (hl : cs.length ≤ 16777216) (h0 : 0 ≤ k) (h1 : k < cs.length) : ixD h (tx cs) k = some (tx [cs[k.toNat]?.getD 0]) := by
  rw [ixD_str, sx_len, if_pos hl]
  have e : (sx cs).cps.toList = cs := by simp
  rw [e]
  obtain ⟨a, _, h3, h4⟩ := atI_get (xs := cs) h0 h1
  rw [h4, h3]
  rfl
theorem slD_tx_to {cs : List Nat} {n : Int} (hl : cs.length ≤ 16777216) (h0 : 0 ≤ n) : slD (tx cs) none (some n) = some (tx (cs.take n.toNat)) := by
  show (if (sx cs).length ≤ 16777216 then some (D.str (cutS (sx cs) none (some n))) else none) = _
  rw [sx_len, if_pos hl]
  have e : cutS (sx cs) none (some n) = sx (cs.take n.toNat) := by
    unfold cutS
    have e1 : HT.sIx (sx cs).length (sx cs).length (some n) = min n.toNat cs.length := by
      show (if n < 0 then _ else min n.toNat (sx cs).length) = _
      rw [if_neg (by omega), sx_len]
    rw [e1, HT.sIx_none]
    have e2 : (sx cs).cps.toList = cs := by simp
    rw [e2, List.drop_zero, Nat.sub_zero]
    show Str.mk _ = Str.mk _
    congr 2
    rw [List.take_eq_take_iff]
    omega
  rw [e]
theorem slD_tx_from {cs : List Nat} {n : Int} (hl : cs.length ≤ 16777216) (h0 : 0 ≤ n) : slD (tx cs) (some n) none = some (tx (cs.drop n.toNat)) := by
  show (if (sx cs).length ≤ 16777216 then some (D.str (cutS (sx cs) (some n) none)) else none) = _
  rw [sx_len, if_pos hl]
  have e : cutS (sx cs) (some n) none = sx (cs.drop n.toNat) := by
    unfold cutS
    have e1 : HT.sIx (sx cs).length 0 (some n) = min n.toNat cs.length := by
      show (if n < 0 then _ else min n.toNat (sx cs).length) = _
      rw [if_neg (by omega), sx_len]
    have e2 : (sx cs).cps.toList = cs := by simp
    rw [e1, HT.sIx_none, e2, sx_len]
    show Str.mk _ = Str.mk _
    congr 1
    rw [List.take_of_length_le (by rw [List.length_drop]; exact Nat.le_refl _)]
    by_cases q : n.toNat ≤ cs.length
    · rw [Nat.min_eq_left q]
    · rw [Nat.min_eq_right (by omega), List.drop_of_length_le (Nat.le_refl _), List.drop_of_length_le (by omega)]
  rw [e]
@[simp] theorem lenD_tx {cs : List Nat} {h : Hv} (hl : cs.length ≤ 16777216) : lenD h (tx cs) = some (cs.length : Int) := by rw [lenD_str, sx_len, if_pos hl]
@[simp] theorem oLt_tx {a b : List Nat} {h : Hv} : oLt (tx a) (tx b) h = .ok (.bl (decide (a < b))) h := by
  rw [oLt_str]
theorem eqD_tx {a b : List Nat} {h : Hv} : eqD h (tx a) (tx b) = some (decide (a = b)) := by
  rw [eqD_str]
  congr 1
  rw [decide_eq_decide, sx_inj]
/-- signs of words -/
def alnum : List Nat := [48, 49, 50, 51, 52, 53, 54, 55, 56, 57, 97, 98, 99, 100, 101, 102, 103, 104, 105, 106, 107, 108, 109, 110, 111, 112, 113, 114, 115, 116, 117, 118, 119, 120, 121, 122]

def AN : Str := sx [48, 49, 50, 51, 52, 53, 54, 55, 56, 57, 97, 98, 99, 100, 101, 102, 103, 104, 105, 106, 107, 108, 109, 110, 111, 112, 113, 114, 115, 116, 117, 118, 119, 120, 121, 122]
def plc (c : Nat) : Int := if c < 58 then (c : Int) - 48 else (c : Int) - 87
theorem find_an : ∀ c ∈ alnum, Txt.find "0123456789abcdefghijklmnopqrstuvwxyz" (sx [c]) = plc c := by decide +kernel
theorem an_cases {c : Nat} (h : c ∈ alnum) : (48 ≤ c ∧ c ≤ 57) ∨ (97 ≤ c ∧ c ≤ 122) := by
  have key : ∀ c ∈ alnum, (48 ≤ c ∧ c ≤ 57) ∨ (97 ≤ c ∧ c ≤ 122) := by decide
  exact key c h
theorem plc_lt {c d : Nat} (h : c ∈ alnum) (k : d ∈ alnum) : (plc c < plc d ↔ c < d) ∧ (plc c = plc d ↔ c = d) := by
  have := an_cases h
  have := an_cases k
  unfold plc
  split <;> split <;> omega
theorem lit_ix {s : Str} {cs : List Nat} {P : Nat → Prop} (es : s = sx cs) (hl : cs.length ≤ 16777216) (hp : ∀ c ∈ cs, P c) {k : Int} {h : Hv} (h0 : 0 ≤ k) (h1 : k < cs.length) : ∃ c, ixD h (.str s) k = some (tx [c]) ∧ P c := by
  rw [es, ixD_tx hl h0 h1]
  refine ⟨_, rfl, hp _ ?_⟩
  have h2 : k.toNat < cs.length := by omega
  rw [List.getElem?_eq_getElem h2]
  exact List.getElem_mem h2
theorem alph_eq : ("abcdefghijklmnopqrstuvwxyz0123456789" : Str) = sx [97, 98, 99, 100, 101, 102, 103, 104, 105, 106, 107, 108, 109, 110, 111, 112, 113, 114, 115, 116, 117, 118, 119, 120, 121, 122, 48, 49, 50, 51, 52, 53, 54, 55, 56, 57] := by decide +kernel
/-! cells -/
def cellF (ns : List Int) (k : Int) : Int := if k < ns.length then gI ns k else 0
def cellB : SS := sSeq (sIf (toB (eOp oLt (eVar 1) (eCa bLen (aCons (eVar 0) (aNil))))) (sRet (eOp oIx (eVar 0) (eVar 1))) (sNext)) (sRet (eK (.int 0)))
def cellM : List D → Hv → R D := fnS 2 0 cellB
theorem cellM_eq {ns : List Int} {k : Int} (h0 : 0 ≤ k) : cellM [scr ns, .int k] [] = .ok (.int (cellF ns k)) [] := by
  refine fnS_of (P := fun r => r = .ok (.int (cellF ns k)) []) rfl ?_
  unfold cellB cellF
  by_cases q : k < ns.length
  · simp [q, ix_ints h0 q]
  · simp [q]
theorem callP_cell {ns : List Int} {k : Int} {h : Hv} (h0 : 0 ≤ k) : callP cellM [scr ns, .int k] h = .ok (.int (cellF ns k)) h := callP_ok (by simp) (cellM_eq h0)
def mixT (s k : Int) : Int := (s % 2147483647 * 48271 + k * 7919 + 11) % 2147483647
def mixF (s k : Int) : Int := mixT s k * mixT s k % 2147483629 * 69621 % 2147483647
theorem mixF_bd (s k : Int) : 0 ≤ mixF s k ∧ mixF s k < 2147483647 := ⟨Int.emod_nonneg _ (by decide), Int.emod_lt_of_pos _ (by decide)⟩
def mixB : SS := sSeq (sSet 2 (eOp oMod (eOp oAdd (eOp oAdd (eOp oMul (eOp oMod (eVar 0) (eK (.int 2147483647))) (eK (.int 48271))) (eOp oMul (eVar 1) (eK (.int 7919)))) (eK (.int 11))) (eK (.int 2147483647)))) (sRet (eOp oMod (eOp oMul (eOp oMod (eOp oMul (eVar 2) (eVar 2)) (eK (.int 2147483629))) (eK (.int 69621))) (eK (.int 2147483647))))
def mixM : List D → Hv → R D := fnS 2 1 mixB
theorem mixM_eq {s k : Int} (h0 : 0 ≤ k) (h1 : k < 10 ^ 30) : mixM [.int s, .int k] [] = .ok (.int (mixF s k)) [] := by
  refine fnS_of (P := fun r => r = .ok (.int (mixF s k)) []) rfl ?_
  unfold mixB
  have b1 : 0 ≤ s % 2147483647 := Int.emod_nonneg _ (by decide)
  have b2 : s % 2147483647 < 2147483647 := Int.emod_lt_of_pos _ (by decide)
  have b3 : 0 ≤ mixT s k := Int.emod_nonneg _ (by decide)
  have b4 : mixT s k < 2147483647 := Int.emod_lt_of_pos _ (by decide)
  have e1 : (s % 2147483647 * 48271 + k * 7919 + 11) % 2147483647 = mixT s k := rfl
  have b5 : 0 ≤ mixT s k * mixT s k % 2147483629 := Int.emod_nonneg _ (by decide)
  have b6 : mixT s k * mixT s k % 2147483629 < 2147483629 := Int.emod_lt_of_pos _ (by decide)
  simp (disch := omega) [e1, mixF]
theorem callP_mix {s k : Int} {h : Hv} (h0 : 0 ≤ k) (h1 : k < 10 ^ 30) : callP mixM [.int s, .int k] h = .ok (.int (mixF s k)) h := callP_ok (by simp) (mixM_eq h0 h1)
/-! more of texts -/
@[simp] theorem oIn_sign {c : Nat} {ss : List Nat} {h : Hv} : oIn (tx [c]) (tx ss) h = .ok (.bl (decide (c ∈ ss))) h := by
  show (match inD h (tx [c]) (tx ss) with | some b => R.ok (D.bl b) h | none => .stuck) = _
  have e : inD h (tx [c]) (tx ss) = some (decide (c ∈ (sx ss).cps.toList)) := rfl
  rw [e]
@[simp] theorem oNotIn_sign {c : Nat} {ss : List Nat} {h : Hv} : oNotIn (tx [c]) (tx ss) h = .ok (.bl (!decide (c ∈ ss))) h := by
  show (match inD h (tx [c]) (tx ss) with | some b => R.ok (D.bl (!b)) h | none => .stuck) = _
  have e : inD h (tx [c]) (tx ss) = some (decide (c ∈ (sx ss).cps.toList)) := rfl
  rw [e]
theorem join_sx (s : List Nat) (ps : List (List Nat)) : Txt.join (sx s) (ps.map sx) = sx (TL.joinL s ps) := by
  show Builtin.Str.glued _ _ = _
  rw [StrLaws.glued_eq_join]
  have e := TL.tl_join (sx s) (ps.map sx)
  rw [List.map_map] at e
  have e2 : (TL.tl ∘ sx) = fun p : List Nat => p := by funext p; show (sx p).cps.toList = p; simp
  rw [e2, List.map_id'] at e
  have e3 : TL.tl (sx s) = s := by show (sx s).cps.toList = s; simp
  rw [e3] at e
  show Str.join (sx s) (ps.map sx) = sx (TL.joinL s ps)
  have key : ∀ z : Str, z = sx (TL.tl z) := fun z => by
    cases z with
    | mk a => show Str.mk a = Str.mk (a.toList).toArray; simp
  rw [key (Str.join (sx s) (ps.map sx)), e]
theorem joinL_signs : ∀ cs : List Nat, TL.joinL [] (cs.map fun c => [c]) = cs
  | [] => rfl
  | [_] => rfl
  | c :: d :: r => by
    have ih := joinL_signs (d :: r)
    show [c] ++ ([] ++ TL.joinL [] ((d :: r).map fun c => [c])) = _
    rw [ih]; rfl
theorem toS_tx (ps : List (List Nat)) : optAll toS (ps.map tx) = some (ps.map sx) := by
  have := optAll_map (g := toS) (e := tx) (e' := sx) (xs := ps) fun _ _ => rfl
  exact this
theorem oJoin_ap {s : List Nat} {ps : List (List Nat)} {y : D} {h : Hv} (e : sqOf h y = some (ps.map tx)) (hl : (ps.map (·.length)).sum + ps.length * s.length ≤ 16777216) : oJoin (tx s) y h = .ok (tx (TL.joinL s ps)) h := by
  unfold oJoin
  rw [e]
  simp only [Option.bind_some, toS_tx]
  rw [if_pos, join_sx]
  have e2 : (ps.map sx).map (·.length) = ps.map (·.length) := by
    rw [List.map_map]
    exact List.map_congr_left fun p _ => sx_len p
  rw [e2, List.length_map, sx_len]
  exact hl
theorem frz_txs {n0 n : Nat} {h : Hv} {ps : List (List Nat)} : optAll (frz n0 h (n + 1)) (ps.map tx) = some (ps.map tx) := optAll_map fun _ _ => rfl
def smL : List Nat := [97, 98, 99, 100, 101, 102, 103, 104, 105, 106, 107, 108, 109, 110, 111, 112, 113, 114, 115, 116, 117, 118, 119, 120, 121, 122]
def fgL : List Nat := [48, 49, 50, 51, 52, 53, 54, 55, 56, 57]
theorem sm_eq : ("abcdefghijklmnopqrstuvwxyz" : Str) = sx smL := by decide +kernel
theorem fg_eq : ("0123456789" : Str) = sx fgL := by decide +kernel
theorem smfg_eq : ("abcdefghijklmnopqrstuvwxyz0123456789" : Str) = sx (smL ++ fgL) := by decide +kernel
theorem nil_eq : ("" : Str) = sx [] := by decide +kernel
@[simp] theorem lenD_tx0 {h : Hv} : lenD h (tx []) = some 0 := lenD_tx (cs := []) (by decide)
theorem toPy_signs {h : Hv} {n : Nat} (xs : List Nat) : optAll (toPy h (n + 1)) (xs.map fun c => tx [c]) = some (xs.map fun c => PyData.str (sx [c])) := optAll_map (g := toPy h (n + 1)) (e := fun c => tx [c]) (e' := fun c => PyData.str (sx [c])) fun _ _ => rfl
theorem nw_ne : ¬ (("number" : Str) = "word") := by decide
end
end VD

set_option Elab.async false
set_option linter.all false
set_option maxRecDepth 100000
set_option maxHeartbeats 4000000
/-! flows, cuts, roads: plain -/
namespace PF
open VD
open PySem.W (T4)
noncomputable section
abbrev Arc := T4 Int Int Int Int
def gStep (g : List Int) (p : Arc × Int) : List Int := sI (sI g p.1.a (gI g p.1.a - p.2)) p.1.b (gI (sI g p.1.a (gI g p.1.a - p.2)) p.1.b + p.2)
def okA (n : Int) (a : Arc) : Prop := 0 ≤ a.a ∧ a.a < n ∧ 0 ≤ a.b ∧ a.b < n
def gainsF (n : Int) (ps : List (Arc × Int)) : List Int := ps.foldl gStep (List.replicate n.toNat 0)
theorem gStep_len (g : List Int) (p : Arc × Int) : (gStep g p).length = g.length := by simp [gStep]
theorem gainsF_len (n : Int) : ∀ (ps : List (Arc × Int)), (gainsF n ps).length = n.toNat := by
  have key : ∀ (ps : List (Arc × Int)) (g : List Int), (ps.foldl gStep g).length = g.length := by
    intro ps
    induction ps with
    | nil => intro g; rfl
    | cons p ps ih => intro g; rw [List.foldl_cons, ih, gStep_len]
  intro ps
  rw [gainsF, key, List.length_replicate]
theorem gainsF_take (n : Int) (ps : List (Arc × Int)) (i : Nat) (p : Arc × Int) (h : ps[i]? = some p) : gainsF n (ps.take (i + 1)) = gStep (gainsF n (ps.take i)) p := by
  unfold gainsF
  rw [List.take_add_one, h, List.foldl_append]
  rfl
theorem zip_mem {arcs : List Arc} {fl : List Int} {i : Nat} {p : Arc × Int} (h : (arcs.zip fl)[i]? = some p) : p.1 ∈ arcs := (List.of_mem_zip (List.mem_of_getElem? h)).1
/-- what a node gains -/
def gt (p : Arc × Int) (v : Int) : Int := (if p.1.b = v then p.2 else 0) - (if p.1.a = v then p.2 else 0)
def gn (ps : List (Arc × Int)) (v : Int) : Int := (ps.map fun p => gt p v).sum
theorem gn_cons {p : Arc × Int} {ps : List (Arc × Int)} {v : Int} : gn (p :: ps) v = gt p v + gn ps v := by simp [gn]
theorem gI_sI {xs : List Int} {k v x : Int} (k0 : 0 ≤ k) (k1 : k < xs.length) (v0 : 0 ≤ v) : gI (sI xs k x) v = if v = k then x else gI xs v := by
  unfold gI sI
  rw [List.getElem?_set]
  by_cases q : v = k
  · subst q
    have : v.toNat < xs.length := by omega
    simp [this]
  · have : k.toNat ≠ v.toNat := by omega
    simp [this, q]
theorem gI_step {n : Int} {g : List Int} {p : Arc × Int} (hg : g.length = n.toNat) (h : okA n p.1) {v : Int} (v0 : 0 ≤ v) : gI (gStep g p) v = gI g v + gt p v := by
  obtain ⟨h1, h2, h3, h4⟩ := h
  unfold gStep gt
  rw [gI_sI h3 (by rw [sI_len]; omega) v0, gI_sI h1 (by omega) v0, gI_sI h1 (by omega) h3]
  by_cases q1 : p.1.b = v <;> by_cases q2 : p.1.a = v
  · have e1 : v = p.1.b := q1.symm
    have e2 : p.1.b = p.1.a := by rw [q1, q2]
    have e3 : p.1.a = v := q2
    rw [if_pos e1, if_pos e2, if_pos q1, if_pos q2, e3]; omega
  · have e1 : v = p.1.b := q1.symm
    have e2 : ¬ p.1.b = p.1.a := fun z => q2 (by rw [← z, q1])
    rw [if_pos e1, if_neg e2, if_pos q1, if_neg q2, q1]; omega
  · have e1 : ¬ v = p.1.b := fun z => q1 z.symm
    rw [if_neg e1, if_pos q2.symm, if_neg q1, if_pos q2, q2]; omega
  · have e1 : ¬ v = p.1.b := fun z => q1 z.symm
    rw [if_neg e1, if_neg (fun z => q2 z.symm), if_neg q1, if_neg q2]; omega
theorem gI_fold {n : Int} : ∀ (ps : List (Arc × Int)) (g : List Int), g.length = n.toNat → (∀ p ∈ ps, okA n p.1) → ∀ v, 0 ≤ v → gI (ps.foldl gStep g) v = gI g v + gn ps v
  | [], g, _, _, v, _ => by simp [gn]
  | p :: ps, g, hg, h, v, v0 => by
    rw [List.foldl_cons, gI_fold ps _ (by rw [gStep_len]; exact hg) (fun q hq => h q (List.mem_cons_of_mem _ hq)) v v0, gI_step hg (h p List.mem_cons_self) v0, gn_cons]; omega
theorem gI_rep {n v : Int} : gI (List.replicate n.toNat 0) v = 0 := by
  unfold gI
  rw [List.getElem?_replicate]
  split <;> rfl
theorem gains_gn {n : Int} {ps : List (Arc × Int)} (h : ∀ p ∈ ps, okA n p.1) {v : Int} (v0 : 0 ≤ v) : gI (gainsF n ps) v = gn ps v := by
  unfold gainsF
  rw [gI_fold ps _ (by simp) h v v0, gI_rep]; omega
theorem gains_zero {n : Int} {ps : List (Arc × Int)} (h : ∀ p ∈ ps, okA n p.1) : gainsF n ps = List.replicate n.toNat 0 ↔ ∀ v, 0 ≤ v → v < n → gn ps v = 0 := by
  constructor
  · intro e v v0 v1
    rw [← gains_gn h v0, e, gI_rep]
  · intro e
    apply List.ext_getElem
    · rw [gainsF_len, List.length_replicate]
    · intro i h1 h2
      rw [List.getElem_replicate]
      have l := gainsF_len n ps
      have := e (i : Int) (by omega) (by omega)
      rw [← gains_gn h (by omega)] at this
      unfold gI at this
      rw [Int.toNat_natCast, List.getElem?_eq_getElem h1] at this
      exact this
/-! sums -/
theorem sum_zero {α : Type} {L : List α} : (L.map fun _ => (0 : Int)).sum = 0 := by
  induction L with
  | nil => rfl
  | cons a L ih => simp [ih]
theorem sum_add {α : Type} {f g : α → Int} {L : List α} : (L.map fun v => f v + g v).sum = (L.map f).sum + (L.map g).sum := by
  induction L with
  | nil => rfl
  | cons a L ih => simp [ih]; omega
theorem sum_sub {α : Type} {f g : α → Int} {L : List α} : (L.map fun v => f v - g v).sum = (L.map f).sum - (L.map g).sum := by
  induction L with
  | nil => rfl
  | cons a L ih => simp [ih]; omega
theorem sum_mul {α : Type} {w : Int} {f : α → Int} {L : List α} : (L.map fun v => w * f v).sum = w * (L.map f).sum := by
  induction L with
  | nil => simp
  | cons a L ih => simp [ih, Int.mul_add]
theorem sum_le {α : Type} {f g : α → Int} {L : List α} (h : ∀ a ∈ L, f a ≤ g a) : (L.map f).sum ≤ (L.map g).sum := by
  induction L with
  | nil => simp
  | cons a L ih =>
    have h1 := h a List.mem_cons_self
    have h2 := ih fun b hb => h b (List.mem_cons_of_mem _ hb)
    simp; omega
theorem sum_eq {α : Type} {f g : α → Int} {L : List α} (h : ∀ a ∈ L, f a = g a) : (L.map f).sum = (L.map g).sum := by rw [List.map_congr_left h]
theorem sum_filter {α : Type} {q : α → Bool} {f : α → Int} {L : List α} : ((L.filter q).map f).sum = (L.map fun a => if q a = true then f a else 0).sum := by
  induction L with
  | nil => rfl
  | cons a L ih =>
    by_cases z : q a = true
    · simp [List.filter_cons, z, ih]
    · simp [List.filter_cons, z, ih]
theorem sum_one {L : List Int} (nd : L.Nodup) {b x : Int} : (L.map fun v => if b = v then x else 0).sum = if b ∈ L then x else 0 := by
  induction L with
  | nil => simp
  | cons a L ih =>
    obtain ⟨h1, h2⟩ := List.nodup_cons.mp nd
    have := ih h2
    by_cases q : b = a
    · subst q
      simp [h1] at this ⊢
      omega
    · simp [q, this]
def si (ps : List (Arc × Int)) (L : List Int) (f : Arc × Int → Int) : Int := (ps.map fun p => if p.1.b ∈ L ∧ p.1.a ∉ L then f p else 0).sum
def so (ps : List (Arc × Int)) (L : List Int) (f : Arc × Int → Int) : Int := (ps.map fun p => if p.1.a ∈ L ∧ p.1.b ∉ L then f p else 0).sum
theorem sum_gt {L : List Int} (nd : L.Nodup) {p : Arc × Int} : (L.map fun v => gt p v).sum = (if p.1.b ∈ L ∧ p.1.a ∉ L then p.2 else 0) - (if p.1.a ∈ L ∧ p.1.b ∉ L then p.2 else 0) := by
  unfold gt
  rw [sum_sub, sum_one nd, sum_one nd]
  by_cases q1 : p.1.b ∈ L <;> by_cases q2 : p.1.a ∈ L <;> simp [q1, q2]
theorem sum_gn {L : List Int} (nd : L.Nodup) : ∀ ps : List (Arc × Int), (L.map (gn ps)).sum = si ps L (·.2) - so ps L (·.2)
  | [] => by
    have : (L.map (gn [])) = L.map fun _ => (0 : Int) := List.map_congr_left fun v _ => rfl
    rw [this, sum_zero]; rfl
  | p :: ps => by
    have : (L.map (gn (p :: ps))) = L.map fun v => gt p v + gn ps v := List.map_congr_left fun v _ => gn_cons
    have ih := sum_gn nd ps
    rw [this, sum_add, sum_gt nd, ih]
    unfold si so
    rw [List.map_cons, List.sum_cons, List.map_cons, List.sum_cons]
    dsimp only
    omega
/-- bounds -/
def InB (arcs : List Arc) (fl : List Int) : Prop := ∀ (p : Nat) a f, arcs[p]? = some a → fl[p]? = some f → a.c ≤ f ∧ f ≤ a.d
theorem zip_at {arcs : List Arc} {fl : List Int} {p : Arc × Int} (h : p ∈ arcs.zip fl) : ∃ i : Nat, arcs[i]? = some p.1 ∧ fl[i]? = some p.2 := by
  obtain ⟨i, hi⟩ := List.getElem?_of_mem h
  rw [List.getElem?_zip_eq_some] at hi
  exact ⟨i, hi⟩
structure IsFlow (n : Int) (arcs : List Arc) (fl : List Int) : Prop where
  len : fl.length = arcs.length
  inb : InB arcs fl
  gn : ∀ v, 0 ≤ v → v < n → gn (arcs.zip fl) v = 0
structure IsCut (n : Int) (arcs : List Arc) (L : List Int) : Prop where
  nd : L.Nodup
  bd : ∀ v ∈ L, 0 ≤ v ∧ v < n
  ne : L ≠ []
  cut : ∀ fl : List Int, fl.length = arcs.length → so (arcs.zip fl) L (fun p => p.1.d) < si (arcs.zip fl) L (fun p => p.1.c)
/-- where the arcs that lead out of L are full, and those into it at their least -/
theorem tight {arcs : List Arc} {fl : List Int} {L : List Int} (nd : L.Nodup) (ho : ∀ (p : Nat) a f, arcs[p]? = some a → fl[p]? = some f → a.a ∈ L → a.b ∉ L → f = a.d) (hi : ∀ (p : Nat) a f, arcs[p]? = some a → fl[p]? = some f → a.b ∈ L → a.a ∉ L → f = a.c) :
    (L.map (gn (arcs.zip fl))).sum = si (arcs.zip fl) L (fun p => p.1.c) - so (arcs.zip fl) L (fun p => p.1.d) := by
  rw [sum_gn nd]
  have e1 : si (arcs.zip fl) L (·.2) = si (arcs.zip fl) L (fun p => p.1.c) := sum_eq fun p hp => by
    obtain ⟨i, h1, h2⟩ := zip_at hp
    by_cases q : p.1.b ∈ L ∧ p.1.a ∉ L
    · rw [if_pos q, if_pos q]; exact hi i _ _ h1 h2 q.1 q.2
    · rw [if_neg q, if_neg q]
  have e2 : so (arcs.zip fl) L (·.2) = so (arcs.zip fl) L (fun p => p.1.d) := sum_eq fun p hp => by
    obtain ⟨i, h1, h2⟩ := zip_at hp
    by_cases q : p.1.a ∈ L ∧ p.1.b ∉ L
    · rw [if_pos q, if_pos q]; exact ho i _ _ h1 h2 q.1 q.2
    · rw [if_neg q, if_neg q]
  rw [e1, e2]
theorem sums_arcs {arcs : List Arc} {fl fl' : List Int} {F : Arc → Int} (h : fl.length = arcs.length) (h' : fl'.length = arcs.length) : ((arcs.zip fl).map fun p => F p.1).sum = ((arcs.zip fl').map fun p => F p.1).sum := by
  have e : ∀ gl : List Int, gl.length = arcs.length → ((arcs.zip gl).map fun p => F p.1) = arcs.map F := fun gl hg => by
    have : ((arcs.zip gl).map fun p => F p.1) = ((arcs.zip gl).map Prod.fst).map F := by rw [List.map_map]; rfl
    rw [this, List.map_fst_zip (by omega)]
  rw [e _ h, e _ h']
theorem si_arcs {arcs : List Arc} {fl fl' : List Int} {L : List Int} {F : Arc → Int} (h : fl.length = arcs.length) (h' : fl'.length = arcs.length) : si (arcs.zip fl) L (fun p => F p.1) = si (arcs.zip fl') L (fun p => F p.1) := sums_arcs (F := fun a => if a.b ∈ L ∧ a.a ∉ L then F a else 0) h h'
theorem so_arcs {arcs : List Arc} {fl fl' : List Int} {L : List Int} {F : Arc → Int} (h : fl.length = arcs.length) (h' : fl'.length = arcs.length) : so (arcs.zip fl) L (fun p => F p.1) = so (arcs.zip fl') L (fun p => F p.1) := sums_arcs (F := fun a => if a.a ∈ L ∧ a.b ∉ L then F a else 0) h h'
/-- a flow, of w times as much, shuts cuts out -/
theorem no_cut {n w : Int} {arcs : List Arc} {fl L : List Int} (hw : 0 < w) (hl : fl.length = arcs.length) (hb : ∀ (p : Nat) a f, arcs[p]? = some a → fl[p]? = some f → w * a.c ≤ f ∧ f ≤ w * a.d) (hg : ∀ v, 0 ≤ v → v < n → gn (arcs.zip fl) v = 0) : ¬ IsCut n arcs L := by
  intro c
  have h0 : (L.map (gn (arcs.zip fl))).sum = 0 := by
    have : L.map (gn (arcs.zip fl)) = L.map fun _ => (0 : Int) := List.map_congr_left fun v hv => hg v (c.bd v hv).1 (c.bd v hv).2
    rw [this, sum_zero]
  rw [sum_gn c.nd] at h0
  have h1 : w * si (arcs.zip fl) L (fun p => p.1.c) ≤ si (arcs.zip fl) L (·.2) := by
    unfold si
    rw [← sum_mul]
    refine sum_le fun p hp => ?_
    obtain ⟨i, h1, h2⟩ := zip_at hp
    by_cases q : p.1.b ∈ L ∧ p.1.a ∉ L
    · simp only [if_pos q]; exact (hb i _ _ h1 h2).1
    · simp only [if_neg q]; simp
  have h2 : so (arcs.zip fl) L (·.2) ≤ w * so (arcs.zip fl) L (fun p => p.1.d) := by
    unfold so
    rw [← sum_mul]
    refine sum_le fun p hp => ?_
    obtain ⟨i, h1, h2⟩ := zip_at hp
    by_cases q : p.1.a ∈ L ∧ p.1.b ∉ L
    · simp only [if_pos q]; exact (hb i _ _ h1 h2).2
    · simp only [if_neg q]; simp
  have h3 := c.cut fl hl
  have h4 : w * so (arcs.zip fl) L (fun p => p.1.d) < w * si (arcs.zip fl) L (fun p => p.1.c) := Int.mul_lt_mul_of_pos_left h3 hw
  omega
/-! what is come to -/
abbrev Came := List (Int × Option (Int × Nat))
def ks (c : Came) : List Int := c.map (·.1)
theorem ks_app {c d : Came} : ks (c ++ d) = ks c ++ ks d := by simp [ks]
theorem mem_ks {c : Came} {y : Int} : y ∈ ks c ↔ ∃ (i : Nat) (o : Option (Int × Nat)), c[i]? = some (y, o) := by
  unfold ks
  rw [List.mem_map]
  constructor
  · rintro ⟨p, hp, rfl⟩
    obtain ⟨i, hi⟩ := List.getElem?_of_mem hp
    exact ⟨i, p.2, hi⟩
  · rintro ⟨i, o, h⟩
    exact ⟨_, List.mem_of_getElem? h, rfl⟩
def Edge (arcs : List Arc) (fl : List Int) (but : Option Nat) (x y : Int) (p : Nat) : Prop := some p ≠ but ∧ ∃ a f, arcs[p]? = some a ∧ fl[p]? = some f ∧ ((a.a = x ∧ a.b = y ∧ f < a.d) ∨ (a.b = x ∧ a.a = y ∧ a.c < f))
structure Wf (arcs : List Arc) (fl : List Int) (but : Option Nat) (bs : List Int) (c : Came) : Prop where
  nd : (ks c).Nodup
  bg : ∀ b ∈ bs, b ∈ ks c
  rt : ∀ (i : Nat) y, c[i]? = some (y, none) → y ∈ bs
  st : ∀ (i : Nat) y x p, c[i]? = some (y, some (x, p)) → Edge arcs fl but x y p ∧ ∃ (j : Nat) (o : Option (Int × Nat)), j < i ∧ c[j]? = some (x, o)
def Cl (arcs : List Arc) (fl : List Int) (but : Option Nat) (c : Came) (n : Nat) : Prop := ∀ (j : Nat) x (o : Option (Int × Nat)), j < n → c[j]? = some (x, o) → ∀ y p, Edge arcs fl but x y p → y ∈ ks c
section
variable {arcs : List Arc} {fl : List Int} {but : Option Nat} {bs : List Int} {c : Came}
theorem app_at {α : Type} {c : List α} {e x : α} {i : Nat} (h : (c ++ [e])[i]? = some x) : c[i]? = some x ∨ (i = c.length ∧ x = e) := by
  by_cases q : i < c.length
  · rw [List.getElem?_append_left q] at h; exact .inl h
  · rw [List.getElem?_append_right (by omega)] at h
    obtain ⟨h1, h2⟩ := List.getElem?_eq_some_iff.mp h
    simp at h1
    refine .inr ⟨by omega, ?_⟩
    simp at h2
    exact h2.symm
theorem app_old {α : Type} {c e : List α} {x : α} {i : Nat} (h : c[i]? = some x) : (c ++ e)[i]? = some x := by
  rw [List.getElem?_append_left (List.getElem?_eq_some_iff.mp h).1]; exact h
theorem Wf.snoc (w : Wf arcs fl but bs c) {x y : Int} {p : Nat} (hy : y ∉ ks c) (e : Edge arcs fl but x y p) {i : Nat} {o : Option (Int × Nat)} (hx : c[i]? = some (x, o)) : Wf arcs fl but bs (c ++ [(y, some (x, p))]) where
  nd := by
    rw [ks_app, List.nodup_append]
    exact ⟨w.nd, by simp [ks], fun a ha b hb z => by
      simp [ks] at hb
      subst hb
      exact hy (z ▸ ha)⟩
  bg := fun b hb => by rw [ks_app]; exact List.mem_append_left _ (w.bg b hb)
  rt := fun i y h => by
    rcases app_at h with h | ⟨_, h⟩
    · exact w.rt i y h
    · cases h
  st := fun k y' x' p' h => by
    rcases app_at h with h | ⟨hk, h⟩
    · obtain ⟨h1, j, o, h2, h3⟩ := w.st k y' x' p' h
      exact ⟨h1, j, o, h2, app_old h3⟩
    · cases h
      exact ⟨e, i, o, by rw [hk]; exact (List.getElem?_eq_some_iff.mp hx).1, app_old hx⟩
/-- one place looked at -/
def stp (arcs : List Arc) (fl : List Int) (but : Option Nat) (x : Int) (c : Came) (p : Nat) : Came := match arcs[p]? with
  | none => c
  | some a =>
    let k := if some p ≠ but ∧ a.a = x ∧ gI fl p < a.d ∧ a.b ∉ ks c then c ++ [(a.b, some (x, p))] else c
    if some p ≠ but ∧ a.b = x ∧ a.c < gI fl p ∧ a.a ∉ ks k then k ++ [(a.a, some (x, p))] else k
theorem gI_at {fl : List Int} {p : Nat} (h : p < fl.length) : fl[p]? = some (gI fl p) := by
  unfold gI
  rw [Int.toNat_natCast, List.getElem?_eq_getElem h]; rfl
theorem stp_ext {x : Int} {p : Nat} : ∃ e, stp arcs fl but x c p = c ++ e := by
  unfold stp
  cases arcs[p]? with
  | none => exact ⟨[], by simp⟩
  | some a =>
    dsimp only
    split <;> split
    · exact ⟨_, by rw [List.append_assoc]⟩
    · exact ⟨_, rfl⟩
    · exact ⟨_, rfl⟩
    · exact ⟨[], by simp⟩
theorem stp_wf (w : Wf arcs fl but bs c) (hl : fl.length = arcs.length) {x : Int} {p i : Nat} {o : Option (Int × Nat)} (hx : c[i]? = some (x, o)) : Wf arcs fl but bs (stp arcs fl but x c p) := by
  unfold stp
  cases ha : arcs[p]? with
  | none => exact w
  | some a =>
    have hp : p < fl.length := by rw [hl]; exact (List.getElem?_eq_some_iff.mp ha).1
    have hf := gI_at hp
    dsimp only
    have w1 : ∃ o, Wf arcs fl but bs (if some p ≠ but ∧ a.a = x ∧ gI fl p < a.d ∧ a.b ∉ ks c then c ++ [(a.b, some (x, p))] else c) ∧ (if some p ≠ but ∧ a.a = x ∧ gI fl p < a.d ∧ a.b ∉ ks c then c ++ [(a.b, some (x, p))] else c)[i]? = some (x, o) := by
      split
      · next q => exact ⟨_, w.snoc q.2.2.2 ⟨q.1, a, _, ha, hf, .inl ⟨q.2.1, rfl, q.2.2.1⟩⟩ hx, app_old hx⟩
      · exact ⟨_, w, hx⟩
    obtain ⟨o', w1, hx1⟩ := w1
    generalize (if some p ≠ but ∧ a.a = x ∧ gI fl p < a.d ∧ a.b ∉ ks c then c ++ [(a.b, some (x, p))] else c) = k at w1 hx1 ⊢
    split
    · next q => exact w1.snoc q.2.2.2 ⟨q.1, a, _, ha, hf, .inr ⟨q.2.1, rfl, q.2.2.1⟩⟩ hx1
    · exact w1
theorem stp_keys {x y : Int} {p : Nat} (h : y ∈ ks c) : y ∈ ks (stp arcs fl but x c p) := by
  obtain ⟨e, h1⟩ := stp_ext (arcs := arcs) (fl := fl) (but := but) (c := c) (x := x) (p := p)
  rw [h1, ks_app]; exact List.mem_append_left _ h
theorem stp_mem {x y : Int} {p : Nat} (e : Edge arcs fl but x y p) : y ∈ ks (stp arcs fl but x c p) := by
  obtain ⟨hb, a, f, ha, hf, h⟩ := e
  have hp : p < fl.length := (List.getElem?_eq_some_iff.mp hf).1
  have hf' := gI_at hp
  rw [hf] at hf'
  cases hf'
  unfold stp
  rw [ha]
  dsimp only
  rcases h with ⟨h1, h2, h3⟩ | ⟨h1, h2, h3⟩
  · have : y ∈ ks (if some p ≠ but ∧ a.a = x ∧ gI fl p < a.d ∧ a.b ∉ ks c then c ++ [(a.b, some (x, p))] else c) := by
      by_cases q : a.b ∈ ks c
      · rw [if_neg (by simp [q])]; rw [← h2]; exact q
      · rw [if_pos ⟨hb, h1, h3, q⟩, ks_app, h2]; simp [ks]
    generalize (if some p ≠ but ∧ a.a = x ∧ gI fl p < a.d ∧ a.b ∉ ks c then c ++ [(a.b, some (x, p))] else c) = k at this ⊢
    split
    · rw [ks_app]; exact List.mem_append_left _ this
    · exact this
  · generalize (if some p ≠ but ∧ a.a = x ∧ gI fl p < a.d ∧ a.b ∉ ks c then c ++ [(a.b, some (x, p))] else c) = k
    by_cases q : a.a ∈ ks k
    · rw [if_neg (by simp [q])]; rw [← h2]; exact q
    · rw [if_pos ⟨hb, h1, h3, q⟩, ks_app, h2]; simp [ks]
theorem key_ix (nd : (ks c).Nodup) {i j : Nat} {y : Int} {o o' : Option (Int × Nat)} (h1 : c[i]? = some (y, o)) (h2 : c[j]? = some (y, o')) : i = j := by
  have e1 : (ks c)[i]? = some y := by simp [ks, h1]
  have e2 : (ks c)[j]? = some y := by simp [ks, h2]
  obtain ⟨l1, g1⟩ := List.getElem?_eq_some_iff.mp e1
  obtain ⟨l2, g2⟩ := List.getElem?_eq_some_iff.mp e2
  rcases Nat.lt_trichotomy i j with q | q | q
  · exact absurd (g1.trans g2.symm) (List.pairwise_iff_getElem.mp nd i j l1 l2 q)
  · exact q
  · exact absurd (g2.trans g1.symm) (List.pairwise_iff_getElem.mp nd j i l2 l1 q)
theorem nodup_le : ∀ {n : Nat} {l : List Int}, l.Nodup → (∀ x ∈ l, 0 ≤ x ∧ x < (n : Int)) → l.length ≤ n
  | 0, [], _, _ => Nat.le_refl _
  | 0, a :: l, _, h => by have := h a List.mem_cons_self; omega
  | n + 1, l, nd, h => by
    by_cases q : (n : Int) ∈ l
    · have e := List.length_erase_of_mem q
      have := nodup_le (n := n) (l := l.erase (n : Int)) (nd.erase _) fun x hx => by
        have h1 := h x (List.mem_of_mem_erase hx)
        have : x ≠ n := fun z => by
          subst z
          exact (List.Nodup.not_mem_erase nd) hx
        omega
      omega
    · have := nodup_le (n := n) (l := l) nd fun x hx => by
        have h1 := h x hx
        have : x ≠ n := fun z => q (z ▸ hx)
        omega
      omega
theorem Wf.bd (w : Wf arcs fl but bs c) {n : Nat} (ok : ∀ a ∈ arcs, okA n a) (hb : ∀ b ∈ bs, 0 ≤ b ∧ b < (n : Int)) : (∀ y ∈ ks c, 0 ≤ y ∧ y < (n : Int)) ∧ c.length ≤ n := by
  have h1 : ∀ y ∈ ks c, 0 ≤ y ∧ y < (n : Int) := fun y hy => by
    obtain ⟨i, o, h⟩ := mem_ks.mp hy
    cases o with
    | none => exact hb y (w.rt i y h)
    | some e =>
      obtain ⟨⟨_, a, f, ha, _, q⟩, _⟩ := w.st i y e.1 e.2 h
      obtain ⟨k1, k2, k3, k4⟩ := ok a (List.mem_of_getElem? ha)
      rcases q with ⟨_, q, _⟩ | ⟨_, q, _⟩ <;> omega
  refine ⟨h1, ?_⟩
  have := nodup_le w.nd h1
  unfold ks at this
  rw [List.length_map] at this
  exact this
/-! roads -/
inductive Ro (arcs : List Arc) (fl : List Int) (but : Option Nat) (t : Int) : List (Int × Nat) → Int → Prop where
  | nil : Ro arcs fl but t [] t
  | snoc {R : List (Int × Nat)} {n x : Int} {p : Nat} : Ro arcs fl but t R n → Edge arcs fl but x n p → Ro arcs fl but t (R ++ [(x, p)]) x
structure Wy (arcs : List Arc) (fl : List Int) (but : Option Nat) (c : Came) (t : Int) (R : List (Int × Nat)) (i : Nat) (n : Int) : Prop where
  at_ : ∃ o, c[i]? = some (n, o)
  ro : Ro arcs fl but t R n
  nd : (R.map (·.2)).Nodup
  up : ∀ e ∈ R, ∃ (j : Nat) (y : Int), i < j ∧ c[j]? = some (y, some e)
theorem Wy.start {t : Int} {i : Nat} {o : Option (Int × Nat)} (h : c[i]? = some (t, o)) : Wy arcs fl but c t [] i t := ⟨⟨o, h⟩, .nil, List.nodup_nil, fun _ h => nomatch h⟩
theorem Wy.step (w : Wf arcs fl but bs c) (ne : ∀ a ∈ arcs, a.a ≠ a.b) {t n x : Int} {R : List (Int × Nat)} {i p : Nat} (y : Wy arcs fl but c t R i n) (h : c[i]? = some (n, some (x, p))) : ∃ j, j < i ∧ Wy arcs fl but c t (R ++ [(x, p)]) j x := by
  obtain ⟨e, j, o, hj, hx⟩ := w.st i n x p h
  refine ⟨j, hj, ⟨o, hx⟩, y.ro.snoc e, ?_, ?_⟩
  · rw [List.map_append, List.nodup_append]
    refine ⟨y.nd, by simp, fun q hq q' hq' z => ?_⟩
    simp at hq'
    subst hq'
    subst z
    obtain ⟨e', he', hp⟩ := List.mem_map.mp hq
    obtain ⟨k, y', hk, hc⟩ := y.up e' he'
    obtain ⟨x', p'⟩ := e'
    dsimp only at hp
    subst hp
    obtain ⟨e2, j2, o2, hj2, hx2⟩ := w.st k y' x' _ hc
    obtain ⟨_, a, f, ha, _, q1⟩ := e
    obtain ⟨_, a', f', ha', _, q2⟩ := e2
    rw [ha] at ha'
    cases ha'
    have hne := ne a (List.mem_of_getElem? ha)
    have y1 : y' ≠ n := fun z => by
      subst z
      have := key_ix w.nd hc h
      omega
    have : y' = x := by
      rcases q1 with ⟨g1, g2, _⟩ | ⟨g1, g2, _⟩ <;> rcases q2 with ⟨g3, g4, _⟩ | ⟨g3, g4, _⟩
      · exact absurd (g4.symm.trans g2) y1
      · exact g4.symm.trans g1
      · exact g4.symm.trans g1
      · exact absurd (g4.symm.trans g2) y1
    subst this
    have := key_ix w.nd hc hx
    omega
  · intro e' he'
    rcases List.mem_append.mp he' with he' | he'
    · obtain ⟨k, y', hk, hc⟩ := y.up e' he'
      exact ⟨k, y', by omega, hc⟩
    · rw [List.mem_singleton] at he'
      subst he'
      exact ⟨i, n, hj, h⟩
/-! sending -/
def snd1 (arcs : List Arc) (k : Int) (fl : List Int) (e : Int × Nat) : List Int := match arcs[e.2]? with
  | some a => sI fl e.2 (if a.a = e.1 then gI fl e.2 + k else gI fl e.2 - k)
  | none => fl
def sndF (arcs : List Arc) (k : Int) (fl : List Int) (R : List (Int × Nat)) : List Int := R.foldl (snd1 arcs k) fl
def room1 (arcs : List Arc) (fl : List Int) (e : Int × Nat) : Int := match arcs[e.2]? with
  | some a => if a.a = e.1 then a.d - gI fl e.2 else gI fl e.2 - a.c
  | none => 0
theorem snd1_len {k : Int} {e : Int × Nat} : (snd1 arcs k fl e).length = fl.length := by
  unfold snd1
  split <;> simp
theorem snd_len {k : Int} {R : List (Int × Nat)} : ∀ {fl : List Int}, (sndF arcs k fl R).length = fl.length := by
  induction R with
  | nil => intro fl; rfl
  | cons e R ih => intro fl; show (sndF arcs k (snd1 arcs k fl e) R).length = _; rw [ih, snd1_len]
theorem snd1_at {k : Int} {e : Int × Nat} {q : Nat} (h : q ≠ e.2) : gI (snd1 arcs k fl e) q = gI fl q := by
  unfold snd1
  split
  · unfold gI sI
    rw [List.getElem?_set_ne (by simp; omega)]
  · rfl
theorem snd_at {k : Int} {R : List (Int × Nat)} {q : Nat} : ∀ {fl : List Int}, q ∉ R.map (·.2) → gI (sndF arcs k fl R) q = gI fl q := by
  induction R with
  | nil => intro fl _; rfl
  | cons e R ih =>
    intro fl h
    simp at h
    show gI (sndF arcs k (snd1 arcs k fl e) R) q = _
    rw [ih (by simpa using h.2), snd1_at h.1]
theorem gn_set {v w : Int} : ∀ {arcs : List Arc} {fl : List Int} {p : Nat} {a : Arc}, arcs[p]? = some a → fl.length = arcs.length →
    gn (arcs.zip (fl.set p v)) w = gn (arcs.zip fl) w + ((if a.b = w then v - (fl[p]?.getD 0) else 0) - (if a.a = w then v - (fl[p]?.getD 0) else 0))
  | [], _, _, _, h, _ => by simp at h
  | b :: arcs, [], _, _, _, h => by simp at h
  | b :: arcs, x :: fl, 0, a, h, _ => by
    simp at h
    subst h
    simp only [List.set_cons_zero, List.zip_cons_cons, gn_cons, gt, List.getElem?_cons_zero, Option.getD_some]
    by_cases q1 : b.b = w <;> by_cases q2 : b.a = w <;> simp only [if_pos, if_neg, q1, q2, not_false_eq_true] <;> omega
  | b :: arcs, x :: fl, p + 1, a, h, hl => by
    simp only [List.getElem?_cons_succ] at h
    simp only [List.set_cons_succ, List.zip_cons_cons, gn_cons, List.getElem?_cons_succ]
    rw [gn_set (arcs := arcs) (fl := fl) h (by simpa using hl)]; omega
theorem ro_gain (ne : ∀ a ∈ arcs, a.a ≠ a.b) (hl : fl.length = arcs.length) {t n k : Int} {R : List (Int × Nat)} (r : Ro arcs fl but t R n) (w : Int) :
    gn (arcs.zip (sndF arcs k fl R)) w = gn (arcs.zip fl) w + ((if t = w then k else 0) - (if n = w then k else 0)) := by
  induction r with
  | nil => show gn (arcs.zip fl) w = _; omega
  | @snoc R n x p r e ih =>
    have e1 : sndF arcs k fl (R ++ [(x, p)]) = snd1 arcs k (sndF arcs k fl R) (x, p) := by unfold sndF; rw [List.foldl_append]; rfl
    obtain ⟨_, a, f, ha, hf, q⟩ := e
    have hne := ne a (List.mem_of_getElem? ha)
    rw [e1]
    unfold snd1
    rw [ha]
    dsimp only
    unfold sI
    rw [Int.toNat_natCast, gn_set ha (by rw [snd_len]; exact hl), ih]
    have eg : (sndF arcs k fl R)[p]?.getD 0 = gI (sndF arcs k fl R) p := by unfold gI; rw [Int.toNat_natCast]
    rw [eg]
    generalize gI (sndF arcs k fl R) p = z
    rcases q with ⟨g1, g2, _⟩ | ⟨g1, g2, _⟩
    · rw [if_pos g1, g1, g2]
      by_cases q1 : n = w <;> by_cases q2 : x = w <;> by_cases q3 : t = w <;> simp only [if_pos, if_neg, q1, q2, q3, not_false_eq_true] <;> omega
    · have : ¬ a.a = x := fun z => hne (z.trans g1.symm)
      rw [if_neg this, g1, g2]
      by_cases q1 : n = w <;> by_cases q2 : x = w <;> by_cases q3 : t = w <;> simp only [if_pos, if_neg, q1, q2, q3, not_false_eq_true] <;> omega
theorem inb_gI (hl : fl.length = arcs.length) : InB arcs fl ↔ ∀ (p : Nat) a, arcs[p]? = some a → a.c ≤ gI fl p ∧ gI fl p ≤ a.d := by
  constructor
  · intro h p a ha
    exact h p a _ ha (gI_at (by rw [hl]; exact (List.getElem?_eq_some_iff.mp ha).1))
  · intro h p a f ha hf
    have := gI_at (fl := fl) (p := p) (List.getElem?_eq_some_iff.mp hf).1
    rw [hf] at this
    cases this
    exact h p a ha
theorem room1_at {k : Int} {e e' : Int × Nat} (h : e'.2 ≠ e.2) : room1 arcs (snd1 arcs k fl e) e' = room1 arcs fl e' := by
  unfold room1
  rw [snd1_at h]
theorem snd_inb {k : Int} (k0 : 0 ≤ k) {R : List (Int × Nat)} : ∀ {fl : List Int}, fl.length = arcs.length → InB arcs fl → (R.map (·.2)).Nodup → (∀ e ∈ R, k ≤ room1 arcs fl e) → InB arcs (sndF arcs k fl R) := by
  induction R with
  | nil => intro fl _ h _ _; exact h
  | cons e R ih =>
    intro fl hl hb nd hr
    show InB arcs (sndF arcs k (snd1 arcs k fl e) R)
    rw [List.map_cons, List.nodup_cons] at nd
    have hl' : (snd1 arcs k fl e).length = arcs.length := by rw [snd1_len]; exact hl
    refine ih hl' ?_ nd.2 fun e' he' => ?_
    · rw [inb_gI hl']
      rw [inb_gI hl] at hb
      intro p a ha
      have hb' := hb p a ha
      by_cases q : p = e.2
      · subst q
        have he := hr e List.mem_cons_self
        unfold room1 at he
        unfold snd1
        rw [ha] at he ⊢
        dsimp only at he ⊢
        have hp : e.2 < fl.length := by rw [hl]; exact (List.getElem?_eq_some_iff.mp ha).1
        rw [gI_sI (by omega) (by omega) (by omega), if_pos rfl]
        split at he
        · next z => rw [if_pos z]; omega
        · next z => rw [if_neg z]; omega
      · rw [snd1_at q]; exact hb'
    · rw [room1_at (fun z => nd.1 (by rw [← z]; exact List.mem_map.mpr ⟨e', he', rfl⟩))]
      exact hr e' (List.mem_cons_of_mem _ he')
theorem ro_room (ne : ∀ a ∈ arcs, a.a ≠ a.b) {t n : Int} {R : List (Int × Nat)} (r : Ro arcs fl but t R n) : ∀ e ∈ R, 0 < room1 arcs fl e := by
  induction r with
  | nil => intro e h; cases h
  | @snoc R n x p r e ih =>
    intro e' h
    rcases List.mem_append.mp h with h | h
    · exact ih e' h
    · rw [List.mem_singleton] at h
      subst h
      obtain ⟨_, a, f, ha, hf, q⟩ := e
      have hne := ne a (List.mem_of_getElem? ha)
      have := gI_at (fl := fl) (p := p) (List.getElem?_eq_some_iff.mp hf).1
      rw [hf] at this
      cases this
      unfold room1
      rw [ha]
      dsimp only
      rcases q with ⟨g1, g2, g3⟩ | ⟨g1, g2, g3⟩
      · rw [if_pos g1]; omega
      · rw [if_neg (fun z => hne (z.trans g1.symm))]; omega
theorem ro_but {t n : Int} {R : List (Int × Nat)} (r : Ro arcs fl but t R n) {q : Nat} (hq : but = some q) : q ∉ R.map (·.2) := by
  induction r with
  | nil => simp
  | @snoc R n x p r e ih =>
    rw [List.map_append, List.mem_append]
    rintro (h | h)
    · exact ih h
    · simp at h
      subst h
      exact e.1 hq.symm
theorem ro_places {t n : Int} {R : List (Int × Nat)} (r : Ro arcs fl but t R n) : ∀ e ∈ R, ∃ a, arcs[e.2]? = some a ∧ (a.a = e.1 ∨ a.b = e.1) := by
  induction r with
  | nil => intro e h; cases h
  | @snoc R n x p r e ih =>
    intro e' h
    rcases List.mem_append.mp h with h | h
    · exact ih e' h
    · rw [List.mem_singleton] at h
      subst h
      obtain ⟨_, a, f, ha, hf, q⟩ := e
      rcases q with ⟨g1, _, _⟩ | ⟨g1, _, _⟩
      · exact ⟨a, ha, .inl g1⟩
      · exact ⟨a, ha, .inr g1⟩
theorem ro_last {t n : Int} {R : List (Int × Nat)} (r : Ro arcs fl but t R n) (h : R ≠ []) : ∃ e, R.getLast? = some e ∧ e.1 = n := by
  cases r with
  | nil => exact absurd rfl h
  | snoc r e => exact ⟨_, List.getLast?_concat, rfl⟩
end
/-! so much is still to be sent -/
def posS (g : List Int) : Nat := (g.map Int.toNat).sum
theorem pos_lt : ∀ {g g' : List Int}, g'.length = g.length → (∀ i : Nat, (g'[i]?.getD 0).toNat ≤ (g[i]?.getD 0).toNat) → (∃ i : Nat, (g'[i]?.getD 0).toNat < (g[i]?.getD 0).toNat) → posS g' < posS g
  | [], [], _, _, ⟨i, h⟩ => by simp at h
  | [], _ :: _, h, _, _ => by simp at h
  | _ :: _, [], h, _, _ => by simp at h
  | x :: g, y :: g', hl, hle, ⟨i, h⟩ => by
    have hl' : g'.length = g.length := by simpa using hl
    have h0 := hle 0
    simp at h0
    have hs : ∀ i : Nat, (g'[i]?.getD 0).toNat ≤ (g[i]?.getD 0).toNat := fun i => by have := hle (i + 1); simpa using this
    have le : posS g' ≤ posS g := by
      clear h hle hl h0
      induction g generalizing g' with
      | nil => cases g' with
        | nil => exact Nat.le_refl _
        | cons _ _ => simp at hl'
      | cons a g ih =>
        cases g' with
        | nil => simp at hl'
        | cons b g' =>
          have h0 := hs 0
          simp at h0
          have := ih (g' := g') (by simpa using hl') fun i => by have := hs (i + 1); simpa using this
          show b.toNat + posS g' ≤ a.toNat + posS g
          omega
    show y.toNat + posS g' < x.toNat + posS g
    cases i with
    | zero => simp at h; omega
    | succ i =>
      have := pos_lt hl' hs ⟨i, by simpa using h⟩
      omega
/-! a step of the flow; its end -/
section
variable {n : Nat} {arcs : List Arc} {fl bg : List Int} {c : Came}
theorem closed {but : Option Nat} (cl : Cl arcs fl but c c.length) {x y : Int} {p : Nat} (hx : x ∈ ks c) (e : Edge arcs fl but x y p) : y ∈ ks c := by
  obtain ⟨i, o, h⟩ := mem_ks.mp hx
  exact cl i x o (List.getElem?_eq_some_iff.mp h).1 h y p e
theorem gI_nat {g : List Int} {i : Nat} : gI g (i : Int) = g[i]?.getD 0 := by unfold gI; rw [Int.toNat_natCast]
theorem zip_ok (ok : ∀ a ∈ arcs, okA (n : Int) a) : ∀ p ∈ arcs.zip fl, okA (n : Int) p.1 := fun p hp => ok _ (List.of_mem_zip hp).1
theorem sum_pos : ∀ {l : List Int}, (∀ x ∈ l, 0 ≤ x) → (∃ x ∈ l, 0 < x) → 0 < l.sum
  | [], _, ⟨x, h, _⟩ => by cases h
  | a :: l, h, ⟨x, hx, h0⟩ => by
    have h1 := h a List.mem_cons_self
    have h2 : 0 ≤ l.sum := by
      have : ∀ {l : List Int}, (∀ x ∈ l, 0 ≤ x) → 0 ≤ l.sum := by
        intro l
        induction l with
        | nil => intro _; exact Int.le_refl _
        | cons b l ih => intro h; have := h b List.mem_cons_self; have := ih fun y hy => h y (List.mem_cons_of_mem _ hy); simp; omega
      exact this fun y hy => h y (List.mem_cons_of_mem _ hy)
    rw [List.sum_cons]
    rcases List.mem_cons.mp hx with rfl | hx
    · omega
    · have := sum_pos (l := l) (fun y hy => h y (List.mem_cons_of_mem _ hy)) ⟨x, hx, h0⟩
      omega
theorem cut_of (ok : ∀ a ∈ arcs, okA (n : Int) a) (hl : fl.length = arcs.length) (inb : InB arcs fl) (w : Wf arcs fl none bg c) (cl : Cl arcs fl none c c.length) (hb : ∀ b ∈ bg, 0 ≤ b ∧ b < (n : Int)) (hp : ∀ b ∈ bg, 0 < gn (arcs.zip fl) b) (ne : bg ≠ []) (no : ∀ v ∈ ks c, ¬ gn (arcs.zip fl) v < 0) {L : List Int} (pm : L.Perm (ks c)) : IsCut n arcs L := by
  have nd : L.Nodup := pm.nodup_iff.mpr w.nd
  have mem : ∀ v, v ∈ L ↔ v ∈ ks c := fun v => pm.mem_iff
  obtain ⟨b, bs, rfl⟩ := List.exists_cons_of_ne_nil ne
  have hbL : b ∈ L := (mem b).mpr (w.bg b List.mem_cons_self)
  refine ⟨nd, fun v hv => (w.bd ok hb).1 v ((mem v).mp hv), fun z => (by rw [z] at hbL; exact absurd hbL (by simp)), fun fl' hl' => ?_⟩
  rw [si_arcs (F := fun a => a.c) hl' hl, so_arcs (F := fun a => a.d) hl' hl]
  have t := tight (arcs := arcs) (fl := fl) nd (fun p a f ha hf h1 h2 => by
    have k := (inb p a f ha hf).2
    refine Classical.byContradiction fun z => h2 ((mem _).mpr (closed cl ((mem _).mp h1) (y := a.b) (p := p) ⟨by simp, a, f, ha, hf, .inl ⟨rfl, rfl, by omega⟩⟩))) (fun p a f ha hf h1 h2 => by
    have k := (inb p a f ha hf).1
    refine Classical.byContradiction fun z => h2 ((mem _).mpr (closed cl ((mem _).mp h1) (y := a.a) (p := p) ⟨by simp, a, f, ha, hf, .inr ⟨rfl, rfl, by omega⟩⟩)))
  have pos : 0 < (L.map (gn (arcs.zip fl))).sum := sum_pos (fun x hx => by
    obtain ⟨v, hv, rfl⟩ := List.mem_map.mp hx
    have := no v ((mem v).mp hv)
    omega) ⟨_, List.mem_map.mpr ⟨b, hbL, rfl⟩, hp b List.mem_cons_self⟩
  omega
theorem sum_nonpos_zero : ∀ {l : List Int}, (∀ x ∈ l, x ≤ 0) → l.sum = 0 → ∀ x ∈ l, x = 0
  | [], _, _, x, h => by cases h
  | a :: l, h, hs, x, hx => by
    have h1 := h a List.mem_cons_self
    have h2 : l.sum ≤ 0 := by
      have : ∀ {l : List Int}, (∀ x ∈ l, x ≤ 0) → l.sum ≤ 0 := by
        intro l
        induction l with
        | nil => intro _; exact Int.le_refl _
        | cons b l ih => intro h; have := h b List.mem_cons_self; have := ih fun y hy => h y (List.mem_cons_of_mem _ hy); simp; omega
      exact this fun y hy => h y (List.mem_cons_of_mem _ hy)
    rw [List.sum_cons] at hs
    rcases List.mem_cons.mp hx with rfl | hx
    · omega
    · exact sum_nonpos_zero (fun y hy => h y (List.mem_cons_of_mem _ hy)) (by omega) x hx
theorem flow_done (ok : ∀ a ∈ arcs, okA (n : Int) a) (hl : fl.length = arcs.length) (inb : InB arcs fl) (h : ∀ x ∈ gainsF n (arcs.zip fl), x ≤ 0) : IsFlow n arcs fl := by
  refine ⟨hl, inb, fun v v0 v1 => ?_⟩
  have nd : ((List.range n).map fun i : Nat => (i : Int)).Nodup := List.Pairwise.map (R := fun a b => a ≠ b) _ (fun a b h z => h (by exact_mod_cast z)) List.nodup_range
  have mem : ∀ x : Int, 0 ≤ x → x < n → x ∈ (List.range n).map fun i : Nat => (i : Int) := fun x h0 h1 => List.mem_map.mpr ⟨x.toNat, List.mem_range.mpr (by omega), by omega⟩
  have s := sum_gn nd (arcs.zip fl)
  have z1 : si (arcs.zip fl) ((List.range n).map fun i : Nat => (i : Int)) (·.2) = 0 := by
    unfold si
    rw [sum_eq (g := fun _ => 0) fun p hp => by
      obtain ⟨k1, k2, k3, k4⟩ := zip_ok ok p hp
      rw [if_neg (fun z => z.2 (mem _ k1 k2))], sum_zero]
  have z2 : so (arcs.zip fl) ((List.range n).map fun i : Nat => (i : Int)) (·.2) = 0 := by
    unfold so
    rw [sum_eq (g := fun _ => 0) fun p hp => by
      obtain ⟨k1, k2, k3, k4⟩ := zip_ok ok p hp
      rw [if_neg (fun z => z.2 (mem _ k3 k4))], sum_zero]
  rw [z1, z2] at s
  refine sum_nonpos_zero (fun x hx => ?_) s _ (List.mem_map.mpr ⟨v, mem v v0 v1, rfl⟩)
  obtain ⟨u, hu, rfl⟩ := List.mem_map.mp hx
  obtain ⟨i, hi, rfl⟩ := List.mem_map.mp hu
  have l := gainsF_len n (arcs.zip fl)
  have hi := List.mem_range.mp hi
  rw [← gains_gn (zip_ok ok) (by omega), gI_nat, List.getElem?_eq_getElem (by omega)]
  exact h _ (List.getElem_mem _)
theorem step_pos (ok : ∀ a ∈ arcs, okA (n : Int) a) (ne : ∀ a ∈ arcs, a.a ≠ a.b) (hl : fl.length = arcs.length) {t b k : Int} {R : List (Int × Nat)} (r : Ro arcs fl none t R b) (k0 : 0 < k) (hb : k ≤ gI (gainsF n (arcs.zip fl)) b) (ht : k ≤ - gI (gainsF n (arcs.zip fl)) t) (b0 : 0 ≤ b) (t0 : 0 ≤ t) :
    posS (gainsF n (arcs.zip (sndF arcs k fl R))) < posS (gainsF n (arcs.zip fl)) := by
  have g1 : ∀ v, 0 ≤ v → gI (gainsF n (arcs.zip (sndF arcs k fl R))) v = gI (gainsF n (arcs.zip fl)) v + ((if t = v then k else 0) - (if b = v then k else 0)) := fun v v0 => by
    rw [gains_gn (zip_ok ok) v0, gains_gn (zip_ok ok) v0, ro_gain ne hl r]
  have tb : t ≠ b := fun z => by subst z; omega
  refine pos_lt (by rw [gainsF_len, gainsF_len]) (fun i => ?_) ⟨b.toNat, ?_⟩
  · rw [← gI_nat, ← gI_nat, g1 _ (by omega)]
    by_cases q1 : t = (i : Int)
    · rw [if_pos q1, if_neg (fun z => tb (q1.trans z.symm)), ← q1]; omega
    · rw [if_neg q1]
      split <;> omega
  · have e : (b.toNat : Int) = b := Int.toNat_of_nonneg b0
    have h1 := g1 b b0
    rw [if_neg tb, if_pos rfl] at h1
    rw [← e, gI_nat, gI_nat] at h1
    rw [← e, gI_nat] at hb
    omega
end

end
end PF

set_option Elab.async false
set_option linter.all false
set_option maxRecDepth 100000
set_option maxHeartbeats 4000000
namespace FL
open PySem PySem.Spec PyProof.Rows L2 VD PF
noncomputable section
def l_asked_net_1 : SS := sFor (iL (eVar 1)) (gT 4 (gsCons (gN 2) (gsCons (gN 3) (gsCons (gN 4) (gsCons (gN 5) (gsNil)))))) (sSeq (sIf (cOr (toB (eOp oLt (eCa bMin2 (aCons (eVar 2) (aCons (eVar 3) (aNil)))) (eK (.int 0)))) (cOr (toB (eOp oGe (eCa bMax2 (aCons (eVar 2) (aCons (eVar 3) (aNil)))) (eVar 0))) (toB (eOp oEq (eVar 2) (eVar 3))))) (sRaise "NoNet") (sNext)) (sIf (cOr (toB (eOp oLt (eVar 4) (eK (.int 0)))) (toB (eOp oGt (eVar 4) (eVar 5)))) (sRaise "NoNet") (sNext)))
def b_asked_net : SS := sSeq (sIf (cOr (toB (eOp oLt (eVar 0) (eK (.int 1)))) (cOr (toB (eOp oGt (eVar 0) (eK (.int 120)))) (toB (eOp oGt (eCa bLen (aCons (eVar 1) (aNil))) (eK (.int 300)))))) (sRaise "NoNet") (sNext)) (sSeq (l_asked_net_1) (sRet (eK (.bl true))))
def m_asked_net : List D → Hv → R D := fnS 2 4 b_asked_net
def c_gains_of_nodes_1 : LS := lLc (iR1 (aCons (eVar 0) (aNil))) (gN 6) (cYes) (eK (.int 0)) [6]
def l_gains_of_nodes_1 : SS := sFor (iZG (aCons (eVar 1) (aCons (eVar 2) (aNil)))) (gT 2 (gsCons (gN 4) (gsCons (gN 5) (gsNil)))) (sSeq (sSetIx (eOp oSub (eOp oIx (eVar 3) (eOp oIx (eVar 4) (eK (.int 0)))) (eVar 5)) (eVar 3) (eOp oIx (eVar 4) (eK (.int 0)))) (sSetIx (eOp oAdd (eOp oIx (eVar 3) (eOp oIx (eVar 4) (eK (.int 1)))) (eVar 5)) (eVar 3) (eOp oIx (eVar 4) (eK (.int 1)))))
def b_gains_of_nodes : SS := sSeq (sSet 3 (eC (c_gains_of_nodes_1))) (sSeq (l_gains_of_nodes_1) (sRet (eVar 3)))
def m_gains_of_nodes : List D → Hv → R D := fnS 3 4 b_gains_of_nodes
def l_holds_flow_1 : SS := sFor (iZ (aCons (eVar 1) (aCons (eVar 2) (aNil)))) (gT 2 (gsCons (gN 3) (gsCons (gN 4) (gsNil)))) (sIf (cOr (toB (eOp oLt (eVar 4) (eOp oIx (eVar 3) (eK (.int 2))))) (toB (eOp oGt (eVar 4) (eOp oIx (eVar 3) (eK (.int 3)))))) (sRet (eK (.bl false))) (sNext))
def c_holds_flow_1 : LS := lLc (iL (eCa (Cm.f .P m_gains_of_nodes) (aCons (eVar 0) (aCons (eVar 1) (aCons (eVar 2) (aNil)))))) (gN 5) (cYes) (eOp oEq (eVar 5) (eK (.int 0))) [5]
def b_holds_flow : SS := sSeq (sIf (toB (eOp oNe (eCa bLen (aCons (eVar 2) (aNil))) (eCa bLen (aCons (eVar 1) (aNil))))) (sRet (eK (.bl false))) (sNext)) (sSeq (l_holds_flow_1) (sRet (eCa bAll (aCons (eV (c_holds_flow_1)) (aNil)))))
def m_holds_flow : List D → Hv → R D := fnS 3 3 b_holds_flow
def c_arcs_beside_1 : LS := lLc (iR1 (aCons (eVar 0) (aNil))) (gN 4) (cYes) (eC (lLst (aNil))) [4]
def l_arcs_beside_1 : SS := sFor (iR1 (aCons (eCa bLen (aCons (eVar 1) (aNil))) (aNil))) (gN 3) (sSeq (sDrop (eBM mAppend (eOp oIx (eVar 2) (eOp oIx (eOp oIx (eVar 1) (eVar 3)) (eK (.int 0)))) (aCons (eVar 3) (aNil)))) (sDrop (eBM mAppend (eOp oIx (eVar 2) (eOp oIx (eOp oIx (eVar 1) (eVar 3)) (eK (.int 1)))) (aCons (eVar 3) (aNil)))))
def b_arcs_beside : SS := sSeq (sSet 2 (eV (c_arcs_beside_1))) (sSeq (l_arcs_beside_1) (sRet (eVar 2)))
def m_arcs_beside : List D → Hv → R D := fnS 2 3 b_arcs_beside
def l_reached_nodes_1 : SS := sFor (iL (eVar 3)) (gN 6) (sDput (eK .non) (eVar 5) (eVar 6))
def l_reached_nodes_2 : SS := sFor (iL (eOp oIx (eVar 0) (eVar 6))) (gN 9) (sSeq (sAsg (eOp oIx (eVar 1) (eVar 9)) (gT 4 (gsCons (gN 10) (gsCons (gN 11) (gsCons (gN 12) (gsCons (gN 13) (gsNil))))))) (sSeq (sIf (cAnd (toB (eOp oNe (eVar 9) (eVar 4))) (cAnd (toB (eOp oEq (eVar 10) (eVar 6))) (cAnd (toB (eOp oLt (eOp oIx (eVar 2) (eVar 9)) (eVar 13))) (toB (eOp oDnin (eVar 11) (eVar 5)))))) (sSeq (sDput (eTup (aCons (eVar 6) (aCons (eVar 9) (aNil)))) (eVar 5) (eVar 11)) (sDrop (eBM mAppend (eVar 7) (aCons (eVar 11) (aNil))))) (sNext)) (sIf (cAnd (toB (eOp oNe (eVar 9) (eVar 4))) (cAnd (toB (eOp oEq (eVar 11) (eVar 6))) (cAnd (toB (eOp oGt (eOp oIx (eVar 2) (eVar 9)) (eVar 12))) (toB (eOp oDnin (eVar 10) (eVar 5)))))) (sSeq (sDput (eTup (aCons (eVar 6) (aCons (eVar 9) (aNil)))) (eVar 5) (eVar 10)) (sDrop (eBM mAppend (eVar 7) (aCons (eVar 10) (aNil))))) (sNext))))
def l_reached_nodes_3 : SS := sLoop (toB (eOp oLt (eVar 8) (eCa bLen (aCons (eVar 7) (aNil))))) (sSeq (sSet 6 (eOp oIx (eVar 7) (eVar 8))) (sSeq (l_reached_nodes_2) (sSet 8 (eOp oAdd (eVar 8) (eK (.int 1))))))
def b_reached_nodes : SS := sSeq (sSet 5 (eDnew)) (sSeq (l_reached_nodes_1) (sSeq (sSet 7 (eC (eCa bList (aCons (eVar 3) (aNil))))) (sSeq (sSet 8 (eK (.int 0))) (sSeq (l_reached_nodes_3) (sRet (eLock (eVar 5)))))))
def m_reached_nodes : List D → Hv → R D := fnS 5 9 b_reached_nodes
def l_road_to_1 : SS := sLoop (toB (eOp oIsNot (eOp oDget (eVar 0) (eVar 1)) (eK .non))) (sSeq (sDrop (eBM mAppend (eVar 2) (aCons (eOp oDget (eVar 0) (eVar 1)) (aNil)))) (sSet 1 (eOp oIx (eOp oDget (eVar 0) (eVar 1)) (eK (.int 0)))))
def b_road_to : SS := sSeq (sSet 2 (eC (lLst (aNil)))) (sSeq (l_road_to_1) (sRet (eVar 2)))
def m_road_to : List D → Hv → R D := fnS 2 1 b_road_to
def l_room_on_road_1 : SS := sFor (iL (eVar 2)) (gT 2 (gsCons (gN 4) (gsCons (gN 5) (gsNil)))) (sIf (toB (eOp oEq (eOp oIx (eOp oIx (eVar 0) (eVar 5)) (eK (.int 0))) (eVar 4))) (sDrop (eBM mAppend (eVar 3) (aCons (eOp oSub (eOp oIx (eOp oIx (eVar 0) (eVar 5)) (eK (.int 3))) (eOp oIx (eVar 1) (eVar 5))) (aNil)))) (sDrop (eBM mAppend (eVar 3) (aCons (eOp oSub (eOp oIx (eVar 1) (eVar 5)) (eOp oIx (eOp oIx (eVar 0) (eVar 5)) (eK (.int 2)))) (aNil)))))
def b_room_on_road : SS := sSeq (sSet 3 (eC (lLst (aNil)))) (sSeq (l_room_on_road_1) (sRet (eCa bMin (aCons (eVar 3) (aNil)))))
def m_room_on_road : List D → Hv → R D := fnS 3 3 b_room_on_road
def l_send_along_1 : SS := sFor (iL (eVar 2)) (gT 2 (gsCons (gN 4) (gsCons (gN 5) (gsNil)))) (sIf (toB (eOp oEq (eOp oIx (eOp oIx (eVar 0) (eVar 5)) (eK (.int 0))) (eVar 4))) (sSetIx (eOp oAdd (eOp oIx (eVar 1) (eVar 5)) (eVar 3)) (eVar 1) (eVar 5)) (sSetIx (eOp oSub (eOp oIx (eVar 1) (eVar 5)) (eVar 3)) (eVar 1) (eVar 5)))
def b_send_along : SS := l_send_along_1
def m_send_along : List D → Hv → R D := fnS 4 2 b_send_along
def b_ask_flow : SS := sSeq (sDrop (eCa (Cm.f .P m_asked_net) (aCons (eVar 0) (aCons (eVar 1) (aNil))))) (sIf (cNot (toB (eCa (Cm.f .P m_holds_flow) (aCons (eVar 0) (aCons (eVar 1) (aCons (eVar 2) (aNil))))))) (sRaise "NoNet") (sNext))
def m_ask_flow : List D → Hv → R D := fnS 3 0 b_ask_flow
def l_greatest_on_1 : SS := sLoop (toB (eOp oLt (eOp oIx (eVar 4) (eVar 3)) (eVar 6))) (sSeq (sSet 9 (eCa (Cm.f .M m_reached_nodes) (aCons (eVar 5) (aCons (eVar 1) (aCons (eVar 4) (aCons (eV (lLst (aCons (eVar 8) (aNil)))) (aCons (eVar 3) (aNil)))))))) (sSeq (sIf (toB (eOp oDnin (eVar 7) (eVar 9))) (sRet (eTup (aCons (eOp oIx (eVar 4) (eVar 3)) (aCons (eVar 4) (aCons (eC (eCa bSortDG (aCons (eVar 9) (aNil)))) (aNil)))))) (sNext)) (sSeq (sSet 10 (eCa (Cm.f .P m_road_to) (aCons (eVar 9) (aCons (eVar 7) (aNil))))) (sSeq (sSet 11 (eCa bMin2 (aCons (eOp oSub (eVar 6) (eOp oIx (eVar 4) (eVar 3))) (aCons (eCa (Cm.f .B m_room_on_road) (aCons (eVar 1) (aCons (eVar 4) (aCons (eVar 10) (aNil))))) (aNil))))) (sSeq (sDrop (eCa (Cm.f .M m_send_along) (aCons (eVar 1) (aCons (eVar 4) (aCons (eVar 10) (aCons (eVar 11) (aNil))))))) (sSetIx (eOp oAdd (eOp oIx (eVar 4) (eVar 3)) (eVar 11)) (eVar 4) (eVar 3)))))))
def b_greatest_on : SS := sSeq (sDrop (eCa (Cm.f .P m_ask_flow) (aCons (eVar 0) (aCons (eVar 1) (aCons (eVar 2) (aNil)))))) (sSeq (sSet 4 (eC (eCa bList (aCons (eVar 2) (aNil))))) (sSeq (sSet 5 (eCa (Cm.f .P m_arcs_beside) (aCons (eVar 0) (aCons (eVar 1) (aNil))))) (sSeq (sAsg (eSl (eOp oIx (eVar 1) (eVar 3)) (pNo) (pAt (eK (.int 2)))) (gT 2 (gsCons (gN 7) (gsCons (gN 8) (gsNil))))) (sSeq (sSet 6 (eOp oIx (eOp oIx (eVar 1) (eVar 3)) (eK (.int 3)))) (sSeq (l_greatest_on_1) (sRet (eTup (aCons (eOp oIx (eVar 4) (eVar 3)) (aCons (eVar 4) (aCons (eC (lLst (aNil))) (aNil)))))))))))
def m_greatest_on : List D → Hv → R D := fnU 4 8 b_greatest_on
def l_least_on_1 : SS := sLoop (toB (eOp oGt (eOp oIx (eVar 4) (eVar 3)) (eVar 8))) (sSeq (sSet 9 (eCa (Cm.f .M m_reached_nodes) (aCons (eVar 5) (aCons (eVar 1) (aCons (eVar 4) (aCons (eV (lLst (aCons (eVar 6) (aNil)))) (aCons (eVar 3) (aNil)))))))) (sSeq (sIf (toB (eOp oDnin (eVar 7) (eVar 9))) (sRet (eTup (aCons (eOp oIx (eVar 4) (eVar 3)) (aCons (eVar 4) (aCons (eC (eCa bSortDG (aCons (eVar 9) (aNil)))) (aNil)))))) (sNext)) (sSeq (sSet 10 (eCa (Cm.f .P m_road_to) (aCons (eVar 9) (aCons (eVar 7) (aNil))))) (sSeq (sSet 11 (eCa bMin2 (aCons (eOp oSub (eOp oIx (eVar 4) (eVar 3)) (eVar 8)) (aCons (eCa (Cm.f .B m_room_on_road) (aCons (eVar 1) (aCons (eVar 4) (aCons (eVar 10) (aNil))))) (aNil))))) (sSeq (sDrop (eCa (Cm.f .M m_send_along) (aCons (eVar 1) (aCons (eVar 4) (aCons (eVar 10) (aCons (eVar 11) (aNil))))))) (sSetIx (eOp oSub (eOp oIx (eVar 4) (eVar 3)) (eVar 11)) (eVar 4) (eVar 3)))))))
def b_least_on : SS := sSeq (sDrop (eCa (Cm.f .P m_ask_flow) (aCons (eVar 0) (aCons (eVar 1) (aCons (eVar 2) (aNil)))))) (sSeq (sSet 4 (eC (eCa bList (aCons (eVar 2) (aNil))))) (sSeq (sSet 5 (eCa (Cm.f .P m_arcs_beside) (aCons (eVar 0) (aCons (eVar 1) (aNil))))) (sSeq (sAsg (eSl (eOp oIx (eVar 1) (eVar 3)) (pNo) (pAt (eK (.int 3)))) (gT 3 (gsCons (gN 6) (gsCons (gN 7) (gsCons (gN 8) (gsNil)))))) (sSeq (l_least_on_1) (sRet (eTup (aCons (eOp oIx (eVar 4) (eVar 3)) (aCons (eVar 4) (aCons (eC (lLst (aNil))) (aNil))))))))))
def m_least_on : List D → Hv → R D := fnU 4 8 b_least_on
def c_flow_of_1 : LS := lLc (iL (eVar 1)) (gN 10) (cYes) (eOp oIx (eVar 10) (eK (.int 2))) [10]
def c_flow_of_2 : LS := lLc (iR1 (aCons (eVar 0) (aNil))) (gN 11) (toB (eOp oGt (eOp oIx (eVar 4) (eVar 11)) (eK (.int 0)))) (eVar 11) [11]
def c_flow_of_3 : LS := lLc (iD (eVar 6)) (gN 11) (toB (eOp oLt (eOp oIx (eVar 4) (eVar 11)) (eK (.int 0)))) (eVar 11) [11]
def l_flow_of_1 : SS := sLoop (toB (eOp oGt (eCa bMax (aCons (eVar 4) (aNil))) (eK (.int 0)))) (sSeq (sSet 5 (eV (c_flow_of_2))) (sSeq (sSet 6 (eCa (Cm.f .M m_reached_nodes) (aCons (eVar 2) (aCons (eVar 1) (aCons (eVar 3) (aCons (eVar 5) (aCons (eK .non) (aNil)))))))) (sSeq (sSet 7 (eV (c_flow_of_3))) (sSeq (sIf (toB (eOp oEq (eCa bLen (aCons (eVar 7) (aNil))) (eK (.int 0)))) (sRet (eTup (aCons (eK (.str "cut")) (aCons (eC (eCa bSortDG (aCons (eVar 6) (aNil)))) (aNil))))) (sNext)) (sSeq (sSet 8 (eCa (Cm.f .P m_road_to) (aCons (eVar 6) (aCons (eOp oIx (eVar 7) (eK (.int 0))) (aNil))))) (sSeq (sSet 9 (eOp oIx (eOp oIx (eVar 8) (eUn uNeg (eK (.int 1)))) (eK (.int 0)))) (sSeq (sDrop (eCa (Cm.f .M m_send_along) (aCons (eVar 1) (aCons (eVar 3) (aCons (eVar 8) (aCons (eCa bMin3 (aCons (eCa (Cm.f .B m_room_on_road) (aCons (eVar 1) (aCons (eVar 3) (aCons (eVar 8) (aNil))))) (aCons (eOp oIx (eVar 4) (eVar 9)) (aCons (eUn uNeg (eOp oIx (eVar 4) (eOp oIx (eVar 7) (eK (.int 0))))) (aNil))))) (aNil))))))) (sSet 4 (eCa (Cm.f .M m_gains_of_nodes) (aCons (eVar 0) (aCons (eVar 1) (aCons (eVar 3) (aNil)))))))))))))
def b_flow_of : SS := sSeq (sDrop (eCa (Cm.f .P m_asked_net) (aCons (eVar 0) (aCons (eVar 1) (aNil))))) (sSeq (sSet 2 (eCa (Cm.f .P m_arcs_beside) (aCons (eVar 0) (aCons (eVar 1) (aNil))))) (sSeq (sSet 3 (eC (c_flow_of_1))) (sSeq (sSet 4 (eCa (Cm.f .M m_gains_of_nodes) (aCons (eVar 0) (aCons (eVar 1) (aCons (eVar 3) (aNil)))))) (sSeq (l_flow_of_1) (sRet (eTup (aCons (eK (.str "flow")) (aCons (eVar 3) (aNil)))))))))
def m_flow_of : List D → Hv → R D := fnU 2 10 b_flow_of
def RtH (n0 : Nat) (P : VD.R D → Prop) (r : RS) : Prop := match r with
  | .ret d h => P (exitD n0 d h)
  | .next _ h => P (exitD n0 .non h)
  | .exc x _ h => P (exitX n0 x h)
  | _ => False
section
variable {P : VD.R D → Prop} {σ : VS} {h : Hv} {d : D} {n0 : Nat} {x : Xn}
@[simp] theorem Wp_rth_ret : Wp (RtH n0 P) (.ret d h) = P (exitD n0 d h) := Wp.eq _ _
@[simp] theorem Wp_rth_next : Wp (RtH n0 P) (.next σ h) = P (exitD n0 .non h) := Wp.eq _ _
@[simp] theorem Wp_rth_exc : Wp (RtH n0 P) (.exc x σ h) = P (exitX n0 x h) := Wp.eq _ _
@[simp] theorem Wp_rth_stuck : Wp (RtH n0 P) .stuck = False := Wp.eq _ _
end
theorem fnS_ofH {P : VD.R D → Prop} {np nl : Nat} {body : SS} {ds : List D} {h : Hv} (hl : ds.length = np) (hw : Wp (RtH h.length P) (body (ds.map some ++ List.replicate nl none) h)) : P (fnS np nl body ds h) := by
  rw [Wp.eq] at hw
  unfold fnS
  rw [if_pos hl]
  generalize body (ds.map some ++ List.replicate nl none) h = r at hw ⊢
  cases r <;> first | exact hw | exact hw.elim
/-! how arcs stand -/
def aD (a : Arc) : D := .tup [.int a.a, .int a.b, .int a.c, .int a.d]
def arcsD (arcs : List Arc) : D := .lst (arcs.map aD)
theorem frz_aD {n0 n : Nat} {h : Hv} {a : Arc} : frz n0 h (n + 2) (aD a) = some (aD a) := rfl
theorem frz_aDs {n0 n : Nat} {h : Hv} {arcs : List Arc} : optAll (frz n0 h (n + 2)) (arcs.map aD) = some (arcs.map aD) := optAll_map (g := frz n0 h (n + 2)) (e := aD) (e' := aD) fun _ _ => rfl
theorem frz_arcs {n0 n : Nat} {h : Hv} {arcs : List Arc} : frz n0 h (n + 3) (arcsD arcs) = some (arcsD arcs) := by
  unfold arcsD
  rw [frz_lst, frz_aDs]; rfl
structure NetOk (n : Nat) (arcs : List Arc) : Prop where
  n1 : 1 ≤ n
  n2 : n ≤ 120
  len : arcs.length ≤ 300
  ok : ∀ a ∈ arcs, okA (n : Int) a
  ne : ∀ a ∈ arcs, a.a ≠ a.b
  bd : ∀ a ∈ arcs, 0 ≤ a.c ∧ a.c ≤ a.d
theorem asked_eq {n : Nat} {arcs : List Arc} (ok : NetOk n arcs) : m_asked_net [.int n, arcsD arcs] [] = .ok (.bl true) [] := by
  refine fnS_of (P := fun r => r = .ok (.bl true) []) rfl ?_
  unfold b_asked_net arcsD
  have h1 := ok.n1
  have h2 := ok.n2
  have h3 := ok.len
  have e1 : ¬ ((n : Int) < 1) := by omega
  have e2 : ¬ ((120 : Int) < n) := by omega
  have e3 : ¬ ((300 : Int) < (arcs.length : Int)) := by omega
  simp [e1, e2, e3]
  unfold l_asked_net_1
  refine Wp.loopA aD arcs (fun _ σ h => ∃ x2 x3 x4 x5, σ = [some (.int n), some (.lst (arcs.map aD)), x2, x3, x4, x5] ∧ h = []) (h0 := []) (show iL _ _ _ = .ok (arcs.map aD, always) _ by simp) ⟨_, _, _, _, rfl, rfl⟩ ?_ ?_
  · rintro i a σ h ha ⟨x2, x3, x4, x5, rfl, rfl⟩
    have am := List.mem_of_getElem? ha
    obtain ⟨k1, k2, k3, k4⟩ := ok.ok a am
    obtain ⟨k5, k6⟩ := ok.bd a am
    have k7 := ok.ne a am
    refine ⟨_, rfl, ?_⟩
    have f1 : ¬ ((if a.b < a.a then a.b else a.a) < 0) := by split <;> omega
    have f2 : ¬ ((n : Int) ≤ (if a.a < a.b then a.b else a.a)) := by split <;> omega
    have f3 : ¬ a.c < 0 := by omega
    have f4 : ¬ a.d < a.c := by omega
    simp [f1, f2, f3, f4, k7]
  · rintro σ h ⟨x2, x3, x4, x5, rfl, rfl⟩
    simp
theorem zipped {arcs : List Arc} {fl : List Int} : zipD (arcs.map aD) (fl.map .int) = (arcs.zip fl).map fun p => .tup [aD p.1, .int p.2] := zipD_map aD D.int arcs fl
theorem i0 {a : Arc} {h : Hv} : ixD h (aD a) 0 = some (.int a.a) := rfl
theorem i1 {a : Arc} {h : Hv} : ixD h (aD a) 1 = some (.int a.b) := rfl
theorem i2 {a : Arc} {h : Hv} : ixD h (aD a) 2 = some (.int a.c) := rfl
theorem i3 {a : Arc} {h : Hv} : ixD h (aD a) 3 = some (.int a.d) := rfl
/-- the flow: data, or the heap's first cell -/
def flD (m : Bool) (fl : List Int) : D := if m = true then .cell 0 else .lst (fl.map .int)
def flH (m : Bool) (fl : List Int) : Hv := if m = true then [.lst (fl.map .int)] else []
theorem flC {fl : List Int} {n0 : Nat} {h : Hv} : frzC n0 h (.lst (fl.map .int)) = some (.lst (fl.map .int)) := by
  show (optAll (frz n0 h 12) (fl.map .int)).map Cell.lst = _
  rw [frz_ints]; rfl
theorem fl_take {m : Bool} {fl : List Int} {n0 : Nat} {h e : Hv} (hn : n0 = (flH m fl).length) : optAll (frzC n0 h) ((flH m fl ++ e).take n0) = some (flH m fl) := by
  rw [hn, List.take_left]
  cases m with
  | true => show optAll (frzC _ h) [Cell.lst (fl.map .int)] = _; rw [optAll_cons, flC]; rfl
  | false => rfl
theorem exit_fl {m : Bool} {fl : List Int} {e : Hv} {d d' : D} (h : frz (flH m fl).length (flH m fl ++ e) 12 d = some d') : exitD (flH m fl).length d (flH m fl ++ e) = .ok d' (flH m fl) := by
  unfold exitD
  rw [h, fl_take rfl]
  simp only [List.length_append]
  rw [if_pos (Nat.le_add_right _ _)]
theorem gc1 {A : Hv} {c : Cell} : (A ++ [c])[A.length]? = some c := by rw [List.getElem?_append_right (Nat.le_refl _), Nat.sub_self]; rfl
theorem gs1 {A : Hv} {c c' : Cell} : (A ++ [c]).set A.length c' = A ++ [c'] := by rw [List.set_append_right _ _ (Nat.le_refl _), Nat.sub_self]; rfl
theorem ap0 {A : Hv} {x y : Cell} : (A ++ [x, y])[A.length]? = some x := by rw [List.getElem?_append_right (Nat.le_refl _), Nat.sub_self]; rfl
theorem ap1 {A : Hv} {x y : Cell} : (A ++ [x, y])[A.length + 1]? = some y := by rw [List.getElem?_append_right (Nat.le_succ _), Nat.succ_sub (Nat.le_refl _), Nat.sub_self]; rfl
theorem st0 {A : Hv} {x y z : Cell} : (A ++ [x, y]).set A.length z = A ++ [z, y] := by rw [List.set_append_right _ _ (Nat.le_refl _), Nat.sub_self]; rfl
theorem st1 {A : Hv} {x y z : Cell} : (A ++ [x, y]).set (A.length + 1) z = A ++ [x, z] := by rw [List.set_append_right _ _ (Nat.le_succ _), Nat.succ_sub (Nat.le_refl _), Nat.sub_self]; rfl
theorem apl {A : Hv} {x : Cell} : (A ++ [x]).length = A.length + 1 := List.length_append
theorem apa {A : Hv} {x y : Cell} : A ++ [x] ++ [y] = A ++ [x, y] := List.append_assoc _ _ _
def chF (m : Bool) (fl : List Int) : Hv → Bool := if m = true then isCell 0 (fl.map .int) else always
theorem zs_fl {m : Bool} {fl : List Int} {e : Hv} : zsOf (flH m fl ++ e) (flD m fl) = some (fl.map .int, chF m fl) := by
  cases m <;> rfl
theorem chF_ok {m : Bool} {fl : List Int} {e : Hv} : chF m fl (flH m fl ++ e) = true := by
  cases m with
  | true => exact isCell_of rfl
  | false => rfl
theorem ix_fl {m : Bool} {fl : List Int} {e : Hv} {p : Nat} (h : p < fl.length) : ixD (flH m fl ++ e) (flD m fl) (p : Int) = some (.int (gI fl p)) := by
  have e3 : atI (fl.map D.int) (p : Int) = some (.int (gI fl p)) := ix_ints (by omega) (by omega)
  cases m with
  | true => exact e3
  | false => exact e3
/-- gains -/
theorem gains_body {m : Bool} {n : Nat} {arcs : List Arc} {fl : List Int} (n2 : n ≤ 120) (ha : ∀ a ∈ arcs, okA (n : Int) a) (hl : fl.length = arcs.length) :
    m_gains_of_nodes [.int n, arcsD arcs, flD m fl] (flH m fl) = .ok (.lst ((gainsF n (arcs.zip fl)).map .int)) (flH m fl) := by
  refine fnS_ofH (P := fun r => r = .ok (.lst ((gainsF n (arcs.zip fl)).map .int)) (flH m fl)) rfl ?_
  unfold b_gains_of_nodes
  have e1 : ∀ σ h, c_gains_of_nodes_1 (some (.int n) :: σ) h = .ok ((List.replicate n (0 : Int)).map D.int) h := by
    intro σ h
    unfold c_gains_of_nodes_1
    rw [lLc_map (fun i : Nat => D.int ((0 : Int) + i)) (fun _ => D.int 0) (List.range n) (chk := always) (h0 := h) ?_ rfl ?_ ?_]
    · congr 1
      apply List.ext_getElem <;> simp
    · simp (disch := omega) [rgD_map]
    · simp; omega
    · intro a _
      exact ⟨_, rfl, rfl⟩
  have zz : ∀ c : Cell, zsOf (flH m fl ++ [c]) (flD m fl) = some (fl.map .int, chF m fl) := fun c => zs_fl
  have ck : ∀ c : Cell, chF m fl (flH m fl ++ [c]) = true := fun c => chF_ok
  have ex : ∀ g : List Int, exitD (flH m fl).length (.cell (flH m fl).length) (flH m fl ++ [.lst (g.map .int)]) = .ok (.lst (g.map .int)) (flH m fl) := fun g => by
    refine exit_fl ?_
    rw [frz_cell, if_neg (Nat.lt_irrefl _), gc1]
    simp only [frz_ints]; rfl
  generalize flH m fl = A at zz ck ex ⊢
  simp (disch := omega) [e1, -List.map_replicate]
  unfold l_gains_of_nodes_1
  obtain ⟨I, hI⟩ : ∃ I : Nat → VS → Hv → Prop, I = fun i σ h => ∃ x y z, σ = [some (.int n), some (arcsD arcs), some (flD m fl), some (.cell A.length), x, y, z] ∧ h = A ++ [.lst ((gainsF n ((arcs.zip fl).take i)).map .int)] := ⟨_, rfl⟩
  refine Wp.loop (fun p : Arc × Int => D.tup [aD p.1, .int p.2]) (arcs.zip fl) I (h0 := A ++ [.lst ((List.replicate n (0 : Int)).map .int)]) (chk := fun h => always h && chF m fl h) ?_ (by rw [hI]; exact ⟨_, _, _, rfl, rfl⟩) ?_ ?_ ?_
  · have ea : ∀ h, zsOf h (arcsD arcs) = some (arcs.map aD, always) := fun _ => rfl
    simp [ea, zz, hl, zipped, -List.map_replicate]
  · intro i σ h hh
    rw [hI] at hh
    obtain ⟨x, y, z, rfl, rfl⟩ := hh
    rw [ck]; rfl
  · intro i p σ h hp hh
    rw [hI] at hh
    obtain ⟨x, y, z, rfl, rfl⟩ := hh
    obtain ⟨b1, b2, b3, b4⟩ := ha _ (zip_mem hp)
    have gl := gainsF_len n ((arcs.zip fl).take i)
    refine ⟨_, rfl, ?_⟩
    have eg := gainsF_take n _ _ _ hp
    generalize gainsF n ((arcs.zip fl).take i) = g at gl eg ⊢
    simp (disch := first | omega | (simp; omega)) [ix_ints, ixN_nat, set_int, i0, i1, gc1, gs1, -List.map_set]
    rw [hI]
    exact ⟨_, _, _, rfl, by rw [eg, gStep]⟩
  · intro σ h hh
    rw [hI] at hh
    obtain ⟨x, y, z, rfl, rfl⟩ := hh
    have e := List.take_length (l := arcs.zip fl)
    rw [e]
    simp [ex]
/-- the places beside a node -/
def bs1 (arcs : List Arc) (x : Int) (p : Nat) : List Nat := match arcs[p]? with
  | some a => (if a.a = x then [p] else []) ++ (if a.b = x then [p] else [])
  | none => []
def bsF (arcs : List Arc) (x : Int) (k : Nat) : List Nat := (List.range k).flatMap (bs1 arcs x)
theorem bs1_mem {arcs : List Arc} {x : Int} {p q : Nat} : q ∈ bs1 arcs x p ↔ q = p ∧ ∃ a, arcs[p]? = some a ∧ (a.a = x ∨ a.b = x) := by
  unfold bs1
  cases h : arcs[p]? with
  | none => simp
  | some a =>
    by_cases q1 : a.a = x <;> by_cases q2 : a.b = x <;> simp [q1, q2]
theorem bsF_mem {arcs : List Arc} {x : Int} {q k : Nat} : q ∈ bsF arcs x k ↔ q < k ∧ ∃ a, arcs[q]? = some a ∧ (a.a = x ∨ a.b = x) := by
  unfold bsF
  rw [List.mem_flatMap]
  constructor
  · rintro ⟨p, hp, h⟩
    obtain ⟨rfl, h⟩ := bs1_mem.mp h
    exact ⟨List.mem_range.mp hp, h⟩
  · rintro ⟨h1, h2⟩
    exact ⟨q, List.mem_range.mpr h1, bs1_mem.mpr ⟨rfl, h2⟩⟩
theorem bs1_len {arcs : List Arc} {x : Int} {p : Nat} : (bs1 arcs x p).length ≤ 2 := by
  unfold bs1
  cases arcs[p]? with
  | none => simp
  | some a => by_cases q1 : a.a = x <;> by_cases q2 : a.b = x <;> simp [q1, q2]
theorem bsF_succ {arcs : List Arc} {x : Int} {k : Nat} : bsF arcs x (k + 1) = bsF arcs x k ++ bs1 arcs x k := by
  unfold bsF
  rw [List.range_succ, List.flatMap_append]; simp
theorem bsF_len {arcs : List Arc} {x : Int} : ∀ k : Nat, (bsF arcs x k).length ≤ 2 * k
  | 0 => by simp [bsF]
  | k + 1 => by
    have ih := bsF_len (arcs := arcs) (x := x) k
    have := bs1_len (arcs := arcs) (x := x) (p := k)
    rw [bsF_succ, List.length_append]; omega
def natsL (l : List Nat) : List D := l.map fun p : Nat => D.int (p : Int)
def besH (n : Nat) (arcs : List Arc) (k : Nat) : Hv := (List.range n).map fun v : Nat => .lst (natsL (bsF arcs (v : Int) k))
def besD (n : Nat) (arcs : List Arc) : D := .lst ((List.range n).map fun v : Nat => .lst (natsL (bsF arcs (v : Int) arcs.length)))
/-- with the one end told already -/
def besM (n : Nat) (arcs : List Arc) (k : Nat) (x : Int) : Hv := (List.range n).map fun v : Nat => .lst (natsL (bsF arcs (v : Int) k ++ if x = (v : Int) then [k] else []))
theorem besH_at {n k : Nat} {arcs : List Arc} {x : Int} (h0 : 0 ≤ x) (h1 : x < n) : (besH n arcs k)[x.toNat]? = some (.lst (natsL (bsF arcs x k))) := by
  unfold besH
  rw [List.getElem?_map, List.getElem?_range (by omega), Option.map_some, Int.toNat_of_nonneg h0]
theorem besM_at {n k : Nat} {arcs : List Arc} {x y : Int} (h0 : 0 ≤ y) (h1 : y < n) : (besM n arcs k x)[y.toNat]? = some (.lst (natsL (bsF arcs y k ++ if x = y then [k] else []))) := by
  unfold besM
  rw [List.getElem?_map, List.getElem?_range (by omega), Option.map_some, Int.toNat_of_nonneg h0]
theorem besH_set {n k : Nat} {arcs : List Arc} {x : Int} (h0 : 0 ≤ x) (h1 : x < n) : (besH n arcs k).set x.toNat (.lst (natsL (bsF arcs x k) ++ [.int k])) = besM n arcs k x := by
  unfold besH besM
  apply List.ext_getElem
  · simp
  · intro i q1 q2
    have hi : i < n := by simpa using q2
    rw [List.getElem_set]
    by_cases z : x.toNat = i
    · subst z
      rw [if_pos rfl]
      simp only [List.getElem_map, List.getElem_range]
      rw [Int.toNat_of_nonneg h0, if_pos rfl]
      unfold natsL
      rw [List.map_append]; rfl
    · rw [if_neg z]
      simp only [List.getElem_map, List.getElem_range]
      rw [if_neg (by omega), List.append_nil]
theorem besM_set {n k : Nat} {arcs : List Arc} {a : Arc} (ha : arcs[k]? = some a) (h0 : 0 ≤ a.b) (h1 : a.b < n) : (besM n arcs k a.a).set a.b.toNat (.lst (natsL (bsF arcs a.b k ++ if a.a = a.b then [k] else []) ++ [.int k])) = besH n arcs (k + 1) := by
  unfold besH besM
  apply List.ext_getElem
  · simp
  · intro i q1 q2
    have hi : i < n := by simpa using q2
    rw [List.getElem_set]
    simp only [List.getElem_map, List.getElem_range, bsF_succ, bs1, ha]
    by_cases z : a.b.toNat = i
    · subst z
      rw [if_pos rfl, Int.toNat_of_nonneg h0, if_pos rfl]
      unfold natsL
      simp [List.map_append]
    · rw [if_neg z]
      have : ¬ a.b = (i : Int) := by omega
      simp [this]
theorem frz_nats {n0 n : Nat} {h : Hv} {l : List Nat} : optAll (frz n0 h (n + 1)) (natsL l) = some (natsL l) := optAll_map (g := frz n0 h (n + 1)) (e := fun p : Nat => D.int (p : Int)) (e' := fun p : Nat => D.int (p : Int)) fun _ _ => rfl
theorem frz_bes {n0 m n : Nat} {h : Hv} {arcs : List Arc} : frz n0 h (m + 3) (besD n arcs) = some (besD n arcs) := by
  unfold besD
  rw [frz_lst]
  rw [optAll_map (g := frz n0 h (m + 2)) (e := fun v : Nat => D.lst (natsL (bsF arcs (v : Int) arcs.length))) (e' := fun v : Nat => D.lst (natsL (bsF arcs (v : Int) arcs.length))) fun v _ => by rw [frz_lst, frz_nats]; rfl]; rfl
theorem beside_eq {n : Nat} {arcs : List Arc} (ok : NetOk n arcs) : m_arcs_beside [.int n, arcsD arcs] [] = .ok (besD n arcs) [] := by
  refine fnS_of (P := fun r => r = .ok (besD n arcs) []) rfl ?_
  have n2 := ok.n2
  have n3 := ok.len
  unfold b_arcs_beside
  have c1 : c_arcs_beside_1 [some (.int n), some (arcsD arcs), none, none, none] [] = .ok ((List.range n).map D.cell) (besH n arcs 0) := by
    unfold c_arcs_beside_1
    have := lLc_cells (is := iR1 (aCons (eVar 0) aNil)) (gd := gN 4) (el := eC (lLst aNil)) (own := [4]) (σ := [some (.int n), some (arcsD arcs), none, none, none]) (h := []) (h0 := []) (fun i : Nat => D.int ((0 : Int) + i)) (fun _ => []) (List.range n) (by simp (disch := omega) [rgD_map]) (by simp; omega) fun a _ => ⟨_, rfl, fun h1 => by simp⟩
    rw [this]
    simp [besH, bsF, natsL]
  simp [c1]
  unfold l_arcs_beside_1
  obtain ⟨I, hI⟩ : ∃ I : Nat → VS → Hv → Prop, I = fun i σ h => ∃ x3 x4, σ = [some (.int n), some (arcsD arcs), some (.lst ((List.range n).map D.cell)), x3, x4] ∧ h = besH n arcs i := ⟨_, rfl⟩
  refine Wp.range 0 arcs.length I (h0 := besH n arcs 0) ?_ (by rw [hI]; exact ⟨_, _, rfl, rfl⟩) ?_ ?_
  · have e : ∀ h, lenD h (arcsD arcs) = some (arcs.length : Int) := fun _ => by unfold arcsD; simp
    simp (disch := omega) [e]
  · intro i σ h hi hh
    rw [hI] at hh
    obtain ⟨x3, x4, rfl, rfl⟩ := hh
    obtain ⟨a, ha⟩ : ∃ a, arcs[i]? = some a := ⟨_, List.getElem?_eq_getElem hi⟩
    obtain ⟨k1, k2, k3, k4⟩ := ok.ok a (List.mem_of_getElem? ha)
    refine ⟨_, rfl, ?_⟩
    have e0 : (0 : Int) + (i : Int) = (i : Int) := by omega
    have e1 : ∀ h, ixD h (arcsD arcs) (i : Int) = some (aD a) := fun h => atI_map (e := aD) (atI_at rfl ha)
    have e2 : atI ((List.range n).map D.cell) a.a = some (.cell a.a.toNat) := atI_map (e := D.cell) (atI_at (j := a.a.toNat) (by omega) (List.getElem?_range (by omega)))
    have e3 : atI ((List.range n).map D.cell) a.b = some (.cell a.b.toNat) := atI_map (e := D.cell) (atI_at (j := a.b.toNat) (by omega) (List.getElem?_range (by omega)))
    have f1 : (natsL (bsF arcs a.a i)).length < 16777216 := by unfold natsL; rw [List.length_map]; have := bsF_len (arcs := arcs) (x := a.a) i; omega
    have f2 : (natsL (bsF arcs a.b i ++ if a.a = a.b then [i] else [])).length < 16777216 := by
      unfold natsL
      rw [List.length_map, List.length_append]
      have := bsF_len (arcs := arcs) (x := a.b) i
      have : (if a.a = a.b then [i] else []).length ≤ 1 := by split <;> simp
      omega
    rw [e0]
    simp [e1, i0, i1, e2, e3, besH_at k1 k2, f1, besH_set k1 k2, besM_at k3 k4, f2, besM_set ha k3 k4]
    rw [hI]
    exact ⟨_, _, rfl, rfl⟩
  · intro σ h hh
    rw [hI] at hh
    obtain ⟨x3, x4, rfl, rfl⟩ := hh
    simp
    have : optAll (frz 0 (besH n arcs arcs.length) 11) ((List.range n).map D.cell) = some ((List.range n).map fun v : Nat => D.lst (natsL (bsF arcs (v : Int) arcs.length))) := optAll_map fun v hv => by
      have hv := List.mem_range.mp hv
      have := besH_at (n := n) (k := arcs.length) (arcs := arcs) (x := (v : Int)) (by omega) (by omega)
      rw [Int.toNat_natCast] at this
      rw [frz_cell, if_neg (Nat.not_lt_zero _), this]
      simp only [frz_nats]; rfl
    rw [this]; exact ⟨_, rfl, rfl⟩
/-! what is come to -/
def encO : Option (Int × Nat) → D
  | none => .non
  | some (x, p) => .tup [.int x, .int (p : Int)]
def encK (c : Came) : List (Key × D) := c.map fun p => (.inl p.1, encO p.2)
def encL (c : Came) : List D := c.map fun p => .int p.1
theorem getD_isSome {c : Came} {n : Int} : (getD (encK c) (.inl n)).isSome = decide (n ∈ ks c) := by
  induction c with
  | nil => rfl
  | cons p c ih =>
    show (getD ((Sum.inl p.1, encO p.2) :: encK c) (.inl n)).isSome = _
    rw [getD_cons]
    by_cases q : p.1 = n
    · rw [if_pos (by rw [q]), decide_eq_true (by simp [ks, q])]; rfl
    · have q1 : (Sum.inl p.1 : Key) ≠ .inl n := fun z => by injection z with z; omega
      rw [if_neg q1, ih, decide_eq_decide]
      simp only [ks, List.map_cons, List.mem_cons]
      exact ⟨.inr, fun z => z.resolve_left fun z => q z.symm⟩
theorem getD_at {c : Came} (nd : (ks c).Nodup) {i : Nat} {n : Int} {o : Option (Int × Nat)} (e : c[i]? = some (n, o)) : getD (encK c) (.inl n) = some (encO o) := by
  induction c generalizing i with
  | nil => simp at e
  | cons p c ih =>
    show getD ((Sum.inl p.1, encO p.2) :: encK c) (.inl n) = _
    rw [getD_cons]
    have nd2 : p.1 ∉ ks c ∧ (ks c).Nodup := List.nodup_cons.mp nd
    cases i with
    | zero =>
      rw [List.getElem?_cons_zero] at e
      cases e
      rw [if_pos rfl]
    | succ i =>
      rw [List.getElem?_cons_succ] at e
      have hn : n ∈ ks c := mem_ks.mpr ⟨i, o, e⟩
      have q1 : (Sum.inl p.1 : Key) ≠ .inl n := fun z => by
        injection z with z
        rw [z] at nd2
        exact nd2.1 hn
      rw [if_neg q1]
      exact ih nd2.2 e
theorem putD_new {c : Came} {n : Int} {d : D} (h : n ∉ ks c) : putD (encK c) (.inl n) d = encK c ++ [(.inl n, d)] := by
  unfold putD
  rw [if_neg]
  intro z
  obtain ⟨p, hp, q⟩ := List.any_eq_true.mp z
  obtain ⟨r, hr, rfl⟩ := List.mem_map.mp hp
  have q := of_decide_eq_true q
  injection q with q
  exact h (List.mem_map.mpr ⟨r, hr, by omega⟩)
theorem encK_snoc {c : Came} {y x : Int} {p : Nat} : encK c ++ [(.inl y, .tup [.int x, .int (p : Int)])] = encK (c ++ [(y, some (x, p))]) := (List.map_append (l₁ := c) (l₂ := [(y, some (x, p))])).symm
theorem encL_snoc {c : Came} {y x : Int} {p : Nat} : encL c ++ [.int y] = encL (c ++ [(y, some (x, p))]) := (List.map_append (l₁ := c) (l₂ := [(y, some (x, p))])).symm
theorem encK_len {c : Came} : (encK c).length = c.length := List.length_map _
theorem encL_len {c : Came} : (encL c).length = c.length := List.length_map _
theorem frz_encO {n0 n : Nat} {h : Hv} (o : Option (Int × Nat)) : frz n0 h (n + 2) (encO o) = some (encO o) := by
  cases o with
  | none => rfl
  | some p => rfl
def cameD (c : Came) : D := .dct ((encK c).map (·.1)) ((encK c).map (·.2))
def butD : Option Nat → D
  | none => .non
  | some p => .int (p : Int)
theorem eqD_but {h : Hv} {p : Nat} {but : Option Nat} : eqD h (.int (p : Int)) (butD but) = some (decide (some p = but)) := by
  cases but with
  | none => rfl
  | some q =>
    show eqD h (.int (p : Int)) (.int (q : Int)) = _
    rw [eqD_int]
    congr 1
    rw [decide_eq_decide]
    constructor
    · intro z; rw [Int.ofNat_inj.mp z]
    · intro z; injection z with z; rw [z]
def rst (m : Bool) (n : Nat) (arcs : List Arc) (fl : List Int) (bg : List Int) (but : Option Nat) (L at_ : Nat) (x6 x9 x10 x11 x12 x13 : Option D) : VS := [some (besD n arcs), some (arcsD arcs), some (flD m fl), some (.lst (bg.map .int)), some (butD but), some (.cell L), x6, some (.cell (L + 1)), some (.int (at_ : Int)), x9, x10, x11, x12, x13]
def rhp (m : Bool) (fl : List Int) (c : Came) : Hv := flH m fl ++ [.dK (encK c), .lst (encL c)]
section
variable {m : Bool} {n : Nat} {arcs : List Arc} {fl bg : List Int} {but : Option Nat} {c : Came}
theorem stp_no {x : Int} {p : Nat} {a : Arc} (ha : arcs[p]? = some a) (h1 : ¬ (some p ≠ but ∧ a.a = x ∧ gI fl p < a.d ∧ a.b ∉ ks c)) (h2 : ¬ (some p ≠ but ∧ a.b = x ∧ a.c < gI fl p ∧ a.a ∉ ks c)) : stp arcs fl but x c p = c := by
  unfold stp
  rw [ha]
  dsimp only
  rw [if_neg h1, if_neg h2]
theorem stp_to {x : Int} {p : Nat} {a : Arc} (ne : a.a ≠ a.b) (ha : arcs[p]? = some a) (h1 : some p ≠ but ∧ a.a = x ∧ gI fl p < a.d ∧ a.b ∉ ks c) : stp arcs fl but x c p = c ++ [(a.b, some (x, p))] := by
  unfold stp
  rw [ha]
  dsimp only
  rw [if_pos h1, if_neg (fun z => ne (h1.2.1.trans z.2.1.symm))]
theorem stp_fro {x : Int} {p : Nat} {a : Arc} (ne : a.a ≠ a.b) (ha : arcs[p]? = some a) (h1 : some p ≠ but ∧ a.b = x ∧ a.c < gI fl p ∧ a.a ∉ ks c) : stp arcs fl but x c p = c ++ [(a.a, some (x, p))] := by
  unfold stp
  rw [ha]
  dsimp only
  have q : ¬ (some p ≠ but ∧ a.a = x ∧ gI fl p < a.d ∧ a.b ∉ ks c) := fun z => ne (z.2.1.trans h1.2.1.symm)
  rw [if_neg q, if_pos h1]
theorem reached_one {Q : RS → Prop} {at_ p : Nat} {x : Int} {a : Arc} {y10 y11 y12 y13 : Option D} (ne : a.a ≠ a.b) (ha : arcs[p]? = some a) (hl : fl.length = arcs.length) (hc : c.length < 1000000) (J : VS → Hv → Prop)
    (hJ : J (rst m n arcs fl bg but (flH m fl).length at_ (some (.int x)) (some (.int (p : Int))) (some (.int a.a)) (some (.int a.b)) (some (.int a.c)) (some (.int a.d))) (rhp m fl (stp arcs fl but x c p))) :
    Wp (Lp Q J) ((sSeq (sAsg (eOp oIx (eVar 1) (eVar 9)) (gT 4 (gsCons (gN 10) (gsCons (gN 11) (gsCons (gN 12) (gsCons (gN 13) (gsNil))))))) (sSeq (sIf (cAnd (toB (eOp oNe (eVar 9) (eVar 4))) (cAnd (toB (eOp oEq (eVar 10) (eVar 6))) (cAnd (toB (eOp oLt (eOp oIx (eVar 2) (eVar 9)) (eVar 13))) (toB (eOp oDnin (eVar 11) (eVar 5)))))) (sSeq (sDput (eTup (aCons (eVar 6) (aCons (eVar 9) (aNil)))) (eVar 5) (eVar 11)) (sDrop (eBM mAppend (eVar 7) (aCons (eVar 11) (aNil))))) (sNext)) (sIf (cAnd (toB (eOp oNe (eVar 9) (eVar 4))) (cAnd (toB (eOp oEq (eVar 11) (eVar 6))) (cAnd (toB (eOp oGt (eOp oIx (eVar 2) (eVar 9)) (eVar 12))) (toB (eOp oDnin (eVar 10) (eVar 5)))))) (sSeq (sDput (eTup (aCons (eVar 6) (aCons (eVar 9) (aNil)))) (eVar 5) (eVar 10)) (sDrop (eBM mAppend (eVar 7) (aCons (eVar 10) (aNil))))) (sNext)))) (rst m n arcs fl bg but (flH m fl).length at_ (some (.int x)) (some (.int (p : Int))) y10 y11 y12 y13) (rhp m fl c)) := by
  have hp : p < fl.length := by rw [hl]; exact (List.getElem?_eq_some_iff.mp ha).1
  have e1 : ∀ h, ixD h (arcsD arcs) (p : Int) = some (aD a) := fun h => atI_map (e := aD) (atI_at rfl ha)
  have e2 : ∀ e : Hv, ixD (flH m fl ++ e) (flD m fl) (p : Int) = some (.int (gI fl p)) := fun e => ix_fl hp
  have gT4 : ∀ σ : VS, gT 4 (gsCons (gN 10) (gsCons (gN 11) (gsCons (gN 12) (gsCons (gN 13) (gsNil))))) (aD a) σ = some ((((σ.set 10 (some (.int a.a))).set 11 (some (.int a.b))).set 12 (some (.int a.c))).set 13 (some (.int a.d))) := fun σ => rfl
  have hc2 : c.length < 16777216 := by omega
  unfold rst rhp at hJ ⊢
  by_cases hb : some p = but
  · rw [stp_no ha (fun z => z.1 hb) (fun z => z.1 hb)] at hJ
    simp [e1, gT4, eqD_but, hb]
    exact hJ
  by_cases hx : a.a = x
  · have hx2 : ¬ a.b = x := fun z => ne (hx.trans z.symm)
    have f1 : (a.a = x) = True := eq_true hx
    have f2 : (a.b = x) = False := eq_false hx2
    by_cases hf : gI fl p < a.d
    · by_cases hk : a.b ∈ ks c
      · rw [stp_no ha (fun z => z.2.2.2 hk) (fun z => hx2 z.2.1)] at hJ
        simp [e1, e2, gT4, eqD_but, hb, f1, f2, hf, ap0, getD_isSome, hk]
        exact hJ
      · rw [stp_to ne ha ⟨hb, hx, hf, hk⟩] at hJ
        have s1 := encK_snoc (c := c) (y := a.b) (x := x) (p := p)
        have s2 := encL_snoc (c := c) (y := a.b) (x := x) (p := p)
        simp [e1, e2, gT4, eqD_but, hb, f1, f2, hf, ap0, ap1, st0, st1, getD_isSome, hk, encK_len, encL_len, hc2, putD_new hk, s1, s2]
        exact hJ
    · rw [stp_no ha (fun z => hf z.2.2.1) (fun z => hx2 z.2.1)] at hJ
      simp [e1, e2, gT4, eqD_but, hb, f1, f2, hf]
      exact hJ
  · have f1 : (a.a = x) = False := eq_false hx
    by_cases hx2 : a.b = x
    · have f2 : (a.b = x) = True := eq_true hx2
      by_cases hf : a.c < gI fl p
      · by_cases hk : a.a ∈ ks c
        · rw [stp_no ha (fun z => hx z.2.1) (fun z => z.2.2.2 hk)] at hJ
          simp [e1, e2, gT4, eqD_but, hb, f1, f2, hf, ap0, getD_isSome, hk]
          exact hJ
        · rw [stp_fro ne ha ⟨hb, hx2, hf, hk⟩] at hJ
          have s1 := encK_snoc (c := c) (y := a.a) (x := x) (p := p)
          have s2 := encL_snoc (c := c) (y := a.a) (x := x) (p := p)
          simp [e1, e2, gT4, eqD_but, hb, f1, f2, hf, ap0, ap1, st0, st1, getD_isSome, hk, encK_len, encL_len, hc2, putD_new hk, s1, s2]
          exact hJ
      · rw [stp_no ha (fun z => hx z.2.1) (fun z => hf z.2.2.1)] at hJ
        simp [e1, e2, gT4, eqD_but, hb, f1, f2, hf]
        exact hJ
    · have f2 : (a.b = x) = False := eq_false hx2
      rw [stp_no ha (fun z => hx z.2.1) (fun z => hx2 z.2.1)] at hJ
      simp [e1, e2, gT4, eqD_but, hb, f1, f2]
      exact hJ
theorem bes_at {x : Int} (h0 : 0 ≤ x) (h1 : x < (n : Int)) {h : Hv} : ixD h (besD n arcs) x = some (.lst (natsL (bsF arcs x arcs.length))) := by
  show atI ((List.range n).map fun v : Nat => D.lst (natsL (bsF arcs (v : Int) arcs.length))) x = _
  have := atI_map (e := fun v : Nat => D.lst (natsL (bsF arcs (v : Int) arcs.length))) (atI_at (k := x) (j := x.toNat) (by omega) (List.getElem?_range (n := n) (i := x.toNat) (by omega)))
  rw [this, Int.toNat_of_nonneg h0]
theorem reached_in {Q : RS → Prop} {at_ : Nat} {x : Int} {o : Option (Int × Nat)} {y9 y10 y11 y12 y13 : Option D} (ok : NetOk n arcs) (hl : fl.length = arcs.length) (w : Wf arcs fl but bg c) (hb : ∀ b ∈ bg, 0 ≤ b ∧ b < (n : Int)) (hx : c[at_]? = some (x, o))
    (fin : ∀ y9 y10 y11 y12 y13 c', Wf arcs fl but bg c' → (∃ e, c' = c ++ e) → (∀ y p, Edge arcs fl but x y p → y ∈ ks c') → Wp Q (.next (rst m n arcs fl bg but (flH m fl).length at_ (some (.int x)) y9 y10 y11 y12 y13) (rhp m fl c'))) :
    Wp Q (l_reached_nodes_2 (rst m n arcs fl bg but (flH m fl).length at_ (some (.int x)) y9 y10 y11 y12 y13) (rhp m fl c)) := by
  unfold l_reached_nodes_2
  have bx := (w.bd ok.ok hb).1 x (mem_ks.mpr ⟨at_, o, hx⟩)
  have n3 := ok.len
  have e0 := bes_at (arcs := arcs) bx.1 bx.2 (h := rhp m fl c)
  obtain ⟨I, hI⟩ : ∃ I : Nat → VS → Hv → Prop, I = fun k σ h => ∃ y9 y10 y11 y12 y13 c', σ = rst m n arcs fl bg but (flH m fl).length at_ (some (.int x)) y9 y10 y11 y12 y13 ∧ h = rhp m fl c' ∧ Wf arcs fl but bg c' ∧ (∃ e, c' = c ++ e) ∧ ∀ k' < k, ∀ p, (bsF arcs x arcs.length)[k']? = some p → ∀ y, Edge arcs fl but x y p → y ∈ ks c' := ⟨_, rfl⟩
  refine Wp.loopA (fun p : Nat => D.int (p : Int)) (bsF arcs x arcs.length) I (h0 := rhp m fl c) (by unfold rst; simp [e0]; rfl) (by rw [hI]; exact ⟨_, _, _, _, _, c, rfl, rfl, w, ⟨[], by simp⟩, fun k' h => absurd h (Nat.not_lt_zero _)⟩) ?_ ?_
  · intro k p σ h hk hh
    rw [hI] at hh
    obtain ⟨z9, z10, z11, z12, z13, c', rfl, rfl, w', ⟨e, he⟩, al⟩ := hh
    refine ⟨rst m n arcs fl bg but (flH m fl).length at_ (some (.int x)) (some (.int (p : Int))) z10 z11 z12 z13, rfl, ?_⟩
    obtain ⟨_, a, ha, _⟩ := bsF_mem.mp (List.mem_of_getElem? hk)
    have hx' : c'[at_]? = some (x, o) := by rw [he]; exact app_old hx
    have n2 := ok.n2
    refine reached_one (ok.ne a (List.mem_of_getElem? ha)) ha hl (by have := (w'.bd ok.ok hb).2; omega) _ ?_
    obtain ⟨e2, he2⟩ := stp_ext (arcs := arcs) (fl := fl) (but := but) (x := x) (c := c') (p := p)
    rw [hI]
    refine ⟨_, _, _, _, _, _, rfl, rfl, stp_wf w' hl hx', ⟨e ++ e2, by rw [he2, he, List.append_assoc]⟩, fun k' hk' q hq y ed => ?_⟩
    by_cases z : k' = k
    · subst z
      rw [hk] at hq
      cases hq
      exact stp_mem ed
    · exact stp_keys (al k' (by omega) q hq y ed)
  · intro σ h hh
    rw [hI] at hh
    obtain ⟨z9, z10, z11, z12, z13, c', rfl, rfl, w', he, al⟩ := hh
    refine fin _ _ _ _ _ c' w' he fun y p ed => ?_
    obtain ⟨_, a, f, ha, _, q⟩ := id ed
    have hm : p ∈ bsF arcs x arcs.length := bsF_mem.mpr ⟨(List.getElem?_eq_some_iff.mp ha).1, a, ha, by rcases q with q | q; exact .inl q.1; exact .inr q.1⟩
    obtain ⟨k, hk⟩ := List.getElem?_of_mem hm
    exact al k (List.getElem?_eq_some_iff.mp hk).1 p hk y ed
theorem cell0 {A : Hv} {x : Cell} : (A ++ [x])[A.length]? = some x := gc1
theorem Wf.begin {bg : List Int} (nd : bg.Nodup) : Wf arcs fl but bg (bg.map fun b => (b, none)) where
  nd := by
    have : ks (bg.map fun b => ((b, none) : Int × Option (Int × Nat))) = bg := by unfold ks; rw [List.map_map]; exact List.map_id' _
    rw [this]; exact nd
  bg := fun b hb => by
    have : ks (bg.map fun b => ((b, none) : Int × Option (Int × Nat))) = bg := by unfold ks; rw [List.map_map]; exact List.map_id' _
    rw [this]; exact hb
  rt := fun i y h => by
    rw [List.getElem?_map] at h
    cases q : bg[i]? with
    | none => rw [q] at h; cases h
    | some b => rw [q] at h; cases h; exact List.mem_of_getElem? q
  st := fun i y x p h => by
    rw [List.getElem?_map] at h
    cases q : bg[i]? with
    | none => rw [q] at h; cases h
    | some b => rw [q] at h; cases h
theorem keys_begin {l : List Int} : ks (l.map fun b => ((b, none) : Int × Option (Int × Nat))) = l := by unfold ks; rw [List.map_map]; exact List.map_id' _
theorem reached_eq (ok : NetOk n arcs) (hl : fl.length = arcs.length) (nd : bg.Nodup) (hb : ∀ b ∈ bg, 0 ≤ b ∧ b < (n : Int)) :
    ∃ c : Came, m_reached_nodes [besD n arcs, arcsD arcs, flD m fl, .lst (bg.map .int), butD but] (flH m fl) = .ok (cameD c) (flH m fl) ∧ Wf arcs fl but bg c ∧ Cl arcs fl but c c.length := by
  refine fnS_ofH (P := fun x => ∃ c : Came, x = .ok (cameD c) (flH m fl) ∧ Wf arcs fl but bg c ∧ Cl arcs fl but c c.length) rfl ?_
  unfold b_reached_nodes
  have n2 := ok.n2
  have lb : bg.length ≤ n := nodup_le nd hb
  obtain ⟨A, hA⟩ : ∃ A, A = flH m fl := ⟨_, rfl⟩
  rw [← hA]
  simp
  generalize hL : A.length = L
  unfold l_reached_nodes_1
  obtain ⟨I0, hI0⟩ : ∃ I : Nat → VS → Hv → Prop, I = fun i σ h => ∃ (x6 : Option D), σ = [some (besD n arcs), some (arcsD arcs), some (flD m fl), some (.lst (bg.map .int)), some (butD but), some (.cell L), x6, none, none, none, none, none, none, none] ∧ h = A ++ [.dK (encK ((bg.take i).map fun b => (b, none)))] := ⟨_, rfl⟩
  refine Wp.loopA D.int bg I0 (h0 := A ++ [.dK []]) (by simp) (by rw [hI0]; exact ⟨_, rfl, rfl⟩) ?_ ?_
  · intro i b σ h hi hh
    rw [hI0] at hh
    obtain ⟨x6, rfl, rfl⟩ := hh
    refine ⟨_, rfl, ?_⟩
    have il := (List.getElem?_eq_some_iff.mp hi).1
    have hk : b ∉ ks ((bg.take i).map fun b => ((b, none) : Int × Option (Int × Nat))) := by
      rw [keys_begin]
      intro z
      obtain ⟨j, hj⟩ := List.getElem?_of_mem z
      rw [List.getElem?_take] at hj
      split at hj
      · next q =>
        obtain ⟨l1, g1⟩ := List.getElem?_eq_some_iff.mp hj
        obtain ⟨l2, g2⟩ := List.getElem?_eq_some_iff.mp hi
        exact List.pairwise_iff_getElem.mp nd j i l1 l2 q (g1.trans g2.symm)
      · cases hj
    have f1 : (encK ((bg.take i).map fun b => ((b, none) : Int × Option (Int × Nat)))).length < 16777216 := by rw [encK_len, List.length_map, List.length_take]; omega
    have e1 : encK ((bg.take (i + 1)).map fun b => ((b, none) : Int × Option (Int × Nat))) = encK ((bg.take i).map fun b => (b, none)) ++ [(.inl b, .non)] := by
      rw [List.take_add_one, hi, List.map_append]
      unfold encK
      rw [List.map_append]; rfl
    subst hL
    simp [gc1, gs1, f1, putD_new hk, -List.map_take]
    rw [hI0]
    refine ⟨some (.int b), rfl, ?_⟩
    rw [e1]
  intro σ h hh
  rw [hI0] at hh
  obtain ⟨x6, rfl, rfl⟩ := hh
  rw [List.take_of_length_le (Nat.le_refl _)]
  have e2 : bg.map D.int = encL (bg.map fun b => (b, none)) := by unfold encL; rw [List.map_map]; rfl
  have a2 : ∀ x y : Cell, A ++ ([x] ++ [y]) = A ++ [x, y] := fun _ _ => rfl
  simp [apl, hL, -List.cons_append, -List.append_assoc]
  rw [apa]
  unfold l_reached_nodes_3
  obtain ⟨I, hI⟩ : ∃ I : VS → Hv → Prop, I = fun σ h => ∃ (x6 y9 y10 y11 y12 y13 : Option D) (c : Came) (at_ : Nat), σ = rst m n arcs fl bg but L at_ x6 y9 y10 y11 y12 y13 ∧ h = A ++ [.dK (encK c), .lst (encL c)] ∧ Wf arcs fl but bg c ∧ at_ ≤ c.length ∧ Cl arcs fl but c at_ := ⟨_, rfl⟩
  refine Wp.while I (fun σ _ => n - slN σ 8) ?_ ?_
  · intro σ h hh
    rw [hI] at hh
    obtain ⟨x6, y9, y10, y11, y12, y13, c, at_, rfl, rfl, w, ha, cl⟩ := hh
    have bd := w.bd ok.ok hb
    subst hL
    subst hA
    by_cases q : at_ < c.length
    · refine ⟨true, by unfold rst; simp [ap1, encL_len, q], ?_⟩
      rw [if_pos rfl]
      obtain ⟨p, hp⟩ : ∃ p, c[at_]? = some p := ⟨_, List.getElem?_eq_getElem q⟩
      obtain ⟨x, o⟩ := p
      have e1 : atI (encL c) (at_ : Int) = some (.int x) := atI_map (e := fun p : Int × Option (Int × Nat) => D.int p.1) (atI_at rfl hp)
      unfold rst
      simp [ap1, e1]
      refine reached_in (m := m) (x := x) (at_ := at_) (y9 := y9) (y10 := y10) (y11 := y11) (y12 := y12) (y13 := y13) ok hl w hb hp fun z9 z10 z11 z12 z13 c' w' he al => ?_
      obtain ⟨e, he⟩ := he
      simp [rst]
      rw [hI]
      refine ⟨⟨_, _, _, _, _, _, c', at_ + 1, rfl, rfl, w', by rw [he, List.length_append]; omega, fun j z o' hj hz y b ed => ?_⟩, ?_⟩
      · by_cases qj : j = at_
        · subst qj
          rw [he, List.getElem?_append_left q, hp] at hz
          cases hz
          exact al y b ed
        · rw [he, List.getElem?_append_left (by omega)] at hz
          rw [he, ks_app]
          exact List.mem_append_left _ (cl j z o' (by omega) hz y b ed)
      · show n - ((at_ : Int) + 1).toNat < n - (at_ : Int).toNat
        omega
    · refine ⟨false, by unfold rst; simp [ap1, encL_len]; omega, ?_⟩
      rw [if_neg (by simp)]
      have e : at_ = c.length := by omega
      subst e
      unfold rst
      simp [ap0, st0]
      refine ⟨c, ?_, w, cl⟩
      refine exit_fl ?_
      have e1 : (flH m fl ++ [.dF (encK c), .lst (encL c)])[(flH m fl).length]? = some (.dF (encK c)) := ap0
      rw [frz_cell, if_neg (Nat.lt_irrefl _), e1]
      simp only
      have e2 : (encK c).map (·.2) = c.map (fun p => encO p.2) := by unfold encK; rw [List.map_map]; rfl
      rw [e2, optAll_map (e := fun p : Int × Option (Int × Nat) => encO p.2) (e' := fun p : Int × Option (Int × Nat) => encO p.2) (fun p _ => frz_encO (n := 9) p.2)]
      unfold cameD
      rw [e2]; rfl
  · rw [hI]
    exact ⟨x6, none, none, none, none, none, bg.map fun b => (b, none), 0, rfl, by rw [e2], Wf.begin nd, Nat.zero_le _, fun j x o h => absurd h (Nat.not_lt_zero _)⟩
end
/-! roads -/
def encE (e : Int × Nat) : D := .tup [.int e.1, .int (e.2 : Int)]
def slI (σ : VS) (j : Nat) : Int := match σ[j]? with
  | some (some (.int y)) => y
  | _ => 0
theorem frz_encE {n0 n : Nat} {h : Hv} (R : List (Int × Nat)) : optAll (frz n0 h (n + 2)) (R.map encE) = some (R.map encE) := optAll_map (g := frz n0 h (n + 2)) (e := encE) (e' := encE) fun _ _ => rfl
theorem kvOf_came {h : Hv} {c : Came} : kvOf h (cameD c) = some (encK c) := by
  show (if ((encK c).map (·.1)).length = ((encK c).map (·.2)).length then some (((encK c).map (·.1)).zip ((encK c).map (·.2))) else none) = _
  rw [List.length_map, List.length_map, if_pos rfl, List.zip_map', List.map_id'']
  exact fun _ => rfl
theorem isD_encO {o : Option (Int × Nat)} : isD (encO o) .non = some (!o.isSome) := by
  cases o <;> rfl
section
variable {m : Bool} {n : Nat} {arcs : List Arc} {fl bg : List Int} {but : Option Nat} {c : Came}
theorem idx_key (nd : (ks c).Nodup) {i : Nat} {y : Int} {o : Option (Int × Nat)} (e : c[i]? = some (y, o)) : (ks c).idxOf y = i := by
  have hm : y ∈ ks c := mem_ks.mpr ⟨i, o, e⟩
  have hl := List.idxOf_lt_length_of_mem hm
  have e1 : (ks c)[i]? = some y := by unfold ks; rw [List.getElem?_map, e]; rfl
  have e2 : (ks c)[(ks c).idxOf y]? = some y := by rw [List.getElem?_eq_getElem hl, List.getElem_idxOf hl]
  exact (List.getElem?_inj hl nd).mp (e2.trans e1.symm)
theorem road_eq (w : Wf arcs fl but bg c) (ne : ∀ a ∈ arcs, a.a ≠ a.b) (hc : c.length ≤ 1000) {t : Int} {i : Nat} {o : Option (Int × Nat)} (ht : c[i]? = some (t, o)) :
    ∃ R j b, m_road_to [cameD c, .int t] [] = .ok (.lst (R.map encE)) [] ∧ Wy arcs fl but c t R j b ∧ b ∈ bg ∧ R.length ≤ 1000 := by
  refine fnS_of (P := fun x => ∃ R j b, x = .ok (.lst (R.map encE)) [] ∧ Wy arcs fl but c t R j b ∧ b ∈ bg ∧ R.length ≤ 1000) rfl ?_
  unfold b_road_to
  simp
  unfold l_road_to_1
  have hi0 := (List.getElem?_eq_some_iff.mp ht).1
  obtain ⟨I, hI⟩ : ∃ I : VS → Hv → Prop, I = fun σ h => ∃ (R : List (Int × Nat)) (k : Nat) (y : Int) (o : Option (Int × Nat)), σ = [some (cameD c), some (.int y), some (.cell 0)] ∧ h = [.lst (R.map encE)] ∧ c[k]? = some (y, o) ∧ Wy arcs fl but c t R k y ∧ R.length + k ≤ 1000 := ⟨_, rfl⟩
  refine Wp.while I (fun σ _ => (ks c).idxOf (slI σ 1)) ?_ ?_
  · intro σ h hh
    rw [hI] at hh
    obtain ⟨R, k, y, o, rfl, rfl, hk, wy, ll⟩ := hh
    have eg := getD_at w.nd hk
    have es : slI [some (cameD c), some (.int y), some (.cell 0)] 1 = y := rfl
    rw [es, idx_key w.nd hk]
    cases o with
    | none =>
      refine ⟨false, by simp [kvOf_came, eg, isD_encO], ?_⟩
      rw [if_neg (by simp)]
      simp [frz_encE]
      exact ⟨R, rfl, k, y, wy, w.rt k y hk, by omega⟩
    | some e =>
      obtain ⟨x, p⟩ := e
      refine ⟨true, by simp [kvOf_came, eg, isD_encO], ?_⟩
      rw [if_pos rfl]
      obtain ⟨j, hj, wy'⟩ := wy.step w ne hk
      obtain ⟨o', hx⟩ := wy'.at_
      have eo : encO (some (x, p)) = encE (x, p) := rfl
      rw [eo] at eg
      have l1 : R.length < 16777216 := by omega
      have e0 : ∀ h, ixD h (encE (x, p)) 0 = some (.int x) := fun _ => rfl
      simp [kvOf_came, eg, l1, e0]
      rw [hI]
      refine ⟨⟨R ++ [(x, p)], j, x, o', rfl, by simp, hx, wy', by simp; omega⟩, ?_⟩
      show (ks c).idxOf x < k
      rw [idx_key w.nd hx]; exact hj
  · rw [hI]
    exact ⟨[], i, t, o, rfl, rfl, ht, Wy.start ht, by simp; omega⟩
theorem room_eq {R : List (Int × Nat)} (hl : fl.length = arcs.length) (hp : ∀ e ∈ R, ∃ a, arcs[e.2]? = some a) (hn : R ≠ []) (hR : R.length ≤ 1000) :
    ∃ k, m_room_on_road [arcsD arcs, .lst (fl.map .int), .lst (R.map encE)] [] = .ok (.int k) [] ∧ (∀ e ∈ R, k ≤ room1 arcs fl e) ∧ ∃ e ∈ R, k = room1 arcs fl e := by
  obtain ⟨k, hk⟩ : ∃ k, minI (R.map (room1 arcs fl)) = some k := by
    cases R with
    | nil => exact absurd rfl hn
    | cons e R => exact ⟨_, rfl⟩
  obtain ⟨k1, k2⟩ := minI_ok hk
  refine ⟨k, ?_, fun e he => k2 _ (List.mem_map.mpr ⟨e, he, rfl⟩), by
    obtain ⟨e, he, q⟩ := List.mem_map.mp k1
    exact ⟨e, he, q.symm⟩⟩
  refine fnS_of (P := fun x => x = .ok (.int k) []) rfl ?_
  unfold b_room_on_road
  simp
  unfold l_room_on_road_1
  obtain ⟨I, hI⟩ : ∃ I : Nat → VS → Hv → Prop, I = fun i σ h => ∃ x4 x5, σ = [some (arcsD arcs), some (.lst (fl.map .int)), some (.lst (R.map encE)), some (.cell 0), x4, x5] ∧ h = [.lst (((R.take i).map (room1 arcs fl)).map .int)] := ⟨_, rfl⟩
  refine Wp.loopA encE R I (h0 := [.lst []]) (by simp) (by rw [hI]; exact ⟨_, _, rfl, rfl⟩) ?_ ?_
  · intro i e σ h he hh
    rw [hI] at hh
    obtain ⟨x4, x5, rfl, rfl⟩ := hh
    obtain ⟨a, ha⟩ := hp e (List.mem_of_getElem? he)
    have il := (List.getElem?_eq_some_iff.mp he).1
    have hq : e.2 < fl.length := by rw [hl]; exact (List.getElem?_eq_some_iff.mp ha).1
    refine ⟨_, rfl, ?_⟩
    have e1 : ∀ h, ixD h (arcsD arcs) (e.2 : Int) = some (aD a) := fun h => atI_map (e := aD) (atI_at rfl ha)
    have e2 : atI (fl.map D.int) (e.2 : Int) = some (.int (gI fl e.2)) := ix_ints (by omega) (by omega)
    have l1 : min i R.length < 16777216 := by omega
    have er : room1 arcs fl e = if a.a = e.1 then a.d - gI fl e.2 else gI fl e.2 - a.c := by unfold room1; rw [ha]
    by_cases q : a.a = e.1
    · rw [if_pos q] at er
      have f1 : (a.a = e.1) = True := eq_true q
      simp [e1, e2, i0, i2, i3, f1, l1, -List.map_map, -List.map_take]
      rw [hI]
      refine ⟨_, _, rfl, ?_⟩
      rw [List.take_add_one, he]
      simp [er]
    · rw [if_neg q] at er
      have f1 : (a.a = e.1) = False := eq_false q
      simp [e1, e2, i0, i2, i3, f1, l1, -List.map_map, -List.map_take]
      rw [hI]
      refine ⟨_, _, rfl, ?_⟩
      rw [List.take_add_one, he]
      simp [er]
  · intro σ h hh
    rw [hI] at hh
    obtain ⟨x4, x5, rfl, rfl⟩ := hh
    rw [List.take_of_length_le (Nat.le_refl _)]
    have := bMin_cell (n := 0) (h := [.lst ((R.map (room1 arcs fl)).map .int)]) rfl hk
    simp [this, -List.map_map]
theorem send_eq {R : List (Int × Nat)} {k : Int} (hl : fl.length = arcs.length) (hp : ∀ e ∈ R, ∃ a, arcs[e.2]? = some a) :
    m_send_along [arcsD arcs, .cell 0, .lst (R.map encE), .int k] [.lst (fl.map .int)] = .ok .non [.lst ((sndF arcs k fl R).map .int)] := by
  refine fnS_ofH (P := fun x => x = .ok .non [.lst ((sndF arcs k fl R).map .int)]) rfl ?_
  unfold b_send_along l_send_along_1
  obtain ⟨I, hI⟩ : ∃ I : Nat → VS → Hv → Prop, I = fun i σ h => ∃ x4 x5, σ = [some (arcsD arcs), some (.cell 0), some (.lst (R.map encE)), some (.int k), x4, x5] ∧ h = [.lst ((sndF arcs k fl (R.take i)).map .int)] := ⟨_, rfl⟩
  refine Wp.loopA encE R I (h0 := [.lst (fl.map .int)]) (by simp) (by rw [hI]; exact ⟨_, _, rfl, rfl⟩) ?_ ?_
  · intro i e σ h he hh
    rw [hI] at hh
    obtain ⟨x4, x5, rfl, rfl⟩ := hh
    obtain ⟨a, ha⟩ := hp e (List.mem_of_getElem? he)
    refine ⟨_, rfl, ?_⟩
    have en : sndF arcs k fl (R.take (i + 1)) = snd1 arcs k (sndF arcs k fl (R.take i)) e := by
      rw [List.take_add_one, he]
      unfold sndF
      rw [List.foldl_append]; rfl
    have lg : (sndF arcs k fl (R.take i)).length = arcs.length := by rw [snd_len]; exact hl
    generalize sndF arcs k fl (R.take i) = g at en lg ⊢
    have hq : e.2 < g.length := by rw [lg]; exact (List.getElem?_eq_some_iff.mp ha).1
    have e1 : ∀ h, ixD h (arcsD arcs) (e.2 : Int) = some (aD a) := fun h => atI_map (e := aD) (atI_at rfl ha)
    have e2 : atI (g.map D.int) (e.2 : Int) = some (.int (gI g e.2)) := ix_ints (by omega) (by omega)
    have e3 : ixN g.length (e.2 : Int) = some e.2 := ixN_some rfl hq
    have e4 : ∀ v, (g.map D.int).set e.2 (.int v) = (sI g e.2 v).map D.int := fun v => by unfold sI; rw [Int.toNat_natCast, List.map_set]
    by_cases q : a.a = e.1
    · have f1 : (a.a = e.1) = True := eq_true q
      simp [e1, e2, e3, e4, i0, f1, -List.map_set]
      rw [hI]
      refine ⟨_, _, rfl, ?_⟩
      rw [en]
      unfold snd1
      rw [ha]
      simp only [if_pos q]
    · have f1 : (a.a = e.1) = False := eq_false q
      simp [e1, e2, e3, e4, i0, f1, -List.map_set]
      rw [hI]
      refine ⟨_, _, rfl, ?_⟩
      rw [en]
      unfold snd1
      rw [ha]
      simp only [if_neg q]
  · intro σ h hh
    rw [hI] at hh
    obtain ⟨x4, x5, rfl, rfl⟩ := hh
    rw [List.take_of_length_le (Nat.le_refl _)]
    simp
    have := exit_fl (m := true) (fl := sndF arcs k fl R) (e := []) (d := .non) (d' := .non) rfl
    rw [List.append_nil] at this
    exact this
end

/-! flow_of -/
section
variable {n : Nat} {arcs : List Arc} {fl : List Int}
def bgF (n : Nat) (g : List Int) : List Int := ((List.range n).filter fun v : Nat => decide (0 < gI g (v : Int))).map fun v : Nat => (v : Int)
theorem bgF_mem {g : List Int} {v : Int} : v ∈ bgF n g ↔ 0 ≤ v ∧ v < n ∧ 0 < gI g v := by
  unfold bgF
  rw [List.mem_map]
  constructor
  · rintro ⟨u, hu, rfl⟩
    obtain ⟨h1, h2⟩ := List.mem_filter.mp hu
    have := List.mem_range.mp h1
    exact ⟨by omega, by omega, of_decide_eq_true h2⟩
  · rintro ⟨h1, h2, h3⟩
    refine ⟨v.toNat, List.mem_filter.mpr ⟨List.mem_range.mpr (by omega), ?_⟩, by omega⟩
    rw [Int.toNat_of_nonneg h1]; exact decide_eq_true h3
theorem bgF_nd {g : List Int} : (bgF n g).Nodup := List.Pairwise.map (R := fun a b => a ≠ b) _ (fun a b h z => h (by exact_mod_cast z)) (List.Pairwise.filter _ List.nodup_range)
def posD (σ : VS) : Nat := match σ[4]? with
  | some (some (D.lst xs)) => ((optAll toI xs).map posS).getD 0
  | _ => 0
theorem frz_flow {k : Nat} {h : Hv} {xs : List Int} (hk : h[k]? = some (.lst (xs.map .int))) (f : Nat) : frz 0 h (f + 2) (.cell k) = some (.lst (xs.map .int)) := by
  rw [frz_cell, if_neg (Nat.not_lt_zero _), hk]
  simp only [frz_ints]; rfl
theorem gl_at {g : List Int} (hg : g.length = n) {v : Int} (v0 : 0 ≤ v) (v1 : v < n) {h : Hv} : ixD h (.lst (g.map .int)) v = some (.int (gI g v)) := ix_ints v0 (by omega)
theorem last_at {R : List (Int × Nat)} {e : Int × Nat} (h : R.getLast? = some e) {H : Hv} : ixD H (.lst (R.map encE)) (-1) = some (encE e) := by
  show atI (R.map encE) (-1) = _
  refine atI_map (e := encE) ?_
  have hn : R ≠ [] := fun z => by rw [z] at h; cases h
  have hl : 0 < R.length := List.length_pos_iff.mpr hn
  unfold L2.atI
  rw [List.getLast?_eq_getElem?] at h
  have e : L2.ixN R.length (-1) = some (R.length - 1) := by
    unfold L2.ixN
    rw [if_neg (by omega)]
    have : ((-1 : Int) + R.length) = ((R.length - 1 : Nat) : Int) := by omega
    simp
    omega
  rw [e]; exact h
theorem ro_nil {but : Option Nat} {t b : Int} {R : List (Int × Nat)} (r : Ro arcs fl but t R b) (h : R = []) : b = t := by
  cases r with
  | nil => rfl
  | snoc r e => simp at h
theorem frz_came {c : Came} {n0 f : Nat} {h : Hv} : frz n0 h (f + 3) (cameD c) = some (cameD c) := by
  unfold cameD
  have e2 : (encK c).map (·.2) = c.map (fun p => encO p.2) := by unfold encK; rw [List.map_map]; rfl
  rw [frz_dct, e2, optAll_map (g := frz n0 h (f + 2)) (e := fun p : Int × Option (Int × Nat) => encO p.2) (e' := fun p : Int × Option (Int × Nat) => encO p.2) (fun p _ => frz_encO (n := f) p.2)]; rfl
theorem sorted_came {c : Came} {h : Hv} (hl : c.length < 4000) : bSortDG [cameD c] h = .ok ((sortI (ks c)).map .int) h := by
  unfold bSortDG
  have e : optAll intK ((encK c).map (·.1)) = some (ks c) := by
    unfold encK ks
    rw [List.map_map]
    exact optAll_map fun p _ => rfl
  simp only [kvOf_came, Option.bind_some, e]
  rw [if_pos (by unfold ks; rw [List.length_map]; exact hl)]
theorem rises {l : List Int} (nd : l.Nodup) : (sortI l).Pairwise (· < ·) := by
  have h1 := sortI_rises l
  have h2 : (sortI l).Nodup := (sortI_perm l).nodup_iff.mpr nd
  refine (h1.and h2).imp fun {a b} z => ?_
  have := z.1
  have := z.2
  omega
theorem flow_wp {Q : RS → Prop} (ok : NetOk n arcs) (hF : ∀ (fl : List Int) (σ : VS), IsFlow n arcs fl → σ[3]? = some (some (.cell 0)) → Wp Q (sRet (eTup (aCons (eK (.str "flow")) (aCons (eVar 3) aNil))) σ [.lst (fl.map .int)])) (hC : ∀ fl L : List Int, IsCut n arcs L → L.Pairwise (· < ·) → Wp Q (.ret (.tup [.str "cut", .cell 1]) [.lst (fl.map .int), .lst (L.map .int)])) :
    Wp Q (b_flow_of [some (.int n), some (arcsD arcs), none, none, none, none, none, none, none, none, none, none] []) := by
  unfold b_flow_of
  have n1 := ok.n1
  have n2 := ok.n2
  have n3 := ok.len
  have ca := cP (asked_eq ok) (by simp [frz_arcs, -VD.frz_lst])
  have cb := cP (beside_eq ok) (by simp [frz_arcs, -VD.frz_lst])
  have c1 : c_flow_of_1 [some (.int n), some (arcsD arcs), some (besD n arcs), none, none, none, none, none, none, none, none, none] [] = .ok ((arcs.map fun a => a.c).map .int) [] := by
    unfold c_flow_of_1
    rw [lLc_map aD (fun a => .int a.c) arcs (chk := always) (h0 := []) (show iL _ _ _ = .ok (arcs.map aD, always) _ by simp [arcsD]) rfl (by omega) fun a ha => ⟨_, rfl, by simp [i2]⟩, List.map_map]; rfl
  have i0b : InB arcs (arcs.map fun a => a.c) := fun p a f ha hf => by
    rw [List.getElem?_map, ha] at hf
    cases hf
    exact ⟨Int.le_refl _, (ok.bd a (List.mem_of_getElem? ha)).2⟩
  have gb : ∀ {fl : List Int}, fl.length = arcs.length → m_gains_of_nodes [.int n, arcsD arcs, .cell 0] [.lst (fl.map .int)] = .ok (.lst ((gainsF n (arcs.zip fl)).map .int)) [.lst (fl.map .int)] := fun hl => gains_body (m := true) n2 ok.ok hl
  have g0 := gb (fl := arcs.map fun a => a.c) (by simp)
  simp [ca, cb, c1, g0, -List.map_map]
  unfold l_flow_of_1
  obtain ⟨I, hI⟩ : ∃ I : VS → Hv → Prop, I = fun σ h => ∃ (fl : List Int) (x5 x6 x7 x8 x9 x10 x11 : Option D), σ = [some (.int n), some (arcsD arcs), some (besD n arcs), some (.cell 0), some (.lst ((gainsF n (arcs.zip fl)).map .int)), x5, x6, x7, x8, x9, x10, x11] ∧ h = [.lst (fl.map .int)] ∧ fl.length = arcs.length ∧ InB arcs fl := ⟨_, rfl⟩
  refine Wp.while I (fun σ _ => posD σ) ?_ (by rw [hI]; exact ⟨_, _, _, _, _, _, _, _, rfl, rfl, by simp, i0b⟩)
  intro σ h hh
  rw [hI] at hh
  obtain ⟨fl, x5, x6, x7, x8, x9, x10, x11, rfl, rfl, hl, inb⟩ := hh
  have lg := gainsF_len n (arcs.zip fl)
  rw [Int.toNat_natCast] at lg
  have gz : ∀ v, 0 ≤ v → gI (gainsF n (arcs.zip fl)) v = gn (arcs.zip fl) v := fun v v0 => gains_gn (zip_ok ok.ok) v0
  have ps : posD [some (.int n), some (arcsD arcs), some (besD n arcs), some (.cell 0), some (.lst ((gainsF n (arcs.zip fl)).map .int)), x5, x6, x7, x8, x9, x10, x11] = posS (gainsF n (arcs.zip fl)) := by
    show ((optAll toI ((gainsF n (arcs.zip fl)).map .int)).map posS).getD 0 = _
    rw [toI_map]; rfl
  rw [ps]
  obtain ⟨g, hg⟩ : ∃ g, g = gainsF n (arcs.zip fl) := ⟨_, rfl⟩
  rw [← hg] at lg gz ⊢
  obtain ⟨mx, hm⟩ : ∃ mx, maxI g = some mx := by
    cases g with
    | nil => simp at lg; omega
    | cons x xs => exact ⟨_, rfl⟩
  obtain ⟨m1, m2⟩ := maxI_ok hm
  have bm := fun h => bMax_lst (h := h) hm
  by_cases q : 0 < mx
  · refine ⟨true, by simp [bm, q], ?_⟩
    rw [if_pos rfl]
    have c2 : ∀ y5 y6 y7 y8 y9 y10 y11 h, c_flow_of_2 [some (.int n), some (arcsD arcs), some (besD n arcs), some (.cell 0), some (.lst (g.map .int)), y5, y6, y7, y8, y9, y10, y11] h = .ok ((bgF n g).map .int) h := by
      intro y5 y6 y7 y8 y9 y10 y11 h
      unfold c_flow_of_2 bgF
      rw [lLc_filter (fun i : Nat => D.int ((0 : Int) + i)) (fun v : Nat => decide (0 < gI g (v : Int))) (fun i : Nat => D.int (i : Int)) (List.range n) (chk := always) (h0 := h) (by simp (disch := omega) [rgD_map]) rfl (by simp; omega) fun v hv => ⟨_, rfl, ?_, fun _ => by simp⟩, List.map_map]; rfl
      have hv := List.mem_range.mp hv
      have e := gl_at lg (v := (v : Int)) (by omega) (by omega) (h := h)
      have e0 : (0 : Int) + (v : Int) = v := by omega
      simp [e0, e, -ixD_lst]
    have bne : bgF n g ≠ [] := by
      obtain ⟨i, hi⟩ := List.getElem?_of_mem m1
      have il := (List.getElem?_eq_some_iff.mp hi).1
      have : (i : Int) ∈ bgF n g := bgF_mem.mpr ⟨by omega, by omega, by rw [gI_nat, hi]; exact q⟩
      intro z
      rw [z] at this
      cases this
    have bb : ∀ b ∈ bgF n g, 0 ≤ b ∧ b < (n : Int) := fun b hb => by have := bgF_mem.mp hb; exact ⟨this.1, this.2.1⟩
    obtain ⟨c, rc, w, cl⟩ := reached_eq (m := true) (but := none) ok hl (bgF_nd (n := n) (g := g)) bb
    have rc2 : m_reached_nodes [besD n arcs, arcsD arcs, .cell 0, .lst ((bgF n g).map .int), .non] [.lst (fl.map .int)] = .ok (cameD c) [.lst (fl.map .int)] := rc
    obtain ⟨kb, kl⟩ := w.bd ok.ok bb
    have c3 : ∀ y5 y7 y8 y9 y10 y11 h, c_flow_of_3 [some (.int n), some (arcsD arcs), some (besD n arcs), some (.cell 0), some (.lst (g.map .int)), y5, some (cameD c), y7, y8, y9, y10, y11] h = .ok (((ks c).filter fun v => decide (gI g v < 0)).map .int) h := by
      intro y5 y7 y8 y9 y10 y11 h
      unfold c_flow_of_3
      refine lLc_filter D.int (fun v => decide (gI g v < 0)) D.int (ks c) (chk := always) (h0 := h) ?_ rfl (by unfold ks; rw [List.length_map]; omega) fun v hv => ⟨_, rfl, ?_, fun _ => by simp⟩
      · have : ((encK c).map (·.1)).map keyD = (ks c).map D.int := by unfold encK ks; rw [List.map_map, List.map_map, List.map_map]; rfl
        show (R.ok (((encK c).map (·.1)).map keyD, always) h : R _) = _
        rw [this]
      · obtain ⟨v0, v1⟩ := kb v hv
        have e := gl_at lg v0 v1 (h := h)
        simp [e, -ixD_lst]
    have sc := fun h => sorted_came (c := c) (h := h) (by omega)
    cases hE : (ks c).filter fun v => decide (gI g v < 0) with
    | nil =>
      rw [hE] at c3
      simp [c2, rc2, c3, sc, -List.map_map]
      exact hC fl (sortI (ks c)) (cut_of ok.ok hl inb w cl bb (fun b hb => by
        have := bgF_mem.mp hb
        rw [gz b this.1] at this
        exact this.2.2) bne (fun v hv z => by
        have : v ∈ (ks c).filter fun v => decide (gI g v < 0) := List.mem_filter.mpr ⟨hv, decide_eq_true (by rw [gz v (kb v hv).1]; exact z)⟩
        rw [hE] at this
        cases this) (sortI_perm _)) (rises w.nd)
    | cons t ts =>
      rw [hE] at c3
      have ht : t ∈ (ks c).filter fun v => decide (gI g v < 0) := by rw [hE]; exact List.mem_cons_self
      obtain ⟨ht1, ht2⟩ := List.mem_filter.mp ht
      have ht2 := of_decide_eq_true ht2
      obtain ⟨t0, t1⟩ := kb t ht1
      obtain ⟨i, o, hi⟩ := mem_ks.mp ht1
      obtain ⟨R, j, b, re, wy, hb, hR⟩ := road_eq w ok.ne (by omega) hi
      obtain ⟨b0, b1, b2⟩ := bgF_mem.mp hb
      have Rn : R ≠ [] := fun z => by
        have := ro_nil wy.ro z
        rw [this] at b2
        omega
      obtain ⟨e, le, eb⟩ := ro_last wy.ro Rn
      have places : ∀ e ∈ R, ∃ a, arcs[e.2]? = some a := fun e he => by
        obtain ⟨a, ha, _⟩ := ro_places wy.ro e he
        exact ⟨a, ha⟩
      obtain ⟨k, rk, k1, e', he', k2⟩ := room_eq hl places Rn hR
      have kp : 0 < k := by rw [k2]; exact ro_room ok.ne wy.ro e' he'
      have re2 := cP re (by simp [frz_came, -VD.frz_dct])
      have nz : ¬ ((ts.length : Int) + 1 = 0) := by omega
      have la : atI (R.map encE) (-1) = some (encE e) := last_at le (H := [])
      have e0 : ∀ h, ixD h (encE e) 0 = some (.int b) := fun h => by rw [← eb]; rfl
      have rk2 : callB m_room_on_road [arcsD arcs, .cell 0, .lst (R.map encE)] [.lst (fl.map .int)] = .ok (.int k) [.lst (fl.map .int)] := callB_ok (ds' := [arcsD arcs, .lst (fl.map .int), .lst (R.map encE)]) (by
        rw [optAll_cons, frz_arcs, optAll_cons, frz_flow rfl, optAll_cons, frz_lst, frz_encE]; rfl) rk rfl
      have gb1 := gl_at lg b0 b1 (h := [.lst (fl.map .int)])
      have gt1 := gl_at lg t0 t1 (h := [.lst (fl.map .int)])
      rw [ixD_lst] at gb1 gt1
      obtain ⟨K, hK⟩ : ∃ K, K = (if -gI g t < (if gI g b < k then gI g b else k) then -gI g t else (if gI g b < k then gI g b else k)) := ⟨_, rfl⟩
      have K0 : 0 < K ∧ K ≤ k ∧ K ≤ gI g b ∧ K ≤ - gI g t := by rw [hK]; split <;> split <;> omega
      have se := send_eq (arcs := arcs) (fl := fl) (R := R) (k := K) hl places
      have hl' : (sndF arcs K fl R).length = arcs.length := by rw [snd_len]; exact hl
      have ge := gb hl'
      simp [c2, rc2, c3, sc, re2, nz, la, e0, rk2, gb1, gt1, ← hK, se, ge, -List.map_map]
      rw [hI]
      refine ⟨⟨_, _, _, _, _, _, _, _, rfl, rfl, hl', snd_inb (by omega) hl inb wy.nd fun e' he' => by have := k1 e' he'; omega⟩, ?_⟩
      have p1 : posD [some (.int n), some (arcsD arcs), some (besD n arcs), some (.cell 0), some (.lst ((gainsF n (arcs.zip (sndF arcs K fl R))).map .int)), some (.lst ((bgF n g).map .int)), some (cameD c), some (.lst (.int t :: ts.map .int)), some (.lst (R.map encE)), some (.int b), x10, x11] = posS (gainsF n (arcs.zip (sndF arcs K fl R))) := by
        show ((optAll toI ((gainsF n (arcs.zip (sndF arcs K fl R))).map .int)).map posS).getD 0 = _
        rw [toI_map]; rfl
      rw [p1, hg]
      rw [hg] at K0
      exact step_pos ok.ok ok.ne hl wy.ro K0.1 K0.2.2.1 K0.2.2.2 b0 t0
  · refine ⟨false, by simp [bm, q], ?_⟩
    rw [if_neg (by simp)]
    simp only [Wp_sq_next]
    exact hF fl _ (flow_done ok.ok hl inb fun x hx => by rw [← hg] at hx; have := m2 x hx; omega) rfl
end
end
end FL

set_option Elab.async false
set_option linter.all false
set_option maxRecDepth 100000
set_option maxHeartbeats 4000000
namespace GO
open PySem PySem.Spec PyProof.Rows L2 VD PF FL
noncomputable section
/-! plain: another number on one arc -/
section
variable {n : Nat} {arcs : List Arc} {fl : List Int}
theorem turn_flow {at_ : Nat} {a : Arc} {t b k δ : Int} {R : List (Int × Nat)} (ne : ∀ a ∈ arcs, a.a ≠ a.b) (f : IsFlow n arcs fl) (ha : arcs[at_]? = some a) (r : Ro arcs fl (some at_) t R b) (nd : (R.map (·.2)).Nodup) (k0 : 0 ≤ k) (kr : ∀ e ∈ R, k ≤ room1 arcs fl e)
    (hδ : (t = a.a ∧ b = a.b ∧ δ = k) ∨ (t = a.b ∧ b = a.a ∧ δ = -k)) (hb : a.c ≤ gI fl at_ + δ ∧ gI fl at_ + δ ≤ a.d) : IsFlow n arcs (sI (sndF arcs k fl R) at_ (gI fl at_ + δ)) := by
  have hl := f.len
  have hl' : (sndF arcs k fl R).length = arcs.length := by rw [snd_len]; exact hl
  have il := (List.getElem?_eq_some_iff.mp ha).1
  have ga : gI (sndF arcs k fl R) at_ = gI fl at_ := snd_at (ro_but r rfl)
  refine ⟨by rw [sI_len]; exact hl', ?_, fun v v0 v1 => ?_⟩
  · have hl2 : (sI (sndF arcs k fl R) at_ (gI fl at_ + δ)).length = arcs.length := by rw [sI_len]; exact hl'
    rw [inb_gI hl2]
    have h1 := (inb_gI hl').mp (snd_inb k0 hl f.inb nd kr)
    intro p a' ha'
    rw [gI_sI (by omega) (by omega) (by omega)]
    by_cases q : (p : Int) = (at_ : Int)
    · have : p = at_ := by omega
      subst this
      rw [ha] at ha'
      cases ha'
      rw [if_pos q]; exact hb
    · rw [if_neg q]; exact h1 p a' ha'
  · unfold sI
    rw [Int.toNat_natCast, gn_set ha hl', ro_gain ne hl r, f.gn v v0 v1]
    have : (sndF arcs k fl R)[at_]?.getD 0 = gI fl at_ := by rw [← ga, gI_nat]
    rw [this]
    rcases hδ with ⟨rfl, rfl, rfl⟩ | ⟨rfl, rfl, rfl⟩ <;> split <;> split <;> omega
/-- sums by places -/
def rsum (n : Nat) (g : Nat → Int) : Int := ((List.range n).map g).sum
theorem rsum_succ {m : Nat} {g : Nat → Int} : rsum (m + 1) g = rsum m g + g m := by
  unfold rsum
  rw [List.range_succ, List.map_append, List.sum_append]; simp
theorem rsum_eq {m : Nat} {g g' : Nat → Int} (h : ∀ i, i < m → g i = g' i) : rsum m g = rsum m g' := by
  unfold rsum
  rw [List.map_congr_left fun i hi => h i (List.mem_range.mp hi)]
theorem rsum_split {m i : Nat} {g : Nat → Int} (hi : i < m) : rsum m g = g i + rsum m (fun k => if k = i then 0 else g k) := by
  induction m with
  | zero => omega
  | succ m ih =>
    rw [rsum_succ, rsum_succ]
    by_cases q : i = m
    · subst q
      rw [if_pos rfl]
      have : rsum i (fun k => if k = i then 0 else g k) = rsum i g := rsum_eq fun k hk => by rw [if_neg (by omega)]
      rw [this]; omega
    · rw [ih (by omega), if_neg (fun z => q z.symm)]; omega
theorem zip_rsum {F : Arc × Int → Int} : ∀ {arcs : List Arc} {fl : List Int}, fl.length = arcs.length → ((arcs.zip fl).map F).sum = rsum arcs.length fun k => match arcs[k]? with
    | some a => F (a, gI fl k)
    | none => 0
  | [], fl, h => by simp [rsum]
  | a :: arcs, [], h => by simp at h
  | a :: arcs, x :: fl, h => by
    have ih := zip_rsum (F := F) (arcs := arcs) (fl := fl) (by simpa using h)
    rw [List.zip_cons_cons, List.map_cons, List.sum_cons, ih]
    unfold rsum
    rw [List.length_cons, List.range_succ_eq_map, List.map_cons, List.sum_cons, List.map_map]
    congr 1
/-- what arcs but one bear into L, out of it -/
def into (at_ : Nat) (L : List Int) (f : Arc → Int) (arcs : List Arc) : Int := rsum arcs.length fun k => match arcs[k]? with
  | some a => if k ≠ at_ ∧ a.b ∈ L ∧ a.a ∉ L then f a else 0
  | none => 0
def outo (at_ : Nat) (L : List Int) (f : Arc → Int) (arcs : List Arc) : Int := rsum arcs.length fun k => match arcs[k]? with
  | some a => if k ≠ at_ ∧ a.a ∈ L ∧ a.b ∉ L then f a else 0
  | none => 0
theorem closed_sum {at_ : Nat} {a : Arc} {L : List Int} {c : Came} {bg : List Int} (f : IsFlow n arcs fl) (ok : ∀ a ∈ arcs, okA (n : Int) a) (ha : arcs[at_]? = some a) (w : Wf arcs fl (some at_) bg c) (cl : Cl arcs fl (some at_) c c.length) (hb : ∀ b ∈ bg, 0 ≤ b ∧ b < (n : Int)) (pm : L.Perm (ks c)) :
    (a.b ∈ L → a.a ∉ L → gI fl at_ = outo at_ L (fun a => a.d) arcs - into at_ L (fun a => a.c) arcs) ∧ (a.a ∈ L → a.b ∉ L → gI fl at_ = into at_ L (fun a => a.c) arcs - outo at_ L (fun a => a.d) arcs) := by
  have hl := f.len
  have nd : L.Nodup := pm.nodup_iff.mpr w.nd
  have mem : ∀ v, v ∈ L ↔ v ∈ ks c := fun v => pm.mem_iff
  have s := sum_gn nd (arcs.zip fl)
  have z : (L.map (gn (arcs.zip fl))).sum = 0 := by
    have : L.map (gn (arcs.zip fl)) = L.map fun _ => (0 : Int) := List.map_congr_left fun v hv => by
      have := (w.bd ok hb).1 v ((mem v).mp hv)
      exact f.gn v this.1 this.2
    rw [this, sum_zero]
  rw [z] at s
  unfold si so at s
  rw [zip_rsum hl, zip_rsum hl] at s
  have il := (List.getElem?_eq_some_iff.mp ha).1
  rw [rsum_split il, rsum_split (i := at_) (m := arcs.length) (g := fun k => match arcs[k]? with
    | some a => (fun p : Arc × Int => if p.1.a ∈ L ∧ p.1.b ∉ L then p.2 else 0) (a, gI fl k)
    | none => 0) il, ha] at s
  dsimp only at s
  have ei : rsum arcs.length (fun k => if k = at_ then 0 else match arcs[k]? with
    | some a => if a.b ∈ L ∧ a.a ∉ L then gI fl k else 0
    | none => 0) = into at_ L (fun a => a.c) arcs := by
    unfold into
    refine rsum_eq fun k hk => ?_
    obtain ⟨a', ha'⟩ : ∃ a', arcs[k]? = some a' := ⟨_, List.getElem?_eq_getElem hk⟩
    rw [ha']
    dsimp only
    by_cases q : k = at_
    · rw [if_pos q, if_neg (fun z => z.1 q)]
    · rw [if_neg q]
      by_cases q2 : a'.b ∈ L ∧ a'.a ∉ L
      · rw [if_pos q2, if_pos ⟨q, q2⟩]
        have h1 := ((inb_gI hl).mp f.inb) k a' ha'
        refine Classical.byContradiction fun z => q2.2 ((mem _).mpr (closed cl ((mem _).mp q2.1) (y := a'.a) (p := k) ⟨fun z => q (Option.some.inj z), a', _, ha', gI_at (by omega), .inr ⟨rfl, rfl, by omega⟩⟩))
      · rw [if_neg q2, if_neg (fun z => q2 z.2)]
  have eo : rsum arcs.length (fun k => if k = at_ then 0 else match arcs[k]? with
    | some a => if a.a ∈ L ∧ a.b ∉ L then gI fl k else 0
    | none => 0) = outo at_ L (fun a => a.d) arcs := by
    unfold outo
    refine rsum_eq fun k hk => ?_
    obtain ⟨a', ha'⟩ : ∃ a', arcs[k]? = some a' := ⟨_, List.getElem?_eq_getElem hk⟩
    rw [ha']
    dsimp only
    by_cases q : k = at_
    · rw [if_pos q, if_neg (fun z => z.1 q)]
    · rw [if_neg q]
      by_cases q2 : a'.a ∈ L ∧ a'.b ∉ L
      · rw [if_pos q2, if_pos ⟨q, q2⟩]
        have h1 := ((inb_gI hl).mp f.inb) k a' ha'
        refine Classical.byContradiction fun z => q2.2 ((mem _).mpr (closed cl ((mem _).mp q2.1) (y := a'.b) (p := k) ⟨fun z => q (Option.some.inj z), a', _, ha', gI_at (by omega), .inl ⟨rfl, rfl, by omega⟩⟩))
      · rw [if_neg q2, if_neg (fun z => q2 z.2)]
  rw [ei, eo] at s
  constructor
  · intro h1 h2
    rw [if_pos ⟨h1, h2⟩, if_neg (fun z => h2 z.1)] at s; omega
  · intro h1 h2
    rw [if_neg (fun z => h2 z.1), if_pos ⟨h1, h2⟩] at s; omega
end
/-! holds_flow -/
def inP (p : Arc × Int) : Bool := decide (p.1.c ≤ p.2 ∧ p.2 ≤ p.1.d)
def holdsF (n : Int) (arcs : List Arc) (fl : List Int) : Bool := decide (fl.length = arcs.length) && ((arcs.zip fl).all inP && decide (gainsF n (arcs.zip fl) = List.replicate n.toNat 0))
theorem holds_iff {n : Nat} {arcs : List Arc} {fl : List Int} (ok : ∀ a ∈ arcs, okA (n : Int) a) : holdsF n arcs fl = true ↔ IsFlow n arcs fl := by
  unfold holdsF
  rw [Bool.and_eq_true, Bool.and_eq_true, decide_eq_true_iff, decide_eq_true_iff, gains_zero (zip_ok ok), List.all_eq_true]
  constructor
  · rintro ⟨h1, h2, h3⟩
    refine ⟨h1, fun p a f ha hf => ?_, h3⟩
    have := h2 (a, f) (List.mem_of_getElem? (List.getElem?_zip_eq_some.mpr ⟨ha, hf⟩))
    exact of_decide_eq_true this
  · intro h
    refine ⟨h.len, fun p hp => ?_, h.gn⟩
    obtain ⟨i, h1, h2⟩ := zip_at hp
    exact decide_eq_true (h.inb i _ _ h1 h2)
theorem all_take {p : Arc × Int → Bool} {xs : List (Arc × Int)} {i : Nat} {a : Arc × Int} (h : (xs.take i).all p = true) (e : xs[i]? = some a) (ha : p a = true) : (xs.take (i + 1)).all p = true := by
  rw [List.take_add_one, e, List.all_append, h]
  simp [ha]
theorem all_no {p : Arc × Int → Bool} {xs : List (Arc × Int)} {i : Nat} {a : Arc × Int} (e : xs[i]? = some a) (ha : ¬ p a = true) : xs.all p = false := by
  have := List.mem_of_getElem? e
  rw [Bool.eq_false_iff]
  intro z
  exact ha (List.all_eq_true.mp z _ this)
theorem holds_eq {n : Nat} {arcs : List Arc} {fl : List Int} (ok : NetOk n arcs) : m_holds_flow [.int n, arcsD arcs, .lst (fl.map .int)] [] = .ok (.bl (holdsF n arcs fl)) [] := by
  refine fnS_of (P := fun r => r = .ok (.bl (holdsF n arcs fl)) []) rfl ?_
  unfold b_holds_flow
  have n2 := ok.n2
  have la : ∀ h, lenD h (arcsD arcs) = some (arcs.length : Int) := fun _ => by unfold arcsD; simp
  by_cases hl : fl.length = arcs.length
  · simp (disch := omega) [hl, la]
    unfold l_holds_flow_1
    refine Wp.loopA (fun p : Arc × Int => D.tup [aD p.1, .int p.2]) (arcs.zip fl) (fun i σ h => ∃ x y z, σ = [some (.int n), some (arcsD arcs), some (.lst (fl.map .int)), x, y, z] ∧ h = [] ∧ ((arcs.zip fl).take i).all inP = true) (h0 := []) ?_ ⟨_, _, _, rfl, rfl, rfl⟩ ?_ ?_
    · simp [arcsD, hl, zipped]
    · rintro i p σ h hp ⟨x, y, z, rfl, rfl, al⟩
      refine ⟨_, rfl, ?_⟩
      by_cases q1 : p.2 < p.1.c
      · have := all_no (p := inP) hp (by simp [inP]; omega)
        simp (disch := omega) [i2, i3, q1, holdsF, this]
      · by_cases q2 : p.1.d < p.2
        · have := all_no (p := inP) hp (by simp [inP]; omega)
          simp (disch := omega) [i2, i3, q1, q2, holdsF, this]
        · have := all_take (p := inP) al hp (by simp [inP]; omega)
          simp (disch := omega) [i2, i3, q1, q2]
          exact fun a b hm => List.all_eq_true.mp this (a, b) hm
    · rintro σ h ⟨x, y, z, rfl, rfl, al⟩
      rw [List.take_length] at al
      have e1 : ∀ h, c_holds_flow_1 [some (.int n), some (arcsD arcs), some (.lst (fl.map .int)), x, y, z] h = .ok (((gainsF n (arcs.zip fl)).map fun g => decide (g = 0)).map D.bl) h := by
        intro h
        unfold c_holds_flow_1
        rw [lLc_map D.int (fun g => .bl (decide (g = 0))) (gainsF n (arcs.zip fl)) (chk := always) (h0 := h) ?_ rfl ?_ ?_]
        · rw [List.map_map]; rfl
        · have := callP_ok (h := h) (ds := [.int n, arcsD arcs, .lst (fl.map .int)]) (ds' := [.int n, arcsD arcs, .lst (fl.map .int)]) (by
            show optAll (frz 0 [] 12) [_, _, _] = _
            rw [optAll_cons, frz_int, optAll_cons, frz_arcs, optAll_cons, frz_lst, frz_ints]; rfl) (gains_body (m := false) n2 ok.ok hl)
          simp (disch := omega) [this]
        · rw [gainsF_len]; omega
        · intro a _
          exact ⟨_, rfl, by simp⟩
      have e2 : holdsF n arcs fl = ((gainsF n (arcs.zip fl)).map fun g => decide (g = 0)).all id := by
        rw [Bool.eq_iff_iff]
        simp [holdsF, hl, al, List.eq_replicate_iff, gainsF_len]
      simp (disch := omega) [e1, e2, -List.map_map]
  · have hl' : ¬ ((fl.length : Nat) : Int) = arcs.length := by omega
    simp (disch := omega) [hl, hl', holdsF, la]
theorem pure3 {n : Nat} {arcs : List Arc} {fl : List Int} : pureD [.int n, arcsD arcs, .lst (fl.map .int)] = some [.int n, arcsD arcs, .lst (fl.map .int)] := by
  show optAll (frz 0 [] 12) [_, _, _] = _
  rw [optAll_cons, frz_int, optAll_cons, frz_arcs, optAll_cons, frz_lst, frz_ints]; rfl
theorem pure2 {n : Nat} {arcs : List Arc} : pureD [.int n, arcsD arcs] = some [.int n, arcsD arcs] := by
  show optAll (frz 0 [] 12) [_, _] = _
  rw [optAll_cons, frz_int, optAll_cons, frz_arcs]; rfl
theorem ask_eq {n : Nat} {arcs : List Arc} {fl : List Int} (ok : NetOk n arcs) : m_ask_flow [.int n, arcsD arcs, .lst (fl.map .int)] [] = if holdsF n arcs fl = true then .ok .non [] else .exc ⟨"NoNet", none⟩ [] := by
  refine fnS_of (P := fun r => r = if holdsF n arcs fl = true then .ok .non [] else .exc ⟨"NoNet", none⟩ []) rfl ?_
  unfold b_ask_flow
  have ca := cP (asked_eq ok) pure2
  have ch := cP (holds_eq (fl := fl) ok) pure3
  cases q : holdsF n arcs fl <;> simp [ca, ch, q]
def vH (h : Hv) (i : Nat) : Int := match h[0]? with
  | some (Cell.lst xs) => (match xs[i]? with
    | some (D.int y) => y
    | _ => 0)
  | _ => 0
theorem vH_eq {fl : List Int} {i : Nat} : vH [.lst (fl.map .int)] i = gI fl i := by
  unfold vH
  rw [gI_nat]
  simp only [List.getElem?_cons_zero, List.getElem?_map]
  cases fl[i]? <;> rfl

structure GrtOk (n : Nat) (arcs : List Arc) (fl0 fl : List Int) (at_ : Nat) (a : Arc) (L : List Int) : Prop where
  flow : IsFlow n arcs fl
  le : gI fl0 at_ ≤ gI fl at_
  end_ : (gI fl at_ = a.d ∧ L = []) ∨ (gI fl at_ < a.d ∧ L ≠ [] ∧ L.Pairwise (· < ·) ∧ (∀ v ∈ L, 0 ≤ v ∧ v < (n : Int)) ∧ a.b ∈ L ∧ a.a ∉ L ∧ gI fl at_ = outo at_ L (fun a => a.d) arcs - into at_ L (fun a => a.c) arcs)
theorem greatest_wp {Q : RS → Prop} {n : Nat} {arcs : List Arc} {fl0 : List Int} {at_ : Nat} {a : Arc} (ok : NetOk n arcs) (f0 : IsFlow n arcs fl0) (ha : arcs[at_]? = some a)
    (fin : ∀ fl L : List Int, GrtOk n arcs fl0 fl at_ a L → Wp Q (.ret (.tup [.int (gI fl at_), .cell 0, .cell 1]) [.lst (fl.map .int), .lst (L.map .int)])) :
    Wp Q (b_greatest_on [some (.int n), some (arcsD arcs), some (.lst (fl0.map .int)), some (.int (at_ : Int)), none, none, none, none, none, none, none, none] []) := by
  unfold b_greatest_on
  have n2 := ok.n2
  have n3 := ok.len
  have il := (List.getElem?_eq_some_iff.mp ha).1
  have am := List.mem_of_getElem? ha
  have hne := ok.ne a am
  obtain ⟨k1, k2, k3, k4⟩ := ok.ok a am
  have ca0 : m_ask_flow [.int n, arcsD arcs, .lst (fl0.map .int)] [] = .ok .non [] := by rw [ask_eq ok, if_pos ((holds_iff ok.ok).mpr f0)]
  have ca := cP ca0 pure3
  have cb := cP (beside_eq ok) pure2
  have e1 : ∀ h, ixD h (arcsD arcs) (at_ : Int) = some (aD a) := fun h => atI_map (e := aD) (atI_at rfl ha)
  have e2 : ∀ fl : List Int, fl.length = arcs.length → atI (fl.map D.int) (at_ : Int) = some (.int (gI fl at_)) := fun fl hl => ix_ints (by omega) (by omega)
  have lb : ∀ h, bList [.lst (fl0.map .int)] h = .ok (fl0.map .int) h := fun h => by simp
  have sl : slD (aD a) none (some 2) = some (.tup [.int a.a, .int a.b]) := rfl
  have gt : ∀ σ : VS, gT 2 (gsCons (gN 7) (gsCons (gN 8) gsNil)) (.tup [.int a.a, .int a.b]) σ = some ((σ.set 7 (some (.int a.a))).set 8 (some (.int a.b))) := fun σ => rfl
  simp [ca, cb, e1, sl, gt, i3, -iL_ap]
  unfold l_greatest_on_1
  obtain ⟨I, hI⟩ : ∃ I : VS → Hv → Prop, I = fun σ h => ∃ (fl : List Int) (x9 x10 x11 : Option D), σ = [some (.int n), some (arcsD arcs), some (.lst (fl0.map .int)), some (.int (at_ : Int)), some (.cell 0), some (besD n arcs), some (.int a.d), some (.int a.a), some (.int a.b), x9, x10, x11] ∧ h = [.lst (fl.map .int)] ∧ IsFlow n arcs fl ∧ gI fl0 at_ ≤ gI fl at_ := ⟨_, rfl⟩
  refine Wp.while I (fun _ h => (a.d - vH h at_).toNat) ?_ (by rw [hI]; exact ⟨fl0, _, _, _, rfl, rfl, f0, Int.le_refl _⟩)
  intro σ h hh
  rw [hI] at hh
  obtain ⟨fl, x9, x10, x11, rfl, rfl, f, le⟩ := hh
  have hl := f.len
  have ba := (inb_gI hl).mp f.inb at_ a ha
  have vh : ∀ fl : List Int, vH [.lst (fl.map .int)] at_ = gI fl at_ := fun fl => vH_eq
  rw [vh]
  by_cases q : gI fl at_ < a.d
  · refine ⟨true, by simp [e2 fl hl, q], ?_⟩
    rw [if_pos rfl]
    obtain ⟨c, rc, w, cl⟩ := reached_eq (m := true) (but := some at_) (bg := [a.b]) ok hl (by simp) (fun b hb => by rw [List.mem_singleton] at hb; subst hb; omega)
    have rc2 : m_reached_nodes [besD n arcs, arcsD arcs, .cell 0, .lst [.int a.b], .int (at_ : Int)] [.lst (fl.map .int)] = .ok (cameD c) [.lst (fl.map .int)] := rc
    have bb : ∀ b ∈ [a.b], 0 ≤ b ∧ b < (n : Int) := fun b hb => by rw [List.mem_singleton] at hb; subst hb; omega
    obtain ⟨kb, kl⟩ := w.bd ok.ok bb
    have ko : kvOf [.lst (fl.map .int)] (cameD c) = some (encK c) := kvOf_came
    have sc := fun h => sorted_came (c := c) (h := h) (by omega)
    by_cases hk : a.a ∈ ks c
    · obtain ⟨i, o, hi⟩ := mem_ks.mp hk
      obtain ⟨R, j, b, re, wy, hb, hR⟩ := road_eq w ok.ne (by omega) hi
      have hb : b = a.b := by simpa using hb
      subst hb
      have Rn : R ≠ [] := fun z => by
        have := ro_nil wy.ro z
        exact hne this.symm
      have places : ∀ e ∈ R, ∃ a, arcs[e.2]? = some a := fun e he => by
        obtain ⟨a, ha, _⟩ := ro_places wy.ro e he
        exact ⟨a, ha⟩
      obtain ⟨k, rk, kk1, e', he', kk2⟩ := room_eq hl places Rn hR
      have kp : 0 < k := by rw [kk2]; exact ro_room ok.ne wy.ro e' he'
      have re2 := cP re (by simp [frz_came, -VD.frz_dct])
      have rk2 : callB m_room_on_road [arcsD arcs, .cell 0, .lst (R.map encE)] [.lst (fl.map .int)] = .ok (.int k) [.lst (fl.map .int)] := callB_ok (ds' := [arcsD arcs, .lst (fl.map .int), .lst (R.map encE)]) (by
        rw [optAll_cons, frz_arcs, optAll_cons, frz_flow rfl, optAll_cons, frz_lst, frz_encE]; rfl) rk rfl
      obtain ⟨K, hK⟩ : ∃ K, K = (if k < a.d - gI fl at_ then k else a.d - gI fl at_) := ⟨_, rfl⟩
      have K0 : 0 < K ∧ K ≤ k ∧ K ≤ a.d - gI fl at_ := by rw [hK]; split <;> omega
      have se := send_eq (arcs := arcs) (fl := fl) (R := R) (k := K) hl places
      have hl' : (sndF arcs K fl R).length = arcs.length := by rw [snd_len]; exact hl
      have ga : gI (sndF arcs K fl R) at_ = gI fl at_ := snd_at (ro_but wy.ro rfl)
      have e3 : ixN (sndF arcs K fl R).length (at_ : Int) = some at_ := ixN_some rfl (by omega)
      have e4 : ∀ (g : List Int) v, (g.map D.int).set at_ (.int v) = (sI g at_ v).map D.int := fun g v => by unfold sI; rw [Int.toNat_natCast, List.map_set]
      simp [rc2, ko, getD_isSome, hk, re2, rk2, e2 fl hl, ← hK, se, e2 _ hl', e3, e4, -List.map_set]
      have f' := turn_flow (at_ := at_) (a := a) (t := a.a) (b := a.b) (k := K) (δ := K) ok.ne f ha wy.ro wy.nd (by omega) (fun e he => by have := kk1 e he; omega) (.inl ⟨rfl, rfl, rfl⟩) (by omega)
      rw [hI]
      refine ⟨⟨_, _, _, _, rfl, rfl, by rw [ga]; exact f', ?_⟩, ?_⟩
      · rw [gI_sI (by omega) (by omega) (by omega), if_pos rfl, ga]; omega
      · rw [vh, gI_sI (by omega) (by omega) (by omega), if_pos rfl, ga]; omega
    · simp [rc2, ko, getD_isSome, hk, e2 fl hl, sc]
      refine fin fl (sortI (ks c)) ⟨f, le, .inr ⟨q, fun z => ?_, rises w.nd, fun v hv => kb v ((sortI_perm _).mem_iff.mp hv), (sortI_perm _).mem_iff.mpr (w.bg _ List.mem_cons_self), fun z => hk ((sortI_perm _).mem_iff.mp z), ?_⟩⟩
      · have : a.b ∈ sortI (ks c) := (sortI_perm _).mem_iff.mpr (w.bg _ List.mem_cons_self)
        rw [z] at this
        cases this
      · exact (closed_sum f ok.ok ha w cl bb (sortI_perm _)).1 ((sortI_perm _).mem_iff.mpr (w.bg _ List.mem_cons_self)) (fun z => hk ((sortI_perm _).mem_iff.mp z))
  · refine ⟨false, by simp [e2 fl hl]; omega, ?_⟩
    rw [if_neg (by simp)]
    simp [e2 fl hl]
    exact fin fl [] ⟨f, le, .inl ⟨by omega, rfl⟩⟩

structure LstOk (n : Nat) (arcs : List Arc) (fl0 fl : List Int) (at_ : Nat) (a : Arc) (L : List Int) : Prop where
  flow : IsFlow n arcs fl
  le : gI fl at_ ≤ gI fl0 at_
  end_ : (gI fl at_ = a.c ∧ L = []) ∨ (a.c < gI fl at_ ∧ L ≠ [] ∧ L.Pairwise (· < ·) ∧ (∀ v ∈ L, 0 ≤ v ∧ v < (n : Int)) ∧ a.a ∈ L ∧ a.b ∉ L ∧ gI fl at_ = into at_ L (fun a => a.c) arcs - outo at_ L (fun a => a.d) arcs)
theorem least_wp {Q : RS → Prop} {n : Nat} {arcs : List Arc} {fl0 : List Int} {at_ : Nat} {a : Arc} (ok : NetOk n arcs) (f0 : IsFlow n arcs fl0) (ha : arcs[at_]? = some a)
    (fin : ∀ fl L : List Int, LstOk n arcs fl0 fl at_ a L → Wp Q (.ret (.tup [.int (gI fl at_), .cell 0, .cell 1]) [.lst (fl.map .int), .lst (L.map .int)])) :
    Wp Q (b_least_on [some (.int n), some (arcsD arcs), some (.lst (fl0.map .int)), some (.int (at_ : Int)), none, none, none, none, none, none, none, none] []) := by
  unfold b_least_on
  have n2 := ok.n2
  have n3 := ok.len
  have il := (List.getElem?_eq_some_iff.mp ha).1
  have am := List.mem_of_getElem? ha
  have hne := ok.ne a am
  obtain ⟨k1, k2, k3, k4⟩ := ok.ok a am
  have ca0 : m_ask_flow [.int n, arcsD arcs, .lst (fl0.map .int)] [] = .ok .non [] := by rw [ask_eq ok, if_pos ((holds_iff ok.ok).mpr f0)]
  have ca := cP ca0 pure3
  have cb := cP (beside_eq ok) pure2
  have e1 : ∀ h, ixD h (arcsD arcs) (at_ : Int) = some (aD a) := fun h => atI_map (e := aD) (atI_at rfl ha)
  have e2 : ∀ fl : List Int, fl.length = arcs.length → atI (fl.map D.int) (at_ : Int) = some (.int (gI fl at_)) := fun fl hl => ix_ints (by omega) (by omega)
  have lb : ∀ h, bList [.lst (fl0.map .int)] h = .ok (fl0.map .int) h := fun h => by simp
  have sl : slD (aD a) none (some 3) = some (.tup [.int a.a, .int a.b, .int a.c]) := rfl
  have gt : ∀ σ : VS, gT 3 (gsCons (gN 6) (gsCons (gN 7) (gsCons (gN 8) gsNil))) (.tup [.int a.a, .int a.b, .int a.c]) σ = some (((σ.set 6 (some (.int a.a))).set 7 (some (.int a.b))).set 8 (some (.int a.c))) := fun σ => rfl
  simp [ca, cb, e1, sl, gt, i3, -iL_ap]
  unfold l_least_on_1
  obtain ⟨I, hI⟩ : ∃ I : VS → Hv → Prop, I = fun σ h => ∃ (fl : List Int) (x9 x10 x11 : Option D), σ = [some (.int n), some (arcsD arcs), some (.lst (fl0.map .int)), some (.int (at_ : Int)), some (.cell 0), some (besD n arcs), some (.int a.a), some (.int a.b), some (.int a.c), x9, x10, x11] ∧ h = [.lst (fl.map .int)] ∧ IsFlow n arcs fl ∧ gI fl at_ ≤ gI fl0 at_ := ⟨_, rfl⟩
  refine Wp.while I (fun _ h => (vH h at_ - a.c).toNat) ?_ (by rw [hI]; exact ⟨fl0, _, _, _, rfl, rfl, f0, Int.le_refl _⟩)
  intro σ h hh
  rw [hI] at hh
  obtain ⟨fl, x9, x10, x11, rfl, rfl, f, le⟩ := hh
  have hl := f.len
  have ba := (inb_gI hl).mp f.inb at_ a ha
  have vh : ∀ fl : List Int, vH [.lst (fl.map .int)] at_ = gI fl at_ := fun fl => vH_eq
  rw [vh]
  by_cases q : a.c < gI fl at_
  · refine ⟨true, by simp [e2 fl hl, q], ?_⟩
    rw [if_pos rfl]
    obtain ⟨c, rc, w, cl⟩ := reached_eq (m := true) (but := some at_) (bg := [a.a]) ok hl (by simp) (fun b hb => by rw [List.mem_singleton] at hb; subst hb; omega)
    have rc2 : m_reached_nodes [besD n arcs, arcsD arcs, .cell 0, .lst [.int a.a], .int (at_ : Int)] [.lst (fl.map .int)] = .ok (cameD c) [.lst (fl.map .int)] := rc
    have bb : ∀ b ∈ [a.a], 0 ≤ b ∧ b < (n : Int) := fun b hb => by rw [List.mem_singleton] at hb; subst hb; omega
    obtain ⟨kb, kl⟩ := w.bd ok.ok bb
    have ko : kvOf [.lst (fl.map .int)] (cameD c) = some (encK c) := kvOf_came
    have sc := fun h => sorted_came (c := c) (h := h) (by omega)
    by_cases hk : a.b ∈ ks c
    · obtain ⟨i, o, hi⟩ := mem_ks.mp hk
      obtain ⟨R, j, b, re, wy, hb, hR⟩ := road_eq w ok.ne (by omega) hi
      have hb : b = a.a := by simpa using hb
      subst hb
      have Rn : R ≠ [] := fun z => by
        have := ro_nil wy.ro z
        exact hne this
      have places : ∀ e ∈ R, ∃ a, arcs[e.2]? = some a := fun e he => by
        obtain ⟨a, ha, _⟩ := ro_places wy.ro e he
        exact ⟨a, ha⟩
      obtain ⟨k, rk, kk1, e', he', kk2⟩ := room_eq hl places Rn hR
      have kp : 0 < k := by rw [kk2]; exact ro_room ok.ne wy.ro e' he'
      have re2 := cP re (by simp [frz_came, -VD.frz_dct])
      have rk2 : callB m_room_on_road [arcsD arcs, .cell 0, .lst (R.map encE)] [.lst (fl.map .int)] = .ok (.int k) [.lst (fl.map .int)] := callB_ok (ds' := [arcsD arcs, .lst (fl.map .int), .lst (R.map encE)]) (by
        rw [optAll_cons, frz_arcs, optAll_cons, frz_flow rfl, optAll_cons, frz_lst, frz_encE]; rfl) rk rfl
      obtain ⟨K, hK⟩ : ∃ K, K = (if k < gI fl at_ - a.c then k else gI fl at_ - a.c) := ⟨_, rfl⟩
      have K0 : 0 < K ∧ K ≤ k ∧ K ≤ gI fl at_ - a.c := by rw [hK]; split <;> omega
      have se := send_eq (arcs := arcs) (fl := fl) (R := R) (k := K) hl places
      have hl' : (sndF arcs K fl R).length = arcs.length := by rw [snd_len]; exact hl
      have ga : gI (sndF arcs K fl R) at_ = gI fl at_ := snd_at (ro_but wy.ro rfl)
      have e3 : ixN (sndF arcs K fl R).length (at_ : Int) = some at_ := ixN_some rfl (by omega)
      have e4 : ∀ (g : List Int) v, (g.map D.int).set at_ (.int v) = (sI g at_ v).map D.int := fun g v => by unfold sI; rw [Int.toNat_natCast, List.map_set]
      simp [rc2, ko, getD_isSome, hk, re2, rk2, e2 fl hl, ← hK, se, e2 _ hl', e3, e4, -List.map_set]
      have f' := turn_flow (at_ := at_) (a := a) (t := a.b) (b := a.a) (k := K) (δ := -K) ok.ne f ha wy.ro wy.nd (by omega) (fun e he => by have := kk1 e he; omega) (.inr ⟨rfl, rfl, rfl⟩) (by omega)
      rw [hI]
      refine ⟨⟨_, _, _, _, rfl, rfl, by rw [ga]; exact f', ?_⟩, ?_⟩
      · rw [gI_sI (by omega) (by omega) (by omega), if_pos rfl, ga]; omega
      · rw [vh, gI_sI (by omega) (by omega) (by omega), if_pos rfl, ga]; omega
    · simp [rc2, ko, getD_isSome, hk, e2 fl hl, sc]
      refine fin fl (sortI (ks c)) ⟨f, le, .inr ⟨q, fun z => ?_, rises w.nd, fun v hv => kb v ((sortI_perm _).mem_iff.mp hv), (sortI_perm _).mem_iff.mpr (w.bg _ List.mem_cons_self), fun z => hk ((sortI_perm _).mem_iff.mp z), ?_⟩⟩
      · have : a.a ∈ sortI (ks c) := (sortI_perm _).mem_iff.mpr (w.bg _ List.mem_cons_self)
        rw [z] at this
        cases this
      · exact (closed_sum f ok.ok ha w cl bb (sortI_perm _)).2 ((sortI_perm _).mem_iff.mpr (w.bg _ List.mem_cons_self)) (fun z => hk ((sortI_perm _).mem_iff.mp z))
  · refine ⟨false, by simp [e2 fl hl]; omega, ?_⟩
    rw [if_neg (by simp)]
    simp [e2 fl hl]
    exact fin fl [] ⟨f, le, .inl ⟨by omega, rfl⟩⟩

end
end GO

set_option Elab.async false
set_option linter.all false
set_option maxRecDepth 100000
set_option maxHeartbeats 4000000
namespace LF
open PySem PySem.Spec PyProof.Rows L2 VD PF FL GO
noncomputable section
def b__law_turned : SS := sSeq (sSet 2 (eOp oMod (eOp oFdiv (eVar 1) (eK (.int 2))) (eCa bMax2 (aCons (eK (.int 1)) (aCons (eCa bLen (aCons (eVar 0) (aNil))) (aNil)))))) (sSeq (sSet 0 (eC (eOp oCat (eV (lSl (eVar 0) (pAt (eVar 2)) (pNo))) (eV (lSl (eVar 0) (pNo) (pAt (eVar 2))))))) (sSeq (sIf (toB (eOp oEq (eOp oMod (eVar 1) (eK (.int 2))) (eK (.int 1)))) (sDrop (eBM mReverse (eVar 0) aNil)) (sNext)) (sRet (eVar 0))))
def m__law_turned : List D → Hv → R D := fnU 2 1 b__law_turned
def c__law_wholes_1 : LS := lLc (iL (eVar 0)) (gN 1) (cYes) (eAndV (eIsi "int" (eVar 1)) (eNotV (eIsi "bool" (eVar 1)))) [1]
def b__law_wholes : SS := sSeq (sIf (cNot (toB (eIsi "list" (eVar 0)))) (sRet (eK (.bl false))) (sNext)) (sRet (eCa bAll (aCons (eV (c__law_wholes_1)) (aNil))))
def m__law_wholes : List D → Hv → R D := fnS 1 1 b__law_wholes
def l__law_is_flow_1 : SS := sFor (iR1 (aCons (eCa bLen (aCons (eVar 1) (aNil))) (aNil))) (gN 4) (sSeq (sIf (cOr (toB (eOp oLt (eOp oIx (eVar 2) (eVar 4)) (eOp oIx (eOp oIx (eVar 1) (eVar 4)) (eK (.int 2))))) (toB (eOp oGt (eOp oIx (eVar 2) (eVar 4)) (eOp oIx (eOp oIx (eVar 1) (eVar 4)) (eK (.int 3)))))) (sRet (eK (.bl false))) (sNext)) (sSeq (sSetIx (eOp oSub (eOp oIx (eVar 3) (eOp oIx (eOp oIx (eVar 1) (eVar 4)) (eK (.int 0)))) (eOp oIx (eVar 2) (eVar 4))) (eVar 3) (eOp oIx (eOp oIx (eVar 1) (eVar 4)) (eK (.int 0)))) (sSetIx (eOp oAdd (eOp oIx (eVar 3) (eOp oIx (eOp oIx (eVar 1) (eVar 4)) (eK (.int 1)))) (eOp oIx (eVar 2) (eVar 4))) (eVar 3) (eOp oIx (eOp oIx (eVar 1) (eVar 4)) (eK (.int 1))))))
def b__law_is_flow : SS := sSeq (sIf (cOr (cNot (toB (eCa (Cm.f .P m__law_wholes) (aCons (eVar 2) (aNil))))) (toB (eOp oNe (eCa bLen (aCons (eVar 2) (aNil))) (eCa bLen (aCons (eVar 1) (aNil)))))) (sRet (eK (.bl false))) (sNext)) (sBlk (fun n => sSeq (sSet 3 (eC (eOp oRep (eV (lLst (aCons (eK (.int 0)) (aNil)))) (eVar 0)))) (sSeq (l__law_is_flow_1) (sSeal n (sRet (eOp oEq (eVar 3) (eV (eOp oRep (eV (lLst (aCons (eK (.int 0)) (aNil)))) (eVar 0)))))))))
def m__law_is_flow : List D → Hv → R D := fnS 3 2 b__law_is_flow
/-! lists new and owned -/
theorem ownA_map {α : Type} {g : Nat → D → Option (D × List Cell × List Nat)} {e : α → D} (he : ∀ b x, g b (e x) = some (e x, [], [])) : ∀ (xs : List α) (b : Nat), ownA g b (xs.map e) = some (xs.map e, [], [])
  | [], b => rfl
  | x :: xs, b => by
    rw [List.map_cons]
    simp [ownA, he, ownA_map he xs]
theorem shL_map {α : Type} {n : Nat} {e : α → D} (he : ∀ x, shD n (e x) = e x) : ∀ xs : List α, shL n (xs.map e) = xs.map e
  | [] => rfl
  | x :: xs => by
    rw [List.map_cons]
    show shD n (e x) :: shL n (xs.map e) = _
    rw [he, shL_map he xs]
theorem gc_at {α : Type} {e : α → D} (ho : ∀ h b x, ownD h 11 b (e x) = some (e x, [], [])) (hs : ∀ n x, shD n (e x) = e x) {sem : List D → Hv → VD.R D} {ds : List D} {H : Hv} {k : Nat} {xs : List α} (hp : pureD ds = some ds) (e1 : sem ds [] = .ok (.cell k) H) (hk : H[k]? = some (.lst (xs.map e))) (h : Hv) : callC (gcS sem) ds h = .ok (.cell h.length) (h ++ [.lst (xs.map e)]) := by
  have gc : gcS sem ds [] = .ok (.cell 0) [.lst (xs.map e)] := by
    show gcR (sem ds []) = _
    rw [e1]
    simp only [gcR]
    have q : ownD H 12 0 (.cell k) = some (.cell 0, [.lst (xs.map e)], [k]) := by
      simp [ownD, hk, ownA_map (g := ownD H 11) (e := e) (fun b x => ho H b x)]
    rw [q]
    simp
  have e2 := callC_ok (sem := gcS sem) (ds := ds) (ds' := ds) (h := h) hp gc
  rw [e2]
  simp [shD, shC, shL_map (hs _)]
theorem own_ints {h : Hv} {f b : Nat} (xs : List Int) : ownA (ownD h (f + 1)) b (xs.map .int) = some (xs.map .int, [], []) := ownA_map (fun _ _ => rfl) xs b
/-! turning -/
def turnF {α : Type} (xs : List α) (k : Int) : List α :=
  let c := (k / 2 % (if 1 < (xs.length : Int) then (xs.length : Int) else 1)).toNat
  let r := xs.drop c ++ xs.take c
  if k % 2 = 1 then r.reverse else r
theorem turn_perm {α : Type} (xs : List α) (k : Int) : (turnF xs k).Perm xs := by
  unfold turnF
  dsimp only
  have : ∀ c, (xs.drop c ++ xs.take c).Perm xs := fun c => by
    have := List.perm_append_comm (l₁ := xs.drop c) (l₂ := xs.take c)
    rw [List.take_append_drop] at this
    exact this
  split
  · exact (List.reverse_perm _).trans (this _)
  · exact this _
theorem turned_eq {α : Type} {e : α → D} {xs : List α} {k : Int} {j : Nat} {h : Hv} (hj : h[j]? = some (.lst (xs.map e))) (hl : xs.length ≤ 1000) (k0 : 0 ≤ k) :
    m__law_turned [.cell j, .int k] h = .ok (.cell h.length) (h ++ [.lst ((turnF xs k).map e)]) := by
  refine fnU_at (P := fun x => x = .ok (.cell h.length) (h ++ [.lst ((turnF xs k).map e)])) rfl ?_
  unfold b__law_turned
  have lb : bLen [.cell j] h = .ok (.int (xs.length : Int)) h := by simp [hj]
  have c1 : ∀ z : Int, (if 1 < z then z else 1) > 0 := fun z => by split <;> omega
  obtain ⟨M, hM⟩ : ∃ M, M = (if 1 < (xs.length : Int) then (xs.length : Int) else 1) := ⟨_, rfl⟩
  have M0 : 0 < M := by rw [hM]; exact c1 _
  have b0 : 0 ≤ k / 2 % M := Int.emod_nonneg _ (by omega)
  have b1 : k / 2 % M < M := Int.emod_lt_of_pos _ M0
  have b2 : k / 2 % M ≤ xs.length := by
    by_cases q : 1 < (xs.length : Int)
    · rw [if_pos q] at hM; omega
    · rw [if_neg q] at hM; omega
  obtain ⟨c, hc⟩ : ∃ c, c = k / 2 % M := ⟨_, rfl⟩
  have hc2 : k / 2 % M = c := hc.symm
  have et : turnF xs k = if k % 2 = 1 then (xs.drop c.toNat ++ xs.take c.toNat).reverse else xs.drop c.toNat ++ xs.take c.toNat := by unfold turnF; rw [← hM, ← hc]
  rw [← hc] at b0 b2
  have cf : cutD (xs.map e) (some c) none = (xs.drop c.toNat).map e := by rw [cutD_from b0 (by simpa using b2), List.map_drop]
  have ct : cutD (xs.map e) none (some c) = (xs.take c.toNat).map e := by rw [cutD_to b0 (by simpa using b2), List.map_take]
  have ll : ((xs.drop c.toNat).map e).length + ((xs.take c.toNat).map e).length ≤ 16777216 := by
    rw [List.length_map, List.length_map, List.length_drop, List.length_take]; omega
  have ll2 : xs.length - c.toNat + min c.toNat xs.length ≤ 16777216 := by omega
  have ll3 : xs.length ≤ 16777216 := by omega
  have gc : ∀ c : Cell, (h ++ [c])[h.length]? = some c := fun c => by rw [List.getElem?_append_right (Nat.le_refl _), Nat.sub_self]; rfl
  have gs : ∀ c c' : Cell, (h ++ [c]).set h.length c' = h ++ [c'] := fun c c' => by rw [List.set_append_right _ _ (Nat.le_refl _), Nat.sub_self]; rfl
  have two : divOk 2 = true := by decide
  simp (disch := omega) [lb, ← hM, M0, hc2, hj, cf, ct, ll2, ll3, -List.map_drop, -List.map_take]
  by_cases q : k % 2 = 1
  · have q1 : (k % 2 = 1) = True := eq_true q
    rw [if_pos q] at et
    simp [q1, gc, gs, et]
  · have q1 : (k % 2 = 1) = False := eq_false q
    rw [if_neg q] at et
    simp [q1, gc, gs, et]
/-! whole numbers; flows -/
theorem kLL : kitB "list" "list" = some true := by decide +kernel
theorem kII : kitB "int" "int" = some true := by decide +kernel
theorem kIB : kitB "int" "bool" = some false := by decide +kernel
theorem kTT : kitB "tuple" "tuple" = some true := by decide +kernel
theorem wholes_ok {xs : List Int} (hl : xs.length ≤ 1000) : m__law_wholes [.lst (xs.map .int)] [] = .ok (.bl true) [] := by
  refine fnS_of (P := fun x => x = .ok (.bl true) []) rfl ?_
  unfold b__law_wholes
  have e : ∀ x h, c__law_wholes_1 [some (.lst (xs.map .int)), x] h = .ok ((xs.map fun _ => true).map D.bl) h := by
    intro x h
    unfold c__law_wholes_1
    rw [lLc_map D.int (fun _ => .bl true) xs (chk := always) (h0 := h) (by simp) rfl (by omega)]
    · rw [List.map_map]; rfl
    · intro w hw
      exact ⟨_, rfl, by simp [kII, kIB]⟩
  simp [kLL, e, -List.map_map]
theorem is_flow_ok {n : Nat} {arcs : List Arc} {fl : List Int} (ok : NetOk n arcs) (f : IsFlow n arcs fl) : m__law_is_flow [.int n, arcsD arcs, .lst (fl.map .int)] [] = .ok (.bl true) [] := by
  refine fnS_of (P := fun r => r = .ok (.bl true) []) rfl ?_
  have n2 := ok.n2
  have n3 := ok.len
  have hl := f.len
  have la : ∀ h, bLen [arcsD arcs] h = .ok (.int (arcs.length : Int)) h := fun _ => by unfold arcsD; simp
  have wh := cP (wholes_ok (xs := fl) (by omega)) (by simp)
  unfold b__law_is_flow
  have er : List.replicate n (D.int 0) = (List.replicate n (0 : Int)).map D.int := by simp
  simp (disch := omega) [wh, la, hl]
  unfold l__law_is_flow_1
  have lz : (arcs.zip fl).length = arcs.length := by rw [List.length_zip]; omega
  obtain ⟨I, hI⟩ : ∃ I : Nat → VS → Hv → Prop, I = fun i σ h => ∃ x4, σ = [some (.int n), some (arcsD arcs), some (.lst (fl.map .int)), some (.cell 0), x4] ∧ h = [.lst ((gainsF n ((arcs.zip fl).take i)).map .int)] := ⟨_, rfl⟩
  refine Wp.range 0 arcs.length I (h0 := [.lst (List.replicate n (D.int 0))]) (by simp (disch := omega) [la]) (by rw [hI]; exact ⟨_, rfl, by simp [gainsF]⟩) ?_ ?_
  · intro i σ h hi hh
    rw [hI] at hh
    obtain ⟨x4, rfl, rfl⟩ := hh
    obtain ⟨a, ha⟩ : ∃ a, arcs[i]? = some a := ⟨_, List.getElem?_eq_getElem hi⟩
    have hx := gI_at (fl := fl) (p := i) (by omega)
    obtain ⟨b1, b2, b3, b4⟩ := ok.ok a (List.mem_of_getElem? ha)
    have e1 : ∀ h, ixD h (arcsD arcs) (i : Int) = some (aD a) := fun h => atI_map (e := aD) (atI_at rfl ha)
    have e2 : atI (fl.map D.int) (i : Int) = some (.int (gI fl i)) := ix_ints (by omega) (by omega)
    obtain ⟨h1, h2⟩ := f.inb i a _ ha hx
    have q1 : ¬ (gI fl i < a.c) := by omega
    have q2 : ¬ (a.d < gI fl i) := by omega
    have gl := gainsF_len n ((arcs.zip fl).take i)
    have eg := gainsF_take n (arcs.zip fl) i (a, gI fl i) (List.getElem?_zip_eq_some.mpr ⟨ha, hx⟩)
    refine ⟨_, rfl, ?_⟩
    generalize gainsF n ((arcs.zip fl).take i) = g at gl eg ⊢
    have e0 : (0 : Int) + (i : Int) = i := by omega
    simp (disch := first | omega | (simp; omega)) [e0, e1, e2, i0, i1, i2, i3, q1, q2, ix_ints, ixN_nat, set_int, -List.map_set]
    rw [hI]
    exact ⟨_, rfl, by rw [eg, gStep]⟩
  · intro σ h hh
    rw [hI] at hh
    obtain ⟨x4, rfl, rfl⟩ := hh
    rw [← lz, List.take_length]
    have ez := (gains_zero (zip_ok ok.ok)).mpr f.gn
    rw [ez, Int.toNat_natCast]
    have eq1 : ∀ h, eqD h (.lst ((List.replicate n (0 : Int)).map D.int)) (.lst ((List.replicate n (0 : Int)).map D.int)) = some true := fun h => by rw [eqD_ints]; simp
    simp (disch := omega) [er, eq1, -List.map_replicate]
end
end LF

set_option Elab.async false
set_option linter.all false
set_option maxRecDepth 100000
set_option maxHeartbeats 4000000
namespace LG
open PySem PySem.Spec PyProof.Rows L2 VD PF FL GO LF
noncomputable section
theorem gn_app {ps qs : List (Arc × Int)} {v : Int} : PF.gn (ps ++ qs) v = PF.gn ps v + PF.gn qs v := by unfold PF.gn; rw [List.map_append, List.sum_append]
theorem gn_one {p : Arc × Int} {v : Int} : PF.gn [p] v = PF.gt p v := by unfold PF.gn; simp
theorem behind_ne {n now x : Int} (h2 : 2 ≤ n) (h0 : 0 ≤ now) (h1 : now < n) (x0 : 0 ≤ x) (x1 : x < n - 1) : 0 ≤ (now + 1 + x) % n ∧ (now + 1 + x) % n < n ∧ now ≠ (now + 1 + x) % n := by
  refine ⟨Int.emod_nonneg _ (by omega), Int.emod_lt_of_pos _ (by omega), fun z => ?_⟩
  by_cases q : now + 1 + x < n
  · rw [Int.emod_eq_of_lt (by omega) q] at z; omega
  · have e : (now + 1 + x) % n = now + 1 + x - n := by
      have : now + 1 + x = (now + 1 + x - n) + n := by omega
      rw [this, Int.add_emod_right, Int.emod_eq_of_lt (by omega) (by omega)]; omega
    omega
theorem max0 {x : Int} : (if 0 < x then x else 0) = max 0 x := by by_cases q : 0 < x <;> simp [q] <;> omega
theorem inV_ints {x : Int} {L : List Int} : inV (.int x) (L.map V.int) = decide (x ∈ L) := by
  unfold inV
  rw [List.any_map]
  apply Bool.eq_iff_iff.mpr
  rw [List.any_eq_true, decide_eq_true_iff]
  constructor
  · rintro ⟨m, hm, q⟩
    have q : decide (m = x) = true := q
    rw [← of_decide_eq_true q]; exact hm
  · intro hm
    exact ⟨x, hm, show decide (x = x) = true from decide_eq_true rfl⟩
theorem oIn_ints {x : Int} {L : List Int} {h : Hv} : oIn (.int x) (.lst (L.map .int)) h = .ok (.bl (decide (x ∈ L))) h := by
  have e : inD h (.int x) (.lst (L.map .int)) = some (decide (x ∈ L)) := by
    show (match toV (.int x), (sqOf h (.lst (L.map .int))).bind (optAll toV) with
      | some v, some vs => some (inV v vs)
      | _, _ => none) = _
    have e2 : (sqOf h (.lst (L.map D.int))).bind (optAll toV) = some (L.map V.int) := by
      simp
      exact optAll_map fun _ _ => rfl
    rw [e2]
    show some (inV (.int x) (L.map V.int)) = _
    rw [inV_ints]
  unfold oIn
  rw [e]
theorem oNotIn_ints {x : Int} {L : List Int} {h : Hv} : oNotIn (.int x) (.lst (L.map .int)) h = .ok (.bl (!decide (x ∈ L))) h := by
  have e : inD h (.int x) (.lst (L.map .int)) = some (decide (x ∈ L)) := by
    show (match toV (.int x), (sqOf h (.lst (L.map .int))).bind (optAll toV) with
      | some v, some vs => some (inV v vs)
      | _, _ => none) = _
    have e2 : (sqOf h (.lst (L.map D.int))).bind (optAll toV) = some (L.map V.int) := by
      simp
      exact optAll_map fun _ _ => rfl
    rw [e2]
    show some (inV (.int x) (L.map V.int)) = _
    rw [inV_ints]
  unfold oNotIn
  rw [e]
theorem eqD_nil {h : Hv} {L : List Int} : eqD h (.lst (L.map .int)) (.lst []) = some (decide (L = [])) := eqD_ints (xs := L) (ys := [])
theorem ix_first {L : List Int} (hn : L ≠ []) : ∃ v, v ∈ L ∧ atI (L.map D.int) 0 = some (.int v) := by
  cases L with
  | nil => exact absurd rfl hn
  | cons v L => exact ⟨v, List.mem_cons_self, by rw [List.map_cons]; exact atI_0⟩
theorem ix_last {L : List Int} (hn : L ≠ []) : ∃ v, v ∈ L ∧ atI (L.map D.int) (-1) = some (.int v) := by
  have hl : 0 < L.length := List.length_pos_iff.mpr hn
  refine ⟨L[L.length - 1]'(by omega), List.getElem_mem _, ?_⟩
  refine atI_map (e := D.int) ?_
  unfold L2.atI
  have e : L2.ixN L.length (-1) = some (L.length - 1) := by
    unfold L2.ixN
    rw [if_neg (by omega)]
    simp
    omega
  rw [e]
  show L[L.length - 1]? = _
  rw [List.getElem?_eq_getElem (by omega)]
theorem sorted_nd {L : List Int} {n : Nat} (h : L.Pairwise (· < ·)) (hb : ∀ v ∈ L, 0 ≤ v ∧ v < (n : Int)) : L.length ≤ n := nodup_le (h.imp fun z => by omega) hb
theorem py_aD {n : Nat} {h : Hv} {arcs : List Arc} : optAll (toPy h (n + 2)) (arcs.map aD) = some (arcs.map fun a => PyData.tuple [.int a.a, .int a.b, .int a.c, .int a.d]) := optAll_map fun _ _ => rfl
theorem frz_more {n0 f : Nat} {h : Hv} {xs : List Int} : optAll (frz n0 h (f + 1)) (xs.map D.int ++ [D.int 1]) = some (xs.map D.int ++ [D.int 1]) := by
  have := frz_ints (n0 := n0) (f := f) (h := h) (xs := xs ++ [1])
  rw [List.map_append] at this
  exact this
theorem perm_sum {l m : List Int} (h : l.Perm m) : l.sum = m.sum := by
  induction h with
  | nil => rfl
  | cons x _ ih => simp [ih]
  | swap x y l => simp; omega
  | trans _ _ a b => exact a.trans b
theorem gn_perm {ps qs : List (Arc × Int)} (h : ps.Perm qs) (v : Int) : PF.gn ps v = PF.gn qs v := by
  unfold PF.gn
  exact perm_sum (h.map _)
theorem unit_ok {i T : Int} (hT : T = 10 ^ 57) (h0 : 0 ≤ i) (h1 : i < 3) : ∃ u : Int, (∀ h, ixD h (.lst [.int 1, .int 1, .int T]) i = some (.int u)) ∧ 1 ≤ u ∧ u ≤ 10 ^ 57 := by
  have : i = 0 ∨ i = 1 ∨ i = 2 := by omega
  rcases this with rfl | rfl | rfl
  · exact ⟨1, fun _ => rfl, by omega, by omega⟩
  · exact ⟨1, fun _ => rfl, by omega, by omega⟩
  · exact ⟨T, fun _ => rfl, by omega, by omega⟩
end
end LG

set_option Elab.async false
set_option linter.all false
set_option maxRecDepth 100000
set_option maxHeartbeats 4000000
namespace Lk32
open PySem PySem.Spec PyProof.Rows L2 VD
noncomputable section
def topS (i : Nat) : Stmt := PySem.Challenge.pw_crosshall_k32_whole_a_flow_or_a_cut.main.body.getD i (.Pass ⟨0, 0, 0, 0⟩)
abbrev s_asked_net : Stmt := topS 6
abbrev N_asked_net : List Str := ["many", "arcs", "one", "other", "least", "most"]
theorem sc_asked_net : FnScope N_asked_net ["many", "arcs"] (defScope s_asked_net) := ⟨rfl, rfl, rfl, by decide +kernel, rfl, by decide +kernel, by decide +kernel⟩
abbrev s_gains_of_nodes : Stmt := topS 7
abbrev N_gains_of_nodes : List Str := ["many", "arcs", "flow", "gains", "arc", "amount", "node"]
theorem sc_gains_of_nodes : FnScope N_gains_of_nodes ["many", "arcs", "flow"] (defScope s_gains_of_nodes) := ⟨rfl, rfl, rfl, by decide +kernel, rfl, by decide +kernel, by decide +kernel⟩
abbrev s_arcs_beside : Stmt := topS 9
abbrev N_arcs_beside : List Str := ["many", "arcs", "beside", "place", "node"]
theorem sc_arcs_beside : FnScope N_arcs_beside ["many", "arcs"] (defScope s_arcs_beside) := ⟨rfl, rfl, rfl, by decide +kernel, rfl, by decide +kernel, by decide +kernel⟩
abbrev s_reached_nodes : Stmt := topS 10
abbrev N_reached_nodes : List Str := ["beside", "arcs", "flow", "begins", "but", "came", "node", "line", "at", "place", "one", "other", "least", "most"]
theorem sc_reached_nodes : FnScope N_reached_nodes ["beside", "arcs", "flow", "begins", "but"] (defScope s_reached_nodes) := ⟨rfl, rfl, rfl, by decide +kernel, rfl, by decide +kernel, by decide +kernel⟩
abbrev s_road_to : Stmt := topS 11
abbrev N_road_to : List Str := ["came", "node", "road"]
theorem sc_road_to : FnScope N_road_to ["came", "node"] (defScope s_road_to) := ⟨rfl, rfl, rfl, by decide +kernel, rfl, by decide +kernel, by decide +kernel⟩
abbrev s_room_on_road : Stmt := topS 12
abbrev N_room_on_road : List Str := ["arcs", "flow", "road", "rooms", "ahead", "place"]
theorem sc_room_on_road : FnScope N_room_on_road ["arcs", "flow", "road"] (defScope s_room_on_road) := ⟨rfl, rfl, rfl, by decide +kernel, rfl, by decide +kernel, by decide +kernel⟩
abbrev s_send_along : Stmt := topS 13
abbrev N_send_along : List Str := ["arcs", "flow", "road", "amount", "ahead", "place"]
theorem sc_send_along : FnScope N_send_along ["arcs", "flow", "road", "amount"] (defScope s_send_along) := ⟨rfl, rfl, rfl, by decide +kernel, rfl, by decide +kernel, by decide +kernel⟩
abbrev s_flow_of : Stmt := topS 14
abbrev N_flow_of : List Str := ["many", "arcs", "beside", "flow", "gains", "begins", "came", "ends", "road", "begin", "arc", "node"]
theorem sc_flow_of : FnScope N_flow_of ["many", "arcs"] (defScope s_flow_of) := ⟨rfl, rfl, rfl, by decide +kernel, rfl, by decide +kernel, by decide +kernel⟩
abbrev s__law_draw : Stmt := topS 16
abbrev N__law_draw : List Str := ["_law_script", "_law_k", "_law_many", "_law_number"]
theorem sc__law_draw : FnScope N__law_draw ["_law_script", "_law_k", "_law_many"] (defScope s__law_draw) := ⟨rfl, rfl, rfl, by decide +kernel, rfl, by decide +kernel, by decide +kernel⟩
abbrev s__law_any_arcs : Stmt := topS 17
abbrev N__law_any_arcs : List Str := ["_law_script", "_law_nodes", "_law_size", "_law_unit", "_law_arcs", "_law_k", "_law_one", "_law_other", "_law_number", "_law_least"]
theorem sc__law_any_arcs : FnScope N__law_any_arcs ["_law_script", "_law_nodes", "_law_size", "_law_unit"] (defScope s__law_any_arcs) := ⟨rfl, rfl, rfl, by decide +kernel, rfl, by decide +kernel, by decide +kernel⟩
abbrev s__law_round_arcs : Stmt := topS 18
abbrev N__law_round_arcs : List Str := ["_law_script", "_law_nodes", "_law_size", "_law_unit", "_law_arcs", "_law_at", "_law_amount", "_law_first", "_law_now", "_law_j", "_law_number", "_law_behind"]
theorem sc__law_round_arcs : FnScope N__law_round_arcs ["_law_script", "_law_nodes", "_law_size", "_law_unit"] (defScope s__law_round_arcs) := ⟨rfl, rfl, rfl, by decide +kernel, rfl, by decide +kernel, by decide +kernel⟩
abbrev s__law_turned : Stmt := topS 19
abbrev N__law_turned : List Str := ["_law_row", "_law_number", "_law_cut"]
theorem sc__law_turned : FnScope N__law_turned ["_law_row", "_law_number"] (defScope s__law_turned) := ⟨rfl, rfl, rfl, by decide +kernel, rfl, by decide +kernel, by decide +kernel⟩
abbrev s__law_wholes : Stmt := topS 20
abbrev N__law_wholes : List Str := ["_law_found", "_law_number"]
theorem sc__law_wholes : FnScope N__law_wholes ["_law_found"] (defScope s__law_wholes) := ⟨rfl, rfl, rfl, by decide +kernel, rfl, by decide +kernel, by decide +kernel⟩
abbrev s__law_is_flow : Stmt := topS 21
abbrev N__law_is_flow : List Str := ["_law_nodes", "_law_arcs", "_law_flow", "_law_gains", "_law_k"]
theorem sc__law_is_flow : FnScope N__law_is_flow ["_law_nodes", "_law_arcs", "_law_flow"] (defScope s__law_is_flow) := ⟨rfl, rfl, rfl, by decide +kernel, rfl, by decide +kernel, by decide +kernel⟩
abbrev s__law_is_cut : Stmt := topS 22
abbrev N__law_is_cut : List Str := ["_law_nodes", "_law_arcs", "_law_some", "_law_out", "_law_arc"]
theorem sc__law_is_cut : FnScope N__law_is_cut ["_law_nodes", "_law_arcs", "_law_some"] (defScope s__law_is_cut) := ⟨rfl, rfl, rfl, by decide +kernel, rfl, by decide +kernel, by decide +kernel⟩
abbrev s__law_right : Stmt := topS 23
abbrev N__law_right : List Str := ["_law_nodes", "_law_arcs", "_law_found", "_law_sure"]
theorem sc__law_right : FnScope N__law_right ["_law_nodes", "_law_arcs", "_law_found", "_law_sure"] (defScope s__law_right) := ⟨rfl, rfl, rfl, by decide +kernel, rfl, by decide +kernel, by decide +kernel⟩
abbrev s_law : Stmt := topS 24
abbrev N_law : List Str := ["_law_script", "_law_nodes", "_law_size", "_law_unit", "_law_arcs", "_law_sure", "_law_handed", "_law_found", "_law_at", "_law_one", "_law_other", "_law_least", "_law_most"]
theorem sc_law : FnScope N_law ["_law_script"] (defScope s_law) := ⟨rfl, rfl, rfl, by decide +kernel, rfl, by decide +kernel, by decide +kernel⟩
section
def l_asked_net_1 : SS := sFor (iL (eVar 1)) (gT 4 (gsCons (gN 2) (gsCons (gN 3) (gsCons (gN 4) (gsCons (gN 5) (gsNil)))))) (sSeq (sIf (cOr (toB (eOp oLt (eCa bMin2 (aCons (eVar 2) (aCons (eVar 3) (aNil)))) (eK (.int 0)))) (cOr (toB (eOp oGe (eCa bMax2 (aCons (eVar 2) (aCons (eVar 3) (aNil)))) (eVar 0))) (toB (eOp oEq (eVar 2) (eVar 3))))) (sRaise "NoNet") (sNext)) (sIf (cOr (toB (eOp oLt (eVar 4) (eK (.int 0)))) (toB (eOp oGt (eVar 4) (eVar 5)))) (sRaise "NoNet") (sNext)))
def b_asked_net : SS := sSeq (sIf (cOr (toB (eOp oLt (eVar 0) (eK (.int 1)))) (cOr (toB (eOp oGt (eVar 0) (eK (.int 120)))) (toB (eOp oGt (eCa bLen (aCons (eVar 1) (aNil))) (eK (.int 300)))))) (sRaise "NoNet") (sNext)) (sSeq (l_asked_net_1) (sRet (eK (.bl true))))
def m_asked_net : List D → Hv → R D := fnS 2 4 b_asked_net
def c_gains_of_nodes_1 : LS := lLc (iR1 (aCons (eVar 0) (aNil))) (gN 6) (cYes) (eK (.int 0)) [6]
def l_gains_of_nodes_1 : SS := sFor (iZG (aCons (eVar 1) (aCons (eVar 2) (aNil)))) (gT 2 (gsCons (gN 4) (gsCons (gN 5) (gsNil)))) (sSeq (sSetIx (eOp oSub (eOp oIx (eVar 3) (eOp oIx (eVar 4) (eK (.int 0)))) (eVar 5)) (eVar 3) (eOp oIx (eVar 4) (eK (.int 0)))) (sSetIx (eOp oAdd (eOp oIx (eVar 3) (eOp oIx (eVar 4) (eK (.int 1)))) (eVar 5)) (eVar 3) (eOp oIx (eVar 4) (eK (.int 1)))))
def b_gains_of_nodes : SS := sSeq (sSet 3 (eC (c_gains_of_nodes_1))) (sSeq (l_gains_of_nodes_1) (sRet (eVar 3)))
def m_gains_of_nodes : List D → Hv → R D := fnS 3 4 b_gains_of_nodes
def c_arcs_beside_1 : LS := lLc (iR1 (aCons (eVar 0) (aNil))) (gN 4) (cYes) (eC (lLst (aNil))) [4]
def l_arcs_beside_1 : SS := sFor (iR1 (aCons (eCa bLen (aCons (eVar 1) (aNil))) (aNil))) (gN 3) (sSeq (sDrop (eBM mAppend (eOp oIx (eVar 2) (eOp oIx (eOp oIx (eVar 1) (eVar 3)) (eK (.int 0)))) (aCons (eVar 3) (aNil)))) (sDrop (eBM mAppend (eOp oIx (eVar 2) (eOp oIx (eOp oIx (eVar 1) (eVar 3)) (eK (.int 1)))) (aCons (eVar 3) (aNil)))))
def b_arcs_beside : SS := sSeq (sSet 2 (eV (c_arcs_beside_1))) (sSeq (l_arcs_beside_1) (sRet (eVar 2)))
def m_arcs_beside : List D → Hv → R D := fnS 2 3 b_arcs_beside
def l_reached_nodes_1 : SS := sFor (iL (eVar 3)) (gN 6) (sDput (eK .non) (eVar 5) (eVar 6))
def l_reached_nodes_2 : SS := sFor (iL (eOp oIx (eVar 0) (eVar 6))) (gN 9) (sSeq (sAsg (eOp oIx (eVar 1) (eVar 9)) (gT 4 (gsCons (gN 10) (gsCons (gN 11) (gsCons (gN 12) (gsCons (gN 13) (gsNil))))))) (sSeq (sIf (cAnd (toB (eOp oNe (eVar 9) (eVar 4))) (cAnd (toB (eOp oEq (eVar 10) (eVar 6))) (cAnd (toB (eOp oLt (eOp oIx (eVar 2) (eVar 9)) (eVar 13))) (toB (eOp oDnin (eVar 11) (eVar 5)))))) (sSeq (sDput (eTup (aCons (eVar 6) (aCons (eVar 9) (aNil)))) (eVar 5) (eVar 11)) (sDrop (eBM mAppend (eVar 7) (aCons (eVar 11) (aNil))))) (sNext)) (sIf (cAnd (toB (eOp oNe (eVar 9) (eVar 4))) (cAnd (toB (eOp oEq (eVar 11) (eVar 6))) (cAnd (toB (eOp oGt (eOp oIx (eVar 2) (eVar 9)) (eVar 12))) (toB (eOp oDnin (eVar 10) (eVar 5)))))) (sSeq (sDput (eTup (aCons (eVar 6) (aCons (eVar 9) (aNil)))) (eVar 5) (eVar 10)) (sDrop (eBM mAppend (eVar 7) (aCons (eVar 10) (aNil))))) (sNext))))
def l_reached_nodes_3 : SS := sLoop (toB (eOp oLt (eVar 8) (eCa bLen (aCons (eVar 7) (aNil))))) (sSeq (sSet 6 (eOp oIx (eVar 7) (eVar 8))) (sSeq (l_reached_nodes_2) (sSet 8 (eOp oAdd (eVar 8) (eK (.int 1))))))
def b_reached_nodes : SS := sSeq (sSet 5 (eDnew)) (sSeq (l_reached_nodes_1) (sSeq (sSet 7 (eC (eCa bList (aCons (eVar 3) (aNil))))) (sSeq (sSet 8 (eK (.int 0))) (sSeq (l_reached_nodes_3) (sRet (eLock (eVar 5)))))))
def m_reached_nodes : List D → Hv → R D := fnS 5 9 b_reached_nodes
def l_road_to_1 : SS := sLoop (toB (eOp oIsNot (eOp oDget (eVar 0) (eVar 1)) (eK .non))) (sSeq (sDrop (eBM mAppend (eVar 2) (aCons (eOp oDget (eVar 0) (eVar 1)) (aNil)))) (sSet 1 (eOp oIx (eOp oDget (eVar 0) (eVar 1)) (eK (.int 0)))))
def b_road_to : SS := sSeq (sSet 2 (eC (lLst (aNil)))) (sSeq (l_road_to_1) (sRet (eVar 2)))
def m_road_to : List D → Hv → R D := fnS 2 1 b_road_to
def l_room_on_road_1 : SS := sFor (iL (eVar 2)) (gT 2 (gsCons (gN 4) (gsCons (gN 5) (gsNil)))) (sIf (toB (eOp oEq (eOp oIx (eOp oIx (eVar 0) (eVar 5)) (eK (.int 0))) (eVar 4))) (sDrop (eBM mAppend (eVar 3) (aCons (eOp oSub (eOp oIx (eOp oIx (eVar 0) (eVar 5)) (eK (.int 3))) (eOp oIx (eVar 1) (eVar 5))) (aNil)))) (sDrop (eBM mAppend (eVar 3) (aCons (eOp oSub (eOp oIx (eVar 1) (eVar 5)) (eOp oIx (eOp oIx (eVar 0) (eVar 5)) (eK (.int 2)))) (aNil)))))
def b_room_on_road : SS := sSeq (sSet 3 (eC (lLst (aNil)))) (sSeq (l_room_on_road_1) (sRet (eCa bMin (aCons (eVar 3) (aNil)))))
def m_room_on_road : List D → Hv → R D := fnS 3 3 b_room_on_road
def l_send_along_1 : SS := sFor (iL (eVar 2)) (gT 2 (gsCons (gN 4) (gsCons (gN 5) (gsNil)))) (sIf (toB (eOp oEq (eOp oIx (eOp oIx (eVar 0) (eVar 5)) (eK (.int 0))) (eVar 4))) (sSetIx (eOp oAdd (eOp oIx (eVar 1) (eVar 5)) (eVar 3)) (eVar 1) (eVar 5)) (sSetIx (eOp oSub (eOp oIx (eVar 1) (eVar 5)) (eVar 3)) (eVar 1) (eVar 5)))
def b_send_along : SS := l_send_along_1
def m_send_along : List D → Hv → R D := fnS 4 2 b_send_along
def c_flow_of_1 : LS := lLc (iL (eVar 1)) (gN 10) (cYes) (eOp oIx (eVar 10) (eK (.int 2))) [10]
def c_flow_of_2 : LS := lLc (iR1 (aCons (eVar 0) (aNil))) (gN 11) (toB (eOp oGt (eOp oIx (eVar 4) (eVar 11)) (eK (.int 0)))) (eVar 11) [11]
def c_flow_of_3 : LS := lLc (iD (eVar 6)) (gN 11) (toB (eOp oLt (eOp oIx (eVar 4) (eVar 11)) (eK (.int 0)))) (eVar 11) [11]
def l_flow_of_1 : SS := sLoop (toB (eOp oGt (eCa bMax (aCons (eVar 4) (aNil))) (eK (.int 0)))) (sSeq (sSet 5 (eV (c_flow_of_2))) (sSeq (sSet 6 (eCa (Cm.f .M m_reached_nodes) (aCons (eVar 2) (aCons (eVar 1) (aCons (eVar 3) (aCons (eVar 5) (aCons (eK .non) (aNil)))))))) (sSeq (sSet 7 (eV (c_flow_of_3))) (sSeq (sIf (toB (eOp oEq (eCa bLen (aCons (eVar 7) (aNil))) (eK (.int 0)))) (sRet (eTup (aCons (eK (.str "cut")) (aCons (eC (eCa bSortDG (aCons (eVar 6) (aNil)))) (aNil))))) (sNext)) (sSeq (sSet 8 (eCa (Cm.f .P m_road_to) (aCons (eVar 6) (aCons (eOp oIx (eVar 7) (eK (.int 0))) (aNil))))) (sSeq (sSet 9 (eOp oIx (eOp oIx (eVar 8) (eUn uNeg (eK (.int 1)))) (eK (.int 0)))) (sSeq (sDrop (eCa (Cm.f .M m_send_along) (aCons (eVar 1) (aCons (eVar 3) (aCons (eVar 8) (aCons (eCa bMin3 (aCons (eCa (Cm.f .B m_room_on_road) (aCons (eVar 1) (aCons (eVar 3) (aCons (eVar 8) (aNil))))) (aCons (eOp oIx (eVar 4) (eVar 9)) (aCons (eUn uNeg (eOp oIx (eVar 4) (eOp oIx (eVar 7) (eK (.int 0))))) (aNil))))) (aNil))))))) (sSet 4 (eCa (Cm.f .M m_gains_of_nodes) (aCons (eVar 0) (aCons (eVar 1) (aCons (eVar 3) (aNil)))))))))))))
def b_flow_of : SS := sSeq (sDrop (eCa (Cm.f .P m_asked_net) (aCons (eVar 0) (aCons (eVar 1) (aNil))))) (sSeq (sSet 2 (eCa (Cm.f .P m_arcs_beside) (aCons (eVar 0) (aCons (eVar 1) (aNil))))) (sSeq (sSet 3 (eC (c_flow_of_1))) (sSeq (sSet 4 (eCa (Cm.f .M m_gains_of_nodes) (aCons (eVar 0) (aCons (eVar 1) (aCons (eVar 3) (aNil)))))) (sSeq (l_flow_of_1) (sRet (eTup (aCons (eK (.str "flow")) (aCons (eVar 3) (aNil)))))))))
def m_flow_of : List D → Hv → R D := fnU 2 10 b_flow_of
def b__law_draw : SS := sSeq (sIf (toB (eOp oLt (eVar 1) (eCa bLen (aCons (eVar 0) (aNil))))) (sRet (eOp oMod (eOp oIx (eVar 0) (eVar 1)) (eVar 2))) (sNext)) (sSeq (sSet 3 (eOp oAdd (eOp oMul (eVar 1) (eVar 1)) (eK (.int 3)))) (sSeq (sIf (toB (eOp oGt (eCa bLen (aCons (eVar 0) (aNil))) (eK (.int 0)))) (sSet 3 (eOp oAdd (eVar 3) (eOp oMod (eOp oIx (eVar 0) (eOp oMod (eVar 1) (eCa bLen (aCons (eVar 0) (aNil))))) (eK (.int 65521))))) (sNext)) (sRet (eOp oMod (eOp oMod (eOp oMul (eOp oAdd (eOp oMod (eOp oMul (eVar 3) (eK (.int 48271))) (eK (.int 65521))) (eK (.int 5))) (eK (.int 40692))) (eK (.int 65519))) (eVar 2)))))
def m__law_draw : List D → Hv → R D := fnS 3 1 b__law_draw
def l__law_any_arcs_1 : SS := sFor (iR1 (aCons (eVar 2) (aNil))) (gN 5) (sSeq (sSet 6 (eCa (Cm.f .P m__law_draw) (aCons (eVar 0) (aCons (eOp oAdd (eK (.int 6)) (eOp oMul (eK (.int 3)) (eVar 5))) (aCons (eVar 1) (aNil)))))) (sSeq (sSet 7 (eOp oMod (eOp oAdd (eOp oAdd (eVar 6) (eK (.int 1))) (eCa (Cm.f .P m__law_draw) (aCons (eVar 0) (aCons (eOp oAdd (eK (.int 7)) (eOp oMul (eK (.int 3)) (eVar 5))) (aCons (eOp oSub (eVar 1) (eK (.int 1))) (aNil)))))) (eVar 1))) (sSeq (sSet 8 (eCa (Cm.f .P m__law_draw) (aCons (eVar 0) (aCons (eOp oAdd (eK (.int 8)) (eOp oMul (eK (.int 3)) (eVar 5))) (aCons (eK (.int 96)) (aNil)))))) (sSeq (sSet 9 (eOp oMul (eOp oIx (eV (lLst (aCons (eK (.int 0)) (aCons (eK (.int 0)) (aCons (eK (.int 0)) (aCons (eK (.int 1)) (aCons (eK (.int 2)) (aCons (eK (.int 3)) (aNil))))))))) (eOp oMod (eVar 8) (eK (.int 6)))) (eVar 3))) (sDrop (eBM mAppend (eVar 4) (aCons (eTup (aCons (eVar 6) (aCons (eVar 7) (aCons (eVar 9) (aCons (eOp oAdd (eVar 9) (eOp oMul (eOp oMod (eOp oFdiv (eVar 8) (eK (.int 6))) (eK (.int 6))) (eVar 3))) (aNil)))))) (aNil))))))))
def b__law_any_arcs : SS := sSeq (sSet 4 (eC (lLst (aNil)))) (sSeq (l__law_any_arcs_1) (sRet (eVar 4)))
def m__law_any_arcs : List D → Hv → R D := fnU 4 6 b__law_any_arcs
def l__law_round_arcs_1 : SS := sFor (iR1 (aCons (eOp oAdd (eK (.int 1)) (eCa (Cm.f .P m__law_draw) (aCons (eVar 0) (aCons (eOp oAdd (eVar 5) (eK (.int 2))) (aCons (eK (.int 4)) (aNil)))))) (aNil))) (gN 9) (sSeq (sSet 10 (eCa (Cm.f .P m__law_draw) (aCons (eVar 0) (aCons (eOp oAdd (eOp oAdd (eVar 5) (eK (.int 3))) (eVar 9)) (aCons (eOp oMul (eK (.int 9)) (eVar 1)) (aNil)))))) (sSeq (sSet 11 (eOp oMod (eOp oAdd (eOp oAdd (eVar 8) (eK (.int 1))) (eOp oMod (eOp oFdiv (eVar 10) (eK (.int 9))) (eOp oSub (eVar 1) (eK (.int 1))))) (eVar 1))) (sSeq (sDrop (eBM mAppend (eVar 4) (aCons (eTup (aCons (eVar 8) (aCons (eVar 11) (aCons (eCa bMax2 (aCons (eK (.int 0)) (aCons (eOp oSub (eVar 6) (eOp oMod (eVar 10) (eK (.int 3)))) (aNil)))) (aCons (eOp oAdd (eVar 6) (eOp oMod (eOp oFdiv (eVar 10) (eK (.int 3))) (eK (.int 3)))) (aNil)))))) (aNil)))) (sSet 8 (eVar 11)))))
def l__law_round_arcs_2 : SS := sLoop (toB (eOp oLt (eCa bLen (aCons (eVar 4) (aNil))) (eVar 2))) (sSeq (sSet 6 (eOp oMul (eCa (Cm.f .P m__law_draw) (aCons (eVar 0) (aCons (eVar 5) (aCons (eK (.int 9)) (aNil))))) (eVar 3))) (sSeq (sSet 7 (eCa (Cm.f .P m__law_draw) (aCons (eVar 0) (aCons (eOp oAdd (eVar 5) (eK (.int 1))) (aCons (eVar 1) (aNil)))))) (sSeq (sSet 8 (eVar 7)) (sSeq (l__law_round_arcs_1) (sSeq (sIf (toB (eOp oNe (eVar 8) (eVar 7))) (sDrop (eBM mAppend (eVar 4) (aCons (eTup (aCons (eVar 8) (aCons (eVar 7) (aCons (eCa bMax2 (aCons (eK (.int 0)) (aCons (eOp oSub (eVar 6) (eK (.int 1))) (aNil)))) (aCons (eVar 6) (aNil)))))) (aNil)))) (sNext)) (sSet 5 (eOp oAdd (eVar 5) (eK (.int 8)))))))))
def b__law_round_arcs : SS := sSeq (sSet 4 (eC (lLst (aNil)))) (sSeq (sSet 5 (eK (.int 6))) (sSeq (l__law_round_arcs_2) (sRet (eVar 4))))
def m__law_round_arcs : List D → Hv → R D := fnU 4 8 b__law_round_arcs
def b__law_turned : SS := sSeq (sSet 2 (eOp oMod (eOp oFdiv (eVar 1) (eK (.int 2))) (eCa bMax2 (aCons (eK (.int 1)) (aCons (eCa bLen (aCons (eVar 0) (aNil))) (aNil)))))) (sSeq (sSet 0 (eC (eOp oCat (eV (lSl (eVar 0) (pAt (eVar 2)) (pNo))) (eV (lSl (eVar 0) (pNo) (pAt (eVar 2))))))) (sSeq (sIf (toB (eOp oEq (eOp oMod (eVar 1) (eK (.int 2))) (eK (.int 1)))) (sDrop (eBM mReverse (eVar 0) aNil)) (sNext)) (sRet (eVar 0))))
def m__law_turned : List D → Hv → R D := fnU 2 1 b__law_turned
def c__law_wholes_1 : LS := lLc (iL (eVar 0)) (gN 1) (cYes) (eAndV (eIsi "int" (eVar 1)) (eNotV (eIsi "bool" (eVar 1)))) [1]
def b__law_wholes : SS := sSeq (sIf (cNot (toB (eIsi "list" (eVar 0)))) (sRet (eK (.bl false))) (sNext)) (sRet (eCa bAll (aCons (eV (c__law_wholes_1)) (aNil))))
def m__law_wholes : List D → Hv → R D := fnS 1 1 b__law_wholes
def l__law_is_flow_1 : SS := sFor (iR1 (aCons (eCa bLen (aCons (eVar 1) (aNil))) (aNil))) (gN 4) (sSeq (sIf (cOr (toB (eOp oLt (eOp oIx (eVar 2) (eVar 4)) (eOp oIx (eOp oIx (eVar 1) (eVar 4)) (eK (.int 2))))) (toB (eOp oGt (eOp oIx (eVar 2) (eVar 4)) (eOp oIx (eOp oIx (eVar 1) (eVar 4)) (eK (.int 3)))))) (sRet (eK (.bl false))) (sNext)) (sSeq (sSetIx (eOp oSub (eOp oIx (eVar 3) (eOp oIx (eOp oIx (eVar 1) (eVar 4)) (eK (.int 0)))) (eOp oIx (eVar 2) (eVar 4))) (eVar 3) (eOp oIx (eOp oIx (eVar 1) (eVar 4)) (eK (.int 0)))) (sSetIx (eOp oAdd (eOp oIx (eVar 3) (eOp oIx (eOp oIx (eVar 1) (eVar 4)) (eK (.int 1)))) (eOp oIx (eVar 2) (eVar 4))) (eVar 3) (eOp oIx (eOp oIx (eVar 1) (eVar 4)) (eK (.int 1))))))
def b__law_is_flow : SS := sSeq (sIf (cOr (cNot (toB (eCa (Cm.f .P m__law_wholes) (aCons (eVar 2) (aNil))))) (toB (eOp oNe (eCa bLen (aCons (eVar 2) (aNil))) (eCa bLen (aCons (eVar 1) (aNil)))))) (sRet (eK (.bl false))) (sNext)) (sBlk (fun n => sSeq (sSet 3 (eC (eOp oRep (eV (lLst (aCons (eK (.int 0)) (aNil)))) (eVar 0)))) (sSeq (l__law_is_flow_1) (sSeal n (sRet (eOp oEq (eVar 3) (eV (eOp oRep (eV (lLst (aCons (eK (.int 0)) (aNil)))) (eVar 0)))))))))
def m__law_is_flow : List D → Hv → R D := fnS 3 2 b__law_is_flow
def c__law_is_cut_1 : LS := lLc (iL (eVar 1)) (gN 4) (cAnd (toB (eOp oIn (eOp oIx (eVar 4) (eK (.int 0))) (eVar 2))) (toB (eOp oNotIn (eOp oIx (eVar 4) (eK (.int 1))) (eVar 2)))) (eOp oIx (eVar 4) (eK (.int 3))) [4]
def c__law_is_cut_2 : LS := lLc (iL (eVar 1)) (gN 4) (cAnd (toB (eOp oIn (eOp oIx (eVar 4) (eK (.int 1))) (eVar 2))) (toB (eOp oNotIn (eOp oIx (eVar 4) (eK (.int 0))) (eVar 2)))) (eOp oIx (eVar 4) (eK (.int 2))) [4]
def b__law_is_cut : SS := sSeq (sIf (cOr (cNot (toB (eCa (Cm.f .P m__law_wholes) (aCons (eVar 2) (aNil))))) (cOr (toB (eOp oNe (eV (eCa bSortSet (aCons (eVar 2) (aNil)))) (eVar 2))) (toB (eOp oEq (eCa bLen (aCons (eVar 2) (aNil))) (eK (.int 0)))))) (sRet (eK (.bl false))) (sNext)) (sSeq (sIf (cOr (toB (eOp oLt (eOp oIx (eVar 2) (eK (.int 0))) (eK (.int 0)))) (toB (eOp oGe (eOp oIx (eVar 2) (eUn uNeg (eK (.int 1)))) (eVar 0)))) (sRet (eK (.bl false))) (sNext)) (sSeq (sSet 3 (eCa bSum (aCons (eV (c__law_is_cut_1)) (aNil)))) (sRet (eOp oLt (eVar 3) (eCa bSum (aCons (eV (c__law_is_cut_2)) (aNil)))))))
def m__law_is_cut : List D → Hv → R D := fnS 3 2 b__law_is_cut
def b__law_right : SS := sSeq (sIf (cOr (cNot (toB (eIsi "tuple" (eVar 2)))) (toB (eOp oNe (eCa bLen (aCons (eVar 2) (aNil))) (eK (.int 2))))) (sRet (eK (.bl false))) (sNext)) (sSeq (sIf (toB (eOp oEq (eOp oIx (eVar 2) (eK (.int 0))) (eK (.str "flow")))) (sRet (eCa (Cm.f .P m__law_is_flow) (aCons (eVar 0) (aCons (eVar 1) (aCons (eOp oIx (eVar 2) (eK (.int 1))) (aNil)))))) (sNext)) (sRet (eAndV (eNotV (eVar 3)) (eAndV (eOp oEq (eOp oIx (eVar 2) (eK (.int 0))) (eK (.str "cut"))) (eCa (Cm.f .P m__law_is_cut) (aCons (eVar 0) (aCons (eVar 1) (aCons (eOp oIx (eVar 2) (eK (.int 1))) (aNil)))))))))
def m__law_right : List D → Hv → R D := fnS 4 0 b__law_right
def t_law_10 : SS := sSeq (sSet 6 (eV (eCa bList (aCons (eVar 4) (aNil))))) (sBlk (fun n => sSeq (sSet 7 (eCa (callC (gcS m_flow_of)) (aCons (eVar 1) (aCons (eVar 6) (aNil))))) (sSeq (sIf (cOr (toB (eOp oNe (eVar 6) (eVar 4))) (cNot (toB (eCa (Cm.f .B m__law_right) (aCons (eVar 1) (aCons (eVar 4) (aCons (eVar 7) (aCons (eVar 5) (aNil))))))))) (sRet (eK (.bl false))) (sNext)) (sSeq (sIf (toB (eOp oGt (eCa bLen (aCons (eOp oIx (eVar 7) (eK (.int 1))) (aNil))) (eK (.int 0)))) (sSetIx (eUn uNeg (eK (.int 1))) (eOp oIx (eVar 7) (eK (.int 1))) (eK (.int 0))) (sNext)) (sSeq (sDrop (eBM mAppend (eOp oIx (eVar 7) (eK (.int 1))) (aCons (eK (.int 7)) (aNil)))) (sSeal n (sRet (eAndV (eCa (Cm.f .B m__law_right) (aCons (eVar 1) (aCons (eVar 4) (aCons (eCa (callC (gcS m_flow_of)) (aCons (eVar 1) (aCons (eVar 6) (aNil)))) (aCons (eVar 5) (aNil)))))) (eOp oEq (eVar 6) (eVar 4))))))))))
def t_law_9 (n : Nat) : SS := sSeq (sSet 4 (eCa (Cm.f .M m__law_turned) (aCons (eVar 4) (aCons (eCa (Cm.f .P m__law_draw) (aCons (eVar 0) (aCons (eK (.int 5)) (aCons (eK (.int 200)) (aNil))))) (aNil))))) (sSeal n (t_law_10))
def t_law_8 (n : Nat) : SS := sSeq (sIf (cAnd (toB (eVar 5)) (cAnd (toB (eOp oGt (eCa bLen (aCons (eVar 4) (aNil))) (eK (.int 0)))) (toB (eOp oEq (eCa (Cm.f .P m__law_draw) (aCons (eVar 0) (aCons (eK (.int 4)) (aCons (eK (.int 3)) (aNil))))) (eK (.int 0)))))) (sSeq (sSet 8 (eCa (Cm.f .P m__law_draw) (aCons (eVar 0) (aCons (eK (.int 5)) (aCons (eCa bLen (aCons (eVar 4) (aNil))) (aNil)))))) (sSeq (sAsg (eOp oIx (eVar 4) (eVar 8)) (gT 4 (gsCons (gN 9) (gsCons (gN 10) (gsCons (gN 11) (gsCons (gN 12) (gsNil))))))) (sSeq (sSetIx (eTup (aCons (eVar 9) (aCons (eVar 10) (aCons (eCa bMin2 (aCons (eVar 11) (aCons (eCa bMax2 (aCons (eK (.int 0)) (aCons (eOp oSub (eVar 12) (eK (.int 1))) (aNil)))) (aNil)))) (aCons (eCa bMax2 (aCons (eK (.int 0)) (aCons (eOp oSub (eVar 12) (eK (.int 1))) (aNil)))) (aNil)))))) (eVar 4) (eVar 8)) (sSet 5 (eK (.bl false)))))) (sNext)) (t_law_9 n)
def t_law_7 (n : Nat) : SS := sSeq (sIf (cAnd (toB (eOp oGt (eVar 1) (eK (.int 1)))) (toB (eVar 5))) (sSet 4 (eCa (callC (gcS m__law_round_arcs)) (aCons (eVar 0) (aCons (eVar 1) (aCons (eVar 2) (aCons (eVar 3) (aNil))))))) (sIf (toB (eOp oGt (eVar 1) (eK (.int 1)))) (sSet 4 (eCa (callC (gcS m__law_any_arcs)) (aCons (eVar 0) (aCons (eVar 1) (aCons (eVar 2) (aCons (eVar 3) (aNil))))))) (sNext))) (t_law_8 n)
def t_law_4 : SS := sBlk (fun n => sSeq (sSet 4 (eC (lLst (aNil)))) (sSeq (sSet 5 (eOp oEq (eCa (Cm.f .P m__law_draw) (aCons (eVar 0) (aCons (eK (.int 3)) (aCons (eK (.int 2)) (aNil))))) (eK (.int 0)))) (sSeq (sIf (toB (eOp oEq (eOp oFdiv (eCa (Cm.f .P m__law_draw) (aCons (eVar 0) (aCons (eK (.int 1)) (aCons (eK (.int 640)) (aNil))))) (eK (.int 40))) (eK (.int 11)))) (sSeq (sSet 1 (eK (.int 120))) (sSeq (sSet 2 (eK (.int 290))) (sSet 5 (eK (.bl true))))) (sNext)) (t_law_7 n))))
def b_law : SS := sSeq (sSet 1 (eOp oAdd (eK (.int 1)) (eCa (Cm.f .P m__law_draw) (aCons (eVar 0) (aCons (eK (.int 0)) (aCons (eK (.int 8)) (aNil))))))) (sSeq (sIf (toB (eOp oEq (eOp oFdiv (eCa (Cm.f .P m__law_draw) (aCons (eVar 0) (aCons (eK (.int 0)) (aCons (eK (.int 64)) (aNil))))) (eK (.int 8))) (eK (.int 5)))) (sSet 1 (eK (.int 30))) (sNext)) (sSeq (sSet 2 (eCa bMin2 (aCons (eK (.int 80)) (aCons (eCa bMax3 (aCons (eK (.int 6)) (aCons (eOp oFdiv (eOp oSub (eCa bLen (aCons (eVar 0) (aNil))) (eK (.int 6))) (eK (.int 3))) (aCons (eCa (Cm.f .P m__law_draw) (aCons (eVar 0) (aCons (eK (.int 1)) (aCons (eK (.int 40)) (aNil))))) (aNil))))) (aNil))))) (sSeq (sSet 3 (eOp oIx (eV (lLst (aCons (eK (.int 1)) (aCons (eK (.int 1)) (aCons (eOp oPow (eK (.int 10)) (eK (.int 57))) (aNil)))))) (eCa (Cm.f .P m__law_draw) (aCons (eVar 0) (aCons (eK (.int 2)) (aCons (eK (.int 3)) (aNil))))))) (t_law_4))))
def m_law : List D → Hv → R D := fnS 1 12 b_law
end
structure Tx (K : PySem.W.Frag) (mg : Str → Option Value) : Prop where
  d_asked_net : ∃ fd, Fun K "asked_net" "asked_net" s_asked_net (He.ga K "asked_net") fd
  g_asked_net : mg "asked_net" = some (.ref (He.ga K "asked_net"))
  d_gains_of_nodes : ∃ fd, Fun K "gains_of_nodes" "gains_of_nodes" s_gains_of_nodes (He.ga K "gains_of_nodes") fd
  g_gains_of_nodes : mg "gains_of_nodes" = some (.ref (He.ga K "gains_of_nodes"))
  d_arcs_beside : ∃ fd, Fun K "arcs_beside" "arcs_beside" s_arcs_beside (He.ga K "arcs_beside") fd
  g_arcs_beside : mg "arcs_beside" = some (.ref (He.ga K "arcs_beside"))
  d_reached_nodes : ∃ fd, Fun K "reached_nodes" "reached_nodes" s_reached_nodes (He.ga K "reached_nodes") fd
  g_reached_nodes : mg "reached_nodes" = some (.ref (He.ga K "reached_nodes"))
  d_road_to : ∃ fd, Fun K "road_to" "road_to" s_road_to (He.ga K "road_to") fd
  g_road_to : mg "road_to" = some (.ref (He.ga K "road_to"))
  d_room_on_road : ∃ fd, Fun K "room_on_road" "room_on_road" s_room_on_road (He.ga K "room_on_road") fd
  g_room_on_road : mg "room_on_road" = some (.ref (He.ga K "room_on_road"))
  d_send_along : ∃ fd, Fun K "send_along" "send_along" s_send_along (He.ga K "send_along") fd
  g_send_along : mg "send_along" = some (.ref (He.ga K "send_along"))
  d_flow_of : ∃ fd, Fun K "flow_of" "flow_of" s_flow_of (He.ga K "flow_of") fd
  g_flow_of : mg "flow_of" = some (.ref (He.ga K "flow_of"))
  d__law_draw : ∃ fd, Fun K "_law_draw" "_law_draw" s__law_draw (He.ga K "_law_draw") fd
  g__law_draw : mg "_law_draw" = some (.ref (He.ga K "_law_draw"))
  d__law_any_arcs : ∃ fd, Fun K "_law_any_arcs" "_law_any_arcs" s__law_any_arcs (He.ga K "_law_any_arcs") fd
  g__law_any_arcs : mg "_law_any_arcs" = some (.ref (He.ga K "_law_any_arcs"))
  d__law_round_arcs : ∃ fd, Fun K "_law_round_arcs" "_law_round_arcs" s__law_round_arcs (He.ga K "_law_round_arcs") fd
  g__law_round_arcs : mg "_law_round_arcs" = some (.ref (He.ga K "_law_round_arcs"))
  d__law_turned : ∃ fd, Fun K "_law_turned" "_law_turned" s__law_turned (He.ga K "_law_turned") fd
  g__law_turned : mg "_law_turned" = some (.ref (He.ga K "_law_turned"))
  d__law_wholes : ∃ fd, Fun K "_law_wholes" "_law_wholes" s__law_wholes (He.ga K "_law_wholes") fd
  g__law_wholes : mg "_law_wholes" = some (.ref (He.ga K "_law_wholes"))
  d__law_is_flow : ∃ fd, Fun K "_law_is_flow" "_law_is_flow" s__law_is_flow (He.ga K "_law_is_flow") fd
  g__law_is_flow : mg "_law_is_flow" = some (.ref (He.ga K "_law_is_flow"))
  d__law_is_cut : ∃ fd, Fun K "_law_is_cut" "_law_is_cut" s__law_is_cut (He.ga K "_law_is_cut") fd
  g__law_is_cut : mg "_law_is_cut" = some (.ref (He.ga K "_law_is_cut"))
  d__law_right : ∃ fd, Fun K "_law_right" "_law_right" s__law_right (He.ga K "_law_right") fd
  g__law_right : mg "_law_right" = some (.ref (He.ga K "_law_right"))
  d_law : ∃ fd, Fun K "law" "law" s_law (He.ga K "law") fd
  g_law : mg "law" = some (.ref (He.ga K "law"))
  n_len : mg "len" = none
  n_min : mg "min" = none
  n_max : mg "max" = none
  n_range : mg "range" = none
  n_zip : mg "zip" = none
  n_list : mg "list" = none
  n_sorted : mg "sorted" = none
  n_isinstance : mg "isinstance" = none
  n_all : mg "all" = none
  n_int : mg "int" = none
  n_bool : mg "bool" = none
  n_set : mg "set" = none
  n_sum : mg "sum" = none
  n_tuple : mg "tuple" = none
  c_MOST_NODES : ∃ t, mg "MOST_NODES" = some (.int 120 t)
  c_MOST_ARCS : ∃ t, mg "MOST_ARCS" = some (.int 300 t)
  e_NoNet : ExcT K mg "NoNet" (He.ga K "NoNet")
section
variable {P : Program} {w : World} {K : PySem.W.Frag} {mg : Str → Option Value} {base : Heap}
theorem ok_asked_net (T : Tx K mg) : OkF P w K mg base 1 "asked_net" ["many", "arcs"] m_asked_net := by
  obtain ⟨fd, F⟩ := T.d_asked_net
  refine okF_mk F sc_asked_net rfl rfl T.g_asked_net (F.binds (ps := ["many", "arcs"]) fun _ _ _ _ _ _ us hl => match us, hl with | [_, _], _ => rfl) fun cdv A outer s H E hr => ?_
  have hu := Nat.lt_of_le_of_lt (Nat.add_le_add_left (show 1 ≤ 64 by decide) _) hr.units
  have tk := takes_fn (P := P) (w := w) (K := K) (mg := mg) (base := base) (N := N_asked_net) (qual := "asked_net") (scope := defScope s_asked_net) (f := (He.ga K "asked_net")) (cd := cdv) (A := A) (outer := outer) (s := s) (H := H) (E := E)
  have hp := passes_fn (P := P) (w := w) (K := K) (mg := mg) (base := base) (N := N_asked_net) (qual := "asked_net") (scope := defScope s_asked_net) (f := (He.ga K "asked_net")) (cd := cdv) (A := A) (outer := outer) (s := s) (H := H) (E := E)
  exact qb_cons (qs_if (st_w (sw_or (st_cmp (op_ltA) os_lt (se_var (i := 0)) (se_int) (nomark _)) (sw_or (st_cmp (op_gtA) os_gt (se_var (i := 0)) ((by obtain ⟨t, ht⟩ := T.c_MOST_NODES; exact se_globI ht)) (nomark _)) (sw_or1 (st_cmp (op_gtA) os_gt (se_callB call_len cs_len (T.n_len) (by decide +kernel) (sa_cons (se_var (i := 1)) (sa_nil))) ((by obtain ⟨t, ht⟩ := T.c_MOST_ARCS; exact se_globI ht)) (nomark _)))))) (qb_one (qs_raise T.e_NoNet tk)) (qb_nil)) (qb_cons (qs_for hp (qi_list (se_var (i := 1))) (qg_tup (qgs_cons (qg_name sc_asked_net.nd) (qgs_cons (qg_name sc_asked_net.nd) (qgs_cons (qg_name sc_asked_net.nd) (qgs_cons (qg_name sc_asked_net.nd) (qgs_nil)))))) (qb_cons (qs_if (st_w (sw_or (st_cmp (op_ltA) os_lt (se_callB (call_min2 rfl) cs_min2 (T.n_min) (by decide +kernel) (sa_cons (se_var (i := 2)) (sa_cons (se_var (i := 3)) (sa_nil)))) (se_int) (nomark _)) (sw_or (st_cmp (op_ge) os_ge (se_callB (call_max2 rfl) cs_max2 (T.n_max) (by decide +kernel) (sa_cons (se_var (i := 2)) (sa_cons (se_var (i := 3)) (sa_nil)))) (se_var (i := 0)) (nomark _)) (sw_or1 (st_cmp (op_eqP hr.units) os_eq (se_var (i := 2)) (se_var (i := 3)) (nomark _)))))) (qb_one (qs_raise T.e_NoNet tk)) (qb_nil)) (qb_one (qs_if (st_w (sw_or (st_cmp (op_ltA) os_lt (se_var (i := 4)) (se_int) (nomark _)) (sw_or1 (st_cmp (op_gtA) os_gt (se_var (i := 4)) (se_var (i := 5)) (nomark _))))) (qb_one (qs_raise T.e_NoNet tk)) (qb_nil))))) (qb_one (qs_ret (se_bl))))
theorem ok_gains_of_nodes (T : Tx K mg) : OkF P w K mg base 1 "gains_of_nodes" ["many", "arcs", "flow"] m_gains_of_nodes := by
  obtain ⟨fd, F⟩ := T.d_gains_of_nodes
  refine okF_mk F sc_gains_of_nodes rfl rfl T.g_gains_of_nodes (F.binds (ps := ["many", "arcs", "flow"]) fun _ _ _ _ _ _ us hl => match us, hl with | [_, _, _], _ => rfl) fun cdv A outer s H E hr => ?_
  have hu := Nat.lt_of_le_of_lt (Nat.add_le_add_left (show 1 ≤ 64 by decide) _) hr.units
  have tk := takes_fn (P := P) (w := w) (K := K) (mg := mg) (base := base) (N := N_gains_of_nodes) (qual := "gains_of_nodes") (scope := defScope s_gains_of_nodes) (f := (He.ga K "gains_of_nodes")) (cd := cdv) (A := A) (outer := outer) (s := s) (H := H) (E := E)
  have hp := passes_fn (P := P) (w := w) (K := K) (mg := mg) (base := base) (N := N_gains_of_nodes) (qual := "gains_of_nodes") (scope := defScope s_gains_of_nodes) (f := (He.ga K "gains_of_nodes")) (cd := cdv) (A := A) (outer := outer) (s := s) (H := H) (E := E)
  exact qb_cons (qs_setLc (own := [("node", 6)]) (i := 3) (hf := sn_C) sc_gains_of_nodes.nd (sw_true rfl rfl rfl (by decide +kernel)) (qi_range1 T.n_range (sa_cons (se_var (i := 0)) (sa_nil))) (blkOk_by (N := N_gains_of_nodes) (sc := defScope s_gains_of_nodes) (by decide +kernel)) (fun _ _ _ _ _ => qg_name sc_gains_of_nodes.nd) (by decide) (fun _ _ _ _ _ => scs_nil) (fun _ _ _ _ _ => se_int)) (qb_cons (qs_for hp (qi_zipG T.n_zip (sa_cons (se_var (i := 1)) (sa_cons (se_var (i := 2)) (sa_nil)))) (qg_tup (qgs_cons (qg_name sc_gains_of_nodes.nd) (qgs_cons (qg_name sc_gains_of_nodes.nd) (qgs_nil)))) (qb_cons (qs_setIx (htk := tk) (se_op op_sub os_sub (se_ix (se_var (i := 3)) (se_ix (se_var (i := 4)) (se_int))) (se_var (i := 5))) (se_var (i := 3)) (se_ix (se_var (i := 4)) (se_int))) (qb_one (qs_setIx (htk := tk) (se_op op_addA os_add (se_ix (se_var (i := 3)) (se_ix (se_var (i := 4)) (se_int))) (se_var (i := 5))) (se_var (i := 3)) (se_ix (se_var (i := 4)) (se_int)))))) (qb_one (qs_ret (se_var (i := 3)))))
theorem ok_arcs_beside (T : Tx K mg) : OkF P w K mg base 1 "arcs_beside" ["many", "arcs"] m_arcs_beside := by
  obtain ⟨fd, F⟩ := T.d_arcs_beside
  refine okF_mk F sc_arcs_beside rfl rfl T.g_arcs_beside (F.binds (ps := ["many", "arcs"]) fun _ _ _ _ _ _ us hl => match us, hl with | [_, _], _ => rfl) fun cdv A outer s H E hr => ?_
  have hu := Nat.lt_of_le_of_lt (Nat.add_le_add_left (show 1 ≤ 64 by decide) _) hr.units
  have tk := takes_fn (P := P) (w := w) (K := K) (mg := mg) (base := base) (N := N_arcs_beside) (qual := "arcs_beside") (scope := defScope s_arcs_beside) (f := (He.ga K "arcs_beside")) (cd := cdv) (A := A) (outer := outer) (s := s) (H := H) (E := E)
  have hp := passes_fn (P := P) (w := w) (K := K) (mg := mg) (base := base) (N := N_arcs_beside) (qual := "arcs_beside") (scope := defScope s_arcs_beside) (f := (He.ga K "arcs_beside")) (cd := cdv) (A := A) (outer := outer) (s := s) (H := H) (E := E)
  exact qb_cons (qs_setLc (own := [("node", 4)]) (i := 2) (hf := sn_V) sc_arcs_beside.nd (sw_true rfl rfl rfl (by decide +kernel)) (qi_range1 T.n_range (sa_cons (se_var (i := 0)) (sa_nil))) (blkOk_by (N := N_arcs_beside) (sc := defScope s_arcs_beside) (by decide +kernel)) (fun _ _ _ _ _ => qg_name sc_arcs_beside.nd) (by decide) (fun _ _ _ _ _ => scs_nil) (fun _ _ _ _ _ => se_C (sl_lst (sa_nil)))) (qb_cons (qs_for hp (qi_range1 T.n_range (sa_cons (se_callB call_len cs_len (T.n_len) (by decide +kernel) (sa_cons (se_var (i := 1)) (sa_nil))) (sa_nil))) (qg_name sc_arcs_beside.nd) (qb_cons (qs_expr (se_bm PySem.F.slot_list_append PySem.F.type_list_append mt_append ms_append (se_ix (se_var (i := 2)) (se_ix (se_ix (se_var (i := 1)) (se_var (i := 3))) (se_int))) (sa_cons (se_var (i := 3)) (sa_nil)))) (qb_one (qs_expr (se_bm PySem.F.slot_list_append PySem.F.type_list_append mt_append ms_append (se_ix (se_var (i := 2)) (se_ix (se_ix (se_var (i := 1)) (se_var (i := 3))) (se_int))) (sa_cons (se_var (i := 3)) (sa_nil))))))) (qb_one (qs_ret (se_var (i := 2)))))
theorem ok_reached_nodes (T : Tx K mg) : OkF P w K mg base 1 "reached_nodes" ["beside", "arcs", "flow", "begins", "but"] m_reached_nodes := by
  obtain ⟨fd, F⟩ := T.d_reached_nodes
  refine okF_mk F sc_reached_nodes rfl rfl T.g_reached_nodes (F.binds (ps := ["beside", "arcs", "flow", "begins", "but"]) fun _ _ _ _ _ _ us hl => match us, hl with | [_, _, _, _, _], _ => rfl) fun cdv A outer s H E hr => ?_
  have hu := Nat.lt_of_le_of_lt (Nat.add_le_add_left (show 1 ≤ 64 by decide) _) hr.units
  have tk := takes_fn (P := P) (w := w) (K := K) (mg := mg) (base := base) (N := N_reached_nodes) (qual := "reached_nodes") (scope := defScope s_reached_nodes) (f := (He.ga K "reached_nodes")) (cd := cdv) (A := A) (outer := outer) (s := s) (H := H) (E := E)
  have hp := passes_fn (P := P) (w := w) (K := K) (mg := mg) (base := base) (N := N_reached_nodes) (qual := "reached_nodes") (scope := defScope s_reached_nodes) (f := (He.ga K "reached_nodes")) (cd := cdv) (A := A) (outer := outer) (s := s) (H := H) (E := E)
  exact qb_cons (qs_set (i := 5) sc_reached_nodes.nd (se_dnew)) (qb_cons (qs_for hp (qi_list (se_var (i := 3))) (qg_name sc_reached_nodes.nd) (qb_one (qs_dput hu (se_non) (se_var (i := 5)) (se_var (i := 6))))) (qb_cons (qs_set (i := 7) sc_reached_nodes.nd (se_C (sl_callT call_list_of cl_list (T.n_list) (by decide +kernel) (sa_cons (se_var (i := 3)) (sa_nil))))) (qb_cons (qs_set (i := 8) sc_reached_nodes.nd (se_int)) (qb_cons (qs_loop hp (st_cmp (op_ltA) os_lt (se_var (i := 8)) (se_callB call_len cs_len (T.n_len) (by decide +kernel) (sa_cons (se_var (i := 7)) (sa_nil))) (nomark _)) (qb_cons (qs_set (i := 6) sc_reached_nodes.nd (se_ix (se_var (i := 7)) (se_var (i := 8)))) (qb_cons (qs_for hp (qi_list (se_ix (se_var (i := 0)) (se_var (i := 6)))) (qg_name sc_reached_nodes.nd) (qb_cons (qs_asg (se_ix (se_var (i := 1)) (se_var (i := 9))) (qg_tup (qgs_cons (qg_name sc_reached_nodes.nd) (qgs_cons (qg_name sc_reached_nodes.nd) (qgs_cons (qg_name sc_reached_nodes.nd) (qgs_cons (qg_name sc_reached_nodes.nd) (qgs_nil))))))) (qb_cons (qs_if (st_w (sw_and (st_cmp (op_neP hr.units) os_ne (se_var (i := 9)) (se_var (i := 4)) (nomark _)) (sw_and (st_cmp (op_eqP hr.units) os_eq (se_var (i := 10)) (se_var (i := 6)) (nomark _)) (sw_and (st_cmp (op_ltA) os_lt (se_ix (se_var (i := 2)) (se_var (i := 9))) (se_var (i := 13)) (nomark _)) (sw_and1 (st_dnin hu (se_var (i := 11)) (se_var (i := 5)))))))) (qb_cons (qs_dput hu (se_tup (sa_cons (se_var (i := 6)) (sa_cons (se_var (i := 9)) (sa_nil)))) (se_var (i := 5)) (se_var (i := 11))) (qb_one (qs_expr (se_bm PySem.F.slot_list_append PySem.F.type_list_append mt_append ms_append (se_var (i := 7)) (sa_cons (se_var (i := 11)) (sa_nil)))))) (qb_nil)) (qb_one (qs_if (st_w (sw_and (st_cmp (op_neP hr.units) os_ne (se_var (i := 9)) (se_var (i := 4)) (nomark _)) (sw_and (st_cmp (op_eqP hr.units) os_eq (se_var (i := 11)) (se_var (i := 6)) (nomark _)) (sw_and (st_cmp (op_gtA) os_gt (se_ix (se_var (i := 2)) (se_var (i := 9))) (se_var (i := 12)) (nomark _)) (sw_and1 (st_dnin hu (se_var (i := 10)) (se_var (i := 5)))))))) (qb_cons (qs_dput hu (se_tup (sa_cons (se_var (i := 6)) (sa_cons (se_var (i := 9)) (sa_nil)))) (se_var (i := 5)) (se_var (i := 10))) (qb_one (qs_expr (se_bm PySem.F.slot_list_append PySem.F.type_list_append mt_append ms_append (se_var (i := 7)) (sa_cons (se_var (i := 10)) (sa_nil)))))) (qb_nil)))))) (qb_one (qs_set (i := 8) sc_reached_nodes.nd (se_op op_addA os_add (se_var (i := 8)) (se_int))))))) (qb_one (qs_ret (se_lock (se_var (i := 5)))))))))
theorem ok_road_to (T : Tx K mg) : OkF P w K mg base 1 "road_to" ["came", "node"] m_road_to := by
  obtain ⟨fd, F⟩ := T.d_road_to
  refine okF_mk F sc_road_to rfl rfl T.g_road_to (F.binds (ps := ["came", "node"]) fun _ _ _ _ _ _ us hl => match us, hl with | [_, _], _ => rfl) fun cdv A outer s H E hr => ?_
  have hu := Nat.lt_of_le_of_lt (Nat.add_le_add_left (show 1 ≤ 64 by decide) _) hr.units
  have tk := takes_fn (P := P) (w := w) (K := K) (mg := mg) (base := base) (N := N_road_to) (qual := "road_to") (scope := defScope s_road_to) (f := (He.ga K "road_to")) (cd := cdv) (A := A) (outer := outer) (s := s) (H := H) (E := E)
  have hp := passes_fn (P := P) (w := w) (K := K) (mg := mg) (base := base) (N := N_road_to) (qual := "road_to") (scope := defScope s_road_to) (f := (He.ga K "road_to")) (cd := cdv) (A := A) (outer := outer) (s := s) (H := H) (E := E)
  exact qb_cons (qs_set (i := 2) sc_road_to.nd (se_C (sl_lst (sa_nil)))) (qb_cons (qs_loop hp (st_cmp (op_notA) os_isNot (se_dget hu (se_var (i := 0)) (se_var (i := 1))) (se_non) (nomark _)) (qb_cons (qs_expr (se_bm PySem.F.slot_list_append PySem.F.type_list_append mt_append ms_append (se_var (i := 2)) (sa_cons (se_dget hu (se_var (i := 0)) (se_var (i := 1))) (sa_nil)))) (qb_one (qs_set (i := 1) sc_road_to.nd (se_ix (se_dget hu (se_var (i := 0)) (se_var (i := 1))) (se_int)))))) (qb_one (qs_ret (se_var (i := 2)))))
theorem ok_room_on_road (T : Tx K mg) : OkF P w K mg base 1 "room_on_road" ["arcs", "flow", "road"] m_room_on_road := by
  obtain ⟨fd, F⟩ := T.d_room_on_road
  refine okF_mk F sc_room_on_road rfl rfl T.g_room_on_road (F.binds (ps := ["arcs", "flow", "road"]) fun _ _ _ _ _ _ us hl => match us, hl with | [_, _, _], _ => rfl) fun cdv A outer s H E hr => ?_
  have hu := Nat.lt_of_le_of_lt (Nat.add_le_add_left (show 1 ≤ 64 by decide) _) hr.units
  have tk := takes_fn (P := P) (w := w) (K := K) (mg := mg) (base := base) (N := N_room_on_road) (qual := "room_on_road") (scope := defScope s_room_on_road) (f := (He.ga K "room_on_road")) (cd := cdv) (A := A) (outer := outer) (s := s) (H := H) (E := E)
  have hp := passes_fn (P := P) (w := w) (K := K) (mg := mg) (base := base) (N := N_room_on_road) (qual := "room_on_road") (scope := defScope s_room_on_road) (f := (He.ga K "room_on_road")) (cd := cdv) (A := A) (outer := outer) (s := s) (H := H) (E := E)
  exact qb_cons (qs_set (i := 3) sc_room_on_road.nd (se_C (sl_lst (sa_nil)))) (qb_cons (qs_for hp (qi_list (se_var (i := 2))) (qg_tup (qgs_cons (qg_name sc_room_on_road.nd) (qgs_cons (qg_name sc_room_on_road.nd) (qgs_nil)))) (qb_one (qs_if (st_cmp (op_eqP hr.units) os_eq (se_ix (se_ix (se_var (i := 0)) (se_var (i := 5))) (se_int)) (se_var (i := 4)) (nomark _)) (qb_one (qs_expr (se_bm PySem.F.slot_list_append PySem.F.type_list_append mt_append ms_append (se_var (i := 3)) (sa_cons (se_op op_sub os_sub (se_ix (se_ix (se_var (i := 0)) (se_var (i := 5))) (se_int)) (se_ix (se_var (i := 1)) (se_var (i := 5)))) (sa_nil))))) (qb_one (qs_expr (se_bm PySem.F.slot_list_append PySem.F.type_list_append mt_append ms_append (se_var (i := 3)) (sa_cons (se_op op_sub os_sub (se_ix (se_var (i := 1)) (se_var (i := 5))) (se_ix (se_ix (se_var (i := 0)) (se_var (i := 5))) (se_int))) (sa_nil)))))))) (qb_one (qs_ret (se_callB (cr_min rfl) cs_min (T.n_min) (by decide +kernel) (sa_cons (se_var (i := 3)) (sa_nil))))))
theorem ok_send_along (T : Tx K mg) : OkF P w K mg base 1 "send_along" ["arcs", "flow", "road", "amount"] m_send_along := by
  obtain ⟨fd, F⟩ := T.d_send_along
  refine okF_mk F sc_send_along rfl rfl T.g_send_along (F.binds (ps := ["arcs", "flow", "road", "amount"]) fun _ _ _ _ _ _ us hl => match us, hl with | [_, _, _, _], _ => rfl) fun cdv A outer s H E hr => ?_
  have hu := Nat.lt_of_le_of_lt (Nat.add_le_add_left (show 1 ≤ 64 by decide) _) hr.units
  have tk := takes_fn (P := P) (w := w) (K := K) (mg := mg) (base := base) (N := N_send_along) (qual := "send_along") (scope := defScope s_send_along) (f := (He.ga K "send_along")) (cd := cdv) (A := A) (outer := outer) (s := s) (H := H) (E := E)
  have hp := passes_fn (P := P) (w := w) (K := K) (mg := mg) (base := base) (N := N_send_along) (qual := "send_along") (scope := defScope s_send_along) (f := (He.ga K "send_along")) (cd := cdv) (A := A) (outer := outer) (s := s) (H := H) (E := E)
  exact qb_one (qs_for hp (qi_list (se_var (i := 2))) (qg_tup (qgs_cons (qg_name sc_send_along.nd) (qgs_cons (qg_name sc_send_along.nd) (qgs_nil)))) (qb_one (qs_if (st_cmp (op_eqP hr.units) os_eq (se_ix (se_ix (se_var (i := 0)) (se_var (i := 5))) (se_int)) (se_var (i := 4)) (nomark _)) (qb_one (qs_setIx (htk := tk) (se_op op_addA os_add (se_ix (se_var (i := 1)) (se_var (i := 5))) (se_var (i := 3))) (se_var (i := 1)) (se_var (i := 5)))) (qb_one (qs_setIx (htk := tk) (se_op op_sub os_sub (se_ix (se_var (i := 1)) (se_var (i := 5))) (se_var (i := 3))) (se_var (i := 1)) (se_var (i := 5)))))))
theorem ok_flow_of (T : Tx K mg) : OkF P w K mg base 2 "flow_of" ["many", "arcs"] m_flow_of := by
  obtain ⟨fd, F⟩ := T.d_flow_of
  refine okU_mk F sc_flow_of rfl rfl T.g_flow_of (F.binds (ps := ["many", "arcs"]) fun _ _ _ _ _ _ us hl => match us, hl with | [_, _], _ => rfl) fun cdv A outer s H E hr => ?_
  have hu := Nat.lt_of_le_of_lt (Nat.add_le_add_left (show 1 ≤ 64 by decide) _) hr.units
  have tk := takes_fn (P := P) (w := w) (K := K) (mg := mg) (base := base) (N := N_flow_of) (qual := "flow_of") (scope := defScope s_flow_of) (f := (He.ga K "flow_of")) (cd := cdv) (A := A) (outer := outer) (s := s) (H := H) (E := E)
  have hp := passes_fn (P := P) (w := w) (K := K) (mg := mg) (base := base) (N := N_flow_of) (qual := "flow_of") (scope := defScope s_flow_of) (f := (He.ga K "flow_of")) (cd := cdv) (A := A) (outer := outer) (s := s) (H := H) (E := E)
  exact qb_cons (qs_expr (se_fn .P (ok_asked_net T) hr tk (sa_cons (se_var (i := 0)) (sa_cons (se_var (i := 1)) (sa_nil))))) (qb_cons (qs_set (i := 2) sc_flow_of.nd (se_fn .P (ok_arcs_beside T) hr tk (sa_cons (se_var (i := 0)) (sa_cons (se_var (i := 1)) (sa_nil))))) (qb_cons (qs_setLc (own := [("arc", 10)]) (i := 3) (hf := sn_C) sc_flow_of.nd (sw_true rfl rfl rfl (by decide +kernel)) (qi_list (se_var (i := 1))) (blkOk_by (N := N_flow_of) (sc := defScope s_flow_of) (by decide +kernel)) (fun _ _ _ _ _ => qg_name sc_flow_of.nd) (by decide) (fun _ _ _ _ _ => scs_nil) (fun _ _ _ _ _ => se_ix (se_var (i := 10)) (se_int))) (qb_cons (qs_set (i := 4) sc_flow_of.nd (se_fn .M (ok_gains_of_nodes T) hr tk (sa_cons (se_var (i := 0)) (sa_cons (se_var (i := 1)) (sa_cons (se_var (i := 3)) (sa_nil)))))) (qb_cons (qs_loop hp (st_cmp (op_gtA) os_gt (se_callB (cr_max rfl) cs_max (T.n_max) (by decide +kernel) (sa_cons (se_var (i := 4)) (sa_nil))) (se_int) (nomark _)) (qb_cons (qs_setLc (own := [("node", 11)]) (i := 5) (hf := sn_V) sc_flow_of.nd (sw_true rfl rfl rfl (by decide +kernel)) (qi_range1 T.n_range (sa_cons (se_var (i := 0)) (sa_nil))) (blkOk_by (N := N_flow_of) (sc := defScope s_flow_of) (by decide +kernel)) (fun _ _ _ _ _ => qg_name sc_flow_of.nd) (by decide) (fun _ _ _ _ _ => scs_one (st_cmp (op_gtA) os_gt (se_ix (se_var (i := 4)) (se_var (i := 11))) (se_int) (nomark _))) (fun _ _ _ _ _ => se_var (i := 11))) (qb_cons (qs_set (i := 6) sc_flow_of.nd (se_fn .M (ok_reached_nodes T) hr tk (sa_cons (se_var (i := 2)) (sa_cons (se_var (i := 1)) (sa_cons (se_var (i := 3)) (sa_cons (se_var (i := 5)) (sa_cons (se_non) (sa_nil)))))))) (qb_cons (qs_setLc (own := [("node", 11)]) (i := 7) (hf := sn_V) sc_flow_of.nd (sw_true rfl rfl rfl (by decide +kernel)) (qi_dict (se_var (i := 6))) (blkOk_by (N := N_flow_of) (sc := defScope s_flow_of) (by decide +kernel)) (fun _ _ _ _ _ => qg_name sc_flow_of.nd) (by decide) (fun _ _ _ _ _ => scs_one (st_cmp (op_ltA) os_lt (se_ix (se_var (i := 4)) (se_var (i := 11))) (se_int) (nomark _))) (fun _ _ _ _ _ => se_var (i := 11))) (qb_cons (qs_if (st_cmp (op_eqP hr.units) os_eq (se_callB call_len cs_len (T.n_len) (by decide +kernel) (sa_cons (se_var (i := 7)) (sa_nil))) (se_int) (nomark _)) (qb_one (qs_ret (se_tup (sa_cons (se_str) (sa_cons (se_C (sl_callB (cr_sortDG' rfl) cl_sortDG (T.n_sorted) (by decide +kernel) (sa_cons (se_var (i := 6)) (sa_nil)))) (sa_nil)))))) (qb_nil)) (qb_cons (qs_set (i := 8) sc_flow_of.nd (se_fn .P (ok_road_to T) hr tk (sa_cons (se_var (i := 6)) (sa_cons (se_ix (se_var (i := 7)) (se_int)) (sa_nil))))) (qb_cons (qs_set (i := 9) sc_flow_of.nd (se_ix (se_ix (se_var (i := 8)) (se_un un_neg us_neg (se_int))) (se_int))) (qb_cons (qs_expr (se_fn .M (ok_send_along T) hr tk (sa_cons (se_var (i := 1)) (sa_cons (se_var (i := 3)) (sa_cons (se_var (i := 8)) (sa_cons (se_callB (call_min3Nu rfl) cs_min3 (T.n_min) (by decide +kernel) (sa_cons (se_fn .B (ok_room_on_road T) hr tk (sa_cons (se_var (i := 1)) (sa_cons (se_var (i := 3)) (sa_cons (se_var (i := 8)) (sa_nil))))) (sa_cons (se_ix (se_var (i := 4)) (se_var (i := 9))) (sa_cons (se_un un_neg us_neg (se_ix (se_var (i := 4)) (se_ix (se_var (i := 7)) (se_int)))) (sa_nil))))) (sa_nil))))))) (qb_one (qs_set (i := 4) sc_flow_of.nd (se_fn .M (ok_gains_of_nodes T) hr tk (sa_cons (se_var (i := 0)) (sa_cons (se_var (i := 1)) (sa_cons (se_var (i := 3)) (sa_nil))))))))))))))) (qb_one (qs_ret (se_tup (sa_cons (se_str) (sa_cons (se_var (i := 3)) (sa_nil))))))))))
theorem ok__law_draw (T : Tx K mg) : OkF P w K mg base 1 "_law_draw" ["_law_script", "_law_k", "_law_many"] m__law_draw := by
  obtain ⟨fd, F⟩ := T.d__law_draw
  refine okF_mk F sc__law_draw rfl rfl T.g__law_draw (F.binds (ps := ["_law_script", "_law_k", "_law_many"]) fun _ _ _ _ _ _ us hl => match us, hl with | [_, _, _], _ => rfl) fun cdv A outer s H E hr => ?_
  have hu := Nat.lt_of_le_of_lt (Nat.add_le_add_left (show 1 ≤ 64 by decide) _) hr.units
  have tk := takes_fn (P := P) (w := w) (K := K) (mg := mg) (base := base) (N := N__law_draw) (qual := "_law_draw") (scope := defScope s__law_draw) (f := (He.ga K "_law_draw")) (cd := cdv) (A := A) (outer := outer) (s := s) (H := H) (E := E)
  have hp := passes_fn (P := P) (w := w) (K := K) (mg := mg) (base := base) (N := N__law_draw) (qual := "_law_draw") (scope := defScope s__law_draw) (f := (He.ga K "_law_draw")) (cd := cdv) (A := A) (outer := outer) (s := s) (H := H) (E := E)
  exact qb_cons (qs_if (st_cmp (op_ltA) os_lt (se_var (i := 1)) (se_callB call_len cs_len (T.n_len) (by decide +kernel) (sa_cons (se_var (i := 0)) (sa_nil))) (nomark _)) (qb_one (qs_ret (se_op op_mod os_mod (se_ix (se_var (i := 0)) (se_var (i := 1))) (se_var (i := 2))))) (qb_nil)) (qb_cons (qs_set (i := 3) sc__law_draw.nd (se_op op_addA os_add (se_op op_mulW os_mul (se_var (i := 1)) (se_var (i := 1))) (se_int))) (qb_cons (qs_if (st_cmp (op_gtA) os_gt (se_callB call_len cs_len (T.n_len) (by decide +kernel) (sa_cons (se_var (i := 0)) (sa_nil))) (se_int) (nomark _)) (qb_one (qs_set (i := 3) sc__law_draw.nd (se_op op_addA os_add (se_var (i := 3)) (se_op op_mod os_mod (se_ix (se_var (i := 0)) (se_op op_mod os_mod (se_var (i := 1)) (se_callB call_len cs_len (T.n_len) (by decide +kernel) (sa_cons (se_var (i := 0)) (sa_nil))))) (se_int))))) (qb_nil)) (qb_one (qs_ret (se_op op_mod os_mod (se_op op_mod os_mod (se_op op_mulW os_mul (se_op op_addA os_add (se_op op_mod os_mod (se_op op_mulW os_mul (se_var (i := 3)) (se_int)) (se_int)) (se_int)) (se_int)) (se_int)) (se_var (i := 2)))))))
theorem ok__law_any_arcs (T : Tx K mg) : OkF P w K mg base 2 "_law_any_arcs" ["_law_script", "_law_nodes", "_law_size", "_law_unit"] m__law_any_arcs := by
  obtain ⟨fd, F⟩ := T.d__law_any_arcs
  refine okU_mk F sc__law_any_arcs rfl rfl T.g__law_any_arcs (F.binds (ps := ["_law_script", "_law_nodes", "_law_size", "_law_unit"]) fun _ _ _ _ _ _ us hl => match us, hl with | [_, _, _, _], _ => rfl) fun cdv A outer s H E hr => ?_
  have hu := Nat.lt_of_le_of_lt (Nat.add_le_add_left (show 1 ≤ 64 by decide) _) hr.units
  have tk := takes_fn (P := P) (w := w) (K := K) (mg := mg) (base := base) (N := N__law_any_arcs) (qual := "_law_any_arcs") (scope := defScope s__law_any_arcs) (f := (He.ga K "_law_any_arcs")) (cd := cdv) (A := A) (outer := outer) (s := s) (H := H) (E := E)
  have hp := passes_fn (P := P) (w := w) (K := K) (mg := mg) (base := base) (N := N__law_any_arcs) (qual := "_law_any_arcs") (scope := defScope s__law_any_arcs) (f := (He.ga K "_law_any_arcs")) (cd := cdv) (A := A) (outer := outer) (s := s) (H := H) (E := E)
  exact qb_cons (qs_set (i := 4) sc__law_any_arcs.nd (se_C (sl_lst (sa_nil)))) (qb_cons (qs_for hp (qi_range1 T.n_range (sa_cons (se_var (i := 2)) (sa_nil))) (qg_name sc__law_any_arcs.nd) (qb_cons (qs_set (i := 6) sc__law_any_arcs.nd (se_fn .P (ok__law_draw T) hr tk (sa_cons (se_var (i := 0)) (sa_cons (se_op op_addA os_add (se_int) (se_op op_mulW os_mul (se_int) (se_var (i := 5)))) (sa_cons (se_var (i := 1)) (sa_nil)))))) (qb_cons (qs_set (i := 7) sc__law_any_arcs.nd (se_op op_mod os_mod (se_op op_addA os_add (se_op op_addA os_add (se_var (i := 6)) (se_int)) (se_fn .P (ok__law_draw T) hr tk (sa_cons (se_var (i := 0)) (sa_cons (se_op op_addA os_add (se_int) (se_op op_mulW os_mul (se_int) (se_var (i := 5)))) (sa_cons (se_op op_sub os_sub (se_var (i := 1)) (se_int)) (sa_nil)))))) (se_var (i := 1)))) (qb_cons (qs_set (i := 8) sc__law_any_arcs.nd (se_fn .P (ok__law_draw T) hr tk (sa_cons (se_var (i := 0)) (sa_cons (se_op op_addA os_add (se_int) (se_op op_mulW os_mul (se_int) (se_var (i := 5)))) (sa_cons (se_int) (sa_nil)))))) (qb_cons (qs_set (i := 9) sc__law_any_arcs.nd (se_op op_mulW os_mul (se_ix (se_V (sl_lst (sa_cons (se_int) (sa_cons (se_int) (sa_cons (se_int) (sa_cons (se_int) (sa_cons (se_int) (sa_cons (se_int) (sa_nil))))))))) (se_op op_mod os_mod (se_var (i := 8)) (se_int))) (se_var (i := 3)))) (qb_one (qs_expr (se_bm PySem.F.slot_list_append PySem.F.type_list_append mt_append ms_append (se_var (i := 4)) (sa_cons (se_tup (sa_cons (se_var (i := 6)) (sa_cons (se_var (i := 7)) (sa_cons (se_var (i := 9)) (sa_cons (se_op op_addA os_add (se_var (i := 9)) (se_op op_mulW os_mul (se_op op_mod os_mod (se_op op_fdivW os_fdiv (se_var (i := 8)) (se_int)) (se_int)) (se_var (i := 3)))) (sa_nil)))))) (sa_nil)))))))))) (qb_one (qs_ret (se_var (i := 4)))))
theorem ok__law_round_arcs (T : Tx K mg) : OkF P w K mg base 2 "_law_round_arcs" ["_law_script", "_law_nodes", "_law_size", "_law_unit"] m__law_round_arcs := by
  obtain ⟨fd, F⟩ := T.d__law_round_arcs
  refine okU_mk F sc__law_round_arcs rfl rfl T.g__law_round_arcs (F.binds (ps := ["_law_script", "_law_nodes", "_law_size", "_law_unit"]) fun _ _ _ _ _ _ us hl => match us, hl with | [_, _, _, _], _ => rfl) fun cdv A outer s H E hr => ?_
  have hu := Nat.lt_of_le_of_lt (Nat.add_le_add_left (show 1 ≤ 64 by decide) _) hr.units
  have tk := takes_fn (P := P) (w := w) (K := K) (mg := mg) (base := base) (N := N__law_round_arcs) (qual := "_law_round_arcs") (scope := defScope s__law_round_arcs) (f := (He.ga K "_law_round_arcs")) (cd := cdv) (A := A) (outer := outer) (s := s) (H := H) (E := E)
  have hp := passes_fn (P := P) (w := w) (K := K) (mg := mg) (base := base) (N := N__law_round_arcs) (qual := "_law_round_arcs") (scope := defScope s__law_round_arcs) (f := (He.ga K "_law_round_arcs")) (cd := cdv) (A := A) (outer := outer) (s := s) (H := H) (E := E)
  exact qb_cons (qs_set (i := 4) sc__law_round_arcs.nd (se_C (sl_lst (sa_nil)))) (qb_cons (qs_set (i := 5) sc__law_round_arcs.nd (se_int)) (qb_cons (qs_loop hp (st_cmp (op_ltA) os_lt (se_callB call_len cs_len (T.n_len) (by decide +kernel) (sa_cons (se_var (i := 4)) (sa_nil))) (se_var (i := 2)) (nomark _)) (qb_cons (qs_set (i := 6) sc__law_round_arcs.nd (se_op op_mulW os_mul (se_fn .P (ok__law_draw T) hr tk (sa_cons (se_var (i := 0)) (sa_cons (se_var (i := 5)) (sa_cons (se_int) (sa_nil))))) (se_var (i := 3)))) (qb_cons (qs_set (i := 7) sc__law_round_arcs.nd (se_fn .P (ok__law_draw T) hr tk (sa_cons (se_var (i := 0)) (sa_cons (se_op op_addA os_add (se_var (i := 5)) (se_int)) (sa_cons (se_var (i := 1)) (sa_nil)))))) (qb_cons (qs_set (i := 8) sc__law_round_arcs.nd (se_var (i := 7))) (qb_cons (qs_for hp (qi_range1 T.n_range (sa_cons (se_op op_addA os_add (se_int) (se_fn .P (ok__law_draw T) hr tk (sa_cons (se_var (i := 0)) (sa_cons (se_op op_addA os_add (se_var (i := 5)) (se_int)) (sa_cons (se_int) (sa_nil)))))) (sa_nil))) (qg_name sc__law_round_arcs.nd) (qb_cons (qs_set (i := 10) sc__law_round_arcs.nd (se_fn .P (ok__law_draw T) hr tk (sa_cons (se_var (i := 0)) (sa_cons (se_op op_addA os_add (se_op op_addA os_add (se_var (i := 5)) (se_int)) (se_var (i := 9))) (sa_cons (se_op op_mulW os_mul (se_int) (se_var (i := 1))) (sa_nil)))))) (qb_cons (qs_set (i := 11) sc__law_round_arcs.nd (se_op op_mod os_mod (se_op op_addA os_add (se_op op_addA os_add (se_var (i := 8)) (se_int)) (se_op op_mod os_mod (se_op op_fdivW os_fdiv (se_var (i := 10)) (se_int)) (se_op op_sub os_sub (se_var (i := 1)) (se_int)))) (se_var (i := 1)))) (qb_cons (qs_expr (se_bm PySem.F.slot_list_append PySem.F.type_list_append mt_append ms_append (se_var (i := 4)) (sa_cons (se_tup (sa_cons (se_var (i := 8)) (sa_cons (se_var (i := 11)) (sa_cons (se_callB (call_max2 rfl) cs_max2 (T.n_max) (by decide +kernel) (sa_cons (se_int) (sa_cons (se_op op_sub os_sub (se_var (i := 6)) (se_op op_mod os_mod (se_var (i := 10)) (se_int))) (sa_nil)))) (sa_cons (se_op op_addA os_add (se_var (i := 6)) (se_op op_mod os_mod (se_op op_fdivW os_fdiv (se_var (i := 10)) (se_int)) (se_int))) (sa_nil)))))) (sa_nil)))) (qb_one (qs_set (i := 8) sc__law_round_arcs.nd (se_var (i := 11)))))))) (qb_cons (qs_if (st_cmp (op_neP hr.units) os_ne (se_var (i := 8)) (se_var (i := 7)) (nomark _)) (qb_one (qs_expr (se_bm PySem.F.slot_list_append PySem.F.type_list_append mt_append ms_append (se_var (i := 4)) (sa_cons (se_tup (sa_cons (se_var (i := 8)) (sa_cons (se_var (i := 7)) (sa_cons (se_callB (call_max2 rfl) cs_max2 (T.n_max) (by decide +kernel) (sa_cons (se_int) (sa_cons (se_op op_sub os_sub (se_var (i := 6)) (se_int)) (sa_nil)))) (sa_cons (se_var (i := 6)) (sa_nil)))))) (sa_nil))))) (qb_nil)) (qb_one (qs_set (i := 5) sc__law_round_arcs.nd (se_op op_addA os_add (se_var (i := 5)) (se_int)))))))))) (qb_one (qs_ret (se_var (i := 4))))))
theorem ok__law_turned (T : Tx K mg) : OkF P w K mg base 1 "_law_turned" ["_law_row", "_law_number"] m__law_turned := by
  obtain ⟨fd, F⟩ := T.d__law_turned
  refine okU_mk F sc__law_turned rfl rfl T.g__law_turned (F.binds (ps := ["_law_row", "_law_number"]) fun _ _ _ _ _ _ us hl => match us, hl with | [_, _], _ => rfl) fun cdv A outer s H E hr => ?_
  have hu := Nat.lt_of_le_of_lt (Nat.add_le_add_left (show 1 ≤ 64 by decide) _) hr.units
  have tk := takes_fn (P := P) (w := w) (K := K) (mg := mg) (base := base) (N := N__law_turned) (qual := "_law_turned") (scope := defScope s__law_turned) (f := (He.ga K "_law_turned")) (cd := cdv) (A := A) (outer := outer) (s := s) (H := H) (E := E)
  have hp := passes_fn (P := P) (w := w) (K := K) (mg := mg) (base := base) (N := N__law_turned) (qual := "_law_turned") (scope := defScope s__law_turned) (f := (He.ga K "_law_turned")) (cd := cdv) (A := A) (outer := outer) (s := s) (H := H) (E := E)
  exact qb_cons (qs_set (i := 2) sc__law_turned.nd (se_op op_mod os_mod (se_op op_fdivW os_fdiv (se_var (i := 1)) (se_int)) (se_callB (call_max2 rfl) cs_max2 (T.n_max) (by decide +kernel) (sa_cons (se_int) (sa_cons (se_callB call_len cs_len (T.n_len) (by decide +kernel) (sa_cons (se_var (i := 0)) (sa_nil))) (sa_nil)))))) (qb_cons (qs_set (i := 0) sc__law_turned.nd (se_C (sl_op op_cat ol_cat (se_V (sl_sl (se_var (i := 0)) (so_at (se_var (i := 2))) (so_no))) (se_V (sl_sl (se_var (i := 0)) (so_no) (so_at (se_var (i := 2)))))))) (qb_cons (qs_if (st_cmp (op_eqP hr.units) os_eq (se_op op_mod os_mod (se_var (i := 1)) (se_int)) (se_int) (nomark _)) (qb_one (qs_expr (se_bm0 PySem.F.slot_list_reverse PySem.F.type_list_reverse mt_reverse ms_reverse (se_var (i := 0))))) (qb_nil)) (qb_one (qs_ret (se_var (i := 0))))))
theorem ok__law_wholes (T : Tx K mg) : OkF P w K mg base 1 "_law_wholes" ["_law_found"] m__law_wholes := by
  obtain ⟨fd, F⟩ := T.d__law_wholes
  refine okF_mk F sc__law_wholes rfl rfl T.g__law_wholes (F.binds (ps := ["_law_found"]) fun _ _ _ _ _ _ us hl => match us, hl with | [_], _ => rfl) fun cdv A outer s H E hr => ?_
  have hu := Nat.lt_of_le_of_lt (Nat.add_le_add_left (show 1 ≤ 64 by decide) _) hr.units
  have tk := takes_fn (P := P) (w := w) (K := K) (mg := mg) (base := base) (N := N__law_wholes) (qual := "_law_wholes") (scope := defScope s__law_wholes) (f := (He.ga K "_law_wholes")) (cd := cdv) (A := A) (outer := outer) (s := s) (H := H) (E := E)
  have hp := passes_fn (P := P) (w := w) (K := K) (mg := mg) (base := base) (N := N__law_wholes) (qual := "_law_wholes") (scope := defScope s__law_wholes) (f := (He.ga K "_law_wholes")) (cd := cdv) (A := A) (outer := outer) (s := s) (H := H) (E := E)
  exact qb_cons (qs_if (st_not (st_val (se_isi (T := "list") T.n_isinstance T.n_list (by decide +kernel) (se_var (i := 0))))) (qb_one (qs_ret (se_bl))) (qb_nil)) (qb_one (qs_ret (se_callB (cr_all rfl) cs_all (T.n_all) (by decide +kernel) (sa_cons (se_V (sl_lc (own := [("_law_number", 1)]) sc__law_wholes.nd (qi_list (se_var (i := 0))) (blkOk_by (N := N__law_wholes) (sc := defScope s__law_wholes) (by decide +kernel)) (fun _ _ _ _ _ => qg_name sc__law_wholes.nd) (by decide) (fun _ _ _ _ _ => scs_nil) (fun _ _ _ _ _ => se_and (se_isi (T := "int") T.n_isinstance T.n_int (by decide +kernel) (se_var (i := 1))) (se_one (se_not (se_isi (T := "bool") T.n_isinstance T.n_bool (by decide +kernel) (se_var (i := 1)))))))) (sa_nil)))))
theorem ok__law_is_flow (T : Tx K mg) : OkF P w K mg base 2 "_law_is_flow" ["_law_nodes", "_law_arcs", "_law_flow"] m__law_is_flow := by
  obtain ⟨fd, F⟩ := T.d__law_is_flow
  refine okF_mk F sc__law_is_flow rfl rfl T.g__law_is_flow (F.binds (ps := ["_law_nodes", "_law_arcs", "_law_flow"]) fun _ _ _ _ _ _ us hl => match us, hl with | [_, _, _], _ => rfl) fun cdv A outer s H E hr => ?_
  have hu := Nat.lt_of_le_of_lt (Nat.add_le_add_left (show 1 ≤ 64 by decide) _) hr.units
  have tk := takes_fn (P := P) (w := w) (K := K) (mg := mg) (base := base) (N := N__law_is_flow) (qual := "_law_is_flow") (scope := defScope s__law_is_flow) (f := (He.ga K "_law_is_flow")) (cd := cdv) (A := A) (outer := outer) (s := s) (H := H) (E := E)
  have hp := passes_fn (P := P) (w := w) (K := K) (mg := mg) (base := base) (N := N__law_is_flow) (qual := "_law_is_flow") (scope := defScope s__law_is_flow) (f := (He.ga K "_law_is_flow")) (cd := cdv) (A := A) (outer := outer) (s := s) (H := H) (E := E)
  exact qb_cons (qs_if (st_w (sw_or (st_not (st_val (se_fn .P (ok__law_wholes T) hr tk (sa_cons (se_var (i := 2)) (sa_nil))))) (sw_or1 (st_cmp (op_neP hr.units) os_ne (se_callB call_len cs_len (T.n_len) (by decide +kernel) (sa_cons (se_var (i := 2)) (sa_nil))) (se_callB call_len cs_len (T.n_len) (by decide +kernel) (sa_cons (se_var (i := 1)) (sa_nil))) (nomark _))))) (qb_one (qs_ret (se_bl))) (qb_nil)) (qb_blk (qp_cons (qs_set (i := 3) sc__law_is_flow.nd (se_C (sl_op op_rep ol_rep (se_V (sl_lst (sa_cons (se_int) (sa_nil)))) (se_var (i := 0))))) (qp_cons (qs_for hp (qi_range1 T.n_range (sa_cons (se_callB call_len cs_len (T.n_len) (by decide +kernel) (sa_cons (se_var (i := 1)) (sa_nil))) (sa_nil))) (qg_name sc__law_is_flow.nd) (qb_cons (qs_if (st_w (sw_or (st_cmp (op_ltA) os_lt (se_ix (se_var (i := 2)) (se_var (i := 4))) (se_ix (se_ix (se_var (i := 1)) (se_var (i := 4))) (se_int)) (nomark _)) (sw_or1 (st_cmp (op_gtA) os_gt (se_ix (se_var (i := 2)) (se_var (i := 4))) (se_ix (se_ix (se_var (i := 1)) (se_var (i := 4))) (se_int)) (nomark _))))) (qb_one (qs_ret (se_bl))) (qb_nil)) (qb_cons (qs_setIx (htk := tk) (se_op op_sub os_sub (se_ix (se_var (i := 3)) (se_ix (se_ix (se_var (i := 1)) (se_var (i := 4))) (se_int))) (se_ix (se_var (i := 2)) (se_var (i := 4)))) (se_var (i := 3)) (se_ix (se_ix (se_var (i := 1)) (se_var (i := 4))) (se_int))) (qb_one (qs_setIx (htk := tk) (se_op op_addA os_add (se_ix (se_var (i := 3)) (se_ix (se_ix (se_var (i := 1)) (se_var (i := 4))) (se_int))) (se_ix (se_var (i := 2)) (se_var (i := 4)))) (se_var (i := 3)) (se_ix (se_ix (se_var (i := 1)) (se_var (i := 4))) (se_int))))))) (qp_seal (qb_one (qs_ret (se_cmp (op_eqP hr.units) os_eq (se_var (i := 3)) (se_V (sl_op op_rep ol_rep (se_V (sl_lst (sa_cons (se_int) (sa_nil)))) (se_var (i := 0)))) (nomark _))))))))
theorem ok__law_is_cut (T : Tx K mg) : OkF P w K mg base 2 "_law_is_cut" ["_law_nodes", "_law_arcs", "_law_some"] m__law_is_cut := by
  obtain ⟨fd, F⟩ := T.d__law_is_cut
  refine okF_mk F sc__law_is_cut rfl rfl T.g__law_is_cut (F.binds (ps := ["_law_nodes", "_law_arcs", "_law_some"]) fun _ _ _ _ _ _ us hl => match us, hl with | [_, _, _], _ => rfl) fun cdv A outer s H E hr => ?_
  have hu := Nat.lt_of_le_of_lt (Nat.add_le_add_left (show 1 ≤ 64 by decide) _) hr.units
  have tk := takes_fn (P := P) (w := w) (K := K) (mg := mg) (base := base) (N := N__law_is_cut) (qual := "_law_is_cut") (scope := defScope s__law_is_cut) (f := (He.ga K "_law_is_cut")) (cd := cdv) (A := A) (outer := outer) (s := s) (H := H) (E := E)
  have hp := passes_fn (P := P) (w := w) (K := K) (mg := mg) (base := base) (N := N__law_is_cut) (qual := "_law_is_cut") (scope := defScope s__law_is_cut) (f := (He.ga K "_law_is_cut")) (cd := cdv) (A := A) (outer := outer) (s := s) (H := H) (E := E)
  exact qb_cons (qs_if (st_w (sw_or (st_not (st_val (se_fn .P (ok__law_wholes T) hr tk (sa_cons (se_var (i := 2)) (sa_nil))))) (sw_or (st_cmp (op_neP hr.units) os_ne (se_V (sl_sortset rfl T.n_sorted T.n_set (sa_cons (se_var (i := 2)) (sa_nil)))) (se_var (i := 2)) (nomark _)) (sw_or1 (st_cmp (op_eqP hr.units) os_eq (se_callB call_len cs_len (T.n_len) (by decide +kernel) (sa_cons (se_var (i := 2)) (sa_nil))) (se_int) (nomark _)))))) (qb_one (qs_ret (se_bl))) (qb_nil)) (qb_cons (qs_if (st_w (sw_or (st_cmp (op_ltA) os_lt (se_ix (se_var (i := 2)) (se_int)) (se_int) (nomark _)) (sw_or1 (st_cmp (op_ge) os_ge (se_ix (se_var (i := 2)) (se_un un_neg us_neg (se_int))) (se_var (i := 0)) (nomark _))))) (qb_one (qs_ret (se_bl))) (qb_nil)) (qb_cons (qs_set (i := 3) sc__law_is_cut.nd (se_callB (cr_sum rfl) cs_sum (T.n_sum) (by decide +kernel) (sa_cons (se_V (sl_lc (own := [("_law_arc", 4)]) sc__law_is_cut.nd (qi_list (se_var (i := 1))) (blkOk_by (N := N__law_is_cut) (sc := defScope s__law_is_cut) (by decide +kernel)) (fun _ _ _ _ _ => qg_name sc__law_is_cut.nd) (by decide) (fun _ _ _ _ _ => scs_one (st_w (sw_and (st_cmp (op_inA) os_in (se_ix (se_var (i := 4)) (se_int)) (se_var (i := 2)) (by rfl)) (sw_and1 (st_cmp (op_notInA) os_notIn (se_ix (se_var (i := 4)) (se_int)) (se_var (i := 2)) (by rfl)))))) (fun _ _ _ _ _ => se_ix (se_var (i := 4)) (se_int)))) (sa_nil)))) (qb_one (qs_ret (se_cmp (op_ltA) os_lt (se_var (i := 3)) (se_callB (cr_sum rfl) cs_sum (T.n_sum) (by decide +kernel) (sa_cons (se_V (sl_lc (own := [("_law_arc", 4)]) sc__law_is_cut.nd (qi_list (se_var (i := 1))) (blkOk_by (N := N__law_is_cut) (sc := defScope s__law_is_cut) (by decide +kernel)) (fun _ _ _ _ _ => qg_name sc__law_is_cut.nd) (by decide) (fun _ _ _ _ _ => scs_one (st_w (sw_and (st_cmp (op_inA) os_in (se_ix (se_var (i := 4)) (se_int)) (se_var (i := 2)) (by rfl)) (sw_and1 (st_cmp (op_notInA) os_notIn (se_ix (se_var (i := 4)) (se_int)) (se_var (i := 2)) (by rfl)))))) (fun _ _ _ _ _ => se_ix (se_var (i := 4)) (se_int)))) (sa_nil))) (nomark _))))))
theorem ok__law_right (T : Tx K mg) : OkF P w K mg base 3 "_law_right" ["_law_nodes", "_law_arcs", "_law_found", "_law_sure"] m__law_right := by
  obtain ⟨fd, F⟩ := T.d__law_right
  refine okF_mk F sc__law_right rfl rfl T.g__law_right (F.binds (ps := ["_law_nodes", "_law_arcs", "_law_found", "_law_sure"]) fun _ _ _ _ _ _ us hl => match us, hl with | [_, _, _, _], _ => rfl) fun cdv A outer s H E hr => ?_
  have hu := Nat.lt_of_le_of_lt (Nat.add_le_add_left (show 1 ≤ 64 by decide) _) hr.units
  have tk := takes_fn (P := P) (w := w) (K := K) (mg := mg) (base := base) (N := N__law_right) (qual := "_law_right") (scope := defScope s__law_right) (f := (He.ga K "_law_right")) (cd := cdv) (A := A) (outer := outer) (s := s) (H := H) (E := E)
  have hp := passes_fn (P := P) (w := w) (K := K) (mg := mg) (base := base) (N := N__law_right) (qual := "_law_right") (scope := defScope s__law_right) (f := (He.ga K "_law_right")) (cd := cdv) (A := A) (outer := outer) (s := s) (H := H) (E := E)
  exact qb_cons (qs_if (st_w (sw_or (st_not (st_val (se_isi (T := "tuple") T.n_isinstance T.n_tuple (by decide +kernel) (se_var (i := 2))))) (sw_or1 (st_cmp (op_neP hr.units) os_ne (se_callB call_len cs_len (T.n_len) (by decide +kernel) (sa_cons (se_var (i := 2)) (sa_nil))) (se_int) (nomark _))))) (qb_one (qs_ret (se_bl))) (qb_nil)) (qb_cons (qs_if (st_cmp (op_eqP hr.units) os_eq (se_ix (se_var (i := 2)) (se_int)) (se_str) (nomark _)) (qb_one (qs_ret (se_fn .P (ok__law_is_flow T) hr tk (sa_cons (se_var (i := 0)) (sa_cons (se_var (i := 1)) (sa_cons (se_ix (se_var (i := 2)) (se_int)) (sa_nil))))))) (qb_nil)) (qb_one (qs_ret (se_and (se_not (se_var (i := 3))) (se_and (se_cmp (op_eqP hr.units) os_eq (se_ix (se_var (i := 2)) (se_int)) (se_str) (nomark _)) (se_one (se_fn .P (ok__law_is_cut T) hr tk (sa_cons (se_var (i := 0)) (sa_cons (se_var (i := 1)) (sa_cons (se_ix (se_var (i := 2)) (se_int)) (sa_nil)))))))))))
theorem ok_law (T : Tx K mg) : OkF P w K mg base 4 "law" ["_law_script"] m_law := by
  obtain ⟨fd, F⟩ := T.d_law
  refine okF_mk F sc_law rfl rfl T.g_law (F.binds (ps := ["_law_script"]) fun _ _ _ _ _ _ us hl => match us, hl with | [_], _ => rfl) fun cdv A outer s H E hr => ?_
  have hu := Nat.lt_of_le_of_lt (Nat.add_le_add_left (show 1 ≤ 64 by decide) _) hr.units
  have tk := takes_fn (P := P) (w := w) (K := K) (mg := mg) (base := base) (N := N_law) (qual := "law") (scope := defScope s_law) (f := (He.ga K "law")) (cd := cdv) (A := A) (outer := outer) (s := s) (H := H) (E := E)
  have hp := passes_fn (P := P) (w := w) (K := K) (mg := mg) (base := base) (N := N_law) (qual := "law") (scope := defScope s_law) (f := (He.ga K "law")) (cd := cdv) (A := A) (outer := outer) (s := s) (H := H) (E := E)
  exact qb_cons (qs_set (i := 1) sc_law.nd (se_op op_addA os_add (se_int) (se_fn .P (ok__law_draw T) (hr.mono (by decide)) tk (sa_cons (se_var (i := 0)) (sa_cons (se_int) (sa_cons (se_int) (sa_nil))))))) (qb_cons (qs_if (st_cmp (op_eqP hr.units) os_eq (se_op op_fdivW os_fdiv (se_fn .P (ok__law_draw T) (hr.mono (by decide)) tk (sa_cons (se_var (i := 0)) (sa_cons (se_int) (sa_cons (se_int) (sa_nil))))) (se_int)) (se_int) (nomark _)) (qb_one (qs_set (i := 1) sc_law.nd (se_int))) (qb_nil)) (qb_cons (qs_set (i := 2) sc_law.nd (se_callB (call_min2 rfl) cs_min2 (T.n_min) (by decide +kernel) (sa_cons (se_int) (sa_cons (se_callB (call_max3Nu rfl) cs_max3 (T.n_max) (by decide +kernel) (sa_cons (se_int) (sa_cons (se_op op_fdivW os_fdiv (se_op op_sub os_sub (se_callB call_len cs_len (T.n_len) (by decide +kernel) (sa_cons (se_var (i := 0)) (sa_nil))) (se_int)) (se_int)) (sa_cons (se_fn .P (ok__law_draw T) (hr.mono (by decide)) tk (sa_cons (se_var (i := 0)) (sa_cons (se_int) (sa_cons (se_int) (sa_nil))))) (sa_nil))))) (sa_nil))))) (qb_cons (qs_set (i := 3) sc_law.nd (se_ix (se_V (sl_lst (sa_cons (se_int) (sa_cons (se_int) (sa_cons (se_op op_pow os_pow (se_int) (se_int)) (sa_nil)))))) (se_fn .P (ok__law_draw T) (hr.mono (by decide)) tk (sa_cons (se_var (i := 0)) (sa_cons (se_int) (sa_cons (se_int) (sa_nil))))))) (qb_blk (qp_cons (qs_set (i := 4) sc_law.nd (se_C (sl_lst (sa_nil)))) (qp_cons (qs_set (i := 5) sc_law.nd (se_cmp (op_eqP hr.units) os_eq (se_fn .P (ok__law_draw T) (hr.mono (by decide)) tk (sa_cons (se_var (i := 0)) (sa_cons (se_int) (sa_cons (se_int) (sa_nil))))) (se_int) (nomark _))) (qp_cons (qs_if (st_cmp (op_eqP hr.units) os_eq (se_op op_fdivW os_fdiv (se_fn .P (ok__law_draw T) (hr.mono (by decide)) tk (sa_cons (se_var (i := 0)) (sa_cons (se_int) (sa_cons (se_int) (sa_nil))))) (se_int)) (se_int) (nomark _)) (qb_cons (qs_set (i := 1) sc_law.nd (se_int)) (qb_cons (qs_set (i := 2) sc_law.nd (se_int)) (qb_one (qs_set (i := 5) sc_law.nd (se_bl))))) (qb_nil)) (qp_cons (qs_if (st_w (sw_and (st_cmp (op_gtA) os_gt (se_var (i := 1)) (se_int) (nomark _)) (sw_and1 (st_val (se_var (i := 5)))))) (qb_one (qs_set (i := 4) sc_law.nd (se_fnT (ok__law_round_arcs T) (hr.mono (by decide)) tk (sa_cons (se_var (i := 0)) (sa_cons (se_var (i := 1)) (sa_cons (se_var (i := 2)) (sa_cons (se_var (i := 3)) (sa_nil)))))))) (qb_one (qs_if (st_cmp (op_gtA) os_gt (se_var (i := 1)) (se_int) (nomark _)) (qb_one (qs_set (i := 4) sc_law.nd (se_fnT (ok__law_any_arcs T) (hr.mono (by decide)) tk (sa_cons (se_var (i := 0)) (sa_cons (se_var (i := 1)) (sa_cons (se_var (i := 2)) (sa_cons (se_var (i := 3)) (sa_nil)))))))) (qb_nil)))) (qp_cons (qs_if (st_w (sw_and (st_val (se_var (i := 5))) (sw_and (st_cmp (op_gtA) os_gt (se_callB call_len cs_len (T.n_len) (by decide +kernel) (sa_cons (se_var (i := 4)) (sa_nil))) (se_int) (nomark _)) (sw_and1 (st_cmp (op_eqP hr.units) os_eq (se_fn .P (ok__law_draw T) (hr.mono (by decide)) tk (sa_cons (se_var (i := 0)) (sa_cons (se_int) (sa_cons (se_int) (sa_nil))))) (se_int) (nomark _)))))) (qb_cons (qs_set (i := 8) sc_law.nd (se_fn .P (ok__law_draw T) (hr.mono (by decide)) tk (sa_cons (se_var (i := 0)) (sa_cons (se_int) (sa_cons (se_callB call_len cs_len (T.n_len) (by decide +kernel) (sa_cons (se_var (i := 4)) (sa_nil))) (sa_nil)))))) (qb_cons (qs_asg (se_ix (se_var (i := 4)) (se_var (i := 8))) (qg_tup (qgs_cons (qg_name sc_law.nd) (qgs_cons (qg_name sc_law.nd) (qgs_cons (qg_name sc_law.nd) (qgs_cons (qg_name sc_law.nd) (qgs_nil))))))) (qb_cons (qs_setIx (htk := tk) (se_tup (sa_cons (se_var (i := 9)) (sa_cons (se_var (i := 10)) (sa_cons (se_callB (call_min2 rfl) cs_min2 (T.n_min) (by decide +kernel) (sa_cons (se_var (i := 11)) (sa_cons (se_callB (call_max2 rfl) cs_max2 (T.n_max) (by decide +kernel) (sa_cons (se_int) (sa_cons (se_op op_sub os_sub (se_var (i := 12)) (se_int)) (sa_nil)))) (sa_nil)))) (sa_cons (se_callB (call_max2 rfl) cs_max2 (T.n_max) (by decide +kernel) (sa_cons (se_int) (sa_cons (se_op op_sub os_sub (se_var (i := 12)) (se_int)) (sa_nil)))) (sa_nil)))))) (se_var (i := 4)) (se_var (i := 8))) (qb_one (qs_set (i := 5) sc_law.nd (se_bl)))))) (qb_nil)) (qp_cons (qs_set (i := 4) sc_law.nd (se_fn .M (ok__law_turned T) (hr.mono (by decide)) tk (sa_cons (se_var (i := 4)) (sa_cons (se_fn .P (ok__law_draw T) (hr.mono (by decide)) tk (sa_cons (se_var (i := 0)) (sa_cons (se_int) (sa_cons (se_int) (sa_nil))))) (sa_nil))))) (qp_seal (qb_cons (qs_set (i := 6) sc_law.nd (se_V (sl_callT call_list_of cl_list (T.n_list) (by decide +kernel) (sa_cons (se_var (i := 4)) (sa_nil))))) (qb_blk (qp_cons (qs_set (i := 7) sc_law.nd (se_fnT (ok_flow_of T) (hr.mono (by decide)) tk (sa_cons (se_var (i := 1)) (sa_cons (se_var (i := 6)) (sa_nil))))) (qp_cons (qs_if (st_w (sw_or (st_cmp (op_neP hr.units) os_ne (se_var (i := 6)) (se_var (i := 4)) (nomark _)) (sw_or1 (st_not (st_val (se_fn .B (ok__law_right T) hr tk (sa_cons (se_var (i := 1)) (sa_cons (se_var (i := 4)) (sa_cons (se_var (i := 7)) (sa_cons (se_var (i := 5)) (sa_nil))))))))))) (qb_one (qs_ret (se_bl))) (qb_nil)) (qp_cons (qs_if (st_cmp (op_gtA) os_gt (se_callB call_len cs_len (T.n_len) (by decide +kernel) (sa_cons (se_ix (se_var (i := 7)) (se_int)) (sa_nil))) (se_int) (nomark _)) (qb_one (qs_setIx (htk := tk) (se_un un_neg us_neg (se_int)) (se_ix (se_var (i := 7)) (se_int)) (se_int))) (qb_nil)) (qp_cons (qs_expr (se_bm PySem.F.slot_list_append PySem.F.type_list_append mt_append ms_append (se_ix (se_var (i := 7)) (se_int)) (sa_cons (se_int) (sa_nil)))) (qp_seal (qb_one (qs_ret (se_and (se_fn .B (ok__law_right T) hr tk (sa_cons (se_var (i := 1)) (sa_cons (se_var (i := 4)) (sa_cons (se_fnT (ok_flow_of T) (hr.mono (by decide)) tk (sa_cons (se_var (i := 1)) (sa_cons (se_var (i := 6)) (sa_nil)))) (sa_cons (se_var (i := 5)) (sa_nil)))))) (se_one (se_cmp (op_eqP hr.units) os_eq (se_var (i := 6)) (se_var (i := 4)) (nomark _))))))))))))))))))))))))
end
/-! the head -/
def dfs : List He.DefD := [⟨("asked_net", none), "asked_net", "asked_net", defArgs s_asked_net, defBody s_asked_net, defScope s_asked_net, [], []⟩, ⟨("gains_of_nodes", none), "gains_of_nodes", "gains_of_nodes", defArgs s_gains_of_nodes, defBody s_gains_of_nodes, defScope s_gains_of_nodes, [], []⟩, ⟨("arcs_beside", none), "arcs_beside", "arcs_beside", defArgs s_arcs_beside, defBody s_arcs_beside, defScope s_arcs_beside, [], []⟩, ⟨("reached_nodes", none), "reached_nodes", "reached_nodes", defArgs s_reached_nodes, defBody s_reached_nodes, defScope s_reached_nodes, [], []⟩, ⟨("road_to", none), "road_to", "road_to", defArgs s_road_to, defBody s_road_to, defScope s_road_to, [], []⟩, ⟨("room_on_road", none), "room_on_road", "room_on_road", defArgs s_room_on_road, defBody s_room_on_road, defScope s_room_on_road, [], []⟩, ⟨("send_along", none), "send_along", "send_along", defArgs s_send_along, defBody s_send_along, defScope s_send_along, [], []⟩, ⟨("flow_of", none), "flow_of", "flow_of", defArgs s_flow_of, defBody s_flow_of, defScope s_flow_of, [], []⟩, ⟨("_law_draw", none), "_law_draw", "_law_draw", defArgs s__law_draw, defBody s__law_draw, defScope s__law_draw, [], []⟩, ⟨("_law_any_arcs", none), "_law_any_arcs", "_law_any_arcs", defArgs s__law_any_arcs, defBody s__law_any_arcs, defScope s__law_any_arcs, [], []⟩, ⟨("_law_round_arcs", none), "_law_round_arcs", "_law_round_arcs", defArgs s__law_round_arcs, defBody s__law_round_arcs, defScope s__law_round_arcs, [], []⟩, ⟨("_law_turned", none), "_law_turned", "_law_turned", defArgs s__law_turned, defBody s__law_turned, defScope s__law_turned, [], []⟩, ⟨("_law_wholes", none), "_law_wholes", "_law_wholes", defArgs s__law_wholes, defBody s__law_wholes, defScope s__law_wholes, [], []⟩, ⟨("_law_is_flow", none), "_law_is_flow", "_law_is_flow", defArgs s__law_is_flow, defBody s__law_is_flow, defScope s__law_is_flow, [], []⟩, ⟨("_law_is_cut", none), "_law_is_cut", "_law_is_cut", defArgs s__law_is_cut, defBody s__law_is_cut, defScope s__law_is_cut, [], []⟩, ⟨("_law_right", none), "_law_right", "_law_right", defArgs s__law_right, defBody s__law_right, defScope s__law_right, [], []⟩, ⟨("law", none), "law", "law", defArgs s_law, defBody s_law, defScope s_law, [], []⟩]
def fas : List He.Fa := [.glo "asked_net", .glo "gains_of_nodes", .glo "arcs_beside", .glo "reached_nodes", .glo "road_to", .glo "room_on_road", .glo "send_along", .glo "flow_of", .glo "_law_draw", .glo "_law_any_arcs", .glo "_law_round_arcs", .glo "_law_turned", .glo "_law_wholes", .glo "_law_is_flow", .glo "_law_is_cut", .glo "_law_right", .glo "law", .free "len", .free "min", .free "max", .free "range", .free "zip", .free "list", .free "sorted", .free "isinstance", .free "all", .free "int", .free "bool", .free "set", .free "sum", .free "tuple", .int "MOST_NODES" 120, .int "MOST_ARCS" 300, .glo "NoNet", .exc "NoNet"]
theorem tx_of {K : PySem.W.Frag} {h : Heap} {mg : Str → Option Value} (X : K.In h) (G : h.Ns mainGlobals mg) (c : He.SaysD fas dfs K) : Tx K mg where
  d_asked_net := let ⟨fd, F⟩ := c.def_ 0 rfl; ⟨fd, He5.fun_of F⟩
  g_asked_net := He.glo_ok X G (c.fact 0 rfl)
  d_gains_of_nodes := let ⟨fd, F⟩ := c.def_ 1 rfl; ⟨fd, He5.fun_of F⟩
  g_gains_of_nodes := He.glo_ok X G (c.fact 1 rfl)
  d_arcs_beside := let ⟨fd, F⟩ := c.def_ 2 rfl; ⟨fd, He5.fun_of F⟩
  g_arcs_beside := He.glo_ok X G (c.fact 2 rfl)
  d_reached_nodes := let ⟨fd, F⟩ := c.def_ 3 rfl; ⟨fd, He5.fun_of F⟩
  g_reached_nodes := He.glo_ok X G (c.fact 3 rfl)
  d_road_to := let ⟨fd, F⟩ := c.def_ 4 rfl; ⟨fd, He5.fun_of F⟩
  g_road_to := He.glo_ok X G (c.fact 4 rfl)
  d_room_on_road := let ⟨fd, F⟩ := c.def_ 5 rfl; ⟨fd, He5.fun_of F⟩
  g_room_on_road := He.glo_ok X G (c.fact 5 rfl)
  d_send_along := let ⟨fd, F⟩ := c.def_ 6 rfl; ⟨fd, He5.fun_of F⟩
  g_send_along := He.glo_ok X G (c.fact 6 rfl)
  d_flow_of := let ⟨fd, F⟩ := c.def_ 7 rfl; ⟨fd, He5.fun_of F⟩
  g_flow_of := He.glo_ok X G (c.fact 7 rfl)
  d__law_draw := let ⟨fd, F⟩ := c.def_ 8 rfl; ⟨fd, He5.fun_of F⟩
  g__law_draw := He.glo_ok X G (c.fact 8 rfl)
  d__law_any_arcs := let ⟨fd, F⟩ := c.def_ 9 rfl; ⟨fd, He5.fun_of F⟩
  g__law_any_arcs := He.glo_ok X G (c.fact 9 rfl)
  d__law_round_arcs := let ⟨fd, F⟩ := c.def_ 10 rfl; ⟨fd, He5.fun_of F⟩
  g__law_round_arcs := He.glo_ok X G (c.fact 10 rfl)
  d__law_turned := let ⟨fd, F⟩ := c.def_ 11 rfl; ⟨fd, He5.fun_of F⟩
  g__law_turned := He.glo_ok X G (c.fact 11 rfl)
  d__law_wholes := let ⟨fd, F⟩ := c.def_ 12 rfl; ⟨fd, He5.fun_of F⟩
  g__law_wholes := He.glo_ok X G (c.fact 12 rfl)
  d__law_is_flow := let ⟨fd, F⟩ := c.def_ 13 rfl; ⟨fd, He5.fun_of F⟩
  g__law_is_flow := He.glo_ok X G (c.fact 13 rfl)
  d__law_is_cut := let ⟨fd, F⟩ := c.def_ 14 rfl; ⟨fd, He5.fun_of F⟩
  g__law_is_cut := He.glo_ok X G (c.fact 14 rfl)
  d__law_right := let ⟨fd, F⟩ := c.def_ 15 rfl; ⟨fd, He5.fun_of F⟩
  g__law_right := He.glo_ok X G (c.fact 15 rfl)
  d_law := let ⟨fd, F⟩ := c.def_ 16 rfl; ⟨fd, He5.fun_of F⟩
  g_law := He.glo_ok X G (c.fact 16 rfl)
  n_len := He.free_ok X G (c.fact 17 rfl)
  n_min := He.free_ok X G (c.fact 18 rfl)
  n_max := He.free_ok X G (c.fact 19 rfl)
  n_range := He.free_ok X G (c.fact 20 rfl)
  n_zip := He.free_ok X G (c.fact 21 rfl)
  n_list := He.free_ok X G (c.fact 22 rfl)
  n_sorted := He.free_ok X G (c.fact 23 rfl)
  n_isinstance := He.free_ok X G (c.fact 24 rfl)
  n_all := He.free_ok X G (c.fact 25 rfl)
  n_int := He.free_ok X G (c.fact 26 rfl)
  n_bool := He.free_ok X G (c.fact 27 rfl)
  n_set := He.free_ok X G (c.fact 28 rfl)
  n_sum := He.free_ok X G (c.fact 29 rfl)
  n_tuple := He.free_ok X G (c.fact 30 rfl)
  c_MOST_NODES := He.int_ok X G (c.fact 31 rfl)
  c_MOST_ARCS := He.int_ok X G (c.fact 32 rfl)
  e_NoNet := excT_of (He.glo_ok X G (c.fact 33 rfl)) (He.exc_ok (c.fact 34 rfl))
end
end Lk32

set_option Elab.async false
set_option linter.all false
set_option maxRecDepth 100000
set_option maxHeartbeats 4000000
namespace Lk32
open PySem PySem.Spec PyProof.Rows L2 VD PF FL GO LF LG
noncomputable section
theorem draw_same : m__law_draw = drawM := rfl
theorem flow_same : m_flow_of = FL.m_flow_of := rfl
theorem turned_same : m__law_turned = LF.m__law_turned := rfl
theorem wholes_same : m__law_wholes = LF.m__law_wholes := rfl
theorem is_flow_same : m__law_is_flow = LF.m__law_is_flow := rfl
structure ArOk (n : Nat) (a : Arc) : Prop where
  ok : okA (n : Int) a
  ne : a.a ≠ a.b
  lo : 0 ≤ a.c ∧ a.c ≤ a.d
  big : a.d < 10 ^ 70
theorem ownAr {h : Hv} {b : Nat} (a : Arc) : ownD h 11 b (aD a) = some (aD a, [], []) := rfl
theorem shAr {n : Nat} (a : Arc) : shD n (aD a) = aD a := rfl
/-! flow_of, handed to its caller -/
inductive FlR (n : Nat) (arcs : List Arc) : Str → List Int → Prop where
  | flow {fl : List Int} : IsFlow n arcs fl → FlR n arcs "flow" fl
  | cut {L : List Int} : IsCut n arcs L → L.Pairwise (· < ·) → FlR n arcs "cut" L
theorem flow_gc {n : Nat} {arcs : List Arc} (ok : NetOk n arcs) : ∃ (t : Str) (xs : List Int), FlR n arcs t xs ∧ ∀ h, callC (gcS m_flow_of) [.int n, arcsD arcs] h = .ok (.tup [.str t, .cell h.length]) (h ++ [.lst (xs.map .int)]) := by
  obtain ⟨PP, hPP⟩ : ∃ PP : VD.R D → Prop, PP = fun x => ∃ (t : Str) (xs : List Int) (k : Nat) (H : Hv), FlR n arcs t xs ∧ x = .ok (.tup [.str t, .cell k]) H ∧ H[k]? = some (.lst (xs.map .int)) := ⟨_, rfl⟩
  have key : PP (m_flow_of [.int n, arcsD arcs] []) := by
    refine fnU_at (P := PP) rfl ?_
    refine flow_wp ok (fun fl σ f e => ?_) (fun fl L c r => ?_)
    · simp [e]
      rw [hPP]
      exact ⟨"flow", fl, 0, _, .flow f, rfl, rfl⟩
    · simp
      rw [hPP]
      exact ⟨"cut", L, 1, _, .cut c r, rfl, rfl⟩
  rw [hPP] at key
  obtain ⟨t, xs, k, H, r, e, hk⟩ := key
  refine ⟨t, xs, r, fun h => ?_⟩
  have gc : gcS m_flow_of [.int n, arcsD arcs] [] = .ok (.tup [.str t, .cell 0]) [.lst (xs.map .int)] := by
    show gcR (m_flow_of _ []) = _
    rw [e]
    simp [gcR, ownD, ownA, own_ints, hk]
  rw [callC_ok (sem := gcS m_flow_of) (ds := [.int n, arcsD arcs]) (ds' := [.int n, arcsD arcs]) (h := h) pure2 gc]
  simp [shD, shL, shC]
/-! any arcs -/
theorem ix6 {i : Int} (h0 : 0 ≤ i) (h1 : i < 6) : ∃ w : Int, (∀ h, ixD h (.lst [.int 0, .int 0, .int 0, .int 1, .int 2, .int 3]) i = some (.int w)) ∧ 0 ≤ w ∧ w ≤ 3 := by
  have : i = 0 ∨ i = 1 ∨ i = 2 ∨ i = 3 ∨ i = 4 ∨ i = 5 := by omega
  rcases this with rfl | rfl | rfl | rfl | rfl | rfl
  · exact ⟨0, fun _ => rfl, by omega, by omega⟩
  · exact ⟨0, fun _ => rfl, by omega, by omega⟩
  · exact ⟨0, fun _ => rfl, by omega, by omega⟩
  · exact ⟨1, fun _ => rfl, by omega, by omega⟩
  · exact ⟨2, fun _ => rfl, by omega, by omega⟩
  · exact ⟨3, fun _ => rfl, by omega, by omega⟩
theorem any_eq {ns : List Int} {n sz : Nat} {u : Int} (hl : ns.length ≤ 63) (n2 : 2 ≤ n) (n3 : n ≤ 120) (s2 : sz ≤ 290) (u0 : 1 ≤ u) (u1 : u ≤ 10 ^ 57) :
    ∃ arcs : List Arc, m__law_any_arcs [scr ns, .int n, .int sz, .int u] [] = .ok (.cell 0) [.lst (arcs.map aD)] ∧ (∀ a ∈ arcs, ArOk n a) ∧ arcs.length ≤ 290 := by
  obtain ⟨PP, hPP⟩ : ∃ PP : VD.R D → Prop, PP = fun x => ∃ arcs : List Arc, x = .ok (.cell 0) [.lst (arcs.map aD)] ∧ (∀ a ∈ arcs, ArOk n a) ∧ arcs.length ≤ 290 := ⟨_, rfl⟩
  have key : PP (m__law_any_arcs [scr ns, .int n, .int sz, .int u] []) := by
    refine fnU_at (P := PP) rfl ?_
    unfold b__law_any_arcs
    simp
    unfold l__law_any_arcs_1
    obtain ⟨I, hI⟩ : ∃ I : Nat → VS → Hv → Prop, I = fun i σ h => ∃ (arcs : List Arc) (x5 x6 x7 x8 x9 : Option D), σ = [some (scr ns), some (.int n), some (.int sz), some (.int u), some (.cell 0), x5, x6, x7, x8, x9] ∧ h = [.lst (arcs.map aD)] ∧ (∀ a ∈ arcs, ArOk n a) ∧ arcs.length = i := ⟨_, rfl⟩
    refine Wp.range 0 sz I (h0 := [.lst []]) (by simp (disch := omega)) (by rw [hI]; exact ⟨[], _, _, _, _, _, rfl, rfl, fun a h => (nomatch h), rfl⟩) ?_ ?_
    · intro i σ h hi hh
      rw [hI] at hh
      obtain ⟨arcs, x5, x6, x7, x8, x9, rfl, rfl, ok, la⟩ := hh
      refine ⟨_, rfl, ?_⟩
      have e0 : (0 : Int) + (i : Int) = i := by omega
      have d1 := drawF_bd ns (6 + 3 * (i : Int)) (m := (n : Int)) (by omega)
      have d2 := drawF_bd ns (7 + 3 * (i : Int)) (m := (n : Int) - 1) (by omega)
      have d3 := drawF_bd ns (8 + 3 * (i : Int)) (m := 96) (by decide)
      obtain ⟨A, hA⟩ : ∃ A, A = drawF ns (6 + 3 * (i : Int)) n := ⟨_, rfl⟩
      obtain ⟨N, hN⟩ : ∃ N, N = drawF ns (8 + 3 * (i : Int)) 96 := ⟨_, rfl⟩
      rw [← hA] at d1
      rw [← hN] at d3
      obtain ⟨b0, b1, b2⟩ := behind_ne (n := (n : Int)) (now := A) (by omega) d1.1 d1.2 d2.1 d2.2
      obtain ⟨B, hB⟩ : ∃ B, B = (A + 1 + drawF ns (7 + 3 * (i : Int)) ((n : Int) - 1)) % (n : Int) := ⟨_, rfl⟩
      rw [← hB] at b0 b1 b2
      obtain ⟨w, hw, w2, w3⟩ := ix6 (i := N % 6) (by omega) (by omega)
      simp only [ixD_lst] at hw
      have hw := hw []
      have m1 := mul_bd (a := w) (u := u) (k := 3) (b := 10 ^ 57) w2 (by omega) (by omega) (by exact_mod_cast u1)
      have m2 := mul_bd (a := N / 6 % 6) (u := u) (k := 5) (b := 10 ^ 57) (by omega) (by omega) (by omega) (by exact_mod_cast u1)
      have t1 : ((3 * 10 ^ 57 : Nat) : Int) = 3 * 10 ^ 57 := by norm_cast
      have t2 : ((5 * 10 ^ 57 : Nat) : Int) = 5 * 10 ^ 57 := by norm_cast
      rw [t1] at m1
      rw [t2] at m2
      obtain ⟨W, hW⟩ : ∃ W, W = w * u := ⟨_, rfl⟩
      obtain ⟨Z, hZ⟩ : ∃ Z, Z = N / 6 % 6 * u := ⟨_, rfl⟩
      rw [← hW] at m1
      rw [← hZ] at m2
      have p2 : (0 : Int) < n := by omega
      have p4 : 0 < n := by omega
      have l16 : arcs.length < 16777216 := by omega
      simp (disch := omega) [e0, draw_same, callP_draw, ← hA, ← hN, ← hB, p2, p4, hw, ← hW, ← hZ, l16]
      rw [hI]
      refine ⟨arcs ++ [⟨A, B, W, W + Z⟩], _, _, _, _, _, rfl, by simp [aD], fun a ha => ?_, by simp [la]⟩
      rcases List.mem_append.mp ha with ha | ha
      · exact ok a ha
      · rw [List.mem_singleton] at ha
        subst ha
        exact ⟨⟨d1.1, d1.2, b0, b1⟩, b2, ⟨by dsimp only; omega, by dsimp only; omega⟩, by dsimp only; omega⟩
    · intro σ h hh
      rw [hI] at hh
      obtain ⟨arcs, x5, x6, x7, x8, x9, rfl, rfl, ok, la⟩ := hh
      simp
      rw [hPP]
      exact ⟨arcs, rfl, ok, by omega⟩
  rw [hPP] at key
  exact key
/-! rounds -/
abbrev Pa := Arc × Int
def qE (p : Pa) : D := aD p.1
structure PaOk (n : Nat) (p : Pa) : Prop where
  ok : ArOk n p.1
  l : p.1.c ≤ p.2
  u : p.2 ≤ p.1.d
structure Rn (n : Nat) (ps : List Pa) : Prop where
  ok : ∀ p ∈ ps, PaOk n p
  gn : ∀ v, gn ps v = 0
theorem rounds_in {ns : List Int} {n sz : Nat} {u am f : Int} {at_ : Nat} {ps : List Pa} (hl : ns.length ≤ 63) (n2 : 2 ≤ n) (n3 : n ≤ 120) (a0 : 0 ≤ am) (a1 : am ≤ 10 ^ 59) (f0 : 0 ≤ f) (f1 : f < n) (ha : at_ ≤ 10000) (hp : ps.length ≤ 300) (rn : Rn n ps) {Q : RS → Prop} {x9 x10 x11 : Option D}
    (fin : ∀ (qs : List Pa) (now : Int) x9 x10 x11, qs ≠ [] → qs.length ≤ 4 → (∀ p ∈ qs, PaOk n p) → 0 ≤ now → now < n → (∀ v, PF.gn qs v = (if now = v then am else 0) - (if f = v then am else 0)) →
      Wp Q (.next [some (scr ns), some (.int n), some (.int sz), some (.int u), some (.cell 0), some (.int at_), some (.int am), some (.int f), some (.int now), x9, x10, x11] [.lst ((ps ++ qs).map qE)])) :
    Wp Q (l__law_round_arcs_1 [some (scr ns), some (.int n), some (.int sz), some (.int u), some (.cell 0), some (.int at_), some (.int am), some (.int f), some (.int f), x9, x10, x11] [.lst (ps.map qE)]) := by
  unfold l__law_round_arcs_1
  have d1 := drawF_bd ns ((at_ : Int) + 2) (m := 4) (by decide)
  obtain ⟨m, hm⟩ : ∃ m : Nat, (m : Int) = 1 + drawF ns ((at_ : Int) + 2) 4 := ⟨(1 + drawF ns ((at_ : Int) + 2) 4).toNat, by omega⟩
  obtain ⟨I, hI⟩ : ∃ I : Nat → VS → Hv → Prop, I = fun j σ h => ∃ (qs : List Pa) (now : Int) (x9 x10 x11 : Option D), σ = [some (scr ns), some (.int n), some (.int sz), some (.int u), some (.cell 0), some (.int at_), some (.int am), some (.int f), some (.int now), x9, x10, x11] ∧ h = [.lst ((ps ++ qs).map qE)] ∧ qs.length = j ∧ (∀ p ∈ qs, PaOk n p) ∧ (0 ≤ now ∧ now < n) ∧ ∀ v, PF.gn qs v = (if now = v then am else 0) - (if f = v then am else 0) := ⟨_, rfl⟩
  refine Wp.range 0 m I (h0 := [.lst (ps.map qE)]) ?_ (by rw [hI]; exact ⟨[], f, _, _, _, rfl, by simp, rfl, fun p h => (nomatch h), ⟨f0, f1⟩, fun v => by simp [PF.gn]⟩) ?_ ?_
  · have e : (1 + drawF ns ((at_ : Int) + 2) 4).toNat = m := by omega
    simp (disch := omega) [draw_same, callP_draw, e]
  · intro j σ h hj hh
    rw [hI] at hh
    obtain ⟨qs, now, y9, y10, y11, rfl, rfl, hq, ok, ⟨w0, w1⟩, hg⟩ := hh
    refine ⟨_, rfl, ?_⟩
    have e0 : (0 : Int) + (j : Int) = j := by omega
    have d2 := drawF_bd ns ((at_ : Int) + 3 + (j : Int)) (m := 9 * (n : Int)) (by omega)
    obtain ⟨N, hN⟩ : ∃ N, N = drawF ns ((at_ : Int) + 3 + (j : Int)) (9 * (n : Int)) := ⟨_, rfl⟩
    rw [← hN] at d2
    have r0 : 0 ≤ N / 9 % ((n : Int) - 1) := Int.emod_nonneg _ (by omega)
    have r1 : N / 9 % ((n : Int) - 1) < (n : Int) - 1 := Int.emod_lt_of_pos _ (by omega)
    obtain ⟨b0, b1, b2⟩ := behind_ne (n := (n : Int)) (now := now) (by omega) w0 w1 r0 r1
    obtain ⟨B, hB⟩ : ∃ B, B = (now + 1 + N / 9 % ((n : Int) - 1)) % (n : Int) := ⟨_, rfl⟩
    rw [← hB] at b0 b1 b2
    have p1 : (0 : Int) < (n : Int) - 1 := by omega
    have p2 : (0 : Int) < n := by omega
    have p3 : (1 : Int) < n := by omega
    have p4 : 0 < n := by omega
    have p5 : 1 < n := by omega
    have lq2 : ps.length + qs.length < 16777216 := by omega
    simp (disch := omega) [e0, draw_same, callP_draw, ← hN, p1, p2, p3, p4, p5, ← hB, lq2]
    rw [hI]
    refine ⟨qs ++ [((⟨now, B, if N % 3 < am then am - N % 3 else 0, am + N / 3 % 3⟩ : Arc), am)], B, _, _, _, rfl, ?_, by simp [hq], fun p hp => ?_, ⟨b0, b1⟩, fun v => ?_⟩
    · simp [qE, aD]
    · rcases List.mem_append.mp hp with hp | hp
      · exact ok p hp
      · rw [List.mem_singleton] at hp
        subst hp
        refine ⟨⟨⟨w0, w1, b0, b1⟩, b2, ⟨?_, ?_⟩, ?_⟩, ?_, ?_⟩ <;> dsimp only
        · split <;> omega
        · split <;> omega
        · omega
        · split <;> omega
        · omega
    · rw [gn_app, hg, gn_one]
      unfold PF.gt
      dsimp only
      omega
  · intro σ h hh
    rw [hI] at hh
    obtain ⟨qs, now, y9, y10, y11, rfl, rfl, hq, ok, ⟨w0, w1⟩, hg⟩ := hh
    exact fin qs now _ _ _ (fun z => by rw [z] at hq; simp at hq; omega) (by omega) ok w0 w1 hg
def lenH (h : Hv) : Nat := match h[0]? with
  | some (Cell.lst xs) => xs.length
  | _ => 0
theorem rounds_eq {ns : List Int} {n sz : Nat} {u : Int} (hl : ns.length ≤ 63) (n2 : 2 ≤ n) (n3 : n ≤ 120) (s2 : sz ≤ 290) (u0 : 1 ≤ u) (u1 : u ≤ 10 ^ 57) :
    ∃ ps : List Pa, m__law_round_arcs [scr ns, .int n, .int sz, .int u] [] = .ok (.cell 0) [.lst ((ps.map (·.1)).map aD)] ∧ Rn n ps ∧ ps.length ≤ 294 := by
  obtain ⟨PP, hPP⟩ : ∃ PP : VD.R D → Prop, PP = fun x => ∃ ps : List Pa, x = .ok (.cell 0) [.lst (ps.map qE)] ∧ Rn n ps ∧ ps.length ≤ 294 := ⟨_, rfl⟩
  have key : PP (m__law_round_arcs [scr ns, .int n, .int sz, .int u] []) := by
    refine fnU_at (P := PP) rfl ?_
    unfold b__law_round_arcs
    simp
    unfold l__law_round_arcs_2
    obtain ⟨I, hI⟩ : ∃ I : VS → Hv → Prop, I = fun σ h => ∃ (ps : List Pa) (at_ : Nat) (x6 x7 x8 x9 x10 x11 : Option D), σ = [some (scr ns), some (.int n), some (.int sz), some (.int u), some (.cell 0), some (.int at_), x6, x7, x8, x9, x10, x11] ∧ h = [.lst (ps.map qE)] ∧ Rn n ps ∧ at_ ≤ 6 + 8 * ps.length ∧ ps.length ≤ sz + 4 := ⟨_, rfl⟩
    refine Wp.while I (fun _ h => sz - lenH h) ?_ (by rw [hI]; exact ⟨[], 6, _, _, _, _, _, _, rfl, rfl, ⟨fun p h => (nomatch h), fun v => rfl⟩, by simp, by simp⟩)
    intro σ h hh
    rw [hI] at hh
    obtain ⟨ps, at_, x6, x7, x8, x9, x10, x11, rfl, rfl, rn, ha, hp⟩ := hh
    have lh : ∀ ps : List Pa, lenH [.lst (ps.map qE)] = ps.length := fun ps => by unfold lenH; simp
    rw [lh]
    by_cases q : ps.length < sz
    · refine ⟨true, by simp [q], ?_⟩
      rw [if_pos rfl]
      have d1 := drawF_bd ns (at_ : Int) (m := 9) (by decide)
      have d3 := drawF_bd ns ((at_ : Int) + 1) (m := (n : Int)) (by omega)
      obtain ⟨am, hA⟩ : ∃ am, am = drawF ns (at_ : Int) 9 * u := ⟨_, rfl⟩
      have m1 := mul_bd (a := drawF ns (at_ : Int) 9) (u := u) (k := 8) (b := 10 ^ 57) (by omega) (by omega) (by omega) (by exact_mod_cast u1)
      have t1 : ((8 * 10 ^ 57 : Nat) : Int) = 8 * 10 ^ 57 := by norm_cast
      rw [t1, ← hA] at m1
      obtain ⟨f, hf⟩ : ∃ f, f = drawF ns ((at_ : Int) + 1) n := ⟨_, rfl⟩
      rw [← hf] at d3
      simp (disch := omega) [draw_same, callP_draw, ← hA, ← hf]
      refine rounds_in hl n2 n3 (by omega) (by omega) d3.1 d3.2 (by omega) (by omega) rn ?_
      intro qs now y9 y10 y11 qn ql qok w0 w1 qg
      simp only [Wp_sq_next]
      have l16 : ps.length + qs.length < 16777216 := by omega
      have qp : 0 < qs.length := List.length_pos_iff.mpr qn
      by_cases z : now = f
      · have e1 : (now = f) = True := eq_true z
        have g0 : ∀ v, PF.gn (ps ++ qs) v = 0 := fun v => by rw [gn_app, rn.gn, qg, z]; omega
        simp [e1]
        rw [hI]
        refine ⟨⟨ps ++ qs, at_ + 8, _, _, _, _, _, _, rfl, by simp, ⟨fun p hp => ?_, g0⟩, by simp; omega, by simp; omega⟩, ?_⟩
        · rcases List.mem_append.mp hp with hp | hp
          · exact rn.ok p hp
          · exact qok p hp
        · rw [← List.map_append, lh, List.length_append]; omega
      · have e1 : (now = f) = False := eq_false z
        have g0 : ∀ v, PF.gn (ps ++ qs ++ [((⟨now, f, if 1 < am then am - 1 else 0, am⟩ : Arc), am)]) v = 0 := fun v => by
          rw [gn_app, gn_app, rn.gn, qg, gn_one]
          unfold PF.gt
          dsimp only
          omega
        simp [e1, l16]
        rw [hI]
        have em : [Cell.lst (ps.map qE ++ (qs.map qE ++ [D.tup [D.int now, D.int f, D.int (if 1 < am then am - 1 else 0), D.int am]]))] = [Cell.lst ((ps ++ qs ++ [((⟨now, f, if 1 < am then am - 1 else 0, am⟩ : Arc), am)]).map qE)] := by simp [qE, aD]
        refine ⟨⟨ps ++ qs ++ [((⟨now, f, if 1 < am then am - 1 else 0, am⟩ : Arc), am)], at_ + 8, _, _, _, _, _, _, rfl, em, ⟨fun p hp => ?_, g0⟩, by simp; omega, by simp; omega⟩, ?_⟩
        · rcases List.mem_append.mp hp with hp | hp
          · rcases List.mem_append.mp hp with hp | hp
            · exact rn.ok p hp
            · exact qok p hp
          · rw [List.mem_singleton] at hp
            subst hp
            refine ⟨⟨⟨w0, w1, d3.1, d3.2⟩, z, ⟨?_, ?_⟩, ?_⟩, ?_, ?_⟩ <;> dsimp only
            · split <;> omega
            · split <;> omega
            · omega
            · split <;> omega
            · omega
        · rw [em, lh]
          simp
          omega
    · refine ⟨false, by simp; omega, ?_⟩
      rw [if_neg (by simp)]
      simp
      rw [hPP]
      exact ⟨ps, rfl, rn, by omega⟩
  rw [hPP] at key
  obtain ⟨ps, e, rn, l⟩ := key
  exact ⟨ps, by rw [e, List.map_map]; rfl, rn, l⟩
/-! a cut, told -/
theorem is_cut_ok {n : Nat} {arcs : List Arc} {L : List Int} (ok : NetOk n arcs) (c : IsCut n arcs L) (r : L.Pairwise (· < ·)) : m__law_is_cut [.int n, arcsD arcs, .lst (L.map .int)] [] = .ok (.bl true) [] := by
  refine fnS_of (P := fun r => r = .ok (.bl true) []) rfl ?_
  unfold b__law_is_cut
  have n2 := ok.n2
  have n3 := ok.len
  have lL := sorted_nd r c.bd
  have l4 : L.length < 4000 := by omega
  have l5 : L.length ≤ 1000 := by omega
  have sI : setI L = L := setI_id.mpr r
  have w := cP (wholes_ok (xs := L) l5) (by simp)
  rw [← wholes_same] at w
  obtain ⟨v, hv, vf⟩ := ix_first c.ne
  obtain ⟨u, hu, uf⟩ := ix_last c.ne
  have v0 : ¬ v < 0 := by have := c.bd v hv; omega
  have u0 : ¬ ((n : Int) ≤ u) := by have := c.bd u hu; omega
  have ln : L ≠ [] := c.ne
  have c1 : ∀ y h, c__law_is_cut_1 [some (.int n), some (arcsD arcs), some (.lst (L.map .int)), y, none] h = .ok (((arcs.filter fun a => decide (a.a ∈ L) && !decide (a.b ∈ L)).map fun a => a.d).map .int) h := by
    intro y h
    unfold c__law_is_cut_1
    rw [lLc_filter aD (fun a => decide (a.a ∈ L) && !decide (a.b ∈ L)) (fun a => .int a.d) arcs (chk := always) (h0 := h) (show iL _ _ _ = .ok (arcs.map aD, always) _ by simp [arcsD]) rfl (by omega) fun a ha => ⟨_, rfl, ?_, fun _ => by simp [i3]⟩, List.map_map]
    · rfl
    · by_cases q : a.a ∈ L <;> simp [i0, i1, oIn_ints, oNotIn_ints, q]
  have c2 : ∀ y h, c__law_is_cut_2 [some (.int n), some (arcsD arcs), some (.lst (L.map .int)), y, none] h = .ok (((arcs.filter fun a => decide (a.b ∈ L) && !decide (a.a ∈ L)).map fun a => a.c).map .int) h := by
    intro y h
    unfold c__law_is_cut_2
    rw [lLc_filter aD (fun a => decide (a.b ∈ L) && !decide (a.a ∈ L)) (fun a => .int a.c) arcs (chk := always) (h0 := h) (show iL _ _ _ = .ok (arcs.map aD, always) _ by simp [arcsD]) rfl (by omega) fun a ha => ⟨_, rfl, ?_, fun _ => by simp [i2]⟩, List.map_map]
    · rfl
    · by_cases q : a.b ∈ L <;> simp [i0, i1, oIn_ints, oNotIn_ints, q]
  have h1 := c.cut (arcs.map fun _ => 0) (by simp)
  have az : arcs = (arcs.zip (arcs.map fun _ => (0 : Int))).map (·.1) := by rw [List.map_fst_zip (by simp)]
  have s1 : ((arcs.filter fun a => decide (a.a ∈ L) && !decide (a.b ∈ L)).map fun a => a.d).sum = so (arcs.zip (arcs.map fun _ => 0)) L (fun p => p.1.d) := by
    rw [sum_filter]
    unfold so
    conv => lhs; rw [az, List.map_map]
    refine sum_eq fun p _ => ?_
    by_cases q1 : p.1.a ∈ L <;> by_cases q2 : p.1.b ∈ L <;> simp [q1, q2]
  have s2 : ((arcs.filter fun a => decide (a.b ∈ L) && !decide (a.a ∈ L)).map fun a => a.c).sum = si (arcs.zip (arcs.map fun _ => 0)) L (fun p => p.1.c) := by
    rw [sum_filter]
    unfold si
    conv => lhs; rw [az, List.map_map]
    refine sum_eq fun p _ => ?_
    by_cases q1 : p.1.a ∈ L <;> by_cases q2 : p.1.b ∈ L <;> simp [q1, q2]
  have e0 : eqD [] (.lst (L.map .int)) (.lst (L.map .int)) = some true := by rw [eqD_ints]; simp
  have h2 := h1
  rw [← s1, ← s2] at h2
  simp [w, l4, sI, e0, ln, vf, uf, v0, u0, c1, c2, h2, -List.map_map]
theorem right_ok {n : Nat} {arcs : List Arc} {t : Str} {xs : List Int} {sure : Bool} (ok : NetOk n arcs) (r : FlR n arcs t xs) (hs : sure = true → t = "flow") : m__law_right [.int n, arcsD arcs, .tup [.str t, .lst (xs.map .int)], .bl sure] [] = .ok (.bl true) [] := by
  refine fnS_of (P := fun r => r = .ok (.bl true) []) rfl ?_
  unfold b__law_right
  cases r with
  | flow f =>
    have e := cP (is_flow_ok ok f) pure3
    rw [← is_flow_same] at e
    simp [kTT, e]
  | cut c r =>
    have e := cP (is_cut_ok ok c r) pure3
    have z : ¬ (("cut" : Str) = "flow") := by decide
    cases sure with
    | true => exact absurd (hs rfl) z
    | false => simp [kTT, e, z]
/-! the end of the law -/
theorem eqD_arcs {h : Hv} {arcs : List Arc} : eqD h (arcsD arcs) (arcsD arcs) = some true := by
  refine eqD_same (p := .list (arcs.map fun a => PyData.tuple [.int a.a, .int a.b, .int a.c, .int a.d])) ?_ ?_ <;> simp [arcsD, py_aD]
theorem tail10 {ns : List Int} {n : Nat} {arcs : List Arc} {sure : Bool} (ok : NetOk n arcs) (hs : sure = true → ∀ L, ¬ IsCut n arcs L) (x2 x3 x8 x9 x10 x11 x12 : Option D) :
    Wp (Rt fun x => x = .ok (.bl true) []) (t_law_10 [some (scr ns), some (.int n), x2, x3, some (arcsD arcs), some (.bl sure), none, none, x8, x9, x10, x11, x12] []) := by
  unfold t_law_10
  have n3 := ok.len
  obtain ⟨t, xs, r, e⟩ := flow_gc ok
  have ht : sure = true → t = "flow" := fun z => by
    cases r with
    | flow f => rfl
    | cut c _ => exact absurd c (hs z _)
  have lb : ∀ h, bList [arcsD arcs] h = .ok (arcs.map aD) h := fun h => by unfold arcsD; simp
  have ea : D.lst (arcs.map aD) = arcsD arcs := rfl
  have er := right_ok (sure := sure) ok r ht
  have r1 : ∀ H : Hv, H = [.lst (xs.map .int)] → callB m__law_right [.int n, arcsD arcs, .tup [.str t, .cell 0], .bl sure] H = .ok (.bl true) H := fun H hH => callB_ok (ds' := [.int n, arcsD arcs, .tup [.str t, .lst (xs.map .int)], .bl sure]) (by
    rw [hH]
    simp [optAll_cons, frz_arcs, frz_ints]) er rfl
  have r1 := r1 _ rfl
  have lx : xs.length ≤ 1000 := by
    cases r with
    | flow f => have := f.len; omega
    | cut c q => have := sorted_nd q c.bd; have := ok.n2; omega
  have l16 : xs.length < 16777216 := by omega
  have fz : ∀ h : Hv, frz 0 h 12 (arcsD arcs) = some (arcsD arcs) := fun h => frz_arcs
  cases xs with
  | nil =>
    simp only [List.map_nil] at e r1
    simp [lb, ea, e, eqD_arcs, r1, fz]
  | cons x xs =>
    have l17 : xs.length + 1 < 16777216 := by simpa using l16
    have z : ¬ ((xs.length : Int) + 1 ≤ 0) := by omega
    have z2 : (0 : Int) < (xs.length : Int) + 1 := by omega
    have ix : ixN (xs.length + 1) 0 = some 0 := ixN_some rfl (by omega)
    simp only [List.map_cons] at e r1
    simp [lb, ea, e, eqD_arcs, r1, fz, z2, ix, l17]
theorem turn_map {α β : Type} (f : α → β) (xs : List α) (k : Int) : turnF (xs.map f) k = (turnF xs k).map f := by
  unfold turnF
  rw [List.length_map]
  dsimp only
  split <;> simp [List.map_drop, List.map_take]
theorem tail9 {ns : List Int} (hl : ns.length ≤ 63) {n : Nat} {arcs : List Arc} {sure : Bool} (n1 : 1 ≤ n) (n2 : n ≤ 120) (la : arcs.length ≤ 294) (ao : ∀ a ∈ arcs, ArOk n a) (hs : sure = true → ∃ fl, IsFlow n arcs fl) {h : Hv} {j : Nat} (hj : h[j]? = some (.lst (arcs.map aD))) {x2 x3 : Int} {x8 x9 x10 x11 x12 : Option Int} :
    Wp (Rt fun x => x = .ok (.bl true) []) (t_law_9 0 [some (scr ns), some (.int n), some (.int x2), some (.int x3), some (.cell j), some (.bl sure), none, none, x8.map .int, x9.map .int, x10.map .int, x11.map .int, x12.map .int] h) := by
  unfold t_law_9
  have d5 := drawF_bd ns 5 (m := 200) (by decide)
  have et := turned_eq (e := aD) (xs := arcs) (k := drawF ns 5 200) hj (by omega) d5.1
  rw [← turned_same] at et
  obtain ⟨qs, hq⟩ : ∃ qs, qs = turnF arcs (drawF ns 5 200) := ⟨_, rfl⟩
  have pm : qs.Perm arcs := by rw [hq]; exact turn_perm arcs _
  rw [← hq] at et
  have ok : NetOk n qs := ⟨n1, n2, by rw [pm.length_eq]; omega, fun a ha => (ao a (pm.mem_iff.mp ha)).ok, fun a ha => (ao a (pm.mem_iff.mp ha)).ne, fun a ha => (ao a (pm.mem_iff.mp ha)).lo⟩
  have nc : sure = true → ∀ L, ¬ IsCut n qs L := fun z L => by
    obtain ⟨fl, f⟩ := hs z
    obtain ⟨ps, hps⟩ : ∃ ps, ps = arcs.zip fl := ⟨_, rfl⟩
    have ea : arcs = ps.map (·.1) := by rw [hps, List.map_fst_zip (by rw [f.len]; exact Nat.le_refl _)]
    have e0 : qs = (turnF ps (drawF ns 5 200)).map (·.1) := by rw [hq, ← turn_map, ← ea]
    have e1 : qs.zip ((turnF ps (drawF ns 5 200)).map (·.2)) = turnF ps (drawF ns 5 200) := by rw [e0, List.zip_map']; exact List.map_id' _
    refine no_cut (w := 1) (fl := (turnF ps (drawF ns 5 200)).map (·.2)) (by decide) (by rw [e0]; simp) (fun p a x ha hx => ?_) fun v v0 v1 => ?_
    · have hm : (a, x) ∈ qs.zip ((turnF ps (drawF ns 5 200)).map (·.2)) := List.mem_of_getElem? (List.getElem?_zip_eq_some.mpr ⟨ha, hx⟩)
      rw [e1] at hm
      have hm := (turn_perm _ _).mem_iff.mp hm
      rw [hps] at hm
      obtain ⟨i, h1, h2⟩ := zip_at hm
      have := f.inb i a x h1 h2
      omega
    · rw [e1, gn_perm (turn_perm _ _), hps, f.gn v v0 v1]
  have fz : ∀ H : Hv, frz 0 H 12 (scr ns) = some (scr ns) := fun x => by rw [frz_fz, frz_ints]; rfl
  have fa : ∀ H : Hv, optAll (frz 0 H 11) (qs.map aD) = some (qs.map aD) := fun H => frz_aDs
  have fo : ∀ (o : Option Int) (H : Hv), sealO 0 H (o.map .int) = o.map .int := fun o H => by cases o <;> rfl
  have ea : D.lst (qs.map aD) = arcsD qs := rfl
  have gl : (h ++ [Cell.lst (qs.map aD)])[h.length]? = some (.lst (qs.map aD)) := gc1
  have fr : frz 0 (h ++ [Cell.lst (qs.map aD)]) 12 (.cell h.length) = some (arcsD qs) := by
    rw [frz_cell, if_neg (Nat.not_lt_zero _), gl]
    simp only [fa]; rfl
  simp (disch := omega) [draw_same, callP_draw, et, fo, fr, -frz_cell]
  exact tail10 ok nc _ _ _ _ _ _ _
theorem tail8 {ns : List Int} (hl : ns.length ≤ 63) {n : Nat} {arcs : List Arc} {sure : Bool} (n1 : 1 ≤ n) (n2 : n ≤ 120) (la : arcs.length ≤ 294) (ao : ∀ a ∈ arcs, ArOk n a) (hs : sure = true → ∃ fl, IsFlow n arcs fl) {h : Hv} {j : Nat} (hj : h[j]? = some (.lst (arcs.map aD))) {x2 x3 : Int} :
    Wp (Rt fun x => x = .ok (.bl true) []) (t_law_8 0 [some (scr ns), some (.int n), some (.int x2), some (.int x3), some (.cell j), some (.bl sure), none, none, none, none, none, none, none] h) := by
  unfold t_law_8
  have lb : bLen [.cell j] h = .ok (.int (arcs.length : Int)) h := by simp [hj]
  have go : ∀ (sure : Bool), (sure = true → ∃ fl, IsFlow n arcs fl) → Wp (Rt fun x => x = .ok (.bl true) []) (t_law_9 0 [some (scr ns), some (.int n), some (.int x2), some (.int x3), some (.cell j), some (.bl sure), none, none, none, none, none, none, none] h) := fun sure hs =>
    tail9 hl n1 n2 la ao hs hj (x8 := none) (x9 := none) (x10 := none) (x11 := none) (x12 := none)
  cases sure with
  | false =>
    simp
    exact go false (fun z => by cases z)
  | true =>
    by_cases q : 0 < arcs.length
    · have q1 : ((0 : Int) < (arcs.length : Int)) = True := eq_true (by omega)
      by_cases q2 : drawF ns 4 3 = 0
      · have d5 := drawF_bd ns 5 (m := (arcs.length : Int)) (by omega)
        obtain ⟨at_, ha⟩ : ∃ at_ : Nat, (at_ : Int) = drawF ns 5 (arcs.length : Int) := ⟨(drawF ns 5 (arcs.length : Int)).toNat, by omega⟩
        rw [← ha] at d5
        obtain ⟨a, hat⟩ : ∃ a, arcs[at_]? = some a := ⟨_, List.getElem?_eq_getElem (by omega)⟩
        have e1 : atI (arcs.map aD) (at_ : Int) = some (aD a) := atI_map (e := aD) (atI_at rfl hat)
        have e2 : ixN arcs.length (at_ : Int) = some at_ := ixN_some rfl (by omega)
        have a4 := ao a (List.mem_of_getElem? hat)
        obtain ⟨l0, l1⟩ := a4.lo
        have dr : ∀ h, callP drawM [scr ns, .int 5, .int (arcs.length : Int)] h = .ok (.int (at_ : Int)) h := fun h => by rw [callP_draw (by decide) (by decide) (by omega) hl, ha]
        have gT4 : ∀ σ : VS, gT 4 (gsCons (gN 9) (gsCons (gN 10) (gsCons (gN 11) (gsCons (gN 12) (gsNil))))) (aD a) σ = some ((((σ.set 9 (some (.int a.a))).set 10 (some (.int a.b))).set 11 (some (.int a.c))).set 12 (some (.int a.d))) := fun σ => rfl
        obtain ⟨M, hM⟩ : ∃ M, M = (if 1 < a.d then a.d - 1 else 0) := ⟨_, rfl⟩
        obtain ⟨m, hm⟩ : ∃ m, m = (if M < a.c then M else a.c) := ⟨_, rfl⟩
        have b : 0 ≤ m ∧ m ≤ M ∧ M < 10 ^ 70 := by have := a4.big; rw [hm, hM]; split <;> split <;> omega
        have es : (arcs.map aD).set at_ (.tup [.int a.a, .int a.b, .int m, .int M]) = (arcs.set at_ ⟨a.a, a.b, m, M⟩).map aD := by rw [List.map_set]; rfl
        have h1 : (0 : Int) < arcs.length := by omega
        have hsj : ∀ c : Cell, (h.set j c)[j]? = some c := fun c => by rw [List.getElem?_set_self (List.getElem?_eq_some_iff.mp hj).1]
        simp (disch := omega) [draw_same, callP_draw, lb, q1, h1, q, q2, dr, hj, e1, e2, gT4, ← hM, ← hm, es, -List.map_set]
        exact tail9 hl n1 n2 (by simp; omega) (fun x hx => by
          rcases List.mem_or_eq_of_mem_set hx with hx | hx
          · exact ao x hx
          · subst hx
            exact ⟨a4.ok, a4.ne, ⟨b.1, b.2.1⟩, b.2.2⟩) (fun z => by cases z) (hsj _) (x8 := some (at_ : Int)) (x9 := some a.a) (x10 := some a.b) (x11 := some a.c) (x12 := some a.d)
      · have h1 : (0 : Int) < arcs.length := by omega
        simp (disch := omega) [draw_same, callP_draw, lb, q1, h1, q, q2]
        exact go true hs
    · have h1 : ¬ (0 : Int) < arcs.length := by omega
      simp (disch := omega) [lb, h1, q]
      exact go true hs
theorem tail7 {ns : List Int} (hl : ns.length ≤ 63) {n sz : Nat} {u : Int} {sure : Bool} (n1 : 1 ≤ n) (n2 : n ≤ 120) (s2 : sz ≤ 290) (u0 : 1 ≤ u) (u1 : u ≤ 10 ^ 57) :
    Wp (Rt fun x => x = .ok (.bl true) []) (t_law_7 0 [some (scr ns), some (.int n), some (.int sz), some (.int u), some (.cell 0), some (.bl sure), none, none, none, none, none, none, none] [.lst []]) := by
  unfold t_law_7
  by_cases q : 2 ≤ n
  · have q1 : (1 : Int) < n := by omega
    have q2 : 1 < n := by omega
    cases sure with
    | true =>
      obtain ⟨ps, e, rn, pl⟩ := rounds_eq (ns := ns) (n := n) (sz := sz) (u := u) hl q n2 s2 u0 u1
      have er := gc_at (e := aD) (fun h b x => ownAr x) (fun n x => shAr x) (ds := [scr ns, .int n, .int sz, .int u]) (by simp) e rfl [.lst []]
      simp [q1, q2, er]
      have := tail8 (sure := true) hl n1 n2 (arcs := ps.map (·.1)) (by simpa using pl) (fun a ha => by
        obtain ⟨p, hp, rfl⟩ := List.mem_map.mp ha
        exact (rn.ok p hp).ok) (fun _ => ⟨ps.map (·.2), by simp, fun p a f ha hf => by
          rw [List.getElem?_map] at ha hf
          cases q : ps[p]? with
          | none => rw [q] at ha; cases ha
          | some x =>
            rw [q] at ha hf
            cases ha
            cases hf
            have h := rn.ok x (List.mem_of_getElem? q)
            exact ⟨h.l, h.u⟩, fun v _ _ => by
          have : (ps.map (·.1)).zip (ps.map (·.2)) = ps := by rw [List.zip_map']; exact List.map_id' _
          rw [this]; exact rn.gn v⟩) (h := [.lst [], .lst ((ps.map (·.1)).map aD)]) (j := 1) rfl (x2 := sz) (x3 := u)
      simpa using this
    | false =>
      obtain ⟨arcs, e, ok, al⟩ := any_eq (ns := ns) (n := n) (sz := sz) (u := u) hl q n2 s2 u0 u1
      have er := gc_at (e := aD) (fun h b x => ownAr x) (fun n x => shAr x) (ds := [scr ns, .int n, .int sz, .int u]) (by simp) e rfl [.lst []]
      simp [q1, q2, er]
      have := tail8 (sure := false) hl n1 n2 (arcs := arcs) (by omega) ok (fun z => by cases z) (h := [.lst [], .lst (arcs.map aD)]) (j := 1) rfl (x2 := sz) (x3 := u)
      simpa using this
  · have q1 : ¬ (1 : Int) < n := by omega
    have q2 : ¬ 1 < n := by omega
    simp [q1, q2]
    refine tail8 hl n1 n2 (arcs := []) (by simp) (fun a h => nomatch h) (fun _ => ⟨[], rfl, fun p a f ha => by simp at ha, fun v _ _ => rfl⟩) (h := [.lst []]) (j := 0) rfl
theorem law_true : ∀ ns : List Int, ns.length ≤ 63 → m_law [.fz (ns.map .int)] [] = .ok (.bl true) [] := by
  intro ns hs
  refine fnS_of (P := fun x => x = .ok (.bl true) []) rfl ?_
  unfold b_law
  have d0 := drawF_bd ns 0 (m := 8) (by decide)
  have d1 := drawF_bd ns 1 (m := 40) (by decide)
  have d2 := drawF_bd ns 2 (m := 3) (by decide)
  obtain ⟨T, hT⟩ : ∃ T : Int, T = 10 ^ 57 := ⟨_, rfl⟩
  have pw2 : ∀ h, oPow (.int 10) (.int 57) h = .ok (.int T) h := fun h => by rw [oPow_int, if_pos (by decide +kernel), hT]; rfl
  obtain ⟨u, hu, u0, u1⟩ := unit_ok hT d2.1 d2.2
  simp only [ixD_lst] at hu
  have hu := hu []
  have ln : bLen [scr ns] [] = .ok (.int (ns.length : Int)) [] := by simp
  obtain ⟨Z, hZ⟩ : ∃ Z, Z = (if (if (if (6 : Int) < ((ns.length : Int) - 6) / 3 then ((ns.length : Int) - 6) / 3 else 6) < drawF ns 1 40 then drawF ns 1 40 else (if (6 : Int) < ((ns.length : Int) - 6) / 3 then ((ns.length : Int) - 6) / 3 else 6)) < 80 then (if (if (6 : Int) < ((ns.length : Int) - 6) / 3 then ((ns.length : Int) - 6) / 3 else 6) < drawF ns 1 40 then drawF ns 1 40 else (if (6 : Int) < ((ns.length : Int) - 6) / 3 then ((ns.length : Int) - 6) / 3 else 6)) else 80) := ⟨_, rfl⟩
  have zb : 1 ≤ Z ∧ Z ≤ 80 := by omega
  obtain ⟨sz, hsz⟩ : ∃ sz : Nat, (sz : Int) = Z := ⟨Z.toNat, by omega⟩
  obtain ⟨n0, hn0⟩ : ∃ n0 : Nat, (n0 : Int) = 1 + drawF ns 0 8 := ⟨(1 + drawF ns 0 8).toNat, by omega⟩
  have tail : ∀ n : Nat, 1 ≤ n → n ≤ 30 → Wp (Rt fun x => x = .ok (.bl true) []) (t_law_4 [some (scr ns), some (.int n), some (.int sz), some (.int u), none, none, none, none, none, none, none, none, none] []) := by
    intro n n1 n2
    unfold t_law_4
    simp (disch := omega) [draw_same, callP_draw]
    split
    · exact tail7 (n := 120) (sz := 290) hs (by decide) (by decide) (by decide) u0 u1
    · exact tail7 hs n1 (by omega) (by omega) u0 u1
  simp (disch := omega) [draw_same, callP_draw, ln, ← hn0, pw2, hu, -oPow_int]
  rw [← hZ, ← hsz]
  split
  · exact tail 30 (by decide) (by decide)
  · exact tail n0 (by omega) (by omega)
end
end Lk32

namespace Lk32
open PySem PySem.Spec PyProof.Rows L2 VD
noncomputable section
abbrev R0 : PySem.W.OpenRow := PySem.W.OpenLaw.row PySem.Challenge.rw_crosshall_k32_whole_a_flow_or_a_cut
abbrev hk : PySem.W.Hook := He.hookD 4 fas dfs
def ob (s : PySem.W.SharedT) : He.AlD := He.obsDG 4 fas dfs (HandSHeadRun.getT s)
theorem ob_eq (s : PySem.W.SharedT) : ob s = hk.obs s.abs := He.obsDG_eq (HandSHeadRun.getT_eq s)
def loose : List Str := (["CrossError", "NoNet", "MOST_NODES", "MOST_ARCS", "asked_net", "gains_of_nodes", "arcs_beside", "reached_nodes", "road_to", "room_on_road", "send_along", "flow_of", "_law_draw", "_law_any_arcs", "_law_round_arcs", "_law_turned", "_law_wholes", "_law_is_flow", "_law_is_cut", "_law_right"] : List Str)
set_option maxHeartbeats 0 in
theorem run (w : World) : HandSHeadRun.RunEq R0 (PySem.W.view R0.prog [24]) hk ob 8000 loose w := by
  intro os
  kernel_rfl
end
end Lk32
open PySem PySem.W PySem.Calls PyProof.Rows
set_option maxHeartbeats 0 in
theorem PySem.Challenge.cw_crosshall_k32_whole_a_flow_or_a_cut_holds : PySem.Challenge.rw_crosshall_k32_whole_a_flow_or_a_cut.Holds := by
  w_on; o_law
  refine HandSHeadRun.head_any (r := OpenLaw.row PySem.Challenge.rw_crosshall_k32_whole_a_flow_or_a_cut) (q := view (OpenLaw.row PySem.Challenge.rw_crosshall_k32_whole_a_flow_or_a_cut).prog [24]) (H := Lk32.hk) (ob := Lk32.ob) (M := 8000) (loose := Lk32.loose) (d := HandSHeadRun.topDef (OpenLaw.row PySem.Challenge.rw_crosshall_k32_whole_a_flow_or_a_cut).prog 24) (kwd := []) Lk32.ob_eq
    (by kernel_rfl) (fun s => by kernel_rfl) Lk32.run (by kernel_rfl) (by kernel_rfl) (by kernel_rfl) (by rfl) (by first | assumption | decide +kernel) (by decide +kernel) ⟨rfl, rfl, rfl, rfl, rfl, by decide +kernel⟩ ?hw ?hc
  case hw => w_witness2
  case hc =>
    refine VD.walk_own (lw := PySem.Challenge.rw_crosshall_k32_whole_a_flow_or_a_cut) (num := 63) (lev := 4) (nm := "_law_script") (CC := L2.CX PySem.Challenge.pw_crosshall_k32_whole_a_flow_or_a_cut) rfl (by decide) (by kernel_rfl) ⟨rfl, by decide, by decide⟩ ?F (fun _ _ _ _ _ z => VD.cx_false z)
    intro w mg fa h Y G hmg0
    obtain ⟨K, KX, c⟩ := Y
    have hmg : mg ("law" : PySem.Str) = some (.ref fa) := by
      have e : (HandSHeadRun.topDef (OpenLaw.row PySem.Challenge.rw_crosshall_k32_whole_a_flow_or_a_cut).prog 24).name = ("law" : PySem.Str) := by kernel_rfl
      rw [← e]
      exact hmg0
    have T := Lk32.tx_of KX G c
    exact VD.law_end KX T.d_law T.g_law hmg (fun fd F s u => by obtain ⟨_, _, _, _, _, _, _, _, _, rfl, _, _⟩ := F.ex; exact .of_eq rfl) (fun base => Lk32.ok_law T) Lk32.law_true

