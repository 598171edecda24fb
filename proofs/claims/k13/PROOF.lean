import PyProof.Rows.All
import Wide.All
import OpenK.AllK
import Wide.FinOn
import HandS.ForMost
import HandS.Exc
import HandS.TryOnly
import HandS.ExcOwn
import HandS.WordsExc
import HandS.IsInst
import HandS.Wide
import HandS.HeadHook1
import KE.KDictKeyed
import KE.KDictCopyH
import KE.SortKeyHeap
import HandS.Style
import KE.DatumMore
import HandS.SortInts
import HandS.Text
import KE.DataEq
import HandS.More
import HandS.HeadNt
import HandS.Head0
import HandS.Head1
import HandS.Head2
import HandS.HeadEnd
import HandS.HeadHook2
import HandS.Conv
import HandS.ExcIs
import HandS.ExcInit
import HandS.ExcField
import KE.KExcIs
import HandS.SortRule
import HandS.RaiseMore
import PyProof.StrOps2
import HandS.Rev
import HandS.TryMany
import HandS.SetKeys
import HandS.Strs
import HandS.TupSets
import HandS.HotCalls
import HandS.Zip
import KE.KDictDisplayH
import HandS.ClsMeth
import HandS.SortKw
import PySem.Challenge.RW_crosshall_k13_heads_in_order
set_option Elab.async false
set_option linter.all false
set_option maxRecDepth 100000
set_option maxHeartbeats 4000000
/-! VD: values as data, objects that change as numbered cells; what a text computes, as a function. -/
namespace VD
open PySem PySem.Spec PyProof.Rows L2

inductive D where
  | non | bl (b : Bool) | int (i : Int) | str (x : Str) | lst (xs : List D) | fz (xs : List D) | tup (xs : List D) | cell (n : Nat) | raw (v : V)
  | dct (ks : List Key) (ds : List D) | obj (c : Str) (ks : List Str) (ds : List D) | exv (a dd : Addr) (f : Str) (d : D)

inductive Cell where
  | lst (xs : List D) | dK (kvs : List (Key × D)) | dF (kvs : List (Key × D)) | ins (c : Str) (fs : List (Str × D))
  | dN (w : World) (kvs : List (NestedKey × D))

abbrev VS := List (Option D)
abbrev Hv := List Cell
structure Xn where
  cls : Str
  pay : Option (Str × D)
inductive R (α : Type) where
  | ok (a : α) (h : Hv) | exc (x : Xn) (h : Hv) | stuck
def R.bind {α β : Type} (r : R α) (f : α → Hv → R β) : R β := match r with
  | .ok a h => f a h
  | .exc x h => .exc x h
  | .stuck => .stuck
@[simp] theorem R.bind_ok {α β : Type} (a : α) (h : Hv) (f : α → Hv → R β) : (R.ok a h).bind f = f a h := rfl
@[simp] theorem R.bind_exc {α β : Type} (x : Xn) (h : Hv) (f : α → Hv → R β) : (R.exc x h : R α).bind f = .exc x h := rfl
@[simp] theorem R.bind_stuck {α β : Type} (f : α → Hv → R β) : (R.stuck : R α).bind f = .stuck := rfl
abbrev ES := VS → Hv → R D
abbrev LS := VS → Hv → R (List D)
abbrev CS := VS → Hv → R Bool
inductive RS where
  | next (σ : VS) (h : Hv) | ret (d : D) (h : Hv) | brk (σ : VS) (h : Hv) | cont (σ : VS) (h : Hv) | exc (x : Xn) (σ : VS) (h : Hv) | stuck
abbrev SS := VS → Hv → RS

/-! dicts whose keys are tuples -/
mutual
def nkD : NestedKey → D
  | .none => .non
  | .num i => .int i
  | .text x => .str x
  | .tup ks => .tup (nkDs ks)
def nkDs : List NestedKey → List D
  | [] => []
  | k :: ks => nkD k :: nkDs ks
end
/-- what stands at a: entries with keys, their tuples, values -/
def NDh (w : World) (a : Addr) (xs : List (NestedKey × Addr × V)) (h : Heap) : Prop := (a == sysModules) = false ∧ xs.length ≤ sizeLine ∧ (∀ x ∈ xs, x.1.depth ≤ 8) ∧ (xs.map (·.1)).Nodup ∧
  ∃ ys : List (NestedKey × Addr × Value), Paired (fun (p : NestedKey × Addr × V) (q : NestedKey × Addr × Value) => p.1 = q.1 ∧ p.2.1 = q.2.1 ∧ RelV p.2.2 q.2.2) xs ys ∧
    ∃ o es ep, h.get? a = some o ∧ o.ExactDict ∧ o.data = .dict es ep ∧ es.toList = ys.map fun y => ⟨y.1.hash w, .ref y.2.1, y.2.2⟩
abbrev NDO (w : World) (a : Addr) (xs : List (NestedKey × Addr × V)) : HO := .ext (NDh w a xs)
/-! ### what stands for what -/
section
variable (K : PySem.W.Frag) (φ : List Addr) (S : Hp)
mutual
inductive Rp : V → D → Prop where
  | non : Rp .non .non
  | bl (b : Bool) : Rp (.bl b) (.bl b)
  | int (i : Int) : Rp (.int i) (.int i)
  | str (x : Str) : Rp (.str x) (.str x)
  | lst {a : Addr} {vs : List V} {ds : List D} : S a = some (.lst vs) → RpA vs ds → Rp (.ref a) (.lst ds)
  | fz {a : Addr} {vs : List V} {ds : List D} : SqL K S a vs → RpA vs ds → Rp (.ref a) (.fz ds)
  | tup {a : Addr} {vs : List V} {ds : List D} : SqT K S a vs → RpA vs ds → Rp (.ref a) (.tup ds)
  | cell {a : Addr} {n : Nat} : φ[n]? = some a → Rp (.ref a) (.cell n)
  | raw (v : V) : Rp v (.raw v)
  | dct {a : Addr} {od : Obj} {kv : List (Key × V)} {ks : List Key} {ds : List D} : S a = some (.frz od (.dK kv)) → kv.map (·.1) = ks → RpA (kv.map (·.2)) ds → Rp (.ref a) (.dct ks ds)
  | obj {a dx : Addr} {fv : List (Str × V)} {c : Str} {ks : List Str} {ds : List D} : S a = some (.ins (He.ga K c) dx fv) → fv.map (·.1) = ks → RpA (fv.map (·.2)) ds → Rp (.ref a) (.obj c ks ds)
  | exv {a dd : Addr} {f : Str} {v : V} {d : D} : S dd = some (.xd [(f, v)]) → Rp v d → Rp (.ref a) (.exv a dd f d)
inductive RpA : List V → List D → Prop where
  | nil : RpA [] []
  | cons {v : V} {vs : List V} {d : D} {ds : List D} : Rp v d → RpA vs ds → RpA (v :: vs) (d :: ds)
end
def RpC : Cell → HO → Prop
  | .lst ds, o => ∃ vs, o = .lst vs ∧ RpA K φ S vs ds
  | .dK kvs, o => ∃ kv : List (Key × V), o = .dK kv ∧ kv.map (·.1) = kvs.map (·.1) ∧ RpA K φ S (kv.map (·.2)) (kvs.map (·.2))
  | .dF kvs, o => ∃ (od : Obj) (kv : List (Key × V)), o = .frz od (.dK kv) ∧ kv.map (·.1) = kvs.map (·.1) ∧ RpA K φ S (kv.map (·.2)) (kvs.map (·.2))
  | .ins c fs, o => ∃ dx fv, o = .ins (He.ga K c) dx fv ∧ fv.map (·.1) = fs.map (·.1) ∧ RpA K φ S (fv.map (·.2)) (fs.map (·.2))
  | .dN w kvs, o => ∃ (a : Addr) (xs : List (NestedKey × Addr × V)), o = NDO w a xs ∧ xs.map (·.1) = kvs.map (·.1) ∧ (∀ x ∈ xs, Rp K [] S (.ref x.2.1) (nkD x.1)) ∧ RpA K φ S (xs.map (·.2.2)) (kvs.map (·.2))
end

/-- more is known -/
def Ex (H H' : Hp) : Prop := ∀ a o, H a = some o → H' a = some o
theorem Ex.refl (H : Hp) : Ex H H := fun _ _ h => h
theorem Ex.trans {H H1 H2 : Hp} (a : Ex H H1) (b : Ex H1 H2) : Ex H H2 := fun x o h => b x o (a x o h)
theorem Ex.new {H : Hp} {p : Addr} {o : HO} (h : H p = none) : Ex H (upd H p o) := fun a u e => by
  rw [upd_ne (ne_of_none e h)]
  exact e
theorem Ex.rd {H H' : Hp} {a : Addr} {u : HO} (e : Ex H H') (h : Rd H a u) : Rd H' a u := by
  rcases h with h | ⟨o, h⟩
  · exact .inl (e a _ h)
  · exact .inr ⟨o, e a _ h⟩
theorem Ex.sql {K : PySem.W.Frag} {H H' : Hp} {a : Addr} {xs : List V} (e : Ex H H') (h : SqL K H a xs) : SqL K H' a xs := h.imp (fun z => e.rd z) id
theorem Ex.sqt {K : PySem.W.Frag} {H H' : Hp} {a : Addr} {xs : List V} (e : Ex H H') (h : SqT K H a xs) : SqT K H' a xs := h.imp (fun z => e.rd z) id

/-- the cells' addresses only grow -/
def Pre (φ φ' : List Addr) : Prop := ∃ ψ, φ' = φ ++ ψ
theorem Pre.refl (φ : List Addr) : Pre φ φ := ⟨[], (List.append_nil φ).symm⟩
theorem Pre.at {φ φ' : List Addr} (p : Pre φ φ') {n : Nat} {a : Addr} (h : φ[n]? = some a) : φ'[n]? = some a := by
  obtain ⟨ψ, rfl⟩ := p
  rw [List.getElem?_append_left (List.getElem?_eq_some_iff.mp h).1]
  exact h

section
variable {K : PySem.W.Frag} {φ φ' : List Addr} {S S' : Hp}
mutual
theorem Rp.mono (p : Pre φ φ') (e : Ex S S') : ∀ {v : V} {d : D}, Rp K φ S v d → Rp K φ' S' v d
  | _, _, .non => .non
  | _, _, .bl b => .bl b
  | _, _, .int i => .int i
  | _, _, .str x => .str x
  | _, _, .lst h r => .lst (e _ _ h) (RpA.mono p e r)
  | _, _, .fz h r => .fz (e.sql h) (RpA.mono p e r)
  | _, _, .tup h r => .tup (e.sqt h) (RpA.mono p e r)
  | _, _, .cell h => .cell (p.at h)
  | _, _, .raw v => .raw v
  | _, _, .dct h k r => .dct (e _ _ h) k (RpA.mono p e r)
  | _, _, .obj h k r => .obj (e _ _ h) k (RpA.mono p e r)
  | _, _, .exv h r => .exv (e _ _ h) (Rp.mono p e r)
theorem RpA.mono (p : Pre φ φ') (e : Ex S S') : ∀ {vs : List V} {ds : List D}, RpA K φ S vs ds → RpA K φ' S' vs ds
  | _, _, .nil => .nil
  | _, _, .cons r t => .cons (Rp.mono p e r) (RpA.mono p e t)
end
theorem RpC.mono (p : Pre φ φ') (e : Ex S S') {c : Cell} {o : HO} (h : RpC K φ S c o) : RpC K φ' S' c o := by
  cases c with
  | lst ds => obtain ⟨vs, h1, h2⟩ := h; exact ⟨vs, h1, h2.mono p e⟩
  | dK kvs => obtain ⟨vs, h1, h2, h3⟩ := h; exact ⟨vs, h1, h2, h3.mono p e⟩
  | dF kvs => obtain ⟨od, vs, h1, h2, h3⟩ := h; exact ⟨od, vs, h1, h2, h3.mono p e⟩
  | ins C fs => obtain ⟨dx, vs, h1, h2, h3⟩ := h; exact ⟨dx, vs, h1, h2, h3.mono p e⟩
  | dN w kvs => obtain ⟨a, xs, h1, h2, h3, h4⟩ := h; exact ⟨a, xs, h1, h2, fun x hx => (h3 x hx).mono (Pre.refl []) e, h4.mono p e⟩
theorem RpA.length {vs : List V} {ds : List D} : RpA K φ S vs ds → vs.length = ds.length := by
  intro h
  induction ds generalizing vs with
  | nil => cases h; rfl
  | cons d ds ih =>
    cases h with
    | cons r t => rw [List.length_cons, List.length_cons, ih t]
theorem RpA.at {vs : List V} {ds : List D} (h : RpA K φ S vs ds) {i : Nat} {d : D} (hd : ds[i]? = some d) : ∃ v, vs[i]? = some v ∧ Rp K φ S v d := by
  induction ds generalizing vs i with
  | nil => simp at hd
  | cons d' ds ih =>
    cases h with
    | cons r t =>
      cases i with
      | zero =>
        rw [List.getElem?_cons_zero] at hd ⊢
        cases hd
        exact ⟨_, rfl, r⟩
      | succ i =>
        rw [List.getElem?_cons_succ] at hd ⊢
        exact ih t hd
theorem RpA.append {vs ws : List V} {ds es : List D} (h : RpA K φ S vs ds) (k : RpA K φ S ws es) : RpA K φ S (vs ++ ws) (ds ++ es) := by
  induction ds generalizing vs with
  | nil => cases h; exact k
  | cons d ds ih =>
    cases h with
    | cons r t => exact .cons r (ih t)
theorem RpA.set {vs : List V} {ds : List D} {v : V} {d : D} (h : RpA K φ S vs ds) (r : Rp K φ S v d) (i : Nat) : RpA K φ S (vs.set i v) (ds.set i d) := by
  induction ds generalizing vs i with
  | nil => cases h; exact .nil
  | cons d' ds ih =>
    cases h with
    | cons r' t =>
      cases i with
      | zero => exact .cons r t
      | succ i => exact .cons r' (ih t i)
theorem RpA.take {vs : List V} {ds : List D} (h : RpA K φ S vs ds) (i : Nat) : RpA K φ S (vs.take i) (ds.take i) := by
  induction ds generalizing vs i with
  | nil => cases h; rw [List.take_nil, List.take_nil]; exact .nil
  | cons d' ds ih =>
    cases h with
    | cons r' t =>
      cases i with
      | zero => exact .nil
      | succ i => exact .cons r' (ih t i)
theorem RpA.drop {vs : List V} {ds : List D} (h : RpA K φ S vs ds) (i : Nat) : RpA K φ S (vs.drop i) (ds.drop i) := by
  induction ds generalizing vs i with
  | nil => cases h; rw [List.drop_nil, List.drop_nil]; exact .nil
  | cons d' ds ih =>
    cases h with
    | cons r' t =>
      cases i with
      | zero => exact .cons r' t
      | succ i => exact ih t i
theorem RpA.eraseIdx {vs : List V} {ds : List D} (h : RpA K φ S vs ds) (i : Nat) : RpA K φ S (vs.eraseIdx i) (ds.eraseIdx i) := by
  induction ds generalizing vs i with
  | nil => cases h; exact .nil
  | cons d' ds ih =>
    cases h with
    | cons r' t =>
      cases i with
      | zero => exact t
      | succ i => exact .cons r' (ih t i)
theorem RpA.reverse {vs : List V} {ds : List D} (h : RpA K φ S vs ds) : RpA K φ S vs.reverse ds.reverse := by
  induction ds generalizing vs with
  | nil => cases h; exact .nil
  | cons d ds ih =>
    cases h with
    | cons r t =>
      rw [List.reverse_cons, List.reverse_cons]
      exact (ih t).append (.cons r .nil)
theorem RpA.ints {vs : List V} {ns : List Int} (h : RpA K φ S vs (ns.map .int)) : vs = ns.map .int := by
  induction ns generalizing vs with
  | nil => cases h; rfl
  | cons n ns ih =>
    cases h with
    | cons r t =>
      cases r
      rw [ih t]
      rfl
theorem RpA.of_ints (ns : List Int) : RpA K φ S (ns.map .int) (ns.map .int) := by
  induction ns with
  | nil => exact .nil
  | cons n ns ih => exact .cons (.int n) ih
end

/-! ### the whole heap -/
structure Rel (K : PySem.W.Frag) (φ : List Addr) (S H : Hp) (h : Hv) : Prop where
  len : φ.length = h.length
  sub : Ex S H
  nd : φ.Nodup
  cel : ∀ (n : Nat) (a : Addr) (c : Cell), φ[n]? = some a → h[n]? = some c → S a = none ∧ ∃ o, H a = some o ∧ RpC K φ S c o
structure Step (φ : List Addr) (S H : Hp) (φ' : List Addr) (S' H' : Hp) : Prop where
  pre : ∃ ψ, φ' = φ ++ ψ ∧ ∀ a ∈ ψ, H a = none
  sub : Ex S S'
  old : ∀ a, H a ≠ none → S' a = S a
  keep : ∀ a o, H a = some o → a ∉ φ → H' a = some o
  there : ∀ a, H a ≠ none → H' a ≠ none
theorem Step.refl (φ : List Addr) (S H : Hp) : Step φ S H φ S H := ⟨⟨[], (List.append_nil φ).symm, fun _ z => nomatch z⟩, Ex.refl S, fun _ _ => rfl, fun _ _ e _ => e, fun _ z => z⟩
theorem Step.prefix {φ φ' : List Addr} {S H S' H' : Hp} (s : Step φ S H φ' S' H') : Pre φ φ' := let ⟨ψ, e, _⟩ := s.pre; ⟨ψ, e⟩
theorem Step.trans {φ φ1 φ2 : List Addr} {S H S1 H1 S2 H2 : Hp} (a : Step φ S H φ1 S1 H1) (b : Step φ1 S1 H1 φ2 S2 H2) : Step φ S H φ2 S2 H2 := by
  obtain ⟨⟨ψ, e, hn⟩, a2, a3, a4, a5⟩ := a
  obtain ⟨⟨ψ', e', hn'⟩, b2, b3, b4, b5⟩ := b
  have nil : ∀ a, H1 a = none → H a = none := fun a z => by
    cases q : H a with
    | none => rfl
    | some o => exact absurd z (a5 a (by rw [q]; exact fun y => nomatch y))
  refine ⟨⟨ψ ++ ψ', by rw [e', e, List.append_assoc], fun x hx => ?_⟩, a2.trans b2, fun x hx => (b3 x (a5 x hx)).trans (a3 x hx), fun x o hx hn2 => ?_, fun x hx => b5 x (a5 x hx)⟩
  · rcases List.mem_append.mp hx with z | z
    · exact hn x z
    · exact nil x (hn' x z)
  · refine b4 x o (a4 x o hx hn2) fun z => ?_
    rw [e] at z
    rcases List.mem_append.mp z with z | z
    · exact hn2 z
    · have := hn x z
      rw [this] at hx
      cases hx
theorem Step.fresh {φ φ' : List Addr} {S H S' H' : Hp} (s : Step φ S H φ' S' H') {a : Addr} (h : H' a = none) : H a = none := by
  cases q : H a with
  | none => rfl
  | some o => exact absurd h (s.there a (by rw [q]; exact fun y => nomatch y))
theorem Rel.at {K : PySem.W.Frag} {φ : List Addr} {S H : Hp} {h : Hv} (r : Rel K φ S H h) {n : Nat} {a : Addr} (e : φ[n]? = some a) : ∃ c, h[n]? = some c := by
  have h1 := (List.getElem?_eq_some_iff.mp e).1
  rw [r.len] at h1
  exact ⟨_, List.getElem?_eq_getElem h1⟩
theorem Rel.mem {K : PySem.W.Frag} {φ : List Addr} {S H : Hp} {h : Hv} (r : Rel K φ S H h) {a : Addr} (e : a ∈ φ) : S a = none ∧ H a ≠ none := by
  obtain ⟨n, hn⟩ := List.getElem?_of_mem e
  obtain ⟨c, hc⟩ := r.at hn
  obtain ⟨h1, o, h2, _⟩ := r.cel n a c hn hc
  exact ⟨h1, by rw [h2]; exact fun z => nomatch z⟩
theorem Rel.snone {K : PySem.W.Frag} {φ : List Addr} {S H : Hp} {h : Hv} (r : Rel K φ S H h) {a : Addr} (e : H a = none) : S a = none := by
  cases q : S a with
  | none => rfl
  | some o =>
    rw [r.sub a o q] at e
    cases e
theorem Rel.notin {K : PySem.W.Frag} {φ : List Addr} {S H : Hp} {h : Hv} (r : Rel K φ S H h) {a : Addr} (e : H a = none) : a ∉ φ := fun z => (r.mem z).2 e
/-- a new thing that never changes -/
theorem Rel.lay {K : PySem.W.Frag} {φ : List Addr} {S H : Hp} {h : Hv} (r : Rel K φ S H h) {p : Addr} {o : HO} (hp : H p = none) : Rel K φ (upd S p o) (upd H p o) h ∧ Step φ S H φ (upd S p o) (upd H p o) := by
  have sp := r.snone hp
  refine ⟨⟨r.len, fun a u e => ?_, r.nd, fun n a c e1 e2 => ?_⟩, ⟨⟨[], (List.append_nil φ).symm, fun _ z => nomatch z⟩, Ex.new sp, fun a ha => ?_, fun a u e _ => ?_, fun a ha => ?_⟩⟩
  · by_cases q : a = p
    · subst q
      rw [upd_same] at e ⊢
      exact e
    · rw [upd_ne q] at e ⊢
      exact r.sub a u e
  · obtain ⟨h1, o', h2, h3⟩ := r.cel n a c e1 e2
    have q : a ≠ p := ne_of_none h2 hp
    exact ⟨by rw [upd_ne q]; exact h1, o', by rw [upd_ne q]; exact h2, h3.mono (Pre.refl φ) (Ex.new sp)⟩
  · have q : a ≠ p := fun z => ha (by rw [z]; exact hp)
    rw [upd_ne q]
  · rw [upd_ne (ne_of_none e hp)]
    exact e
  · have q : a ≠ p := fun z => ha (by rw [z]; exact hp)
    rw [upd_ne q]
    exact ha
/-- a new thing, known to the heap alone -/
theorem Rel.hold {K : PySem.W.Frag} {φ : List Addr} {S H : Hp} {h : Hv} (r : Rel K φ S H h) {p : Addr} {o : HO} (hp : H p = none) : Rel K φ S (upd H p o) h ∧ Step φ S H φ S (upd H p o) := by
  refine ⟨⟨r.len, r.sub.trans (Ex.new hp), r.nd, fun n a c e1 e2 => ?_⟩, ⟨⟨[], (List.append_nil φ).symm, fun _ z => nomatch z⟩, Ex.refl S, fun a ha => rfl, fun a u e _ => ?_, fun a ha => ?_⟩⟩
  · obtain ⟨h1, o', h2, h3⟩ := r.cel n a c e1 e2
    have q : a ≠ p := ne_of_none h2 hp
    exact ⟨h1, o', by rw [upd_ne q]; exact h2, h3⟩
  · rw [upd_ne (ne_of_none e hp)]
    exact e
  · have q : a ≠ p := fun z => ha (by rw [z]; exact hp)
    rw [upd_ne q]
    exact ha
/-- what is held becomes what never changes -/
theorem Rel.still {K : PySem.W.Frag} {φ : List Addr} {S H : Hp} {h : Hv} (r : Rel K φ S H h) {p : Addr} {o : HO} (hp : H p = some o) (hs : S p = none) (hn : p ∉ φ) : Rel K φ (upd S p o) H h := by
  refine ⟨r.len, fun a u e => ?_, r.nd, fun n a c e1 e2 => ?_⟩
  · by_cases q : a = p
    · subst q
      rw [upd_same] at e
      rw [hp]
      exact e
    · rw [upd_ne q] at e
      exact r.sub a u e
  · obtain ⟨h1, o', h2, h3⟩ := r.cel n a c e1 e2
    have q : a ≠ p := fun z => hn (by rw [← z]; exact List.mem_of_getElem? e1)
    exact ⟨by rw [upd_ne q]; exact h1, o', h2, h3.mono (Pre.refl φ) (Ex.new hs)⟩
/-- what is held becomes a cell -/
theorem Rel.celled {K : PySem.W.Frag} {φ : List Addr} {S H : Hp} {h : Hv} (r : Rel K φ S H h) {p : Addr} {o : HO} {c : Cell} (hp : H p = some o) (hs : S p = none) (hn : p ∉ φ) (hc : RpC K φ S c o) : Rel K (φ ++ [p]) S H (h ++ [c]) := by
  have pr : Pre φ (φ ++ [p]) := ⟨[p], rfl⟩
  refine ⟨by rw [List.length_append, List.length_append, r.len]; rfl, r.sub, List.nodup_append.mpr ⟨r.nd, List.nodup_cons.mpr ⟨List.not_mem_nil, List.nodup_nil⟩, fun a ha b hb => ?_⟩, fun n a c' e1 e2 => ?_⟩
  · rw [List.mem_singleton] at hb
    subst hb
    exact fun z => hn (by rw [← z]; exact ha)
  · by_cases hl : n < φ.length
    · rw [List.getElem?_append_left hl] at e1
      rw [List.getElem?_append_left (by rw [← r.len]; exact hl)] at e2
      obtain ⟨h1, o', h2, h3⟩ := r.cel n a c' e1 e2
      exact ⟨h1, o', h2, h3.mono pr (Ex.refl S)⟩
    · have hl2 := (List.getElem?_eq_some_iff.mp e1).1
      rw [List.length_append, List.length_singleton] at hl2
      have en : n = φ.length := by omega
      subst en
      rw [List.getElem?_append_right (Nat.le_refl _), Nat.sub_self] at e1
      rw [r.len, List.getElem?_append_right (Nat.le_refl _), Nat.sub_self] at e2
      cases e1
      cases e2
      exact ⟨hs, o, hp, hc.mono pr (Ex.refl S)⟩
/-- a cell is written -/
theorem Rel.put {K : PySem.W.Frag} {φ : List Addr} {S H : Hp} {h : Hv} (r : Rel K φ S H h) {n : Nat} {a : Addr} {o : HO} {c : Cell} (hn : φ[n]? = some a) (hc : RpC K φ S c o) : Rel K φ S (upd H a o) (h.set n c) ∧ Step φ S H φ S (upd H a o) := by
  obtain ⟨c0, hc0⟩ := r.at hn
  obtain ⟨sa, o0, ho0, _⟩ := r.cel n a c0 hn hc0
  refine ⟨⟨by rw [List.length_set]; exact r.len, fun b u e => ?_, r.nd, fun m b c' e1 e2 => ?_⟩, ⟨⟨[], (List.append_nil φ).symm, fun _ z => nomatch z⟩, Ex.refl S, fun b hb => rfl, fun b u e hb => ?_, fun b hb => ?_⟩⟩
  · have q : b ≠ a := ne_of_none e sa
    rw [upd_ne q]
    exact r.sub b u e
  · by_cases q : m = n
    · subst q
      rw [hn] at e1
      cases e1
      rw [List.getElem?_set_self (List.getElem?_eq_some_iff.mp hc0).1] at e2
      cases e2
      exact ⟨sa, o, upd_same, hc⟩
    · rw [List.getElem?_set_ne (Ne.symm q)] at e2
      obtain ⟨h1, o', h2, h3⟩ := r.cel m b c' e1 e2
      have ne : b ≠ a := fun z => by
        subst z
        exact q (nd_ix r.nd e1 hn)
      exact ⟨h1, o', by rw [upd_ne ne]; exact h2, h3⟩
  · have ne : b ≠ a := fun z => hb (by rw [z]; exact List.mem_of_getElem? hn)
    rw [upd_ne ne]
    exact e
  · by_cases ne : b = a
    · subst ne
      rw [upd_same]
      exact fun z => nomatch z
    · rw [upd_ne ne]
      exact hb

/-! ### slots -/
structure RelS (K : PySem.W.Frag) (φ : List Addr) (S : Hp) (σv : VS) (σ : L2.St) : Prop where
  len : σ.length = σv.length
  at_ : ∀ (i : Nat) (d : D), σv[i]? = some (some d) → ∃ v, σ[i]? = some (some v) ∧ Rp K φ S v d
section
variable {K : PySem.W.Frag} {φ φ' : List Addr} {S S' : Hp} {σv : VS} {σ : L2.St}
theorem RelS.mono (r : RelS K φ S σv σ) (p : Pre φ φ') (e : Ex S S') : RelS K φ' S' σv σ := ⟨r.len, fun i d hd => let ⟨v, h1, h2⟩ := r.at_ i d hd; ⟨v, h1, h2.mono p e⟩⟩
theorem RelS.step (r : RelS K φ S σv σ) {H H' : Hp} (s : Step φ S H φ' S' H') : RelS K φ' S' σv σ := r.mono s.prefix s.sub
theorem RelS.set (r : RelS K φ S σv σ) {v : V} {d : D} (h : Rp K φ S v d) (i : Nat) : RelS K φ S (σv.set i (some d)) (σ.set i (some v)) := by
  refine ⟨by rw [List.length_set, List.length_set]; exact r.len, fun j e he => ?_⟩
  by_cases q : j = i
  · subst q
    have hl := (List.getElem?_eq_some_iff.mp he).1
    rw [List.length_set] at hl
    rw [List.getElem?_set_self hl] at he
    cases he
    exact ⟨v, List.getElem?_set_self (by rw [r.len]; exact hl), h⟩
  · rw [List.getElem?_set_ne (Ne.symm q)] at he ⊢
    exact r.at_ j e he
theorem RelS.unset (r : RelS K φ S σv σ) (i : Nat) (o : Option V) : RelS K φ S (σv.set i none) (σ.set i o) := by
  refine ⟨by rw [List.length_set, List.length_set]; exact r.len, fun j e he => ?_⟩
  by_cases q : j = i
  · subst q
    have hl := (List.getElem?_eq_some_iff.mp he).1
    rw [List.length_set] at hl
    rw [List.getElem?_set_self hl] at he
    cases he
  · rw [List.getElem?_set_ne (Ne.symm q)] at he ⊢
    exact r.at_ j e he
end
end VD

set_option Elab.async false
set_option linter.all false
set_option maxRecDepth 100000
set_option maxHeartbeats 4000000
namespace VD
open PySem PySem.Spec PyProof.Rows L2

/-! ### readings and what they compute -/
def RpX (K : PySem.W.Frag) (φ : List Addr) (S H : Hp) (x : Xn) (cls : Value) (dd : Option Addr) : Prop :=
  cls = .ref (He.ga K x.cls) ∧ match x.pay with
    | none => dd = none
    | some (f, d) => ∃ dx v, dd = some dx ∧ S dx = some (.xd [(f, v)]) ∧ Rp K φ S v d
/-- how a result stands: the heap ahead, then cells, what is still, the heap behind -/
abbrev Rep (α β : Type) := Hp → List Addr → Hp → Hp → β → α → Prop
class Rep.Up {α β : Type} (rep : Rep α β) : Prop where
  up : ∀ {φ S H φ1 S1 H1 φ' S' H' b a}, Step φ S H φ1 S1 H1 → rep H1 φ' S' H' b a → rep H φ' S' H' b a
def repV (K : PySem.W.Frag) : Rep D V := fun _ φ' S' _ v d => Rp K φ' S' v d
def repA (K : PySem.W.Frag) : Rep (List D) (List V) := fun _ φ' S' _ v d => RpA K φ' S' v d
def repB : Rep Bool Bool := fun _ _ _ _ b a => b = a
/-- a new list -/
def repL (K : PySem.W.Frag) : Rep (List D) V := fun H φ' S' H' v ds => ∃ p vs, v = .ref p ∧ H p = none ∧ H' p = some (.lst vs) ∧ S' p = none ∧ p ∉ φ' ∧ RpA K φ' S' vs ds
instance {K : PySem.W.Frag} : Rep.Up (repV K) := ⟨fun _ h => h⟩
instance {K : PySem.W.Frag} : Rep.Up (repA K) := ⟨fun _ h => h⟩
instance : Rep.Up repB := ⟨fun _ h => h⟩
instance {K : PySem.W.Frag} : Rep.Up (repL K) := ⟨fun s ⟨p, vs, h1, h2, h3⟩ => ⟨p, vs, h1, s.fresh h2, h3⟩⟩

def Post {α β : Type} (K : PySem.W.Frag) (rep : Rep α β) (φ : List Addr) (S H : Hp) (r : R α) (Q : β → Hp → Prop) (E : XK) : Prop := match r with
  | .ok a h' => ∀ b φ' S' H', Rel K φ' S' H' h' → Step φ S H φ' S' H' → rep H φ' S' H' b a → Q b H'
  | .exc x h' => ∀ cls dd φ' S' H', Rel K φ' S' H' h' → Step φ S H φ' S' H' → RpX K φ' S' H' x cls dd → E cls dd H'
  | .stuck => False
theorem Post.up {α β : Type} {K : PySem.W.Frag} {rep : Rep α β} [Rep.Up rep] {φ φ1 : List Addr} {S H S1 H1 : Hp} {r : R α} {Q : β → Hp → Prop} {E : XK} (s : Step φ S H φ1 S1 H1) (p : Post K rep φ S H r Q E) : Post K rep φ1 S1 H1 r Q E := by
  cases r with
  | ok a h' => exact fun b φ' S' H' rl st rp => p b φ' S' H' rl (s.trans st) (Rep.Up.up s rp)
  | exc x h' => exact fun cls dd φ' S' H' rl st rp => p cls dd φ' S' H' rl (s.trans st) rp
  | stuck => exact p
theorem Post.imp {α β : Type} {K : PySem.W.Frag} {rep : Rep α β} {φ : List Addr} {S H : Hp} {r : R α} {Q Q' : β → Hp → Prop} {E E' : XK} (p : Post K rep φ S H r Q E) (h : ∀ b H', Q b H' → Q' b H') (he : ∀ c d H', E c d H' → E' c d H') : Post K rep φ S H r Q' E' := by
  cases r with
  | ok a h' => exact fun b φ' S' H' rl st rp => h _ _ (p b φ' S' H' rl st rp)
  | exc x h' => exact fun cls dd φ' S' H' rl st rp => he _ _ _ (p cls dd φ' S' H' rl st rp)
  | stuck => exact p
/-- the reading t is kept by es: in every state, what es tells comes -/
structure Sn {α β : Type} (K : PySem.W.Frag) (rep : Rep α β) (W : WX) (t : L2.St → Hp → (β → Hp → Prop) → Prop) (es : VS → Hv → R α) : Prop where
  run : ∀ {φ : List Addr} {S H : Hp} {h : Hv} {σv : VS} {σ : L2.St} {Q : β → Hp → Prop}, Rel K φ S H h → RelS K φ S σv σ → Post K rep φ S H (es σv h) Q (fun c d H' => W c d σ H') → t σ H Q
theorem Sn.bind {α β γ δ : Type} {K : PySem.W.Frag} {rep : Rep α β} {rep2 : Rep γ δ} [Rep.Up rep2] {W : WX} {t : L2.St → Hp → (β → Hp → Prop) → Prop} {ea : VS → Hv → R α} {f : α → Hv → R γ}
    {φ : List Addr} {S H : Hp} {h : Hv} {σv : VS} {σ : L2.St} {Q : δ → Hp → Prop} {Q1 : β → Hp → Prop}
    (ha : Sn K rep W t ea) (rl : Rel K φ S H h) (rs : RelS K φ S σv σ) (post : Post K rep2 φ S H ((ea σv h).bind f) Q (fun c d H' => W c d σ H'))
    (k : ∀ a h1 b φ1 S1 H1, Rel K φ1 S1 H1 h1 → RelS K φ1 S1 σv σ → Step φ S H φ1 S1 H1 → rep H φ1 S1 H1 b a → Post K rep2 φ1 S1 H1 (f a h1) Q (fun c d H' => W c d σ H') → Q1 b H1) : t σ H Q1 := by
  refine ha.run rl rs ?_
  cases q : ea σv h with
  | ok a h1 =>
    rw [q] at post
    exact fun b φ1 S1 H1 rl1 st rp => k a h1 b φ1 S1 H1 rl1 (rs.step st) st rp (Post.up st post)
  | exc x h1 =>
    rw [q] at post
    exact post
  | stuck =>
    rw [q] at post
    exact post

def SE (X : Cx) (W : WX) (e : Expr) (es : ES) : Prop := ∃ te, PE X e te ∧ Sn X.K (repV X.K) W te es
def SL (X : Cx) (W : WX) (e : Expr) (es : LS) : Prop := ∃ te, PE X e te ∧ Sn X.K (repL X.K) W te es
def ST (X : Cx) (W : WX) (e : Expr) (es : CS) : Prop := ∃ te, PT X e te ∧ Sn X.K repB W te es
def SW (X : Cx) (W : WX) (e : Expr) (es : CS) : Prop := ∃ te, PW X e te ∧ Sn X.K repB W te es
def SA (X : Cx) (W : WX) (es : List Expr) (as : LS) : Prop := ∃ te, PA X es te ∧ Sn X.K (repA X.K) W te as

theorem Step.still {φ φ1 : List Addr} {S H S1 H1 : Hp} (s : Step φ S H φ1 S1 H1) {p : Addr} {o : HO} (hp : H p = none) (hs : S1 p = none) : Step φ S H φ1 (upd S1 p o) H1 :=
  ⟨s.pre, s.sub.trans (Ex.new hs), fun a ha => by
    have q : a ≠ p := fun z => ha (by rw [z]; exact hp)
    rw [upd_ne q]
    exact s.old a ha, s.keep, s.there⟩
theorem Step.celled {φ φ1 : List Addr} {S H S1 H1 : Hp} (s : Step φ S H φ1 S1 H1) {p : Addr} (hp : H p = none) : Step φ S H (φ1 ++ [p]) S1 H1 := by
  obtain ⟨⟨ψ, e, hn⟩, s2, s3, s4, s5⟩ := s
  refine ⟨⟨ψ ++ [p], by rw [e, List.append_assoc], fun a ha => ?_⟩, s2, s3, s4, s5⟩
  rcases List.mem_append.mp ha with z | z
  · exact hn a z
  · rw [List.mem_singleton.mp z]
    exact hp
/-- from one result to the next -/
theorem Post.map {α β γ δ : Type} {K : PySem.W.Frag} {rep : Rep α β} {rep2 : Rep γ δ} {φ : List Addr} {S H : Hp} {r : R α} {f : α → Hv → R γ} {Q1 : β → Hp → Prop} {Q : δ → Hp → Prop} {E : XK} (post : Post K rep2 φ S H (r.bind f) Q E)
    (k : ∀ a h1 b φ1 S1 H1, Rel K φ1 S1 H1 h1 → Step φ S H φ1 S1 H1 → rep H φ1 S1 H1 b a → Post K rep2 φ S H (f a h1) Q E → Q1 b H1) : Post K rep φ S H r Q1 E := by
  cases r with
  | ok a h1 => exact fun b φ1 S1 H1 rl st rp => k a h1 b φ1 S1 H1 rl st rp post
  | exc x h1 => exact post
  | stuck => exact post

section
variable {X : Cx} {W : WX} {e a b c : Expr} {es : List Expr} {pos : Pos} {fa fb fc : ES} {la lb : LS} {ca cb : CS}
/-- a list that is new stays as it is -/
def eV (f : LS) : ES := fun σ h => (f σ h).bind fun ds h' => .ok (.lst ds) h'
theorem se_V (h : SL X W e la) : SE X W e (eV la) := by
  obtain ⟨te, h1, h2⟩ := h
  refine ⟨te, h1, ⟨fun rl rs post => h2.run rl rs (post.map fun ds h1 v φ1 S1 H1 rl1 st rp post => ?_)⟩⟩
  obtain ⟨p, vs, rfl, hp, hp1, hs1, hn1, ra⟩ := rp
  exact post (.ref p) φ1 _ H1 (rl1.still hp1 hs1 hn1) (st.still hp hs1) (.lst upd_same (ra.mono (Pre.refl _) (Ex.new hs1)))
/-- .. or is a cell -/
def eC (f : LS) : ES := fun σ h => (f σ h).bind fun ds h' => .ok (.cell h'.length) (h' ++ [.lst ds])
theorem se_C (h : SL X W e la) : SE X W e (eC la) := by
  obtain ⟨te, h1, h2⟩ := h
  refine ⟨te, h1, ⟨fun rl rs post => h2.run rl rs (post.map fun ds h1 v φ1 S1 H1 rl1 st rp post => ?_)⟩⟩
  obtain ⟨p, vs, rfl, hp, hp1, hs1, hn1, ra⟩ := rp
  refine post (.ref p) (φ1 ++ [p]) S1 H1 (rl1.celled hp1 hs1 hn1 ⟨vs, rfl, ra⟩) (st.celled hp) (.cell ?_)
  rw [← rl1.len, List.getElem?_append_right (Nat.le_refl _), Nat.sub_self]
  rfl

/-! ### names and constants -/
def eVar (i : Nat) : ES := fun σ h => match σ[i]? with
  | some (some d) => .ok d h
  | _ => .stuck
theorem se_var {i : Nat} {x : Str} (hN : X.N[i]? = some x := by rfl) (hv : Vis X.env.scope x := by first | exact Or.inl rfl | exact Or.inr (Or.inl rfl) | exact Or.inr (Or.inr rfl)) (hd : (x == ("__debug__" : Str)) = false := by decide)
    (hcd : (x == ("__classdict__" : Str)) = false := by decide) : SE X W (.Name x pos) (eVar i) := by
  refine ⟨_, pe_var hN hv hd hcd, ⟨fun {φ S H h σv σ Q} rl rs post => ?_⟩⟩
  unfold eVar at post
  cases q : σv[i]? with
  | none => rw [q] at post; exact post.elim
  | some o =>
    cases o with
    | none => rw [q] at post; exact post.elim
    | some d =>
      rw [q] at post
      obtain ⟨v, h1, h2⟩ := rs.at_ i d q
      exact ⟨v, h1, post v φ S H rl (Step.refl _ _ _) h2⟩
def eK (d : D) : ES := fun _ h => .ok d h
theorem se_k {v : V} {d : D} (h : PE X e (tC v)) (r : ∀ K φ S, Rp K φ S v d) : SE X W e (eK d) := ⟨_, h, ⟨fun {φ S H h σv σ Q} rl rs post => post v φ S H rl (Step.refl _ _ _) (r _ _ _)⟩⟩
theorem se_int {i j} : SE X W (.Constant (.int i) j pos) (eK (.int i)) := se_k pe_int fun _ _ _ => .int i
theorem se_bl {i j} : SE X W (.Constant (.bool i) j pos) (eK (.bl i)) := se_k pe_bl fun _ _ _ => .bl i
theorem se_non {j} : SE X W (.Constant .none j pos) (eK .non) := se_k pe_non fun _ _ _ => .non
theorem se_str {i j} : SE X W (.Constant (.str i) j pos) (eK (.str i)) := se_k pe_str fun _ _ _ => .str i
/-- a constant of the module -/
theorem se_glob {x : Str} {v : V} {u : Value} {d : D} (hm : X.mg x = some u) (r : RelV v u) (rd : ∀ φ S, Rp X.K φ S v d) (hg : Gl X x := by rfl) (hd : (x == ("__debug__" : Str)) = false := by decide) : SE X W (.Name x pos) (eK d) :=
  ⟨_, pe_glob hg hm r hd, ⟨fun {φ S H h σv σ Q} rl rs post => post v φ S H rl (Step.refl _ _ _) (rd _ _)⟩⟩
theorem se_globI {x : Str} {i : Int} {t : Tok} (hm : X.mg x = some (.int i t)) (hg : Gl X x := by rfl) (hd : (x == ("__debug__" : Str)) = false := by decide) : SE X W (.Name x pos) (eK (.int i)) := se_glob (v := .int i) hm ⟨t, rfl⟩ (fun _ _ => .int _) hg hd
theorem se_globS {x z : Str} {t : Tok} (hm : X.mg x = some (.str z t)) (hg : Gl X x := by rfl) (hd : (x == ("__debug__" : Str)) = false := by decide) : SE X W (.Name x pos) (eK (.str z)) := se_glob (v := .str z) hm ⟨t, rfl⟩ (fun _ _ => .str _) hg hd
/-! ### operators -/
def OpS (K : PySem.W.Frag) (r : R2) (ro : D → D → Hv → R D) : Prop := ∀ {φ : List Addr} {S H : Hp} {h : Hv} {x y : D} {v u : V} {Q : VK} {E : XK}, Rel K φ S H h → Rp K φ S v x → Rp K φ S u y → Post K (repV K) φ S H (ro x y h) Q E → r v u H Q
def OpL (K : PySem.W.Frag) (r : R2) (ro : D → D → Hv → R (List D)) : Prop := ∀ {φ : List Addr} {S H : Hp} {h : Hv} {x y : D} {v u : V} {Q : VK} {E : XK}, Rel K φ S H h → Rp K φ S v x → Rp K φ S u y → Post K (repL K) φ S H (ro x y h) Q E → r v u H Q
def UnS (K : PySem.W.Frag) (r : V → Hp → VK → Prop) (ro : D → Hv → R D) : Prop := ∀ {φ : List Addr} {S H : Hp} {h : Hv} {x : D} {v : V} {Q : VK} {E : XK}, Rel K φ S H h → Rp K φ S v x → Post K (repV K) φ S H (ro x h) Q E → r v H Q
def eOp {α : Type} (ro : D → D → Hv → R α) (fa fb : ES) : VS → Hv → R α := fun σ h => (fa σ h).bind fun x h1 => (fb σ h1).bind fun y h2 => ro x y h2
def eUn (ro : D → Hv → R D) (fa : ES) : ES := fun σ h => (fa σ h).bind fun x h1 => ro x h1
theorem sn_op {ta tb : TE} {r : R2} {ro : D → D → Hv → R D} (hr : OpS X.K r ro) (h2 : Sn X.K (repV X.K) W ta fa) (k2 : Sn X.K (repV X.K) W tb fb) : Sn X.K (repV X.K) W (tOp r ta tb) (eOp ro fa fb) := ⟨fun rl rs post =>
  h2.bind rl rs post fun x h1 v φ1 S1 H1 rl1 rs1 st rp post =>
  k2.bind rl1 rs1 post fun y h2 u φ2 S2 H2 rl2 rs2 st2 rp2 post =>
  hr rl2 (Rp.mono st2.prefix st2.sub rp) rp2 post⟩
theorem sn_opL {ta tb : TE} {r : R2} {ro : D → D → Hv → R (List D)} (hr : OpL X.K r ro) (h2 : Sn X.K (repV X.K) W ta fa) (k2 : Sn X.K (repV X.K) W tb fb) : Sn X.K (repL X.K) W (tOp r ta tb) (eOp ro fa fb) := ⟨fun rl rs post =>
  h2.bind rl rs post fun x h1 v φ1 S1 H1 rl1 rs1 st rp post =>
  k2.bind rl1 rs1 post fun y h2 u φ2 S2 H2 rl2 rs2 st2 rp2 post =>
  hr rl2 (Rp.mono st2.prefix st2.sub rp) rp2 post⟩
theorem se_op {op : Operator} {r : R2} {ro : D → D → Hv → R D} (ho : OpR X (binaryOp op) r) (hr : OpS X.K r ro) (ha : SE X W a fa) (hb : SE X W b fb) : SE X W (.BinOp a op b pos) (eOp ro fa fb) := by
  obtain ⟨ta, h1, h2⟩ := ha
  obtain ⟨tb, k1, k2⟩ := hb
  exact ⟨_, pe_op ho h1 k1, sn_op hr h2 k2⟩
theorem sl_op {op : Operator} {r : R2} {ro : D → D → Hv → R (List D)} (ho : OpR X (binaryOp op) r) (hr : OpL X.K r ro) (ha : SE X W a fa) (hb : SE X W b fb) : SL X W (.BinOp a op b pos) (eOp ro fa fb) := by
  obtain ⟨ta, h1, h2⟩ := ha
  obtain ⟨tb, k1, k2⟩ := hb
  exact ⟨_, pe_op ho h1 k1, sn_opL hr h2 k2⟩
theorem se_cmp {op : CmpOp} {r : R2} {ro : D → D → Hv → R D} (ho : OpR X (compareOp op) r) (hr : OpS X.K r ro) (ha : SE X W a fa) (hb : SE X W b fb) (hm : behindInMarks op b = false) : SE X W (.Compare a [op] [b] pos) (eOp ro fa fb) := by
  obtain ⟨ta, h1, h2⟩ := ha
  obtain ⟨tb, k1, k2⟩ := hb
  exact ⟨_, pe_cmpR ho h1 k1 hm, sn_op hr h2 k2⟩
theorem sn_un {ta : TE} {r : V → Hp → VK → Prop} {ro : D → Hv → R D} (hr : UnS X.K r ro) (h2 : Sn X.K (repV X.K) W ta fa) : Sn X.K (repV X.K) W (tUn r ta) (eUn ro fa) := ⟨fun rl rs post =>
  h2.bind rl rs post fun x h1 v φ1 S1 H1 rl1 rs1 st rp post => hr rl1 rp post⟩
theorem se_un {op : UnaryOp} {r : V → Hp → VK → Prop} {ro : D → Hv → R D} (ho : UnR X (unaryOp op) r) (hr : UnS X.K r ro) (ha : SE X W a fa) : SE X W (.UnaryOp op a pos) (eUn ro fa) := by
  obtain ⟨ta, h1, h2⟩ := ha
  exact ⟨_, pe_un ho h1, sn_un hr h2⟩
/-- a bool of a value -/
def toB (f : ES) : CS := fun σ h => (f σ h).bind fun d h1 => match d with
  | .bl b => .ok b h1
  | _ => .stuck
theorem sn_B {te : TE} (h2 : Sn X.K (repV X.K) W te fa) : Sn X.K repB W (tTest te) (toB fa) := ⟨fun rl rs post =>
  h2.bind rl rs post fun x h1 v φ1 S1 H1 rl1 rs1 st rp post => by
    cases x with
    | bl b =>
      cases (show Rp _ _ _ _ _ from rp)
      exact ⟨b, rfl, post b φ1 S1 H1 rl1 (Step.refl _ _ _) rfl⟩
    | _ => exact post.elim⟩
theorem st_cmp {op : CmpOp} {r : R2} {ro : D → D → Hv → R D} (ho : OpR X (compareOp op) r) (hr : OpS X.K r ro) (ha : SE X W a fa) (hb : SE X W b fb) (hm : behindInMarks op b = false) : ST X W (.Compare a [op] [b] pos) (toB (eOp ro fa fb)) := by
  obtain ⟨ta, h1, h2⟩ := ha
  obtain ⟨tb, k1, k2⟩ := hb
  exact ⟨_, pt_cmpR ho h1 k1 hm, sn_B (sn_op hr h2 k2)⟩
/-- an expression that gives a bool, as a test -/
theorem st_val (ha : SE X W e fa) (he : ∀ whole, isTrue e X.env whole = (do let v ← whole; standAt e.pos; holding [v] (truthy v)) := by intro _; rfl) : ST X W e (toB fa) := by
  obtain ⟨ta, h1, h2⟩ := ha
  exact ⟨_, pt_val h1 he, sn_B h2⟩
end
end VD

set_option Elab.async false
set_option linter.all false
set_option maxRecDepth 100000
set_option maxHeartbeats 4000000
namespace VD
open PySem PySem.Spec PyProof.Rows L2
theorem line_eq : sizeLine = 16777216 := sizeLine_eq

section
variable {X : Cx} {W : WX} {e a b c : Expr} {es rest : List Expr} {pos : Pos} {fa fb fc : ES} {la lb : LS} {ca cb : CS}
/-! ### and, or, not, if -/
def cAnd (f g : CS) : CS := fun σ h => (f σ h).bind fun k h1 => if k then g σ h1 else .ok false h1
def cOr (f g : CS) : CS := fun σ h => (f σ h).bind fun k h1 => if k then .ok true h1 else g σ h1
def cNot (f : CS) : CS := fun σ h => (f σ h).bind fun k h1 => .ok (!k) h1
def eIf {α : Type} (c : CS) (f g : VS → Hv → R α) : VS → Hv → R α := fun σ h => (c σ h).bind fun k h1 => if k then f σ h1 else g σ h1
theorem sw_and1 (ha : ST X W a ca) : SW X W (.BoolOp .And [a] pos) ca := by
  obtain ⟨ta, h1, h2⟩ := ha
  exact ⟨_, pw_and1 h1, h2⟩
theorem sw_or1 (ha : ST X W a ca) : SW X W (.BoolOp .Or [a] pos) ca := by
  obtain ⟨ta, h1, h2⟩ := ha
  exact ⟨_, pw_or1 h1, h2⟩
theorem sw_and (ha : ST X W a ca) (hb : SW X W (.BoolOp .And (b :: rest) pos) cb) : SW X W (.BoolOp .And (a :: b :: rest) pos) (cAnd ca cb) := by
  obtain ⟨ta, h1, h2⟩ := ha
  obtain ⟨tb, k1, k2⟩ := hb
  refine ⟨_, pw_and h1 k1, ⟨fun rl rs post => h2.bind rl rs post fun x h1 v φ1 S1 H1 rl1 rs1 st rp post => ?_⟩⟩
  cases (show v = x from rp)
  cases x with
  | true => exact k2.run rl1 rs1 post
  | false => exact post false φ1 S1 H1 rl1 (Step.refl _ _ _) rfl
theorem sw_or (ha : ST X W a ca) (hb : SW X W (.BoolOp .Or (b :: rest) pos) cb) : SW X W (.BoolOp .Or (a :: b :: rest) pos) (cOr ca cb) := by
  obtain ⟨ta, h1, h2⟩ := ha
  obtain ⟨tb, k1, k2⟩ := hb
  refine ⟨_, pw_or h1 k1, ⟨fun rl rs post => h2.bind rl rs post fun x h1 v φ1 S1 H1 rl1 rs1 st rp post => ?_⟩⟩
  cases (show v = x from rp)
  cases x with
  | false => exact k2.run rl1 rs1 post
  | true => exact post true φ1 S1 H1 rl1 (Step.refl _ _ _) rfl
theorem st_w (h : SW X W e ca) : ST X W e ca := let ⟨t, h1, h2⟩ := h; ⟨t, h1.pt, h2⟩
theorem st_not (ha : ST X W a ca) : ST X W (.UnaryOp .Not a pos) (cNot ca) := by
  obtain ⟨ta, h1, h2⟩ := ha
  refine ⟨_, pt_not h1, ⟨fun rl rs post => h2.bind rl rs post fun x h1 v φ1 S1 H1 rl1 rs1 st rp post => ?_⟩⟩
  cases (show v = x from rp)
  exact post _ φ1 S1 H1 rl1 (Step.refl _ _ _) rfl
theorem se_if (hc : ST X W c ca) (ha : SE X W a fa) (hb : SE X W b fb) : SE X W (.IfExp c a b pos) (eIf ca fa fb) := by
  obtain ⟨tc, h1, h2⟩ := hc
  obtain ⟨ta, k1, k2⟩ := ha
  obtain ⟨tb, l1, l2⟩ := hb
  refine ⟨_, pe_ifExp h1 k1 l1, ⟨fun rl rs post => h2.bind rl rs post fun x h1 v φ1 S1 H1 rl1 rs1 st rp post => ?_⟩⟩
  cases (show v = x from rp)
  cases x with
  | true => exact k2.run rl1 rs1 post
  | false => exact l2.run rl1 rs1 post
/-- a value's truth -/
def dTru (h : Hv) : D → Option Bool
  | .non => some false
  | .bl b => some b
  | .int i => some (i != 0)
  | .lst xs => some (!xs.isEmpty)
  | .fz xs => some (!xs.isEmpty)
  | .tup xs => some (!xs.isEmpty)
  | .str x => if x.length ≤ 16777216 then some (x.length != 0) else none
  | .cell n => match h[n]? with
    | some (.lst xs) => some (!xs.isEmpty)
    | some (.dK kvs) => some (!kvs.isEmpty)
    | _ => none
  | .raw _ => none
  | .dct _ _ => none
  | .obj _ _ _ => none
  | .exv _ _ _ _ => none
theorem RpA.isEmpty {K : PySem.W.Frag} {φ : List Addr} {S : Hp} {vs : List V} {ds : List D} (h : RpA K φ S vs ds) : vs.isEmpty = ds.isEmpty := by
  cases h <;> rfl
theorem dTru_ok {K : PySem.W.Frag} {φ : List Addr} {S H : Hp} {h : Hv} {d : D} {v : V} {k : Bool} (rl : Rel K φ S H h) (rp : Rp K φ S v d) (e : dTru h d = some k) : TruV K v H k := by
  cases rp with
  | non => exact (Option.some.inj e).symm
  | bl b => exact (Option.some.inj e).symm
  | int i => exact (Option.some.inj e).symm
  | str x =>
    simp only [dTru] at e
    split at e
    · next q =>
      refine ⟨by rw [line_eq]; exact q, ?_⟩
      have e' := (Option.some.inj e).symm
      rw [e']
      cases x.length <;> rfl
    · cases e
  | lst h1 h2 => exact .inl ⟨_, .inl (.inl (rl.sub _ _ h1)), by rw [h2.isEmpty]; exact (Option.some.inj e).symm⟩
  | fz h1 h2 => exact .inl ⟨_, rl.sub.sql h1, by rw [h2.isEmpty]; exact (Option.some.inj e).symm⟩
  | tup h1 h2 => exact .inr (.inl ⟨_, rl.sub.sqt h1, by rw [h2.isEmpty]; exact (Option.some.inj e).symm⟩)
  | @cell a n h1 =>
    obtain ⟨c, hc⟩ := rl.at h1
    obtain ⟨_, o, ho, rc⟩ := rl.cel _ _ _ h1 hc
    simp only [dTru] at e
    rw [hc] at e
    cases c with
    | lst ds =>
      obtain ⟨vs, rfl, ra⟩ := rc
      exact .inl ⟨vs, .inl (.inl ho), by rw [ra.isEmpty]; exact (Option.some.inj e).symm⟩
    | dK kvs =>
      obtain ⟨kv, rfl, ek, ra⟩ := rc
      refine .inr (.inr ⟨kv, ho, ?_⟩)
      have : kv.isEmpty = kvs.isEmpty := by
        have h1 := congrArg List.length ek
        rw [List.length_map, List.length_map] at h1
        cases kv <;> cases kvs <;> simp_all
      rw [this]
      exact (Option.some.inj e).symm
    | dF kvs => cases e
    | ins C fs => cases e
    | dN w kvs => cases e
  | raw v => cases e
  | dct h1 h2 h3 => cases e
  | obj h1 h2 h3 => cases e
  | exv h1 h2 => cases e
def cTru (f : ES) : CS := fun σ h => (f σ h).bind fun d h1 => match dTru h1 d with
  | some b => .ok b h1
  | none => .stuck
theorem st_tru (ha : SE X W e fa) (he : ∀ whole, isTrue e X.env whole = (do let v ← whole; standAt e.pos; holding [v] (truthy v)) := by intro _; rfl) : ST X W e (cTru fa) := by
  obtain ⟨ta, h1, h2⟩ := ha
  refine ⟨_, pt_truth h1 he, ⟨fun rl rs post => h2.bind rl rs post fun x h1 v φ1 S1 H1 rl1 rs1 st rp post => ?_⟩⟩
  cases q : dTru h1 x with
  | none => rw [q] at post; exact post.elim
  | some k =>
    rw [q] at post
    exact ⟨k, dTru_ok rl1 rp q, post k φ1 S1 H1 rl1 (Step.refl _ _ _) rfl⟩

/-! ### arguments, displays -/
def aNil : LS := fun _ h => .ok [] h
def aCons (f : ES) (g : LS) : LS := fun σ h => (f σ h).bind fun d h1 => (g σ h1).bind fun ds h2 => .ok (d :: ds) h2
theorem sa_nil : SA X W [] aNil := ⟨_, pa_nil, ⟨fun {φ S H h σv σ Q} rl rs post => post [] φ S H rl (Step.refl _ _ _) .nil⟩⟩
theorem sa_cons (ha : SE X W e fa) (hr : SA X W es la) (hs : starEach (e :: es) X.env = (false, eval e X.env) :: starEach es X.env := by rfl) : SA X W (e :: es) (aCons fa la) := by
  obtain ⟨ta, h1, h2⟩ := ha
  obtain ⟨tr, k1, k2⟩ := hr
  exact ⟨_, pa_cons h1 k1 hs, ⟨fun rl rs post => h2.bind rl rs post fun x h1 v φ1 S1 H1 rl1 rs1 st rp post =>
    k2.bind rl1 rs1 post fun ds h2 vs φ2 S2 H2 rl2 rs2 st2 rp2 post => post (v :: vs) φ2 S2 H2 rl2 (Step.refl _ _ _) (.cons (Rp.mono st2.prefix st2.sub rp) rp2)⟩⟩
def eTup (g : LS) : ES := fun σ h => (g σ h).bind fun ds h1 => if ds.length ≤ 16777216 then .ok (.tup ds) h1 else .stuck
theorem se_tup {x1} (ha : SA X W es la) : SE X W (.Tuple es x1 pos) (eTup la) := by
  obtain ⟨ta, h1, h2⟩ := ha
  refine ⟨_, pe_tup h1, ⟨fun rl rs post => h2.bind rl rs post fun ds h1 vs φ1 S1 H1 rl1 rs1 st rp post => ?_⟩⟩
  have ra : RpA X.K φ1 S1 vs ds := rp
  by_cases q : ds.length ≤ 16777216
  · rw [if_pos q] at post
    refine ⟨by rw [ra.length, line_eq]; exact q, fun p hp => ?_⟩
    obtain ⟨r2, s2⟩ := rl1.lay (o := .tup vs) hp
    exact post (.ref p) φ1 _ _ r2 s2 (.tup (.inl (.inl upd_same)) (ra.mono (Pre.refl _) s2.sub))
  · rw [if_neg q] at post
    exact post.elim
def lLst (g : LS) : LS := fun σ h => (g σ h).bind fun ds h1 => if ds.length ≤ 16777216 then .ok ds h1 else .stuck
theorem sl_lst (ha : SA X W es la) : SL X W (.List es pos) (lLst la) := by
  obtain ⟨ta, h1, h2⟩ := ha
  refine ⟨_, pe_lst h1, ⟨fun rl rs post => h2.bind rl rs post fun ds h1 vs φ1 S1 H1 rl1 rs1 st rp post => ?_⟩⟩
  have ra : RpA X.K φ1 S1 vs ds := rp
  by_cases q : ds.length ≤ 16777216
  · rw [if_pos q] at post
    refine ⟨by rw [ra.length, line_eq]; exact q, fun p hp => ?_⟩
    obtain ⟨r2, s2⟩ := rl1.hold (o := .lst vs) hp
    exact post (.ref p) φ1 _ _ r2 s2 ⟨p, vs, rfl, hp, upd_same, rl1.snone hp, rl1.notin hp, ra⟩
  · rw [if_neg q] at post
    exact post.elim

/-! ### value or, and: of bools -/
def eAndV (f g : ES) : ES := fun σ h => (f σ h).bind fun d h1 => match d with
  | .bl true => g σ h1
  | .bl false => .ok (.bl false) h1
  | _ => .stuck
def eOrV (f g : ES) : ES := fun σ h => (f σ h).bind fun d h1 => match d with
  | .bl false => g σ h1
  | .bl true => .ok (.bl true) h1
  | _ => .stuck
def eNotV (f : ES) : ES := fun σ h => (f σ h).bind fun d h1 => match d with
  | .bl b => .ok (.bl (!b)) h1
  | _ => .stuck
theorem se_one {op} (h : SE X W a fa) : SE X W (.BoolOp op [a] pos) fa := let ⟨t, h1, h2⟩ := h; ⟨t, pe_one h1, h2⟩
theorem se_and (ha : SE X W a fa) (hb : SE X W (.BoolOp .And (b :: rest) pos) fb) : SE X W (.BoolOp .And (a :: b :: rest) pos) (eAndV fa fb) := by
  obtain ⟨ta, h1, h2⟩ := ha
  obtain ⟨tb, k1, k2⟩ := hb
  refine ⟨_, pe_and h1 k1, ⟨fun rl rs post => h2.bind rl rs post fun x h1 v φ1 S1 H1 rl1 rs1 st rp post => ?_⟩⟩
  cases x with
  | bl q =>
    cases (show Rp _ _ _ _ _ from rp)
    cases q with
    | true => exact ⟨true, rfl, k2.run rl1 rs1 post⟩
    | false => exact ⟨false, rfl, post _ φ1 S1 H1 rl1 (Step.refl _ _ _) (.bl false)⟩
  | _ => exact post.elim
theorem se_or (ha : SE X W a fa) (hb : SE X W (.BoolOp .Or (b :: rest) pos) fb) : SE X W (.BoolOp .Or (a :: b :: rest) pos) (eOrV fa fb) := by
  obtain ⟨ta, h1, h2⟩ := ha
  obtain ⟨tb, k1, k2⟩ := hb
  refine ⟨_, pe_or h1 k1, ⟨fun rl rs post => h2.bind rl rs post fun x h1 v φ1 S1 H1 rl1 rs1 st rp post => ?_⟩⟩
  cases x with
  | bl q =>
    cases (show Rp _ _ _ _ _ from rp)
    cases q with
    | false => exact ⟨false, rfl, k2.run rl1 rs1 post⟩
    | true => exact ⟨true, rfl, post _ φ1 S1 H1 rl1 (Step.refl _ _ _) (.bl true)⟩
  | _ => exact post.elim
theorem se_not (ha : SE X W a fa) : SE X W (.UnaryOp .Not a pos) (eNotV fa) := by
  obtain ⟨ta, h1, h2⟩ := ha
  refine ⟨_, pe_not h1, ⟨fun rl rs post => h2.bind rl rs post fun x h1 v φ1 S1 H1 rl1 rs1 st rp post => ?_⟩⟩
  cases x with
  | bl q =>
    cases (show Rp _ _ _ _ _ from rp)
    exact ⟨q, rfl, post _ φ1 S1 H1 rl1 (Step.refl _ _ _) (.bl _)⟩
  | _ => exact post.elim
end
end VD

set_option Elab.async false
set_option linter.all false
set_option maxRecDepth 100000
set_option maxHeartbeats 4000000
namespace VD
open PySem PySem.Spec PyProof.Rows L2
noncomputable section

/-! ### data as the library's -/
def optAll {α β : Type} (g : β → Option α) : List β → Option (List α)
  | [] => some []
  | d :: ds => match g d with
    | some a => (match optAll g ds with
      | some as => some (a :: as)
      | none => none)
    | none => none
def toPy (h : Hv) : Nat → D → Option PyData
  | 0, _ => none
  | _ + 1, .non => some .none
  | _ + 1, .bl b => some (.bool b)
  | _ + 1, .int i => some (.int i)
  | _ + 1, .str x => some (.str x)
  | f + 1, .lst ds => (optAll (toPy h f) ds).map .list
  | f + 1, .fz ds => (optAll (toPy h f) ds).map .list
  | f + 1, .tup ds => (optAll (toPy h f) ds).map .tuple
  | f + 1, .cell n => match h[n]? with
    | some (.lst ds) => (optAll (toPy h f) ds).map .list
    | _ => none
  | _ + 1, .raw _ => none
  | _ + 1, .dct _ _ => none
  | _ + 1, .obj _ _ _ => none
  | _ + 1, .exv _ _ _ _ => none
section
variable {K : PySem.W.Frag} {φ : List Addr} {S H : Hp} {h : Hv}
theorem dp_of (rl : Rel K φ S H h) : ∀ (f : Nat) (d : D) (v : V) (p : PyData), Rp K φ S v d → toPy h f d = some p → Dp K H v p := by
  intro f
  induction f with
  | zero => intro d v p _ e; cases e
  | succ f ih =>
    have all : ∀ (ds : List D) (vs : List V) (ps : List PyData), RpA K φ S vs ds → optAll (toPy h f) ds = some ps → DpAll K H vs ps := by
      intro ds
      induction ds with
      | nil => intro vs ps r e; cases r; cases e; exact .nil
      | cons d ds ih2 =>
        intro vs ps r e
        cases r with
        | cons r t =>
          simp only [optAll] at e
          cases q : toPy h f d with
          | none => rw [q] at e; cases e
          | some p0 =>
            rw [q] at e
            cases q2 : optAll (toPy h f) ds with
            | none => simp only [q2] at e; cases e
            | some p1 =>
              simp only [q2] at e
              cases e
              exact .cons (ih d _ p0 r q) (ih2 _ p1 t q2)
    intro d v p r e
    cases r with
    | non => cases e; exact .non
    | bl b => cases e; exact .bl b
    | int i => cases e; exact .int i
    | str x => cases e; exact .str x
    | @lst a vs ds h1 h2 =>
      obtain ⟨ps, q, rfl⟩ := Option.map_eq_some_iff.mp (show (optAll (toPy h f) ds).map .list = some p from e)
      exact .lst (.inl (.inl (rl.sub _ _ h1))) (all ds vs ps h2 q)
    | @fz a vs ds h1 h2 =>
      obtain ⟨ps, q, rfl⟩ := Option.map_eq_some_iff.mp (show (optAll (toPy h f) ds).map .list = some p from e)
      exact .lst (rl.sub.sql h1) (all ds vs ps h2 q)
    | @tup a vs ds h1 h2 =>
      obtain ⟨ps, q, rfl⟩ := Option.map_eq_some_iff.mp (show (optAll (toPy h f) ds).map .tuple = some p from e)
      exact .tup (rl.sub.sqt h1) (all ds vs ps h2 q)
    | @cell a n h1 =>
      obtain ⟨c, hc⟩ := rl.at h1
      obtain ⟨_, o, ho, rc⟩ := rl.cel _ _ _ h1 hc
      simp only [toPy] at e
      rw [hc] at e
      cases c with
      | lst ds =>
        obtain ⟨vs, rfl, ra⟩ := rc
        obtain ⟨ps, q, rfl⟩ := Option.map_eq_some_iff.mp (show (optAll (toPy h f) ds).map .list = some p from e)
        exact .lst (.inl (.inl ho)) (all ds vs ps ra q)
      | dK kvs => cases e
      | dF kvs => cases e
      | ins C fs => cases e
      | dN w kvs => cases e
    | raw v => cases e
    | dct h1 h2 h3 => cases e
    | obj h1 h2 h3 => cases e
    | exv h1 h2 => cases e
/-- a list to be read, a tuple -/
def lOf (h : Hv) : D → Option (List D)
  | .lst xs => some xs
  | .fz xs => some xs
  | .cell n => match h[n]? with
    | some (.lst xs) => some xs
    | _ => none
  | _ => none
def tOf : D → Option (List D)
  | .tup xs => some xs
  | _ => none
theorem lOf_ok (rl : Rel K φ S H h) {d : D} {v : V} {ds : List D} (r : Rp K φ S v d) (e : lOf h d = some ds) : ∃ a vs, v = .ref a ∧ SqL K H a vs ∧ RpA K φ S vs ds := by
  cases r with
  | lst h1 h2 => cases e; exact ⟨_, _, rfl, .inl (.inl (rl.sub _ _ h1)), h2⟩
  | fz h1 h2 => cases e; exact ⟨_, _, rfl, rl.sub.sql h1, h2⟩
  | @cell a n h1 =>
    obtain ⟨c, hc⟩ := rl.at h1
    obtain ⟨_, o, ho, rc⟩ := rl.cel _ _ _ h1 hc
    simp only [lOf] at e
    rw [hc] at e
    cases c with
    | lst xs =>
      obtain ⟨vs, rfl, ra⟩ := rc
      cases e
      exact ⟨a, vs, rfl, .inl (.inl ho), ra⟩
    | dK kvs => cases e
    | dF kvs => cases e
    | ins C fs => cases e
    | dN w kvs => cases e
  | _ => cases e
theorem tOf_ok (rl : Rel K φ S H h) {d : D} {v : V} {ds : List D} (r : Rp K φ S v d) (e : tOf d = some ds) : ∃ a vs, v = .ref a ∧ SqT K H a vs ∧ RpA K φ S vs ds := by
  cases r with
  | tup h1 h2 => cases e; exact ⟨_, _, rfl, rl.sub.sqt h1, h2⟩
  | _ => cases e
/-- a list that is tracked as it stands -/
def kOf (h : Hv) : D → Option (List D)
  | .lst xs => some xs
  | .cell n => match h[n]? with
    | some (.lst xs) => some xs
    | _ => none
  | _ => none
theorem kOf_ok (rl : Rel K φ S H h) {d : D} {v : V} {ds : List D} (r : Rp K φ S v d) (e : kOf h d = some ds) : ∃ a vs, v = .ref a ∧ H a = some (.lst vs) ∧ RpA K φ S vs ds := by
  cases r with
  | lst h1 h2 => cases e; exact ⟨_, _, rfl, rl.sub _ _ h1, h2⟩
  | @cell a n h1 =>
    obtain ⟨c, hc⟩ := rl.at h1
    obtain ⟨_, o, ho, rc⟩ := rl.cel _ _ _ h1 hc
    simp only [kOf] at e
    rw [hc] at e
    cases c with
    | lst xs =>
      obtain ⟨vs, rfl, ra⟩ := rc
      cases e
      exact ⟨a, vs, rfl, ho, ra⟩
    | dK kvs => cases e
    | dF kvs => cases e
    | ins C fs => cases e
    | dN w kvs => cases e
  | _ => cases e
/-- flat values -/
def toV : D → Option V
  | .non => some .non
  | .bl b => some (.bl b)
  | .int i => some (.int i)
  | .str x => some (.str x)
  | _ => none
theorem toV_ok {d : D} {v w : V} (r : Rp K φ S v d) (e : toV d = some w) : v = w ∧ flatV v = true := by
  cases r <;> cases e <;> exact ⟨rfl, rfl⟩
theorem toVs_ok {ds : List D} {vs ws : List V} (r : RpA K φ S vs ds) (e : optAll toV ds = some ws) : vs = ws ∧ vs.all flatV = true := by
  induction ds generalizing vs ws with
  | nil => cases r; cases e; exact ⟨rfl, rfl⟩
  | cons d ds ih =>
    cases r with
    | cons r t =>
      simp only [optAll] at e
      cases q : toV d with
      | none => rw [q] at e; cases e
      | some w0 =>
        rw [q] at e
        cases q2 : optAll toV ds with
        | none => simp only [q2] at e; cases e
        | some w1 =>
          simp only [q2] at e
          cases e
          obtain ⟨e1, f1⟩ := toV_ok r q
          obtain ⟨e2, f2⟩ := ih t q2
          exact ⟨by rw [e1, e2], by rw [List.all_cons, f1, f2]; rfl⟩
def toI : D → Option Int
  | .int i => some i
  | _ => none
theorem toIs_ok {ds : List D} {vs : List V} {ns : List Int} (r : RpA K φ S vs ds) (e : optAll toI ds = some ns) : vs = ns.map V.int := by
  induction ds generalizing vs ns with
  | nil => cases r; cases e; rfl
  | cons d ds ih =>
    cases r with
    | cons r t =>
      simp only [optAll] at e
      cases q : toI d with
      | none => rw [q] at e; cases e
      | some w0 =>
        rw [q] at e
        cases q2 : optAll toI ds with
        | none => simp only [q2] at e; cases e
        | some w1 =>
          simp only [q2] at e
          cases e
          cases d with
          | int i => cases q; cases r; rw [ih t q2]; rfl
          | _ => cases q
def toBl : D → Option Bool
  | .bl i => some i
  | _ => none
theorem toBls_ok {ds : List D} {vs : List V} {ns : List Bool} (r : RpA K φ S vs ds) (e : optAll toBl ds = some ns) : vs = ns.map V.bl := by
  induction ds generalizing vs ns with
  | nil => cases r; cases e; rfl
  | cons d ds ih =>
    cases r with
    | cons r t =>
      simp only [optAll] at e
      cases q : toBl d with
      | none => rw [q] at e; cases e
      | some w0 =>
        rw [q] at e
        cases q2 : optAll toBl ds with
        | none => simp only [q2] at e; cases e
        | some w1 =>
          simp only [q2] at e
          cases e
          cases d with
          | bl i => cases q; cases r; rw [ih t q2]; rfl
          | _ => cases q
def toS : D → Option Str
  | .str i => some i
  | _ => none
theorem toSs_ok {ds : List D} {vs : List V} {ns : List Str} (r : RpA K φ S vs ds) (e : optAll toS ds = some ns) : vs = ns.map V.str := by
  induction ds generalizing vs ns with
  | nil => cases r; cases e; rfl
  | cons d ds ih =>
    cases r with
    | cons r t =>
      simp only [optAll] at e
      cases q : toS d with
      | none => rw [q] at e; cases e
      | some w0 =>
        rw [q] at e
        cases q2 : optAll toS ds with
        | none => simp only [q2] at e; cases e
        | some w1 =>
          simp only [q2] at e
          cases e
          cases d with
          | str i => cases q; cases r; rw [ih t q2]; rfl
          | _ => cases q
end

/-! ### operators by their operands -/
section
variable {X : Cx} {K : PySem.W.Frag}
def oSub : D → D → Hv → R D
  | .int i, .int j, h => .ok (.int (i - j)) h
  | _, _, _ => .stuck
theorem os_sub : OpS K (rI0 fun i j => .int (i - j)) oSub := by
  intro φ S H h x y v u Q E rl rx ry post
  cases rx <;> cases ry <;> first
    | exact post.elim
    | exact ⟨_, _, rfl, rfl, post _ φ S H rl (Step.refl _ _ _) (.int _)⟩
def mulOk (i j : Int) : Bool := decide (i.natAbs.log2 + j.natAbs.log2 < 1000000)
def oMul : D → D → Hv → R D
  | .int i, .int j, h => if mulOk i j then .ok (.int (i * j)) h else .stuck
  | _, _, _ => .stuck
theorem os_mul : OpS K (rI CMulW fun i j => .int (i * j)) oMul := by
  intro φ S H h x y v u Q E rl rx ry post
  cases rx <;> cases ry <;> first
    | exact post.elim
    | skip
  next i j =>
    simp only [oMul] at post
    by_cases q : mulOk i j = true
    · rw [if_pos q] at post
      exact ⟨_, _, rfl, rfl, (show CMulW _ _ by unfold mulOk at q; exact of_decide_eq_true (p := _ < _) q), post _ φ S H rl (Step.refl _ _ _) (.int _)⟩
    · rw [if_neg q] at post
      exact post.elim
def oMod : D → D → Hv → R D
  | .int i, .int j, h => if 0 < j then .ok (.int (i % j)) h else .stuck
  | _, _, _ => .stuck
theorem os_mod : OpS K (rI (fun _ j => 0 < j) fun i j => .int (i % j)) oMod := by
  intro φ S H h x y v u Q E rl rx ry post
  cases rx <;> cases ry <;> first
    | exact post.elim
    | skip
  next i j =>
    simp only [oMod] at post
    by_cases q : 0 < j
    · rw [if_pos q] at post
      exact ⟨_, _, rfl, rfl, q, post _ φ S H rl (Step.refl _ _ _) (.int _)⟩
    · rw [if_neg q] at post
      exact post.elim
def divOk (j : Int) : Bool := decide (0 < j ∧ j.natAbs.log2 < 9000)
def oFdiv : D → D → Hv → R D
  | .int i, .int j, h => if divOk j then .ok (.int (i / j)) h else .stuck
  | _, _, _ => .stuck
theorem os_fdiv : OpS K (rI CDivW fun i j => .int (i / j)) oFdiv := by
  intro φ S H h x y v u Q E rl rx ry post
  cases rx <;> cases ry <;> first
    | exact post.elim
    | skip
  next i j =>
    simp only [oFdiv] at post
    by_cases q : divOk j = true
    · rw [if_pos q] at post
      exact ⟨_, _, rfl, rfl, (show CDivW _ _ by unfold divOk at q; exact of_decide_eq_true (p := _ ∧ _) q), post _ φ S H rl (Step.refl _ _ _) (.int _)⟩
    · rw [if_neg q] at post
      exact post.elim
def powOk (i j : Int) : Bool := decide (0 ≤ j ∧ j ≤ 1000000 ∧ i.natAbs < 2 ^ 64)
def oPow : D → D → Hv → R D
  | .int i, .int j, h => if powOk i j then .ok (.int (i ^ j.toNat)) h else .stuck
  | _, _, _ => .stuck
theorem os_pow : OpS K (rI CPow fun i j => .int (i ^ j.toNat)) oPow := by
  intro φ S H h x y v u Q E rl rx ry post
  cases rx <;> cases ry <;> first
    | exact post.elim
    | skip
  next i j =>
    simp only [oPow] at post
    by_cases q : powOk i j = true
    · rw [if_pos q] at post
      exact ⟨_, _, rfl, rfl, (show CPow _ _ by unfold powOk at q; exact of_decide_eq_true (p := _ ∧ _) q), post _ φ S H rl (Step.refl _ _ _) (.int _)⟩
    · rw [if_neg q] at post
      exact post.elim
def uNeg : D → Hv → R D
  | .int i, h => .ok (.int (-i)) h
  | _, _ => .stuck
theorem us_neg : UnS K (rU fun i => .int (-i)) uNeg := by
  intro φ S H h x v Q E rl rx post
  cases rx <;> first
    | exact post.elim
    | exact ⟨_, rfl, post _ φ S H rl (Step.refl _ _ _) (.int _)⟩
/-- + of ints, texts, tuples -/
def rAddA (K : PySem.W.Frag) : R2 := fun x y H Q => rI0 (fun i j => .int (i + j)) x y H Q ∨ (∃ i j, x = .str i ∧ y = .str j ∧ i.length + j.length ≤ sizeLine ∧ Q (.str (i ++ j)) H) ∨ rCatT K x y H Q
theorem op_addA : OpR X (binaryOp .Add) (rAddA X.K) := op_add.or (op_add_str.or op_catT)
def oAdd : D → D → Hv → R D
  | .int i, .int j, h => .ok (.int (i + j)) h
  | .str i, .str j, h => if i.length + j.length ≤ 16777216 then .ok (.str (i ++ j)) h else .stuck
  | .tup (x :: xs), .tup ys, h => if (x :: xs).length + ys.length ≤ 16777216 then .ok (.tup (x :: xs ++ ys)) h else .stuck
  | _, _, _ => .stuck
theorem os_add : OpS K (rAddA K) oAdd := by
  intro φ S H h x y v u Q E rl rx ry post
  cases rx with
  | int i =>
    cases ry with
    | int j => exact .inl ⟨_, _, rfl, rfl, post _ φ S H rl (Step.refl _ _ _) (.int _)⟩
    | _ => exact post.elim
  | str i =>
    cases ry with
    | str j =>
      simp only [oAdd] at post
      by_cases q : i.length + j.length ≤ 16777216
      · rw [if_pos q] at post
        exact .inr (.inl ⟨_, _, rfl, rfl, by rw [line_eq]; exact q, post _ φ S H rl (Step.refl _ _ _) (.str _)⟩)
      · rw [if_neg q] at post
        exact post.elim
    | _ => exact post.elim
  | tup h1 h2 =>
    cases h2 with
    | nil => cases ry <;> exact post.elim
    | @cons v0 vs d0 ds r0 rr =>
      cases ry with
      | @tup b ws es k1 k2 =>
        simp only [oAdd] at post
        by_cases q : (d0 :: ds).length + es.length ≤ 16777216
        · rw [if_pos q] at post
          refine .inr (.inr ⟨_, _, v0 :: vs, ws, rfl, rfl, rl.sub.sqt h1, rl.sub.sqt k1, List.cons_ne_nil _ _, ?_, fun e => ?_, fun e p hp => ?_⟩)
          · rw [line_eq, k2.length, List.length_cons, rr.length, ← List.length_cons (a := d0)]
            exact q
          · subst e
            cases k2
            rw [List.append_nil] at post
            exact post _ φ S H rl (Step.refl _ _ _) (.tup h1 (.cons r0 rr))
          · obtain ⟨r2, s2⟩ := rl.lay (o := .tup (v0 :: vs ++ ws)) hp
            exact post _ φ _ _ r2 s2 (.tup (.inl (.inl upd_same)) (((RpA.cons r0 rr).append k2).mono (Pre.refl _) s2.sub))
        · rw [if_neg q] at post
          exact post.elim
      | _ => exact post.elim
  | _ => exact post.elim
/-- + of lists -/
def oCat : D → D → Hv → R (List D) := fun x y h => match kOf h x, kOf h y with
  | some xs, some ys => if xs.length + ys.length ≤ 16777216 then .ok (xs ++ ys) h else .stuck
  | _, _ => .stuck
theorem ol_cat : OpL K rCat oCat := by
  intro φ S H h x y v u Q E rl rx ry post
  simp only [oCat] at post
  cases e1 : kOf h x with
  | none => simp only [e1] at post; exact post.elim
  | some xs =>
    cases e2 : kOf h y with
    | none => simp only [e1, e2] at post; exact post.elim
    | some ys =>
      simp only [e1, e2] at post
      by_cases q : xs.length + ys.length ≤ 16777216
      · rw [if_pos q] at post
        obtain ⟨a, vs, rfl, ha, ra⟩ := kOf_ok rl rx e1
        obtain ⟨b, ws, rfl, hb, rb⟩ := kOf_ok rl ry e2
        refine ⟨a, b, vs, ws, rfl, rfl, ha, hb, by rw [line_eq, ra.length, rb.length]; exact q, fun p hp => ?_⟩
        obtain ⟨r2, s2⟩ := rl.hold (o := .lst (vs ++ ws)) hp
        exact post _ φ _ _ r2 s2 ⟨p, _, rfl, hp, upd_same, rl.snone hp, rl.notin hp, ra.append rb⟩
      · rw [if_neg q] at post
        exact post.elim
/-- list * int -/
def oRep : D → D → Hv → R (List D) := fun x y h => match kOf h x, toI y with
  | some xs, some k => @ite _ (xs.length * k.toNat ≤ 16777216 ∧ -(2 ^ 63) ≤ k ∧ k < 2 ^ 63) (Classical.propDecidable _) (.ok (List.replicate k.toNat xs).flatten h) .stuck
  | _, _ => .stuck
theorem RpA.rep {φ : List Addr} {S : Hp} {vs : List V} {ds : List D} (h : RpA K φ S vs ds) : ∀ k : Nat, RpA K φ S (List.replicate k vs).flatten (List.replicate k ds).flatten
  | 0 => .nil
  | k + 1 => by
    rw [List.replicate_succ, List.replicate_succ, List.flatten_cons, List.flatten_cons]
    exact h.append (RpA.rep h k)
theorem ol_rep : OpL K rRep oRep := by
  intro φ S H h x y v u Q E rl rx ry post
  simp only [oRep] at post
  cases e1 : kOf h x with
  | none => simp only [e1] at post; exact post.elim
  | some xs =>
    cases e2 : toI y with
    | none => simp only [e1, e2] at post; exact post.elim
    | some k =>
      simp only [e1, e2] at post
      split at post
      · next q =>
        obtain ⟨a, vs, rfl, ha, ra⟩ := kOf_ok rl rx e1
        cases y with
        | int i =>
          cases e2
          cases ry
          refine ⟨a, _, vs, rfl, rfl, ha, q.2.1, q.2.2, by rw [line_eq, ra.length]; exact q.1, fun p hp => ?_⟩
          obtain ⟨r2, s2⟩ := rl.hold (o := .lst (List.replicate k.toNat vs).flatten) hp
          exact post _ φ _ _ r2 s2 ⟨p, _, rfl, hp, upd_same, rl.snone hp, rl.notin hp, ra.rep _⟩
        | _ => cases e2
      · exact post.elim
end
end
end VD

set_option Elab.async false
set_option linter.all false
set_option maxRecDepth 100000
set_option maxHeartbeats 4000000
namespace VD
open PySem PySem.Spec PyProof.Rows L2
noncomputable section
section
variable {X : Cx} {K : PySem.W.Frag}
/-! ### comparisons -/
def rLtA : R2 := fun x y H Q => rI0 (fun i j => .bl (decide (i < j))) x y H Q ∨ ∃ i j, x = .str i ∧ y = .str j ∧ Q (.bl (decide (i.cps.toList < j.cps.toList))) H
def rGtA : R2 := fun x y H Q => rI0 (fun i j => .bl (decide (j < i))) x y H Q ∨ ∃ i j, x = .str i ∧ y = .str j ∧ Q (.bl (decide (j.cps.toList < i.cps.toList))) H
theorem op_ltA : OpR X (compareOp .Lt) rLtA := op_lt.or op_lt_str
theorem op_gtA : OpR X (compareOp .Gt) rGtA := op_gt.or op_gt_str
def oLt : D → D → Hv → R D
  | .int i, .int j, h => .ok (.bl (decide (i < j))) h
  | .str i, .str j, h => .ok (.bl (decide (i.cps.toList < j.cps.toList))) h
  | _, _, _ => .stuck
def oGt : D → D → Hv → R D
  | .int i, .int j, h => .ok (.bl (decide (j < i))) h
  | .str i, .str j, h => .ok (.bl (decide (j.cps.toList < i.cps.toList))) h
  | _, _, _ => .stuck
def oLe : D → D → Hv → R D
  | .int i, .int j, h => .ok (.bl (decide (i ≤ j))) h
  | _, _, _ => .stuck
def oGe : D → D → Hv → R D
  | .int i, .int j, h => .ok (.bl (decide (j ≤ i))) h
  | _, _, _ => .stuck
theorem os_lt : OpS K rLtA oLt := by
  intro φ S H h x y v u Q E rl rx ry post
  cases rx <;> cases ry <;> first
    | exact post.elim
    | exact .inl ⟨_, _, rfl, rfl, post _ φ S H rl (Step.refl _ _ _) (.bl _)⟩
    | exact .inr ⟨_, _, rfl, rfl, post _ φ S H rl (Step.refl _ _ _) (.bl _)⟩
theorem os_gt : OpS K rGtA oGt := by
  intro φ S H h x y v u Q E rl rx ry post
  cases rx <;> cases ry <;> first
    | exact post.elim
    | exact .inl ⟨_, _, rfl, rfl, post _ φ S H rl (Step.refl _ _ _) (.bl _)⟩
    | exact .inr ⟨_, _, rfl, rfl, post _ φ S H rl (Step.refl _ _ _) (.bl _)⟩
theorem os_le : OpS K (rI0 fun i j => .bl (decide (i ≤ j))) oLe := by
  intro φ S H h x y v u Q E rl rx ry post
  cases rx <;> cases ry <;> first
    | exact post.elim
    | exact ⟨_, _, rfl, rfl, post _ φ S H rl (Step.refl _ _ _) (.bl _)⟩
theorem os_ge : OpS K (rI0 fun i j => .bl (decide (j ≤ i))) oGe := by
  intro φ S H h x y v u Q E rl rx ry post
  cases rx <;> cases ry <;> first
    | exact post.elim
    | exact ⟨_, _, rfl, rfl, post _ φ S H rl (Step.refl _ _ _) (.bl _)⟩
/-- == of data -/
def rEqP (K : PySem.W.Frag) : R2 := fun x y H Q => ∃ d e, Dp K H x d ∧ Dp K H y e ∧ (d.plain = true ∧ e.plain = true ∧ d.depth ≤ 63) ∧ Q (.bl (PyData.eqv d e)) H
def rNeP (K : PySem.W.Frag) : R2 := fun x y H Q => ∃ d e, Dp K H x d ∧ Dp K H y e ∧ (d.plain = true ∧ e.plain = true ∧ d.depth ≤ 63) ∧ Q (.bl (!PyData.eqv d e)) H
theorem op_eqP (hu : X.A.units + 64 < cLine) : OpR X (compareOp .Eq) (rEqP X.K) := by
  intro pins s σ H x y v u Q I rx ry h
  obtain ⟨d, e, hd, he, ⟨pd, pe, dd⟩, q⟩ := h
  obtain ⟨as, r1⟩ := Dp.reads I d x v hd rx
  obtain ⟨bs, r2⟩ := Dp.reads I e y u he ry
  exact PySem.SeqAt.eq_plain r1 r2 pd pe (Nat.lt_of_le_of_lt (Nat.add_le_add_left (Nat.le_trans (Nat.min_le_left _ _) dd) _) (by omega)) ⟨.bl _, H, I, rfl, q⟩
theorem op_neP (hu : X.A.units + 64 < cLine) : OpR X (compareOp .NotEq) (rNeP X.K) := by
  intro pins s σ H x y v u Q I rx ry h
  obtain ⟨d, e, hd, he, ⟨pd, pe, dd⟩, q⟩ := h
  obtain ⟨as, r1⟩ := Dp.reads I d x v hd rx
  obtain ⟨bs, r2⟩ := Dp.reads I e y u he ry
  exact PySem.SeqAt.ne_plain r1 r2 pd pe (Nat.lt_of_le_of_lt (Nat.add_le_add_left (Nat.le_trans (Nat.min_le_left _ _) dd) _) (by omega)) ⟨.bl _, H, I, rfl, q⟩
def eqD (h : Hv) (x y : D) : Option Bool := match toPy h 12 x, toPy h 12 y with
  | some d, some e => some (PyData.eqv d e)
  | _, _ => none
def oEq : D → D → Hv → R D := fun x y h => match eqD h x y with
  | some b => .ok (.bl b) h
  | none => .stuck
def oNe : D → D → Hv → R D := fun x y h => match eqD h x y with
  | some b => .ok (.bl (!b)) h
  | none => .stuck
theorem toPy_plain {h : Hv} : ∀ (f : Nat) (d : D) (p : PyData), toPy h f d = some p → p.plain = true ∧ p.depth ≤ f := by
  intro f
  induction f with
  | zero => intro d p e; cases e
  | succ f ih =>
    have all : ∀ (ds : List D) (ps : List PyData), optAll (toPy h f) ds = some ps → PyData.plainAll ps = true ∧ PyData.depthAll ps ≤ f := by
      intro ds
      induction ds with
      | nil => intro ps e; cases e; exact ⟨by simp only [PyData.plainAll], by simp only [PyData.depthAll]; exact Nat.zero_le _⟩
      | cons d ds ih2 =>
        intro ps e
        simp only [optAll] at e
        cases q : toPy h f d with
        | none => rw [q] at e; cases e
        | some p0 =>
          rw [q] at e
          cases q2 : optAll (toPy h f) ds with
          | none => simp only [q2] at e; cases e
          | some p1 =>
            simp only [q2] at e
            cases e
            obtain ⟨a1, a2⟩ := ih d p0 q
            obtain ⟨b1, b2⟩ := ih2 p1 q2
            exact ⟨by simp only [PyData.plainAll, a1, b1, Bool.and_self], by simp only [PyData.depthAll]; exact Nat.max_le.mpr ⟨a2, b2⟩⟩
    have lst : ∀ ds p, (optAll (toPy h f) ds).map PyData.list = some p → p.plain = true ∧ p.depth ≤ f + 1 := fun ds p e => by
      obtain ⟨ps, q, rfl⟩ := Option.map_eq_some_iff.mp e
      obtain ⟨a, b⟩ := all ds ps q
      exact ⟨by simp only [PyData.plain, a], by simp only [PyData.depth]; omega⟩
    have tup : ∀ ds p, (optAll (toPy h f) ds).map PyData.tuple = some p → p.plain = true ∧ p.depth ≤ f + 1 := fun ds p e => by
      obtain ⟨ps, q, rfl⟩ := Option.map_eq_some_iff.mp e
      obtain ⟨a, b⟩ := all ds ps q
      exact ⟨by simp only [PyData.plain, a], by simp only [PyData.depth]; omega⟩
    intro d p e
    cases d with
    | non => cases e; exact ⟨by simp only [PyData.plain], by simp only [PyData.depth]; exact Nat.zero_le _⟩
    | bl b => cases e; exact ⟨by simp only [PyData.plain], by simp only [PyData.depth]; exact Nat.zero_le _⟩
    | int b => cases e; exact ⟨by simp only [PyData.plain], by simp only [PyData.depth]; exact Nat.zero_le _⟩
    | str b => cases e; exact ⟨by simp only [PyData.plain], by simp only [PyData.depth]; exact Nat.zero_le _⟩
    | lst ds => exact lst ds p e
    | fz ds => exact lst ds p e
    | tup ds => exact tup ds p e
    | cell n =>
      simp only [toPy] at e
      split at e
      · exact lst _ p e
      · cases e
    | dct _ _ => cases e
    | obj _ _ _ => cases e
    | exv _ _ _ _ => cases e
    | raw v => cases e
theorem eqD_ok {φ : List Addr} {S H : Hp} {h : Hv} {x y : D} {v u : V} {b : Bool} (rl : Rel K φ S H h) (rx : Rp K φ S v x) (ry : Rp K φ S u y) (e : eqD h x y = some b) :
    ∃ d e, Dp K H v d ∧ Dp K H u e ∧ (d.plain = true ∧ e.plain = true ∧ d.depth ≤ 63) ∧ PyData.eqv d e = b := by
  unfold eqD at e
  cases e1 : toPy h 12 x with
  | none => simp only [e1] at e; cases e
  | some d =>
    cases e2 : toPy h 12 y with
    | none => simp only [e1, e2] at e; cases e
    | some d2 =>
      simp only [e1, e2] at e
      obtain ⟨p1, q1⟩ := toPy_plain _ _ _ e1
      obtain ⟨p2, q2⟩ := toPy_plain _ _ _ e2
      exact ⟨d, d2, dp_of rl _ _ _ _ rx e1, dp_of rl _ _ _ _ ry e2, ⟨p1, p2, by omega⟩, Option.some.inj e⟩
theorem os_eq : OpS K (rEqP K) oEq := by
  intro φ S H h x y v u Q E rl rx ry post
  simp only [oEq] at post
  cases e : eqD h x y with
  | none => simp only [e] at post; exact post.elim
  | some b =>
    simp only [e] at post
    obtain ⟨d, d2, h1, h2, h3, h5⟩ := eqD_ok rl rx ry e
    exact ⟨d, d2, h1, h2, h3, by rw [h5]; exact post _ φ S H rl (Step.refl _ _ _) (.bl _)⟩
theorem os_ne : OpS K (rNeP K) oNe := by
  intro φ S H h x y v u Q E rl rx ry post
  simp only [oNe] at post
  cases e : eqD h x y with
  | none => simp only [e] at post; exact post.elim
  | some b =>
    simp only [e] at post
    obtain ⟨d, d2, h1, h2, h3, h5⟩ := eqD_ok rl rx ry e
    exact ⟨d, d2, h1, h2, h3, by rw [h5]; exact post _ φ S H rl (Step.refl _ _ _) (.bl _)⟩
/-- is None, is True -/
def rIsA : R2 := fun x y H Q => (y = .non ∧ Q (.bl (decide (x = .non))) H) ∨ rIsB x y H Q
def rNotA : R2 := fun x y H Q => (y = .non ∧ Q (.bl (!decide (x = .non))) H) ∨ rNotB x y H Q
theorem op_isA : OpR X (compareOp .Is) rIsA := op_isN.or op_isBl
theorem op_notA : OpR X (compareOp .IsNot) rNotA := op_notN.or op_notBl
def isD : D → D → Option Bool
  | .non, .non => some true
  | .raw _, .non => none
  | _, .non => some false
  | .bl a, .bl b => some (decide (a = b))
  | _, _ => none
def oIs : D → D → Hv → R D := fun x y h => match isD x y with
  | some b => .ok (.bl b) h
  | none => .stuck
def oIsNot : D → D → Hv → R D := fun x y h => match isD x y with
  | some b => .ok (.bl (!b)) h
  | none => .stuck
theorem isD_ok {φ : List Addr} {S : Hp} {x y : D} {v u : V} {b : Bool} (rx : Rp K φ S v x) (ry : Rp K φ S u y) (e : isD x y = some b) :
    (u = .non ∧ decide (v = .non) = b) ∨ ∃ p q, v = .bl p ∧ u = .bl q ∧ decide (p = q) = b := by
  cases ry with
  | non => refine .inl ⟨rfl, ?_⟩; cases rx <;> first | (cases e; done) | (cases e; rfl) | (cases e; exact decide_eq_false (fun z => nomatch z))
  | bl q => cases rx <;> first | (cases e; done) | (exact .inr ⟨_, _, rfl, rfl, Option.some.inj e⟩)
  | _ => cases rx <;> cases e
theorem os_is : OpS K rIsA oIs := by
  intro φ S H h x y v u Q E rl rx ry post
  simp only [oIs] at post
  cases e : isD x y with
  | none => simp only [e] at post; exact post.elim
  | some b =>
    simp only [e] at post
    have fin := post _ φ S H rl (Step.refl _ _ _) (.bl b)
    rcases isD_ok rx ry e with ⟨h1, h2⟩ | ⟨p, q, h1, h2, h3⟩
    · exact .inl ⟨h1, by rw [h2]; exact fin⟩
    · exact .inr ⟨p, q, h1, h2, by rw [h3]; exact fin⟩
theorem os_isNot : OpS K rNotA oIsNot := by
  intro φ S H h x y v u Q E rl rx ry post
  simp only [oIsNot] at post
  cases e : isD x y with
  | none => simp only [e] at post; exact post.elim
  | some b =>
    simp only [e] at post
    have fin := post _ φ S H rl (Step.refl _ _ _) (.bl (!b))
    rcases isD_ok rx ry e with ⟨h1, h2⟩ | ⟨p, q, h1, h2, h3⟩
    · exact .inl ⟨h1, by rw [h2]; exact fin⟩
    · exact .inr ⟨p, q, h1, h2, by rw [h3]; exact fin⟩
/-- one sign in a text, a flat value in a list or tuple -/
def rInA (K : PySem.W.Frag) : R2 := fun x y H Q => (∃ (c : Nat) (z : Str), x = .str ⟨#[c]⟩ ∧ y = .str z ∧ Q (.bl (decide (c ∈ z.cps.toList))) H) ∨ rIn K false x y H Q
def rNotInA (K : PySem.W.Frag) : R2 := fun x y H Q => (∃ (c : Nat) (z : Str), x = .str ⟨#[c]⟩ ∧ y = .str z ∧ Q (.bl (!decide (c ∈ z.cps.toList))) H) ∨ rIn K true x y H Q
theorem op_inA : OpR X (compareOp .In) (rInA X.K) := op_in_sign.or op_in_seq
theorem op_notInA : OpR X (compareOp .NotIn) (rNotInA X.K) := op_notIn_sign.or op_notIn_seq
def sqOf (h : Hv) (d : D) : Option (List D) := match lOf h d with
  | some xs => some xs
  | none => tOf d
def inD (h : Hv) (x y : D) : Option Bool := match x, y with
  | .str s, .str z => match s.cps.toList with
    | [c] => some (decide (c ∈ z.cps.toList))
    | _ => none
  | x, y => match toV x, (sqOf h y).bind (optAll toV) with
    | some v, some vs => some (inV v vs)
    | _, _ => none
def oIn : D → D → Hv → R D := fun x y h => match inD h x y with
  | some b => .ok (.bl b) h
  | none => .stuck
def oNotIn : D → D → Hv → R D := fun x y h => match inD h x y with
  | some b => .ok (.bl (!b)) h
  | none => .stuck
theorem sqOf_ok {φ : List Addr} {S H : Hp} {h : Hv} {d : D} {v : V} {ds : List D} (rl : Rel K φ S H h) (r : Rp K φ S v d) (e : sqOf h d = some ds) : ∃ a vs, v = .ref a ∧ (SqL K H a vs ∨ SqT K H a vs) ∧ RpA K φ S vs ds := by
  unfold sqOf at e
  cases q : lOf h d with
  | some xs =>
    simp only [q] at e
    cases e
    obtain ⟨a, vs, h1, h2, h3⟩ := lOf_ok rl r q
    exact ⟨a, vs, h1, .inl h2, h3⟩
  | none =>
    simp only [q] at e
    obtain ⟨a, vs, h1, h2, h3⟩ := tOf_ok rl r e
    exact ⟨a, vs, h1, .inr h2, h3⟩
theorem inD_ok {φ : List Addr} {S H : Hp} {h : Hv} {x y : D} {v u : V} {b : Bool} (rl : Rel K φ S H h) (rx : Rp K φ S v x) (ry : Rp K φ S u y) (e : inD h x y = some b) :
    (∃ (c : Nat) (z : Str), v = .str ⟨#[c]⟩ ∧ u = .str z ∧ decide (c ∈ z.cps.toList) = b) ∨ ∃ p xs, u = .ref p ∧ (SqL K H p xs ∨ SqT K H p xs) ∧ flatV v = true ∧ xs.all flatV = true ∧ inV v xs = b := by
  have gen : (match toV x, (sqOf h y).bind (optAll toV) with
    | some v, some vs => some (inV v vs)
    | _, _ => none) = some b → ∃ p xs, u = .ref p ∧ (SqL K H p xs ∨ SqT K H p xs) ∧ flatV v = true ∧ xs.all flatV = true ∧ inV v xs = b := by
    intro e
    cases q1 : toV x with
    | none => simp only [q1] at e; cases e
    | some w =>
      cases q2 : sqOf h y with
      | none => simp only [q1, q2, Option.bind_none] at e; cases e
      | some ds =>
        cases q3 : optAll toV ds with
        | none => simp only [q1, q2, Option.bind_some, q3] at e; cases e
        | some ws =>
          simp only [q1, q2, Option.bind_some, q3] at e
          obtain ⟨e1, f1⟩ := toV_ok rx q1
          obtain ⟨a, vs, rfl, h2, h3⟩ := sqOf_ok rl ry q2
          obtain ⟨e2, f2⟩ := toVs_ok h3 q3
          exact ⟨a, vs, rfl, h2, f1, f2, by rw [e1, e2]; exact Option.some.inj e⟩
  unfold inD at e
  split at e
  · next s z =>
    split at e
    · next c hc =>
      cases rx
      cases ry
      refine .inl ⟨c, z, ?_, rfl, Option.some.inj e⟩
      have : s = ⟨#[c]⟩ := Str.ext' (Array.toList_inj.mp (by rw [hc]))
      rw [this]
    · cases e
  · exact .inr (gen e)
theorem os_in : OpS K (rInA K) oIn := by
  intro φ S H h x y v u Q E rl rx ry post
  simp only [oIn] at post
  cases e : inD h x y with
  | none => simp only [e] at post; exact post.elim
  | some b =>
    simp only [e] at post
    have fin := post _ φ S H rl (Step.refl _ _ _) (.bl b)
    rcases inD_ok rl rx ry e with ⟨c, z, h1, h2, h3⟩ | ⟨p, xs, h1, h2, h3, h4, h5⟩
    · exact .inl ⟨c, z, h1, h2, by rw [h3]; exact fin⟩
    · exact .inr ⟨p, xs, h1, h2, h3, h4, by rw [if_neg Bool.false_ne_true, h5]; exact fin⟩
theorem os_notIn : OpS K (rNotInA K) oNotIn := by
  intro φ S H h x y v u Q E rl rx ry post
  simp only [oNotIn] at post
  cases e : inD h x y with
  | none => simp only [e] at post; exact post.elim
  | some b =>
    simp only [e] at post
    have fin := post _ φ S H rl (Step.refl _ _ _) (.bl (!b))
    rcases inD_ok rl rx ry e with ⟨c, z, h1, h2, h3⟩ | ⟨p, xs, h1, h2, h3, h4, h5⟩
    · exact .inl ⟨c, z, h1, h2, by rw [h3]; exact fin⟩
    · exact .inr ⟨p, xs, h1, h2, h3, h4, by rw [if_pos rfl, h5]; exact fin⟩

/-! ### subscripts, slices -/
def ixD (h : Hv) (x : D) (i : Int) : Option D := match x with
  | .str z => if z.length ≤ 16777216 then (match atI z.cps.toList i with
    | some c => some (.str ⟨#[c]⟩)
    | none => none) else none
  | x => match sqOf h x with
    | some ds => atI ds i
    | none => none
def oIx : D → D → Hv → R D := fun x y h => match y with
  | .int i => match ixD h x i with
    | some d => .ok d h
    | none => .stuck
  | _ => .stuck
theorem RpA.atI {φ : List Addr} {S : Hp} {vs : List V} {ds : List D} (r : RpA K φ S vs ds) {i : Int} {d : D} (e : L2.atI ds i = some d) : ∃ v, L2.atI vs i = some v ∧ Rp K φ S v d := by
  unfold L2.atI at e ⊢
  rw [r.length]
  cases q : ixN ds.length i with
  | none => rw [q] at e; cases e
  | some j =>
    rw [q] at e
    exact r.at e
theorem os_ix : OpS K (rIx K) oIx := by
  intro φ S H h x y v u Q E rl rx ry post
  simp only [oIx] at post
  cases y with
  | int i =>
    cases ry
    cases e : ixD h x i with
    | none => simp only [e] at post; exact post.elim
    | some d =>
      simp only [e] at post
      unfold ixD at e
      split at e
      · next z =>
        cases rx
        split at e
        · next hz =>
          split at e
          · next c hc =>
            cases e
            exact .inr (.inr ⟨z, i, c, rfl, rfl, by rw [line_eq]; exact hz, hc, post _ φ S H rl (Step.refl _ _ _) (.str _)⟩)
          · cases e
        · cases e
      · split at e
        · next ds hd =>
          obtain ⟨a, vs, rfl, h2, h3⟩ := sqOf_ok rl rx hd
          obtain ⟨w, hw, rw_⟩ := h3.atI e
          have fin := post _ φ S H rl (Step.refl _ _ _) rw_
          rcases h2 with h2 | h2
          · exact .inl ⟨a, vs, i, w, rfl, rfl, h2, hw, fin⟩
          · exact .inr (.inl ⟨a, vs, i, w, rfl, rfl, h2, hw, fin⟩)
        · cases e
  | _ => exact post.elim
variable {W : WX} {e a b : Expr} {pos p2 : Pos} {fa fb fl fh : ES}
theorem se_ix (ha : SE X W a fa) (hb : SE X W b fb) (hs : PlainIx b := by exact fun _ _ => rfl) : SE X W (.Subscript a b pos) (eOp oIx fa fb) := by
  obtain ⟨ta, h1, h2⟩ := ha
  obtain ⟨tb, k1, k2⟩ := hb
  exact ⟨_, pe_ix ix_seq h1 k1 hs, sn_op os_ix h2 k2⟩
def cutD (xs : List D) (lo hi : Option Int) : List D := (xs.drop (HT.sIx xs.length 0 lo)).take (HT.sIx xs.length xs.length hi - HT.sIx xs.length 0 lo)
/-- a part of a slice -/
abbrev OS := VS → Hv → R (Option Int)
def repO : Rep (Option Int) (Option Int) := fun _ _ _ _ b a => b = a
instance : Rep.Up repO := ⟨fun _ h => h⟩
def SO (X : Cx) (W : WX) (e : Option Expr) (es : OS) : Prop := ∃ te, PO X e te ∧ Sn X.K repO W te es
def pNo : OS := fun _ h => .ok none h
def pAt (f : ES) : OS := fun σ h => (f σ h).bind fun d h1 => match d with
  | .int i => .ok (some i) h1
  | _ => .stuck
theorem so_no : SO X W none pNo := ⟨_, po_none, ⟨fun {φ S H h σv σ Q} rl rs post => post none φ S H rl (Step.refl _ _ _) rfl⟩⟩
theorem so_at (ha : SE X W e fa) : SO X W (some e) (pAt fa) := by
  obtain ⟨ta, h1, h2⟩ := ha
  refine ⟨_, po_some h1, ⟨fun rl rs post => h2.bind rl rs post fun x h1 v φ1 S1 H1 rl1 rs1 st rp post => ?_⟩⟩
  cases x with
  | int i =>
    cases (show Rp _ _ _ _ _ from rp)
    exact ⟨i, rfl, post _ φ1 S1 H1 rl1 (Step.refl _ _ _) rfl⟩
  | _ => exact post.elim
/-- a list's slice: new -/
def lSl (f : ES) (lo hi : OS) : LS := fun σ h => (f σ h).bind fun d h1 => (lo σ h1).bind fun l h2 => (hi σ h2).bind fun u h3 => match lOf h3 d with
  | some xs => .ok (cutD xs l u) h3
  | none => .stuck
theorem RpA.cut {φ : List Addr} {S : Hp} {vs : List V} {ds : List D} (r : RpA K φ S vs ds) (lo hi : Option Int) : RpA K φ S (cutV vs lo hi) (cutD ds lo hi) := by
  unfold cutV cutD
  rw [r.length]
  exact (r.drop _).take _
theorem sl_sl {lo hi : Option Expr} {pl ph : OS} (ha : SE X W a fa) (hl : SO X W lo pl) (hh : SO X W hi ph) : SL X W (.Subscript a (.Slice lo hi none p2) pos) (lSl fa pl ph) := by
  obtain ⟨ta, h1, h2⟩ := ha
  obtain ⟨tl, k1, k2⟩ := hl
  obtain ⟨th, l1, l2⟩ := hh
  refine ⟨_, pe_slice sl_list h1 k1 l1, ⟨fun rl rs post => h2.bind rl rs post fun x h1 v φ1 S1 H1 rl1 rs1 st rp post =>
    k2.bind rl1 rs1 post fun l h2 l' φ2 S2 H2 rl2 rs2 st2 rp2 post => l2.bind rl2 rs2 post fun u h3 u' φ3 S3 H3 rl3 rs3 st3 rp3 post => ?_⟩⟩
  cases (show l' = l from rp2)
  cases (show u' = u from rp3)
  have r3 : Rp X.K φ3 S3 v x := Rp.mono (st2.trans st3).prefix (st2.trans st3).sub rp
  cases q : lOf h3 x with
  | none => rw [q] at post; exact post.elim
  | some xs =>
    rw [q] at post
    obtain ⟨a, vs, rfl, h2, ra⟩ := lOf_ok rl3 r3 q
    refine ⟨a, vs, rfl, h2, fun p hp => ?_⟩
    obtain ⟨r2, s2⟩ := rl3.hold (o := .lst (cutV vs l u)) hp
    exact post _ φ3 _ _ r2 s2 ⟨p, _, rfl, hp, upd_same, rl3.snone hp, rl3.notin hp, ra.cut _ _⟩
/-- t[lo:hi], the whole of t: t itself -/
theorem tup_whole {P : Program} {w : World} {A : Around} {E : Value → Shared → Prop} {s : Shared} {t sl : Addr} {items : Array Value} {vl vu : Value} {lo hi : Option Int} {Q : Value → Shared → Prop} (ht : IsTup s.heap t items) (hs : s.heap.IsSliceOf sl vl vu .none) (pl : IsPart vl lo) (pu : IsPart vu hi)
    (hw : HT.sIx items.size 0 lo = 0 ∧ HT.sIx items.size items.size hi = items.size) (h : Q (.ref t) s) : wpAny (model P w) A (getItem (.ref t) (.ref sl)) Q E s := by
  obtain ⟨os, hos, hcs, hds⟩ := id hs
  have ty : s.TypeIs (.ref sl) "slice" := ⟨os, hos, hcs⟩
  unfold getItem
  (try with_reducible refine wpAny_holding ?_); (first | refine wpAny_bind (wpAny_pure ?_) | skip)
  refine wpAny_bind (wpAny_sequenceKey ht.typeIs (by decide) ?_); refine wpAny_bind (wpAny_callSpecial?_slot (name := Str.ofString "__getitem__") ht.typeIs PyProof.Rows.slot_tuple_getitem (wpAny_call_entry PyProof.Rows.slot_tuple_getitem ht.typeIs PyProof.Rows.entry_tuple_getitem ?_ (PyProof.Rows.args_tuple_getitem _ _)))
  show wpAny _ _ (Builtin.Tuple.tupleItemsOf (.ref t) >>= _) _ _ s; refine wpAny_bind (tupleItemsOf_ ht ?_)
  refine wpAny_bind (wpAny_typeOf ty ?_); rw [if_pos (by decide)]; refine wpAny_bind (HT.sliceApplied_gen hs pl pu ?_)
  have yes : (((HT.sIx items.size 0 lo : Nat) : Int) == 0 && (1 : Int) == 1 && (HT.sIx items.size items.size hi - HT.sIx items.size 0 lo) == items.size) = true := by rw [hw.1, hw.2]; simp
  show wpAny _ _ (if (((HT.sIx items.size 0 lo : Nat) : Int) == 0 && (1 : Int) == 1 && (HT.sIx items.size items.size hi - HT.sIx items.size 0 lo) == items.size) = true then _ else _) _ _ s
  rw [if_pos yes]
  unfold Builtin.Tuple.tupleIsExact
  refine wpAny_bind (wpAny_bind (wpAny_typeOf ht.typeIs (wpAny_pure ?_)))
  rw [if_pos (by decide)]
  exact wpAny_bind (wpAny_rule (wpAny_pure ⟨_, rfl, wpAny_pure h⟩))
def rSlW (K : PySem.W.Frag) : V → Option Int → Option Int → Hp → VK → Prop := fun x lo hi H Q => ∃ a xs, x = .ref a ∧ SqT K H a xs ∧ (HT.sIx xs.length 0 lo = 0 ∧ HT.sIx xs.length xs.length hi = xs.length) ∧ Q (.ref a) H
theorem sl_tupW : SlR X (rSlW X.K) := by
  intro pins s σ H x v vl vu lo hi sl Q I rx hs pl pu ⟨a, xs, ex, hx, hw, q⟩
  subst ex
  cases rx
  obtain ⟨its, r, ht, hz⟩ := I.tuple hx
  have el : its.toArray.size = xs.length := by rw [List.size_toArray]; exact r.length.symm
  exact ⟨"tuple", _, PyProof.Rows.slot_tuple_getitem.lookup, ht.typeIs, tup_whole ht hs pl pu (by rw [el]; exact hw) ⟨.ref a, H, I, rfl, q⟩⟩
theorem tup_of {K : PySem.W.Frag} {φ : List Addr} {S : Hp} {v : V} {ds : List D} (r : Rp K φ S v (.tup ds)) : ∃ a vs, v = .ref a ∧ SqT K S a vs ∧ RpA K φ S vs ds := by
  cases r with
  | tup g1 g2 => exact ⟨_, _, rfl, g1, g2⟩
/-- a text's, a tuple's slice -/
def slD (d : D) (l u : Option Int) : Option D := match d with
  | .str z => if z.length ≤ 16777216 then some (.str (cutS z l u)) else none
  | .tup xs => some (.tup (cutD xs l u))
  | _ => none
def eSl (f : ES) (lo hi : OS) : ES := fun σ h => (f σ h).bind fun d h1 => (lo σ h1).bind fun l h2 => (hi σ h2).bind fun u h3 => match slD d l u with
  | some d' => .ok d' h3
  | none => .stuck
def rSlA (K : PySem.W.Frag) : V → Option Int → Option Int → Hp → VK → Prop := fun x lo hi H Q => rSlS x lo hi H Q ∨ rSlT K x lo hi H Q
theorem se_sl {lo hi : Option Expr} {pl ph : OS} (ha : SE X W a fa) (hl : SO X W lo pl) (hh : SO X W hi ph) : SE X W (.Subscript a (.Slice lo hi none p2) pos) (eSl fa pl ph) := by
  obtain ⟨ta, h1, h2⟩ := ha
  obtain ⟨tl, k1, k2⟩ := hl
  obtain ⟨th, l1, l2⟩ := hh
  refine ⟨_, pe_slice (SlR.or sl_str (SlR.or sl_tup sl_tupW)) h1 k1 l1, ⟨fun rl rs post => h2.bind rl rs post fun x h1 v φ1 S1 H1 rl1 rs1 st rp post =>
    k2.bind rl1 rs1 post fun l h2 l' φ2 S2 H2 rl2 rs2 st2 rp2 post => l2.bind rl2 rs2 post fun u h3 u' φ3 S3 H3 rl3 rs3 st3 rp3 post => ?_⟩⟩
  cases (show l' = l from rp2)
  cases (show u' = u from rp3)
  have r3 : Rp X.K φ3 S3 v x := Rp.mono (st2.trans st3).prefix (st2.trans st3).sub rp
  cases q : slD x l u with
  | none => rw [q] at post; exact post.elim
  | some d' =>
    rw [q] at post
    unfold slD at q
    split at q
    · next z =>
      split at q
      · next hz =>
        cases q
        cases r3
        exact .inl ⟨_, rfl, by rw [line_eq]; exact hz, post _ φ3 S3 H3 rl3 (Step.refl _ _ _) (.str _)⟩
      · cases q
    · cases q
      obtain ⟨a, vs, rfl, g1, g2⟩ := tup_of r3
      · by_cases hz : HT.sIx vs.length 0 l = 0 ∧ HT.sIx vs.length vs.length u = vs.length
        · have e : ∀ ds : List D, vs.length = ds.length → cutD ds l u = ds := fun ds g2 => by
            unfold cutD
            rw [← g2, hz.1, hz.2, g2, List.drop_zero, Nat.sub_zero, List.take_length]
          rw [e _ g2.length] at post
          exact .inr (.inr ⟨a, vs, rfl, rl3.sub.sqt g1, hz, post _ φ3 S3 H3 rl3 (Step.refl _ _ _) (.tup g1 g2)⟩)
        · refine .inr (.inl ⟨a, vs, rfl, rl3.sub.sqt g1, hz, fun p hp => ?_⟩)
          obtain ⟨r2, s2⟩ := rl3.lay (o := .tup (cutV vs l u)) hp
          exact post _ φ3 _ _ r2 s2 (.tup (.inl (.inl upd_same)) ((g2.cut _ _).mono (Pre.refl _) s2.sub))
    · cases q
end
end
end VD

set_option Elab.async false
set_option linter.all false
set_option maxRecDepth 100000
set_option maxHeartbeats 4000000
namespace VD
open PySem PySem.Spec PyProof.Rows L2
noncomputable section
/-! ### calls of what is built in -/
def CaS (K : PySem.W.Frag) (r : List V → Hp → VK → Prop) (ro : List D → Hv → R D) : Prop := ∀ {φ : List Addr} {S H : Hp} {h : Hv} {ds : List D} {vs : List V} {Q : VK} {E : XK}, Rel K φ S H h → RpA K φ S vs ds → Post K (repV K) φ S H (ro ds h) Q E → r vs H Q
def CaL (K : PySem.W.Frag) (r : List V → Hp → VK → Prop) (ro : List D → Hv → R (List D)) : Prop := ∀ {φ : List Addr} {S H : Hp} {h : Hv} {ds : List D} {vs : List V} {Q : VK} {E : XK}, Rel K φ S H h → RpA K φ S vs ds → Post K (repL K) φ S H (ro ds h) Q E → r vs H Q
def eCa {α : Type} (ro : List D → Hv → R α) (g : LS) : VS → Hv → R α := fun σ h => (g σ h).bind fun ds h1 => ro ds h1
section
variable {X : Cx} {W : WX} {e : Expr} {es : List Expr} {p pos : Pos} {la : LS} {x : Str} {id T : String} {r : List V → Hp → VK → Prop}
theorem sn_ca {t : TA} {ro : List D → Hv → R D} (hr : CaS X.K r ro) (h2 : Sn X.K (repA X.K) W t la) : Sn X.K (repV X.K) W (tCB r t) (eCa ro la) := ⟨fun rl rs post => h2.bind rl rs post fun x h1 v φ1 S1 H1 rl1 rs1 st rp post => hr rl1 rp post⟩
theorem sn_caL {t : TA} {ro : List D → Hv → R (List D)} (hr : CaL X.K r ro) (h2 : Sn X.K (repA X.K) W t la) : Sn X.K (repL X.K) W (tCB r t) (eCa ro la) := ⟨fun rl rs post => h2.bind rl rs post fun x h1 v φ1 S1 H1 rl1 rs1 st rp post => hr rl1 rp post⟩
theorem se_callB {ro : List D → Hv → R D} (hc : CallR X (.builtin id) r) (hr : CaS X.K r ro) (hm : X.mg x = none) (hv : bootBuiltins x = some (.builtin id)) (ha : SA X W (e :: es) la) (hg : Gl X x := by rfl) (hn : x ≠ "__name__" := by decide) (hdb : (x == ("__debug__" : Str)) = false := by decide)
    (he : starEach (e :: es) X.env = (false, eval e X.env) :: starEach es X.env := by rfl) (hpl : (backTo pos (starEach es X.env)).any (·.1) = false := by rfl) : SE X W (.Call (.Name x p) (e :: es) [] pos) (eCa ro la) := by
  obtain ⟨ta, h1, h2⟩ := ha
  exact ⟨_, pe_callB hc hg hm hv h1 hn hdb he hpl, sn_ca hr h2⟩
theorem se_callT {ro : List D → Hv → R D} (hc : CallR X (.type T) r) (hr : CaS X.K r ro) (hm : X.mg x = none) (hv : bootBuiltins x = some (.type T)) (ha : SA X W (e :: es) la) (hg : Gl X x := by rfl) (hn : x ≠ "__name__" := by decide) (hdb : (x == ("__debug__" : Str)) = false := by decide)
    (he : starEach (e :: es) X.env = (false, eval e X.env) :: starEach es X.env := by rfl) (hpl : (backTo pos (starEach es X.env)).any (·.1) = false := by rfl) : SE X W (.Call (.Name x p) (e :: es) [] pos) (eCa ro la) := by
  obtain ⟨ta, h1, h2⟩ := ha
  exact ⟨_, pe_callTy hc hg hm hv h1 hn hdb he hpl, sn_ca hr h2⟩
theorem sl_callB {ro : List D → Hv → R (List D)} (hc : CallR X (.builtin id) r) (hr : CaL X.K r ro) (hm : X.mg x = none) (hv : bootBuiltins x = some (.builtin id)) (ha : SA X W (e :: es) la) (hg : Gl X x := by rfl) (hn : x ≠ "__name__" := by decide) (hdb : (x == ("__debug__" : Str)) = false := by decide)
    (he : starEach (e :: es) X.env = (false, eval e X.env) :: starEach es X.env := by rfl) (hpl : (backTo pos (starEach es X.env)).any (·.1) = false := by rfl) : SL X W (.Call (.Name x p) (e :: es) [] pos) (eCa ro la) := by
  obtain ⟨ta, h1, h2⟩ := ha
  exact ⟨_, pe_callB hc hg hm hv h1 hn hdb he hpl, sn_caL hr h2⟩
theorem sl_callT {ro : List D → Hv → R (List D)} (hc : CallR X (.type T) r) (hr : CaL X.K r ro) (hm : X.mg x = none) (hv : bootBuiltins x = some (.type T)) (ha : SA X W (e :: es) la) (hg : Gl X x := by rfl) (hn : x ≠ "__name__" := by decide) (hdb : (x == ("__debug__" : Str)) = false := by decide)
    (he : starEach (e :: es) X.env = (false, eval e X.env) :: starEach es X.env := by rfl) (hpl : (backTo pos (starEach es X.env)).any (·.1) = false := by rfl) : SL X W (.Call (.Name x p) (e :: es) [] pos) (eCa ro la) := by
  obtain ⟨ta, h1, h2⟩ := ha
  exact ⟨_, pe_callTy hc hg hm hv h1 hn hdb he hpl, sn_caL hr h2⟩
end
section
variable {X : Cx} {K : PySem.W.Frag}
theorem RpA.one {φ : List Addr} {S : Hp} {vs : List V} {d : D} (r : RpA K φ S vs [d]) : ∃ v, vs = [v] ∧ Rp K φ S v d := by
  cases r with
  | cons r t => cases t; exact ⟨_, rfl, r⟩
theorem RpA.two {φ : List Addr} {S : Hp} {vs : List V} {d e : D} (r : RpA K φ S vs [d, e]) : ∃ v w, vs = [v, w] ∧ Rp K φ S v d ∧ Rp K φ S w e := by
  cases r with
  | cons r t =>
    obtain ⟨w, rfl, r2⟩ := t.one
    exact ⟨_, w, rfl, r, r2⟩
/-- len -/
def lenD (h : Hv) (d : D) : Option Int := match d with
  | .str z => if z.length ≤ 16777216 then some (z.length : Int) else none
  | d => (sqOf h d).map fun xs => (xs.length : Int)
def bLen : List D → Hv → R D := fun ds h => match ds with
  | [d] => (match lenD h d with
    | some n => .ok (.int n) h
    | none => .stuck)
  | _ => .stuck
def rLenA (K : PySem.W.Frag) : List V → Hp → VK → Prop := fun xs H Q => ∃ x n, xs = [x] ∧ LenV K x H n ∧ Q (.int n) H
theorem cs_len : CaS K (rLenA K) bLen := by
  intro φ S H h ds vs Q E rl ra post
  unfold bLen at post
  split at post
  · next d =>
    obtain ⟨v, rfl, r⟩ := ra.one
    cases q : lenD h d with
    | none => simp only [q] at post; exact post.elim
    | some n =>
      simp only [q] at post
      unfold lenD at q
      split at q
      · next z =>
        split at q
        · next hz =>
          cases q
          cases r
          exact ⟨.str z, z.length, rfl, ⟨by rw [line_eq]; exact hz, rfl⟩, post _ φ S H rl (Step.refl _ _ _) (.int _)⟩
        · cases q
      · obtain ⟨xs, q1, q2⟩ := Option.map_eq_some_iff.mp q
        subst q2
        obtain ⟨a, vs, rfl, h2, h3⟩ := sqOf_ok rl r q1
        refine ⟨.ref a, vs.length, rfl, ?_, by rw [h3.length]; exact post _ φ S H rl (Step.refl _ _ _) (.int _)⟩
        rcases h2 with h2 | h2
        · exact .inl ⟨vs, h2, rfl⟩
        · exact .inr ⟨vs, h2, rfl⟩
  · exact post.elim
/-- int -> int -/
def bAbs : List D → Hv → R D := fun ds h => match ds with
  | [.int i] => .ok (.int (if i < 0 then -i else i)) h
  | _ => .stuck
theorem cs_abs : CaS K (fun xs H Q => ∃ i, xs = [.int i] ∧ Q (.int (if i < 0 then -i else i)) H) bAbs := by
  intro φ S H h ds vs Q E rl ra post
  unfold bAbs at post
  split at post
  · obtain ⟨v, rfl, r⟩ := ra.one
    cases r
    exact ⟨_, rfl, post _ φ S H rl (Step.refl _ _ _) (.int _)⟩
  · exact post.elim
def bMax2 : List D → Hv → R D := fun ds h => match ds with
  | [.int i, .int j] => .ok (.int (if j > i then j else i)) h
  | _ => .stuck
theorem cs_max2 : CaS K (fun xs H Q => ∃ i j, xs = [.int i, .int j] ∧ Q (.int (if j > i then j else i)) H) bMax2 := by
  intro φ S H h ds vs Q E rl ra post
  unfold bMax2 at post
  split at post
  · obtain ⟨v, w, rfl, r, r2⟩ := ra.two
    cases r
    cases r2
    exact ⟨_, _, rfl, post _ φ S H rl (Step.refl _ _ _) (.int _)⟩
  · exact post.elim
def bMin2 : List D → Hv → R D := fun ds h => match ds with
  | [.int i, .int j] => .ok (.int (if j < i then j else i)) h
  | _ => .stuck
theorem cs_min2 : CaS K (fun xs H Q => ∃ i j, xs = [.int i, .int j] ∧ Q (.int (if j < i then j else i)) H) bMin2 := by
  intro φ S H h ds vs Q E rl ra post
  unfold bMin2 at post
  split at post
  · obtain ⟨v, w, rfl, r, r2⟩ := ra.two
    cases r
    cases r2
    exact ⟨_, _, rfl, post _ φ S H rl (Step.refl _ _ _) (.int _)⟩
  · exact post.elim
/-- sum, max, min of ints; any, all of bools -/
def bInts (f : List Int → Option D) : List D → Hv → R D := fun ds h => match ds with
  | [d] => (match (lOf h d).bind (optAll toI) with
    | some ns => (match f ns with
      | some z => .ok z h
      | none => .stuck)
    | none => .stuck)
  | _ => .stuck
theorem bInts_ok {f : List Int → Option D} {φ : List Addr} {S H : Hp} {h : Hv} {ds : List D} {vs : List V} {Q : VK} {E : XK} (rl : Rel K φ S H h) (ra : RpA K φ S vs ds) (post : Post K (repV K) φ S H (bInts f ds h) Q E) :
    ∃ a ns z, vs = [.ref a] ∧ SqL K H a (ns.map V.int) ∧ f ns = some z ∧ ∀ v, Rp K φ S v z → Q v H := by
  unfold bInts at post
  split at post
  · next d =>
    obtain ⟨v, rfl, r⟩ := ra.one
    split at post
    · next ns hn =>
      split at post
      · next z hz =>
        obtain ⟨xs, q1, q2⟩ := Option.bind_eq_some_iff.mp hn
        obtain ⟨a, vs, rfl, h2, h3⟩ := lOf_ok rl r q1
        rw [toIs_ok h3 q2] at h2
        exact ⟨a, ns, z, rfl, h2, hz, fun v rv => post v φ S H rl (Step.refl _ _ _) rv⟩
      · exact post.elim
    · exact post.elim
  · exact post.elim
def bSum := bInts fun ns => some (.int ns.sum)
theorem cs_sum : CaS K (rSum K) bSum := by
  intro φ S H h ds vs Q E rl ra post
  obtain ⟨a, ns, z, rfl, h1, h2, h3⟩ := bInts_ok rl ra post
  cases h2
  exact ⟨a, ns, rfl, h1, h3 _ (.int _)⟩
def maxI : List Int → Option Int
  | [] => none
  | x :: xs => some (xs.foldl max x)
def minI : List Int → Option Int
  | [] => none
  | x :: xs => some (xs.foldl min x)
theorem foldl_max_le : ∀ (xs : List Int) (x : Int), x ≤ xs.foldl max x ∧ (∀ y ∈ xs, y ≤ xs.foldl max x) ∧ (xs.foldl max x = x ∨ xs.foldl max x ∈ xs)
  | [], x => ⟨Int.le_refl _, fun _ z => (nomatch z), .inl rfl⟩
  | y :: ys, x => by
    obtain ⟨h1, h2, h3⟩ := foldl_max_le ys (max x y)
    rw [List.foldl_cons]
    refine ⟨by omega, fun z hz => ?_, ?_⟩
    · rcases List.mem_cons.mp hz with rfl | hz
      · omega
      · exact h2 z hz
    · rcases h3 with h3 | h3
      · rw [h3]
        rcases Int.le_total x y with q | q
        · rw [Int.max_eq_right q]; exact .inr List.mem_cons_self
        · rw [Int.max_eq_left q]; exact .inl rfl
      · exact .inr (List.mem_cons_of_mem _ h3)
theorem foldl_min_le : ∀ (xs : List Int) (x : Int), xs.foldl min x ≤ x ∧ (∀ y ∈ xs, xs.foldl min x ≤ y) ∧ (xs.foldl min x = x ∨ xs.foldl min x ∈ xs)
  | [], x => ⟨Int.le_refl _, fun _ z => (nomatch z), .inl rfl⟩
  | y :: ys, x => by
    obtain ⟨h1, h2, h3⟩ := foldl_min_le ys (min x y)
    rw [List.foldl_cons]
    refine ⟨by omega, fun z hz => ?_, ?_⟩
    · rcases List.mem_cons.mp hz with rfl | hz
      · omega
      · exact h2 z hz
    · rcases h3 with h3 | h3
      · rw [h3]
        rcases Int.le_total x y with q | q
        · rw [Int.min_eq_left q]; exact .inl rfl
        · rw [Int.min_eq_right q]; exact .inr List.mem_cons_self
      · exact .inr (List.mem_cons_of_mem _ h3)
theorem maxI_ok {ns : List Int} {m : Int} (h : maxI ns = some m) : m ∈ ns ∧ ∀ y ∈ ns, y ≤ m := by
  cases ns with
  | nil => cases h
  | cons x xs =>
    cases h
    obtain ⟨h1, h2, h3⟩ := foldl_max_le xs x
    refine ⟨?_, fun y hy => ?_⟩
    · rcases h3 with h3 | h3
      · rw [h3]; exact List.mem_cons_self
      · exact List.mem_cons_of_mem _ h3
    · rcases List.mem_cons.mp hy with rfl | hy
      · exact h1
      · exact h2 y hy
theorem minI_ok {ns : List Int} {m : Int} (h : minI ns = some m) : m ∈ ns ∧ ∀ y ∈ ns, m ≤ y := by
  cases ns with
  | nil => cases h
  | cons x xs =>
    cases h
    obtain ⟨h1, h2, h3⟩ := foldl_min_le xs x
    refine ⟨?_, fun y hy => ?_⟩
    · rcases h3 with h3 | h3
      · rw [h3]; exact List.mem_cons_self
      · exact List.mem_cons_of_mem _ h3
    · rcases List.mem_cons.mp hy with rfl | hy
      · exact h1
      · exact h2 y hy
def bMax := bInts fun ns => (maxI ns).map D.int
def bMin := bInts fun ns => (minI ns).map D.int
theorem cs_max : CaS K (rMax K) bMax := by
  intro φ S H h ds vs Q E rl ra post
  obtain ⟨a, ns, z, rfl, h1, h2, h3⟩ := bInts_ok rl ra post
  obtain ⟨m, hm, rfl⟩ := Option.map_eq_some_iff.mp h2
  obtain ⟨m1, m2⟩ := maxI_ok hm
  refine ⟨a, ns, rfl, h1, List.length_pos_of_mem m1, fun k k1 k2 => ?_⟩
  have e : k = m := Int.le_antisymm (m2 k k1) (k2 m m1)
  rw [e]
  exact h3 _ (.int _)
theorem cs_min : CaS K (rMin K) bMin := by
  intro φ S H h ds vs Q E rl ra post
  obtain ⟨a, ns, z, rfl, h1, h2, h3⟩ := bInts_ok rl ra post
  obtain ⟨m, hm, rfl⟩ := Option.map_eq_some_iff.mp h2
  obtain ⟨m1, m2⟩ := minI_ok hm
  refine ⟨a, ns, rfl, h1, List.length_pos_of_mem m1, fun k k1 k2 => ?_⟩
  have e : k = m := Int.le_antisymm (k2 m m1) (m2 k k1)
  rw [e]
  exact h3 _ (.int _)
def bBools (f : List Bool → Bool) : List D → Hv → R D := fun ds h => match ds with
  | [d] => (match (lOf h d).bind (optAll toBl) with
    | some ns => .ok (.bl (f ns)) h
    | none => .stuck)
  | _ => .stuck
theorem bBools_ok {f : List Bool → Bool} {φ : List Addr} {S H : Hp} {h : Hv} {ds : List D} {vs : List V} {Q : VK} {E : XK} (rl : Rel K φ S H h) (ra : RpA K φ S vs ds) (post : Post K (repV K) φ S H (bBools f ds h) Q E) :
    ∃ a ns, vs = [.ref a] ∧ SqL K H a (ns.map V.bl) ∧ Q (.bl (f ns)) H := by
  unfold bBools at post
  split at post
  · next d =>
    obtain ⟨v, rfl, r⟩ := ra.one
    split at post
    · next ns hn =>
      obtain ⟨xs, q1, q2⟩ := Option.bind_eq_some_iff.mp hn
      obtain ⟨a, vs, rfl, h2, h3⟩ := lOf_ok rl r q1
      rw [toBls_ok h3 q2] at h2
      exact ⟨a, ns, rfl, h2, post _ φ S H rl (Step.refl _ _ _) (.bl _)⟩
    · exact post.elim
  · exact post.elim
def bAll := bBools fun bs => bs.all id
def bAny := bBools fun bs => bs.any id
theorem cs_all : CaS K (rAll K) bAll := by
  intro φ S H h ds vs Q E rl ra post
  obtain ⟨a, ns, rfl, h1, h2⟩ := bBools_ok rl ra post
  exact ⟨a, ns, rfl, h1, h2⟩
theorem cs_any : CaS K (rAny K) bAny := by
  intro φ S H h ds vs Q E rl ra post
  obtain ⟨a, ns, rfl, h1, h2⟩ := bBools_ok rl ra post
  exact ⟨a, ns, rfl, h1, h2⟩
/-- list(xs): new -/
def bList : List D → Hv → R (List D) := fun ds h => match ds with
  | [d] => (match sqOf h d with
    | some xs => .ok xs h
    | none => .stuck)
  | _ => .stuck
theorem cl_list : CaL K (fun xs H Q => ∃ p ys, xs = [.ref p] ∧ (SqL K H p ys ∨ SqT K H p ys) ∧ ∀ l, H l = none → Q (.ref l) (upd H l (.lst ys))) bList := by
  intro φ S H h ds vs Q E rl ra post
  unfold bList at post
  split at post
  · next d =>
    obtain ⟨v, rfl, r⟩ := ra.one
    split at post
    · next xs hx =>
      obtain ⟨a, vs, rfl, h2, h3⟩ := sqOf_ok rl r hx
      refine ⟨a, vs, rfl, h2, fun p hp => ?_⟩
      obtain ⟨r2, s2⟩ := rl.hold (o := .lst vs) hp
      exact post _ φ _ _ r2 s2 ⟨p, _, rfl, hp, upd_same, rl.snone hp, rl.notin hp, h3⟩
    · exact post.elim
  · exact post.elim
/-- tuple(xs) of a list -/
def bTuple : List D → Hv → R D := fun ds h => match ds with
  | [d] => (match lOf h d with
    | some xs => .ok (.tup xs) h
    | none => (match tOf d with
      | some xs => .ok (.tup xs) h
      | none => .stuck))
  | _ => .stuck
theorem cs_tuple : CaS K (fun xs H Q => ∃ p ys, xs = [.ref p] ∧ ((SqL K H p ys ∧ ∀ l, H l = none → Q (.ref l) (upd H l (.tup ys))) ∨ (SqT K H p ys ∧ Q (.ref p) H))) bTuple := by
  intro φ S H h ds vs Q E rl ra post
  unfold bTuple at post
  split at post
  · next d =>
    obtain ⟨v, rfl, r⟩ := ra.one
    split at post
    · next xs hx =>
      obtain ⟨a, vs, rfl, h2, h3⟩ := lOf_ok rl r hx
      refine ⟨a, vs, rfl, .inl ⟨h2, fun p hp => ?_⟩⟩
      obtain ⟨r2, s2⟩ := rl.lay (o := .tup vs) hp
      exact post _ φ _ _ r2 s2 (.tup (.inl (.inl upd_same)) (h3.mono (Pre.refl _) s2.sub))
    · split at post
      · next xs hx =>
        cases r with
        | tup g1 g2 =>
          cases hx
          exact ⟨_, _, rfl, .inr ⟨rl.sub.sqt g1, post _ φ S H rl (Step.refl _ _ _) (.tup g1 g2)⟩⟩
        | _ => cases hx
      · exact post.elim
  · exact post.elim
/-- sorted(ints): new -/
def sortI (ns : List Int) : List Int := ns.mergeSort fun a b => decide (a ≤ b)
theorem sortI_perm (ns : List Int) : (sortI ns).Perm ns := List.mergeSort_perm _ _
theorem sortI_rises (ns : List Int) : (sortI ns).Pairwise (· ≤ ·) := by
  have h := List.pairwise_mergeSort (le := fun (a b : Int) => decide (a ≤ b)) (fun a b c h1 h2 => by
    have := of_decide_eq_true h1
    have := of_decide_eq_true h2
    exact decide_eq_true (by omega)) (fun a b => by
    rcases Int.le_total a b with q | q
    · rw [decide_eq_true q]; rfl
    · rw [decide_eq_true q, Bool.or_true]) ns
  exact h.imp fun h => of_decide_eq_true h
theorem sort_one {xs ys : List Int} (hp : xs.Perm ys) (h1 : xs.Pairwise (· ≤ ·)) (h2 : ys.Pairwise (· ≤ ·)) : xs = ys := hp.eq_of_pairwise (le := (· ≤ ·)) (fun a b _ _ x y => Int.le_antisymm x y) h1 h2
def bSorted : List D → Hv → R (List D) := fun ds h => match ds with
  | [d] => (match (lOf h d).bind (optAll toI) with
    | some ns => .ok ((sortI ns).map D.int) h
    | none => .stuck)
  | _ => .stuck
theorem cl_sorted : CaL K (rSortedI K) bSorted := by
  intro φ S H h ds vs Q E rl ra post
  unfold bSorted at post
  split at post
  · next d =>
    obtain ⟨v, rfl, r⟩ := ra.one
    split at post
    · next ns hn =>
      obtain ⟨xs, q1, q2⟩ := Option.bind_eq_some_iff.mp hn
      obtain ⟨a, vs, rfl, h2, h3⟩ := lOf_ok rl r q1
      rw [toIs_ok h3 q2] at h2
      refine ⟨a, ns, rfl, h2, fun ns' p hperm hs hp => ?_⟩
      have e : ns' = sortI ns := sort_one (hperm.trans (sortI_perm ns).symm) hs (sortI_rises ns)
      rw [e]
      obtain ⟨r2, s2⟩ := rl.hold (o := .lst ((sortI ns).map V.int)) hp
      exact post _ φ _ _ r2 s2 ⟨p, _, rfl, hp, upd_same, rl.snone hp, rl.notin hp, .of_ints _⟩
    · exact post.elim
  · exact post.elim
/-- str(int), int(int), bool(int) -/
def bStr : List D → Hv → R D := fun ds h => match ds with
  | [.int i] => if i.natAbs.log2 < 1920 then .ok (.str (toString i)) h else .stuck
  | _ => .stuck
theorem cs_str : CaS K (fun xs H Q => ∃ i, xs = [.int i] ∧ i.natAbs.log2 < 1920 ∧ Q (.str (toString i)) H) bStr := by
  intro φ S H h ds vs Q E rl ra post
  unfold bStr at post
  split at post
  · next i =>
    obtain ⟨v, rfl, r⟩ := ra.one
    cases r
    split at post
    · next q => exact ⟨_, rfl, q, post _ φ S H rl (Step.refl _ _ _) (.str _)⟩
    · exact post.elim
  · exact post.elim
def bInt : List D → Hv → R D := fun ds h => match ds with
  | [.int i] => .ok (.int i) h
  | [.bl b] => .ok (.int (if b then 1 else 0)) h
  | _ => .stuck
theorem cs_int : CaS K (fun xs H Q => (∃ i, xs = [.int i] ∧ Q (.int i) H) ∨ ∃ k, xs = [.bl k] ∧ Q (.int (if k then 1 else 0)) H) bInt := by
  intro φ S H h ds vs Q E rl ra post
  unfold bInt at post
  split at post
  · obtain ⟨v, rfl, r⟩ := ra.one
    cases r
    exact .inl ⟨_, rfl, post _ φ S H rl (Step.refl _ _ _) (.int _)⟩
  · obtain ⟨v, rfl, r⟩ := ra.one
    cases r
    exact .inr ⟨_, rfl, post _ φ S H rl (Step.refl _ _ _) (.int _)⟩
  · exact post.elim
end
end
end VD

set_option Elab.async false
set_option linter.all false
set_option maxRecDepth 100000
set_option maxHeartbeats 4000000
namespace VD
open PySem PySem.Spec PyProof.Rows L2
noncomputable section
/-! ### statements -/
def PostS (K : PySem.W.Frag) (φ : List Addr) (S H : Hp) (r : RS) (D : Ends) (W : WX) : Prop := match r with
  | .next σv h' => ∀ σ φ' S' H', Rel K φ' S' H' h' → RelS K φ' S' σv σ → Step φ S H φ' S' H' → D.nx σ H'
  | .brk σv h' => ∀ σ φ' S' H', Rel K φ' S' H' h' → RelS K φ' S' σv σ → Step φ S H φ' S' H' → D.bk σ H'
  | .cont σv h' => ∀ σ φ' S' H', Rel K φ' S' H' h' → RelS K φ' S' σv σ → Step φ S H φ' S' H' → D.ct σ H'
  | .ret d h' => ∀ v φ' S' H', Rel K φ' S' H' h' → Step φ S H φ' S' H' → Rp K φ' S' v d → D.rt v H'
  | .exc x σv h' => ∀ σ cls dd φ' S' H', Rel K φ' S' H' h' → RelS K φ' S' σv σ → Step φ S H φ' S' H' → RpX K φ' S' H' x cls dd → W cls dd σ H'
  | .stuck => False
theorem PostS.up {K : PySem.W.Frag} {φ φ1 : List Addr} {S H S1 H1 : Hp} {r : RS} {D : Ends} {W : WX} (s : Step φ S H φ1 S1 H1) (p : PostS K φ S H r D W) : PostS K φ1 S1 H1 r D W := by
  cases r with
  | next σv h' => exact fun σ φ' S' H' a b c => p σ φ' S' H' a b (s.trans c)
  | brk σv h' => exact fun σ φ' S' H' a b c => p σ φ' S' H' a b (s.trans c)
  | cont σv h' => exact fun σ φ' S' H' a b c => p σ φ' S' H' a b (s.trans c)
  | ret d h' => exact fun v φ' S' H' a b c => p v φ' S' H' a (s.trans b) c
  | exc x σv h' => exact fun σ cls dd φ' S' H' a b c d => p σ cls dd φ' S' H' a b (s.trans c) d
  | stuck => exact p
structure SnS (K : PySem.W.Frag) (W : WX) (ts : TS) (ss : SS) : Prop where
  run : ∀ {φ : List Addr} {S H : Hp} {h : Hv} {σv : VS} {σ : L2.St} {D : Ends}, Rel K φ S H h → RelS K φ S σv σ → PostS K φ S H (ss σv h) D W → ts D σ H
/-- a value, then a statement's end -/
def R.then {α : Type} (r : R α) (σ : VS) (f : α → Hv → RS) : RS := match r with
  | .ok a h => f a h
  | .exc x h => .exc x σ h
  | .stuck => .stuck
@[simp] theorem R.then_ok {α : Type} (a : α) (h : Hv) (σ : VS) (f : α → Hv → RS) : (R.ok a h).then σ f = f a h := rfl
@[simp] theorem R.then_exc {α : Type} (x : Xn) (h : Hv) (σ : VS) (f : α → Hv → RS) : (R.exc x h : R α).then σ f = .exc x σ h := rfl
@[simp] theorem R.then_stuck {α : Type} (σ : VS) (f : α → Hv → RS) : (R.stuck : R α).then σ f = .stuck := rfl
theorem Sn.thenS {α β : Type} {K : PySem.W.Frag} {rep : Rep α β} {W : WX} {t : L2.St → Hp → (β → Hp → Prop) → Prop} {ea : VS → Hv → R α} {f : α → Hv → RS}
    {φ : List Addr} {S H : Hp} {h : Hv} {σv : VS} {σ : L2.St} {D : Ends} {Q1 : β → Hp → Prop}
    (ha : Sn K rep W t ea) (rl : Rel K φ S H h) (rs : RelS K φ S σv σ) (post : PostS K φ S H ((ea σv h).then σv f) D W)
    (k : ∀ a h1 b φ1 S1 H1, Rel K φ1 S1 H1 h1 → RelS K φ1 S1 σv σ → Step φ S H φ1 S1 H1 → rep H φ1 S1 H1 b a → PostS K φ1 S1 H1 (f a h1) D W → Q1 b H1) : t σ H Q1 := by
  refine ha.run rl rs ?_
  cases q : ea σv h with
  | ok a h1 =>
    rw [q] at post
    exact fun b φ1 S1 H1 rl1 st rp => k a h1 b φ1 S1 H1 rl1 (rs.step st) st rp (PostS.up st post)
  | exc x h1 =>
    rw [q] at post
    exact fun cls dd φ' S' H' a b c => post σ cls dd φ' S' H' a (rs.step b) b c
  | stuck =>
    rw [q] at post
    exact post.elim

def QS (X : Cx) (W : WX) (st : Stmt) (ss : SS) : Prop := ∃ t, PS X st t ∧ SnS X.K W t ss
def QB (X : Cx) (W : WX) (st : List Stmt) (ss : SS) : Prop := ∃ t, PSs X st t ∧ SnS X.K W t ss
def sNext : SS := fun σ h => .next σ h
def sSeq (f g : SS) : SS := fun σ h => match f σ h with
  | .next σ' h' => g σ' h'
  | r => r
section
variable {X : Cx} {W : WX} {e a b c : Expr} {st : Stmt} {rest : List Stmt} {pos pos' : Pos} {fa fb fc : ES} {la lb : LS} {ca cb : CS} {s1 s2 s3 : SS}
theorem qb_nil : QB X W [] sNext := ⟨_, pss_nil, ⟨fun {φ S H h σv σ D} rl rs post => post σ φ S H rl rs (Step.refl _ _ _)⟩⟩
theorem qb_cons (h1 : QS X W st s1) (h2 : QB X W rest s2) : QB X W (st :: rest) (sSeq s1 s2) := by
  obtain ⟨t1, a1, b1⟩ := h1
  obtain ⟨t2, a2, b2⟩ := h2
  refine ⟨_, pss_cons a1 a2, ⟨fun {φ S H h σv σ D} rl rs post => b1.run rl rs ?_⟩⟩
  unfold sSeq at post
  cases q : s1 σv h with
  | next σ' h' =>
    rw [q] at post
    exact fun σ1 φ1 S1 H1 rl1 rs1 st1 => b2.run rl1 rs1 (PostS.up st1 post)
  | _ => rw [q] at post; exact post
theorem qb_one (h1 : QS X W st s1) : QB X W [st] s1 := by
  obtain ⟨t1, a1, b1⟩ := h1
  exact ⟨_, pss_one a1, b1⟩
def sBrk : SS := fun σ h => .brk σ h
def sCont : SS := fun σ h => .cont σ h
theorem qs_pass : QS X W (.Pass pos) sNext := ⟨_, ps_pass, ⟨fun {φ S H h σv σ D} rl rs post => post σ φ S H rl rs (Step.refl _ _ _)⟩⟩
theorem qs_break : QS X W (.Break pos) sBrk := ⟨_, ps_break, ⟨fun {φ S H h σv σ D} rl rs post => post σ φ S H rl rs (Step.refl _ _ _)⟩⟩
theorem qs_continue : QS X W (.Continue pos) sCont := ⟨_, ps_continue, ⟨fun {φ S H h σv σ D} rl rs post => post σ φ S H rl rs (Step.refl _ _ _)⟩⟩
theorem qs_doc {x j} : QS X W (.Expr (.Constant (.str x) j pos) pos') sNext := ⟨_, ps_doc, ⟨fun {φ S H h σv σ D} rl rs post => post σ φ S H rl rs (Step.refl _ _ _)⟩⟩
/-- what the proof never comes to -/
def sNever : SS := fun _ _ => .stuck
theorem qs_never : QS X W st sNever := ⟨_, ps_never, ⟨fun rl rs post => post.elim⟩⟩
theorem qb_never : QB X W rest sNever := ⟨_, pss_never, ⟨fun rl rs post => post.elim⟩⟩
def sDrop (f : ES) : SS := fun σ h => (f σ h).then σ fun _ h' => .next σ h'
theorem qs_expr (he : SE X W e fa) (hs : swapsWith e none pos.line X.env = pure false := by rfl) : QS X W (.Expr e pos) (sDrop fa) := by
  obtain ⟨ta, h1, h2⟩ := he
  exact ⟨_, ps_expr h1 hs, ⟨fun rl rs post => h2.thenS rl rs post fun x h1 v φ1 S1 H1 rl1 rs1 st rp post => post _ φ1 S1 H1 rl1 rs1 (Step.refl _ _ _)⟩⟩
def sRet (f : ES) : SS := fun σ h => (f σ h).then σ fun d h' => .ret d h'
theorem qs_ret (he : SE X W e fa) : QS X W (.Return (some e) pos) (sRet fa) := by
  obtain ⟨ta, h1, h2⟩ := he
  exact ⟨_, ps_ret h1, ⟨fun rl rs post => h2.thenS rl rs post fun x h1 v φ1 S1 H1 rl1 rs1 st rp post => post v φ1 S1 H1 rl1 (Step.refl _ _ _) rp⟩⟩
theorem qs_retN : QS X W (.Return none pos) (fun _ h => .ret .non h) := ⟨_, ps_retN, ⟨fun {φ S H h σv σ D} rl rs post => post .non φ S H rl (Step.refl _ _ _) .non⟩⟩
def sIf (c : CS) (f g : SS) : SS := fun σ h => (c σ h).then σ fun k h' => if k then f σ h' else g σ h'
theorem qs_if {x y : List Stmt} (hc : ST X W c ca) (ha : QB X W x s1) (hb : QB X W y s2) : QS X W (.If c x y pos) (sIf ca s1 s2) := by
  obtain ⟨tc, h1, h2⟩ := hc
  obtain ⟨ta, k1, k2⟩ := ha
  obtain ⟨tb, l1, l2⟩ := hb
  refine ⟨_, ps_if h1 k1 l1, ⟨fun rl rs post => h2.thenS rl rs post fun x h1 v φ1 S1 H1 rl1 rs1 st rp post => ?_⟩⟩
  cases (show v = x from rp)
  cases x with
  | true => exact k2.run rl1 rs1 post
  | false => exact l2.run rl1 rs1 post
def sSet (i : Nat) (f : ES) : SS := fun σ h => (f σ h).then σ fun d h' => .next (σ.set i (some d)) h'
theorem qs_set {i : Nat} {x : Str} (nd : X.N.Nodup) (he : SE X W e fa) (hi : X.N[i]? = some x := by rfl) (hx : Loc X.env.scope x := by first | exact Or.inl rfl | exact Or.inr rfl) (hs : swapsWith e (some (.Name x pos')) pos.line X.env = pure false := by rfl)
    (hf : X.fn x = true ∨ X.env.scope.names.lookup x = some .local := by first | exact .inl rfl | exact .inr rfl | assumption) : QS X W (.Assign [.Name x pos'] e pos) (sSet i fa) := by
  obtain ⟨ta, h1, h2⟩ := he
  exact ⟨_, ps_set nd hi hx h1 hs hf, ⟨fun rl rs post => h2.thenS rl rs post fun d h1 v φ1 S1 H1 rl1 rs1 st rp post => post _ φ1 S1 H1 rl1 (rs1.set rp i) (Step.refl _ _ _)⟩⟩
/-- a, b = x, y -/
def sPar (i j : Nat) (g : LS) : SS := fun σ h => (g σ h).then σ fun ds h' => match ds with
  | [x, y] => .next ((σ.set i (some x)).set j (some y)) h'
  | _ => .stuck
theorem qs_par {i j : Nat} {x y : Str} {px py pt pt2 : Pos} {kt k2} (nd : X.N.Nodup) (ha : SA X W [a, b] la) (hij : i ≠ j := by decide) (hc : X.calm = true := by rfl) (hi : X.N[i]? = some x := by rfl) (hj : X.N[j]? = some y := by rfl)
    (hx : X.env.scope.names.lookup x = some .local := by rfl) (hy : X.env.scope.names.lookup y = some .local := by rfl)
    (hw : swappedStores [.Tuple [.Name x px, .Name y py] kt pt] (.Tuple [a, b] k2 pt2) X.env = pure (some [x, y]) := by rfl)
    (hs : swapsWithSole [.Tuple [.Name x px, .Name y py] kt pt] (.Tuple [a, b] k2 pt2) pos.line X.env = pure false := by rfl) : QS X W (.Assign [.Tuple [.Name x px, .Name y py] kt pt] (.Tuple [a, b] k2 pt2) pos) (sPar i j la) := by
  obtain ⟨ta, h1, h2⟩ := ha
  refine ⟨_, ps_par hc nd hi hj hij hx hy h1 hw hs, ⟨fun rl rs post => h2.thenS rl rs post fun ds h1 vs φ1 S1 H1 rl1 rs1 st rp post => ?_⟩⟩
  have ra : RpA X.K φ1 S1 vs ds := rp
  split at post
  · obtain ⟨v, w, rfl, r1, r2⟩ := ra.two
    exact ⟨v, w, rfl, post _ φ1 S1 H1 rl1 ((rs1.set r1 i).set r2 j) (Step.refl _ _ _)⟩
  · exact post.elim
/-- x op= e, ints -/
def sAug (i : Nat) (g : Int → Int → Int) (f : ES) : SS := fun σ h => match σ[i]? with
  | some (some (.int a)) => (f σ h).then σ fun d h' => match d with
    | .int b => .next (σ.set i (some (.int (g a b)))) h'
    | _ => .stuck
  | _ => .stuck
theorem qs_aug {i : Nat} {x : Str} {op : Operator} {g : Int → Int → Int} (nd : X.N.Nodup) (he : SE X W e fa) (ho : PIp X op (ipI g)) (hi : X.N[i]? = some x := by rfl) (hx : Loc X.env.scope x := by first | exact Or.inl rfl | exact Or.inr rfl)
    (hf : X.fn x = true ∨ X.env.scope.names.lookup x = some .local := by first | exact .inl rfl | exact .inr rfl | assumption) : QS X W (.AugAssign (.Name x pos') op e pos) (sAug i g fa) := by
  obtain ⟨ta, h1, h2⟩ := he
  refine ⟨_, ps_aug nd hi hx h1 ho hf, ⟨fun {φ S H h σv σ D} rl rs post => ?_⟩⟩
  unfold sAug at post
  split at post
  · next z hz =>
    obtain ⟨v, hv, rv⟩ := rs.at_ i _ hz
    cases rv
    refine ⟨_, hv, h2.thenS rl rs post fun d h1 u φ1 S1 H1 rl1 rs1 st rp post => ?_⟩
    cases d with
    | int b =>
      cases (show Rp _ _ _ _ _ from rp)
      exact ⟨_, _, rfl, rfl, post _ φ1 S1 H1 rl1 (rs1.set (.int _) i) (Step.refl _ _ _)⟩
    | _ => exact post.elim
  · exact post.elim
end

/-! ### targets -/
abbrev GD := D → VS → Option VS
abbrev GDs := List D → VS → Option VS
structure SnG (K : PySem.W.Frag) (g : TG) (gs : GD) (own : List Nat) : Prop where
  run : ∀ {φ : List Addr} {S H : Hp} {d : D} {v : V} {σv σv' : VS} {σ : L2.St} {Q : L2.St → Hp → Prop}, Ex S H → RelS K φ S σv σ → Rp K φ S v d → gs d σv = some σv' →
    (∀ σ', RelS K φ S σv' σ' → σ'.length = σ.length → (∀ j, j ∉ own → σ'[j]? = σ[j]?) → Q σ' H) → g v σ H Q
structure SnGs (K : PySem.W.Frag) (g : TGs) (gs : GDs) (own : List Nat) : Prop where
  run : ∀ {φ : List Addr} {S H : Hp} {d : List D} {v : List V} {σv σv' : VS} {σ : L2.St} {Q : L2.St → Hp → Prop}, Ex S H → RelS K φ S σv σ → RpA K φ S v d → gs d σv = some σv' →
    (∀ σ', RelS K φ S σv' σ' → σ'.length = σ.length → (∀ j, j ∉ own → σ'[j]? = σ[j]?) → Q σ' H) → g v σ H Q
def QG (X : Cx) (tg : Expr) (gs : GD) (own : List Nat) : Prop := ∃ g, PG X tg g ∧ SnG X.K g gs own
def QGs (X : Cx) (ts : List Expr) (gs : GDs) (own : List Nat) : Prop := ∃ g, PGs X ts g ∧ SnGs X.K g gs own
def gN (i : Nat) : GD := fun d σ => some (σ.set i (some d))
def gsNil : GDs := fun ds σ => match ds with
  | [] => some σ
  | _ => none
def gsCons (g : GD) (gs : GDs) : GDs := fun ds σ => match ds with
  | d :: r => (match g d σ with
    | some σ' => gs r σ'
    | none => none)
  | _ => none
def gT (n : Nat) (gs : GDs) : GD := fun d σ => match d with
  | .tup ds => if ds.length = n then gs ds σ else none
  | _ => none
section
variable {X : Cx} {pos : Pos} {e : Expr} {es : List Expr} {g : GD} {gs : GDs} {own own2 : List Nat}
theorem sng_name {K : PySem.W.Frag} (i : Nat) : SnG K (gName i) (gN i) [i] := ⟨fun {φ S H d v σv σv' σ Q} ex rs rp h k => by
  cases h
  refine k _ (rs.set rp i) (List.length_set) fun j hj => ?_
  exact List.getElem?_set_ne (fun z => hj (by rw [← z]; exact List.mem_singleton.mpr rfl))⟩
theorem qg_name {i : Nat} {x : Str} (nd : X.N.Nodup) (hi : X.N[i]? = some x := by rfl) (hx : Loc X.env.scope x := by first | exact Or.inl rfl | exact Or.inr rfl)
    (hf : X.fn x = true ∨ X.env.scope.names.lookup x = some .local := by first | exact .inl rfl | exact .inr rfl | assumption) : QG X (.Name x pos) (gN i) [i] := ⟨_, pg_name nd hi hx hf, sng_name i⟩
theorem qgs_nil : QGs X [] gsNil [] := ⟨_, pgs_nil, ⟨fun {φ S H d v σv σv' σ Q} ex rs rp h k => by
  cases d with
  | nil =>
    cases h
    cases rp
    exact ⟨rfl, k σ rs rfl fun _ _ => rfl⟩
  | cons _ _ => cases h⟩⟩
theorem qgs_cons (h1 : QG X e g own) (h2 : QGs X es gs own2) (hs : (assignEach (e :: es) X.env).map (·.2) = assign e X.env :: (assignEach es X.env).map (·.2) := by rfl) : QGs X (e :: es) (gsCons g gs) (own ++ own2) := by
  obtain ⟨t1, a1, b1⟩ := h1
  obtain ⟨t2, a2, b2⟩ := h2
  refine ⟨_, pgs_cons a1 a2 hs, ⟨fun {φ S H d v σv σv' σ Q} ex rs rp h k => ?_⟩⟩
  cases d with
  | nil => cases h
  | cons d r =>
    cases rp with
    | cons rv rr =>
      simp only [gsCons] at h
      cases q : g d σv with
      | none => rw [q] at h; cases h
      | some σ1 =>
        rw [q] at h
        refine ⟨_, _, rfl, b1.run ex rs rv q fun σ' rs1 l1 f1 => b2.run ex rs1 rr h fun σ2 rs2 l2 f2 => k σ2 rs2 (l2.trans l1) fun j hj => ?_⟩
        have hj' : ¬ (j ∈ own ∨ j ∈ own2) := fun z => hj (List.mem_append.mpr z)
        exact (f2 j fun z => hj' (.inr z)).trans (f1 j fun z => hj' (.inl z))
theorem qg_tup {k : Nat} {n : Nat} (h : QGs X es gs own) (hc : X.calm = true := by rfl) (hn : (assignEach es X.env).length = n := by rfl) (hst : (assignEach es X.env).findIdx? (·.1) = none := by rfl) : QG X (.Tuple es k pos) (gT n gs) own := by
  obtain ⟨t1, a1, b1⟩ := h
  refine ⟨_, pg_tup hc a1 hn hst, ⟨fun {φ S H d v σv σv' σ Q} ex rs rp h k => ?_⟩⟩
  cases rp with
  | @tup a vs ds h1 h2 =>
    simp only [gT] at h
    split at h
    · next q => exact ⟨a, vs, rfl, ex.sqt h1, by rw [h2.length]; exact q, b1.run ex rs h2 h k⟩
    · cases h
  | _ => cases h
end
/-- target = value -/
def sAsg (f : ES) (g : GD) : SS := fun σ h => (f σ h).then σ fun d h' => match g d σ with
  | some σ' => .next σ' h'
  | none => .stuck
theorem qs_asg {X : Cx} {W : WX} {tg e : Expr} {pos : Pos} {fa : ES} {g : GD} {own : List Nat} (he : SE X W e fa) (hg : QG X tg g own) (hs : swapsWithSole [tg] e pos.line X.env = pure false := by rfl) (hw : swappedStores [tg] e X.env = pure none := by rfl)
    (h1 : (assignEach [tg] X.env).map (·.2) = [assign tg X.env] := by rfl) : QS X W (.Assign [tg] e pos) (sAsg fa g) := by
  obtain ⟨ta, k1, k2⟩ := he
  obtain ⟨tg, l1, l2⟩ := hg
  refine ⟨_, ps_asg k1 l1 hs hw h1, ⟨fun rl rs post => k2.thenS rl rs post fun d h1 v φ1 S1 H1 rl1 rs1 st rp post => ?_⟩⟩
  split at post
  · next σ' q => exact l2.run rl1.sub rs1 rp q fun σ2 rs2 _ _ => post σ2 φ1 S1 H1 rl1 rs2 (Step.refl _ _ _)
  · exact post.elim

/-! ### what is walked -/
structure ItOk (K : PySem.W.Frag) (φ0 : List Addr) (S0 : Hp) (J : It) (ds : List D) (chk : Hv → Bool) : Prop where
  go : ∀ {i φ S H h}, Rel K φ S H h → Pre φ0 φ → Ex S0 S → chk h = true → i < ds.length → J.go i H ∧ ∀ x H', J.yld i H x H' → ∃ S' d, ds[i]? = some d ∧ Rel K φ S' H' h ∧ Step φ S H φ S' H' ∧ Rp K φ S' x d
  stop : ∀ {φ S H h}, Rel K φ S H h → Pre φ0 φ → Ex S0 S → chk h = true → J.stop ds.length H
abbrev IS := VS → Hv → R (List D × (Hv → Bool))
def repI (K : PySem.W.Frag) : Rep (List D × (Hv → Bool)) It := fun _ φ' S' _ J p => ItOk K φ' S' J p.1 p.2
instance {K : PySem.W.Frag} : Rep.Up (repI K) := ⟨fun _ h => h⟩
def QI (X : Cx) (W : WX) (tg iter : Expr) (is : IS) : Prop := ∃ wi, PI X tg iter wi ∧ Sn X.K (repI X.K) W wi is
def always : Hv → Bool := fun _ => true
section
variable {X : Cx} {W : WX} {tg e e2 : Expr} {p pos : Pos} {fa : ES} {la : LS}
/-- a list; a tuple -/
def iL (f : ES) : IS := fun σ h => (f σ h).bind fun d h1 => match d with
  | .lst ds => .ok (ds, always) h1
  | .fz ds => .ok (ds, always) h1
  | _ => .stuck
theorem itl_ok {K : PySem.W.Frag} {φ0 : List Addr} {S0 : Hp} {a : Addr} {vs : List V} {ds : List D} (h2 : SqL K S0 a vs) (h3 : RpA K φ0 S0 vs ds) : ItOk K φ0 S0 (Itl K a) ds always where
  go := fun {i φ S H h} r2 pr ex _ hi => by
    have hS : SqL K S a vs := ex.sql h2
    obtain ⟨w, hw, rw_⟩ := h3.at (List.getElem?_eq_getElem hi)
    refine ⟨⟨vs, w, r2.sub.sql hS, hw⟩, fun x H' y => ?_⟩
    obtain ⟨rfl, y⟩ := y
    have ew := y vs (r2.sub.sql hS)
    rw [hw] at ew
    cases ew
    exact ⟨S, _, List.getElem?_eq_getElem hi, r2, Step.refl _ _ _, Rp.mono pr ex rw_⟩
  stop := fun {φ S H h} r2 pr ex _ => ⟨vs, r2.sub.sql (ex.sql h2), Nat.le_of_eq h3.length⟩
theorem qi_list (he : SE X W e fa) : QI X W tg e (iL fa) := by
  obtain ⟨ta, h1, h2⟩ := he
  refine ⟨_, pi_list h1, ⟨fun rl rs post => h2.bind rl rs post fun d h1 v φ1 S1 H1 rl1 rs1 st rp post => ?_⟩⟩
  cases d with
  | lst ds =>
    cases (show Rp _ _ _ _ _ from rp) with
    | lst g1 g2 => exact ⟨_, rfl, ⟨_, .inl (.inl (rl1.sub _ _ g1))⟩, post _ φ1 S1 H1 rl1 (Step.refl _ _ _) (itl_ok (.inl (.inl g1)) g2)⟩
  | fz ds =>
    cases (show Rp _ _ _ _ _ from rp) with
    | fz g1 g2 => exact ⟨_, rfl, ⟨_, rl1.sub.sql g1⟩, post _ φ1 S1 H1 rl1 (Step.refl _ _ _) (itl_ok g1 g2)⟩
  | _ => exact post.elim
/-- a list that is a cell: it stays while it is walked -/
noncomputable def isCell (n : Nat) (ds : List D) (h : Hv) : Bool := @decide (h[n]? = some (.lst ds)) (Classical.propDecidable _)
theorem isCell_of {n : Nat} {ds : List D} {h : Hv} (e : h[n]? = some (.lst ds)) : isCell n ds h = true := by
  unfold isCell
  exact @decide_eq_true _ (Classical.propDecidable _) e
noncomputable def iC (f : ES) : IS := fun σ h => (f σ h).bind fun d h1 => match d with
  | .cell n => (match h1[n]? with
    | some (.lst ds) => .ok (ds, isCell n ds) h1
    | _ => .stuck)
  | _ => .stuck
theorem qi_cell (he : SE X W e fa) : QI X W tg e (iC fa) := by
  obtain ⟨ta, h1, h2⟩ := he
  refine ⟨_, pi_list h1, ⟨fun rl rs post => h2.bind rl rs post fun d h1 v φ1 S1 H1 rl1 rs1 st rp post => ?_⟩⟩
  split at post
  · next n =>
    split at post
    · next ds hds =>
      cases (show Rp _ _ _ _ _ from rp) with
      | @cell a _ ha =>
        have look : ∀ {φ S H h}, Rel X.K φ S H h → Pre φ1 φ → isCell n ds h = true → ∃ vs, H a = some (.lst vs) ∧ RpA X.K φ S vs ds := fun {φ S H h} r2 pr ck => by
          have e : h[n]? = some (.lst ds) := by
            unfold isCell at ck
            exact @of_decide_eq_true _ (Classical.propDecidable _) ck
          obtain ⟨_, o, ho, vs, rfl, ra⟩ := r2.cel n a _ (pr.at ha) e
          exact ⟨vs, ho, ra⟩
        obtain ⟨vs0, hv0, _⟩ := look rl1 (Pre.refl _) (isCell_of hds)
        refine ⟨a, rfl, ⟨vs0, .inl (.inl hv0)⟩, post _ φ1 S1 H1 rl1 (Step.refl _ _ _) ⟨fun {i φ S H h} r2 pr ex ck hi => ?_, fun {φ S H h} r2 pr ex ck => ?_⟩⟩
        · obtain ⟨vs, hv, ra⟩ := look r2 pr ck
          obtain ⟨w, hw, rw_⟩ := ra.at (List.getElem?_eq_getElem hi)
          refine ⟨⟨vs, w, .inl (.inl hv), hw⟩, fun x H' y => ?_⟩
          obtain ⟨rfl, y⟩ := y
          have ew := y vs (.inl (.inl hv))
          rw [hw] at ew
          cases ew
          exact ⟨S, _, List.getElem?_eq_getElem hi, r2, Step.refl _ _ _, rw_⟩
        · obtain ⟨vs, hv, ra⟩ := look r2 pr ck
          exact ⟨vs, .inl (.inl hv), Nat.le_of_eq ra.length⟩
    · exact post.elim
  · exact post.elim
def iT (f : ES) : IS := fun σ h => (f σ h).bind fun d h1 => match d with
  | .tup ds => .ok (ds, always) h1
  | _ => .stuck
theorem qi_tup (he : SE X W e fa) : QI X W tg e (iT fa) := by
  obtain ⟨ta, h1, h2⟩ := he
  refine ⟨_, pi_tup h1, ⟨fun rl rs post => h2.bind rl rs post fun d h1 v φ1 S1 H1 rl1 rs1 st rp post => ?_⟩⟩
  cases d with
  | tup ds =>
    cases (show Rp _ _ _ _ _ from rp) with
    | @tup a vs _ g1 g2 =>
      refine ⟨a, rfl, ⟨vs, rl1.sub.sqt g1⟩, post (Itt X.K a) φ1 S1 H1 rl1 (Step.refl _ _ _) ⟨fun {i φ S H h} r2 pr ex _ hi => ?_, fun {φ S H h} r2 pr ex _ => ?_⟩⟩
      · have hS : SqT X.K S a vs := ex.sqt g1
        obtain ⟨w, hw, rw_⟩ := g2.at (List.getElem?_eq_getElem hi)
        refine ⟨⟨vs, w, r2.sub.sqt hS, hw⟩, fun x H' y => ?_⟩
        obtain ⟨rfl, y⟩ := y
        have ew := y vs (r2.sub.sqt hS)
        rw [hw] at ew
        cases ew
        exact ⟨S, _, List.getElem?_eq_getElem hi, r2, Step.refl _ _ _, Rp.mono pr ex rw_⟩
      · exact ⟨vs, r2.sub.sqt (ex.sqt g1), Nat.le_of_eq g2.length⟩
  | _ => exact post.elim
def rgD (lo : Int) (n : Nat) : List D := (List.range n).map fun i => .int (lo + (i : Nat))
theorem itr_ok {K : PySem.W.Frag} {φ0 : List Addr} {S0 : Hp} (lo : Int) (n : Nat) : ItOk K φ0 S0 (Itr lo n) (rgD lo n) always where
  go := fun {i φ S H h} r2 pr ex _ hi => by
    unfold rgD at hi ⊢
    rw [List.length_map, List.length_range] at hi
    refine ⟨hi, fun x H' y => ?_⟩
    obtain ⟨rfl, rfl⟩ := y
    exact ⟨S, .int (lo + (i : Nat)), by rw [List.getElem?_map, List.getElem?_range hi]; rfl, r2, Step.refl _ _ _, .int _⟩
  stop := fun {φ S H h} r2 pr ex _ => by
    unfold rgD
    rw [List.length_map, List.length_range]
    exact Nat.le_refl _
def iR1 (g : LS) : IS := fun σ h => (g σ h).bind fun ds h1 => match ds with
  | [.int n] => @ite _ (-(2 ^ 62) ≤ n ∧ n < 2 ^ 62) (Classical.propDecidable _) (.ok (rgD 0 n.toNat, always) h1) .stuck
  | _ => .stuck
theorem qi_range1 {a : Expr} (hm : X.mg "range" = none) (ha : SA X W [a] la) (hg : Gl X "range" := by rfl) (hs : starEach [a] X.env = [(false, eval a X.env)] := by rfl) : QI X W tg (.Call (.Name "range" p) [a] [] pos) (iR1 la) := by
  obtain ⟨ta, h1, h2⟩ := ha
  refine ⟨_, pi_range1 hg hm h1 hs, ⟨fun rl rs post => h2.bind rl rs post fun ds h1 vs φ1 S1 H1 rl1 rs1 st rp post => ?_⟩⟩
  have ra : RpA X.K φ1 S1 vs ds := rp
  split at post
  · next n =>
    obtain ⟨v, rfl, r⟩ := ra.one
    cases r
    split at post
    · next q => exact ⟨n, rfl, q.1, q.2, post (Itr 0 n.toNat) φ1 S1 H1 rl1 (Step.refl _ _ _) (itr_ok 0 n.toNat)⟩
    · exact post.elim
  · exact post.elim
def iR2 (g : LS) : IS := fun σ h => (g σ h).bind fun ds h1 => match ds with
  | [.int m, .int n] => @ite _ ((-(2 ^ 62) ≤ m ∧ m < 2 ^ 62) ∧ (-(2 ^ 62) ≤ n ∧ n < 2 ^ 62)) (Classical.propDecidable _) (.ok (rgD m (n - m).toNat, always) h1) .stuck
  | _ => .stuck
theorem qi_range2 {a b : Expr} (hm : X.mg "range" = none) (ha : SA X W [a, b] la) (hg : Gl X "range" := by rfl) (hs : starEach [a, b] X.env = [(false, eval a X.env), (false, eval b X.env)] := by rfl) (hs2 : starEach [b] X.env = [(false, eval b X.env)] := by rfl) :
    QI X W tg (.Call (.Name "range" p) [a, b] [] pos) (iR2 la) := by
  obtain ⟨ta, h1, h2⟩ := ha
  refine ⟨_, pi_range2 hg hm h1 hs hs2, ⟨fun rl rs post => h2.bind rl rs post fun ds h1 vs φ1 S1 H1 rl1 rs1 st rp post => ?_⟩⟩
  have ra : RpA X.K φ1 S1 vs ds := rp
  split at post
  · next m n =>
    obtain ⟨v, w, rfl, r, r2⟩ := ra.two
    cases r
    cases r2
    split at post
    · next q => exact ⟨m, n, rfl, ⟨q.1.1, q.1.2, q.2.1, q.2.2⟩, post (Itr m (n - m).toNat) φ1 S1 H1 rl1 (Step.refl _ _ _) (itr_ok m _)⟩
    · exact post.elim
  · exact post.elim
/-- zip of two lists -/
def zipD : List D → List D → List D
  | x :: xs, y :: ys => .tup [x, y] :: zipD xs ys
  | _, _ => []
def lsOf : D → Option (List D)
  | .lst xs => some xs
  | .fz xs => some xs
  | _ => none
def iZ (g : LS) : IS := fun σ h => (g σ h).bind fun ds h1 => match ds with
  | [x, y] => (match lsOf x, lsOf y with
    | some xs, some ys => if xs.length = ys.length then .ok (zipD xs ys, always) h1 else .stuck
    | _, _ => .stuck)
  | _ => .stuck
theorem lsOf_ok {K : PySem.W.Frag} {φ : List Addr} {S : Hp} {d : D} {v : V} {ds : List D} (r : Rp K φ S v d) (e : lsOf d = some ds) : ∃ a vs, v = .ref a ∧ SqL K S a vs ∧ RpA K φ S vs ds := by
  cases r with
  | lst h1 h2 => cases e; exact ⟨_, _, rfl, .inl (.inl h1), h2⟩
  | fz h1 h2 => cases e; exact ⟨_, _, rfl, h1, h2⟩
  | _ => cases e
theorem zipD_at : ∀ {xs ys : List D} {i : Nat} {x y : D}, xs[i]? = some x → ys[i]? = some y → (zipD xs ys)[i]? = some (.tup [x, y])
  | _ :: _, _ :: _, 0, _, _, h1, h2 => by
    simp at h1 h2
    subst h1 h2
    rfl
  | _ :: xs, _ :: ys, i + 1, _, _, h1, h2 => by
    simp at h1 h2
    exact zipD_at (xs := xs) (ys := ys) h1 h2
  | [], _, _, _, _, h1, _ => by simp at h1
  | _ :: _, [], _, _, _, _, h2 => by simp at h2
theorem zipD_len : ∀ {xs ys : List D}, xs.length = ys.length → (zipD xs ys).length = xs.length
  | [], [], _ => rfl
  | _ :: xs, _ :: ys, h => by
    rw [List.length_cons, List.length_cons] at h
    show (zipD xs ys).length + 1 = xs.length + 1
    rw [zipD_len (by omega)]
  | [], _ :: _, h => by simp at h
  | _ :: _, [], h => by simp at h
theorem qi_zip {elts : List Expr} {kk : Nat} {tpos : Pos} (hm : X.mg "zip" = none) (ha : SA X W [e, e2] la) (hg : Gl X "zip" := by rfl) (hs : starEach [e, e2] X.env = (false, eval e X.env) :: starEach [e2] X.env := by rfl) (hpl : (backTo pos (starEach [e2] X.env)).any (·.1) = false := by rfl) :
    QI X W (.Tuple elts kk tpos) (.Call (.Name "zip" p) [e, e2] [] pos) (iZ la) := by
  obtain ⟨ta, h1, h2⟩ := ha
  refine ⟨_, pi_zip hg hm h1 hs hpl, ⟨fun rl rs post => h2.bind rl rs post fun ds h1 vs φ1 S1 H1 rl1 rs1 st rp post => ?_⟩⟩
  have ra : RpA X.K φ1 S1 vs ds := rp
  split at post
  · next x y =>
    obtain ⟨v, w, rfl, r, r2⟩ := ra.two
    split at post
    · next xs ys q1 q2 =>
      split at post
      · next hl =>
        obtain ⟨a, vs, rfl, a1, a2⟩ := lsOf_ok r q1
        obtain ⟨b, ws, rfl, b1, b2⟩ := lsOf_ok r2 q2
        refine ⟨a, b, vs, ws, rfl, rl1.sub.sql a1, rl1.sub.sql b1, post (Itz X.K a b) φ1 S1 H1 rl1 (Step.refl _ _ _) ⟨fun {i φ S H h} r2 pr ex _ hi => ?_, fun {φ S H h} r2 pr ex _ => ?_⟩⟩
        · rw [zipD_len hl] at hi
          have hi2 : i < ys.length := by omega
          have s1 : SqL X.K H a vs := r2.sub.sql (ex.sql a1)
          have s2 : SqL X.K H b ws := r2.sub.sql (ex.sql b1)
          obtain ⟨u1, hu1, ru1⟩ := a2.at (List.getElem?_eq_getElem hi)
          obtain ⟨u2, hu2, ru2⟩ := b2.at (List.getElem?_eq_getElem hi2)
          refine ⟨⟨vs, ws, u1, u2, s1, s2, hu1, hu2⟩, fun z H' yl => ?_⟩
          obtain ⟨T, x1, x2, rfl, nT, rfl, f1, f2⟩ := yl
          have e1 := f1 vs s1
          rw [hu1] at e1
          cases e1
          have e2 := f2 ws s2
          rw [hu2] at e2
          cases e2
          obtain ⟨r3, s3⟩ := r2.lay (o := .tup [u1, u2]) nT
          exact ⟨upd S T (.tup [u1, u2]), _, zipD_at (List.getElem?_eq_getElem hi) (List.getElem?_eq_getElem hi2), r3, s3, .tup (.inl (.inl upd_same)) (.cons (Rp.mono pr (ex.trans s3.sub) ru1) (.cons (Rp.mono pr (ex.trans s3.sub) ru2) .nil))⟩
        · exact ⟨vs, ws, r2.sub.sql (ex.sql a1), r2.sub.sql (ex.sql b1), .inl (by rw [zipD_len hl, a2.length]; exact Nat.le_refl _)⟩
      · exact post.elim
    · exact post.elim
  · exact post.elim
end

/-! ### for, while -/
def forD (chk : Hv → Bool) (g : GD) (body : SS) : List D → VS → Hv → RS
  | [], σ, h => if chk h then .next σ h else .stuck
  | d :: ds, σ, h => if chk h then (match g d σ with
    | some σ1 => (match body σ1 h with
      | .next σ2 h2 => forD chk g body ds σ2 h2
      | .cont σ2 h2 => forD chk g body ds σ2 h2
      | .brk σ2 h2 => .next σ2 h2
      | r => r)
    | none => .stuck) else .stuck
def sFor (is : IS) (g : GD) (body : SS) : SS := fun σ h => (is σ h).then σ fun p h1 => forD p.2 g body p.1 σ h1
theorem qs_for {X : Cx} {W : WX} {tg iter : Expr} {body : List Stmt} {is : IS} {g : GD} {own : List Nat} {s1 : SS} {pos : Pos} (hp : PassesOwn (model X.prog X.w) X.A X.env X.xe) (hi : QI X W tg iter is) (hg : QG X tg g own) (hb : QB X W body s1) (hc : X.calm = true := by rfl)
    (hs : ∀ x, foldedSetIterable iter X.env x = pure x := by intro _; rfl) : QS X W (.For tg iter body [] pos) (sFor is g s1) := by
  obtain ⟨wi, a1, a2⟩ := hi
  obtain ⟨tg', b1, b2⟩ := hg
  obtain ⟨tb, c1, c2⟩ := hb
  refine ⟨_, ps_for hp hc a1 b1 c1 hs, ⟨fun {φ S H h σv σ D} rl rs post => a2.thenS rl rs post fun pr h1 J φ1 S1 H1 rl1 rs1 st rp post => ?_⟩⟩
  obtain ⟨ds, chk⟩ := pr
  have ok : ItOk X.K φ1 S1 J ds chk := rp
  refine ⟨fun i m σ' H' => m = ds.length - i ∧ i ≤ ds.length ∧ ∃ φ' S' h' σv', Rel X.K φ' S' H' h' ∧ RelS X.K φ' S' σv' σ' ∧ Step φ1 S1 H1 φ' S' H' ∧ PostS X.K φ' S' H' (forD chk g s1 (ds.drop i) σv' h') D W,
    ⟨ds.length, rfl, Nat.zero_le _, φ1, S1, h1, σv, rl1, rs1, Step.refl _ _ _, post⟩, ?_⟩
  rintro i m σ' H' ⟨rfl, hi, φ', S', h', σv', r2, rs2, st2, post⟩
  by_cases hlt : i < ds.length
  · rw [List.drop_eq_getElem_cons hlt] at post
    by_cases hck : chk h' = true
    · simp only [forD, hck, if_true] at post
      obtain ⟨go, yl⟩ := ok.go r2 st2.prefix st2.sub hck hlt
      cases q : g ds[i] σv' with
      | none => simp only [q] at post; exact post.elim
      | some σ1 =>
        simp only [q] at post
        refine .inr ⟨go, fun σ2 H2 => ∃ φ2 S2 h2 σv2, Rel X.K φ2 S2 H2 h2 ∧ RelS X.K φ2 S2 σv2 σ2 ∧ Step φ1 S1 H1 φ2 S2 H2 ∧ PostS X.K φ2 S2 H2 (forD chk g s1 (ds.drop (i + 1)) σv2 h2) D W, fun σ2 H2 hN => ⟨ds.length - (i + 1), by omega, rfl, hlt, hN⟩, fun x H3 hy => ?_⟩
        obtain ⟨S3, d, hd, r3, st3, rx⟩ := yl x H3 hy
        rw [List.getElem?_eq_getElem hlt] at hd
        cases hd
        refine b2.run r3.sub (rs2.step st3) rx q fun σ4 rs4 _ _ => c2.run r3 rs4 ?_
        cases qb : s1 σ1 h' with
        | next σ5 h5 =>
          simp only [qb] at post
          exact fun σ6 φ6 S6 H6 r6 rs6 st6 => ⟨φ6, S6, h5, σ5, r6, rs6, (st2.trans st3).trans st6, PostS.up (st3.trans st6) post⟩
        | cont σ5 h5 =>
          simp only [qb] at post
          exact fun σ6 φ6 S6 H6 r6 rs6 st6 => ⟨φ6, S6, h5, σ5, r6, rs6, (st2.trans st3).trans st6, PostS.up (st3.trans st6) post⟩
        | brk σ5 h5 =>
          simp only [qb] at post
          exact fun σ6 φ6 S6 H6 r6 rs6 st6 => post σ6 φ6 S6 H6 r6 rs6 (st3.trans st6)
        | ret d h5 =>
          simp only [qb] at post
          exact fun v φ6 S6 H6 r6 st6 rv => post v φ6 S6 H6 r6 (st3.trans st6) rv
        | exc x σ5 h5 =>
          simp only [qb] at post
          exact fun σ6 cls dd φ6 S6 H6 r6 rs6 st6 rx => post σ6 cls dd φ6 S6 H6 r6 rs6 (st3.trans st6) rx
        | stuck => simp only [qb] at post; exact post.elim
    · simp only [forD, hck] at post
      exact post.elim
  · have e : i = ds.length := by omega
    subst e
    rw [List.drop_length] at post
    by_cases hck : chk h' = true
    · simp only [forD, hck, if_true] at post
      exact .inl ⟨ok.stop r2 st2.prefix st2.sub hck, post σ' φ' S' H' r2 rs2 (Step.refl _ _ _)⟩
    · simp only [forD, hck] at post
      exact post.elim
def whileD (c : CS) (body : SS) : Nat → VS → Hv → RS
  | 0, _, _ => .stuck
  | n + 1, σ, h => (c σ h).then σ fun k h1 => if k then (match body σ h1 with
    | .next σ2 h2 => whileD c body n σ2 h2
    | .cont σ2 h2 => whileD c body n σ2 h2
    | .brk σ2 h2 => .next σ2 h2
    | r => r) else .next σ h1
/-- fuel: what one's own proof knows to be enough -/
def sWhile (fuel : VS → Hv → Nat) (c : CS) (body : SS) : SS := fun σ h => whileD c body (fuel σ h) σ h
theorem qs_while {X : Cx} {W : WX} {c : Expr} {body : List Stmt} {ca : CS} {s1 : SS} {pos : Pos} (fuel : VS → Hv → Nat) (hp : PassesOwn (model X.prog X.w) X.A X.env X.xe) (hc : ST X W c ca) (hb : QB X W body s1) : QS X W (.While c body [] pos) (sWhile fuel ca s1) := by
  obtain ⟨tc, a1, a2⟩ := hc
  obtain ⟨tb, c1, c2⟩ := hb
  refine ⟨_, ps_while hp a1 c1, ⟨fun {φ S H h σv σ D} rl rs post => ?_⟩⟩
  refine ⟨fun m σ' H' => ∃ φ' S' h' σv', Rel X.K φ' S' H' h' ∧ RelS X.K φ' S' σv' σ' ∧ PostS X.K φ' S' H' (whileD ca s1 m σv' h') D W, ⟨_, φ, S, h, σv, rl, rs, post⟩, ?_⟩
  rintro m σ' H' ⟨φ', S', h', σv', r2, rs2, post⟩
  cases m with
  | zero => exact post.elim
  | succ m =>
    refine a2.thenS r2 rs2 post fun k h1 k' φ1 S1 H1 rl1 rs1 st rp post => ?_
    cases (show k' = k from rp)
    cases k with
    | true =>
      rw [if_pos rfl] at post
      refine (if_pos rfl : (if true = true then _ else _) = _) ▸ ⟨fun σ2 H2 => ∃ φ2 S2 h2 σv2, Rel X.K φ2 S2 H2 h2 ∧ RelS X.K φ2 S2 σv2 σ2 ∧ PostS X.K φ2 S2 H2 (whileD ca s1 m σv2 h2) D W, fun σ2 H2 hN => ⟨m, Nat.lt_succ_self m, hN⟩, c2.run rl1 rs1 ?_⟩
      cases qb : s1 σv' h1 with
      | next σ5 h5 =>
        simp only [qb] at post
        exact fun σ6 φ6 S6 H6 r6 rs6 st6 => ⟨φ6, S6, h5, σ5, r6, rs6, PostS.up st6 post⟩
      | cont σ5 h5 =>
        simp only [qb] at post
        exact fun σ6 φ6 S6 H6 r6 rs6 st6 => ⟨φ6, S6, h5, σ5, r6, rs6, PostS.up st6 post⟩
      | brk σ5 h5 => simp only [qb] at post; exact post
      | ret d h5 => simp only [qb] at post; exact post
      | exc x σ5 h5 => simp only [qb] at post; exact post
      | stuck => simp only [qb] at post; exact post.elim
    | false =>
      exact post σ' φ1 S1 H1 rl1 rs1 (Step.refl _ _ _)
/-- fuel enough, where some is -/
def fuelC (c : CS) (body : SS) (σ : VS) (h : Hv) : Nat := @dite Nat (∃ n, whileD c body n σ h ≠ .stuck) (Classical.propDecidable _) (fun z => Classical.choose z) (fun _ => 0)
def sLoop (c : CS) (body : SS) : SS := sWhile (fuelC c body) c body
theorem qs_loop {X : Cx} {W : WX} {c : Expr} {body : List Stmt} {ca : CS} {s1 : SS} {pos : Pos} (hp : PassesOwn (model X.prog X.w) X.A X.env X.xe) (hc : ST X W c ca) (hb : QB X W body s1) : QS X W (.While c body [] pos) (sLoop ca s1) := qs_while (fuelC ca s1) hp hc hb
theorem whileD_up {c : CS} {body : SS} : ∀ (n : Nat) (σ : VS) (h : Hv), whileD c body n σ h ≠ .stuck → ∀ m, n ≤ m → whileD c body m σ h = whileD c body n σ h
  | 0, σ, h, q, m, hm => absurd rfl q
  | n + 1, σ, h, q, 0, hm => absurd hm (by omega)
  | n + 1, σ, h, q, m + 1, hm => by
    have ih := fun σ h q => whileD_up (c := c) (body := body) n σ h q m (by omega)
    simp only [whileD] at q ⊢
    cases e1 : c σ h with
    | ok k h1 =>
      simp only [e1, R.then_ok] at q ⊢
      cases k with
      | false => rfl
      | true =>
        simp only [if_true] at q ⊢
        cases e2 : body σ h1 with
        | next σ2 h2 => simp only [e2] at q ⊢; exact ih _ _ q
        | cont σ2 h2 => simp only [e2] at q ⊢; exact ih _ _ q
        | brk σ2 h2 => rfl
        | ret d h2 => rfl
        | exc x σ2 h2 => rfl
        | stuck => rfl
    | exc x h1 => rfl
    | stuck => rfl
theorem sLoop_at {c : CS} {body : SS} {n : Nat} {σ : VS} {h : Hv} (q : whileD c body n σ h ≠ .stuck) : sLoop c body σ h = whileD c body n σ h := by
  have z : ∃ n, whileD c body n σ h ≠ .stuck := ⟨n, q⟩
  show whileD c body (fuelC c body σ h) σ h = _
  unfold fuelC
  rw [dif_pos z]
  have z2 := Classical.choose_spec z
  rcases Nat.le_total (Classical.choose z) n with hh | hh
  · exact (whileD_up _ _ _ z2 _ hh).symm
  · exact whileD_up _ _ _ q _ hh
end
end VD

set_option Elab.async false
set_option linter.all false
set_option maxRecDepth 100000
set_option maxHeartbeats 4000000
namespace VD
open PySem PySem.Spec PyProof.Rows L2
noncomputable section
/-! ### comprehensions -/
/-- no exception leaves here -/
abbrev W0 : WX := fun _ _ _ _ => False
def R.calm {α : Type} (r : R α) : R α := match r with
  | .ok a h => .ok a h
  | _ => .stuck
@[simp] theorem R.calm_ok {α : Type} (a : α) (h : Hv) : (R.ok a h).calm = .ok a h := rfl
@[simp] theorem R.calm_stuck {α : Type} : (R.stuck : R α).calm = .stuck := rfl
/-- the slots of a block's own names -/
def wipeV (σ : VS) : List Nat → VS
  | [] => σ
  | v :: vs => (wipeV σ vs).set v none
def lcD (chk : Hv → Bool) (g : GD) (c : CS) (elt : ES) : List D → VS → Hv → R (List D)
  | [], _, h => if chk h then .ok [] h else .stuck
  | d :: ds, σ, h => if chk h then (match g d σ with
    | some σ1 => (c σ1 h).calm.bind fun b h1 => if b then (elt σ1 h1).calm.bind fun y h2 => (lcD chk g c elt ds σ h2).bind fun ys h3 => .ok (y :: ys) h3 else lcD chk g c elt ds σ h1
    | none => .stuck) else .stuck
def lLc (is : IS) (g : GD) (c : CS) (elt : ES) (own : List Nat) : LS := fun σ h => (is σ h).bind fun p h1 => if p.1.length ≤ 16777216 then lcD p.2 g c elt p.1 (wipeV σ own) h1 else .stuck
theorem wipe_at {σ : L2.St} : ∀ {vs : List Nat} {j : Nat}, (wipe σ vs)[j]? = if j ∈ vs then (if j < σ.length then some none else none) else σ[j]?
  | [], j => by simp [wipe]
  | v :: vs, j => by
    unfold wipe
    by_cases q : v = j
    · subst q
      rw [if_pos List.mem_cons_self]
      by_cases hl : v < σ.length
      · rw [if_pos hl, List.getElem?_set_self (by rw [wipe_length]; exact hl)]
      · rw [if_neg hl, List.getElem?_eq_none (by rw [List.length_set, wipe_length]; omega)]
    · rw [List.getElem?_set_ne q, wipe_at (vs := vs) (j := j)]
      by_cases hm : j ∈ vs
      · rw [if_pos hm, if_pos (List.mem_cons_of_mem _ hm)]
      · rw [if_neg hm, if_neg (fun z => (List.mem_cons.mp z).elim (fun z => q z.symm) hm)]
theorem wipe_same {σ σ' : L2.St} {own vs : List Nat} (hl : σ'.length = (wipe σ vs).length) (h : ∀ j, j ∉ own → σ'[j]? = (wipe σ vs)[j]?) (hs : ∀ j ∈ own, j ∈ vs) : wipe σ' vs = wipe σ vs := by
  refine List.ext_getElem? fun j => ?_
  rw [wipe_at, wipe_at]
  have hl2 : σ'.length = σ.length := by rw [hl, wipe_length]
  by_cases hm : j ∈ vs
  · rw [if_pos hm, if_pos hm, hl2]
  · rw [if_neg hm, if_neg hm, h j (fun z => hm (hs j z)), wipe_at, if_neg hm]
theorem RelS.wipe {K : PySem.W.Frag} {φ : List Addr} {S : Hp} {σv : VS} {σ : L2.St} (r : RelS K φ S σv σ) : ∀ vs : List Nat, RelS K φ S (wipeV σv vs) (L2.wipe σ vs)
  | [] => r
  | v :: vs => (RelS.wipe r vs).unset v none
/-! readings that hang on what is computed alone -/
def tS {α β : Type} (K : PySem.W.Frag) (rep : Rep α β) (W : WX) (es : VS → Hv → R α) : L2.St → Hp → (β → Hp → Prop) → Prop := fun σ H Q => ∃ φ S h σv, Rel K φ S H h ∧ RelS K φ S σv σ ∧ Post K rep φ S H (es σv h) Q (fun c d H' => W c d σ H')
theorem tS_sn {α β : Type} {K : PySem.W.Frag} {rep : Rep α β} {W : WX} {es : VS → Hv → R α} : Sn K rep W (tS K rep W es) es := ⟨fun rl rs post => ⟨_, _, _, _, rl, rs, post⟩⟩
def SCs (X : Cx) (W : WX) (ifs : List Expr) (c : CS) : Prop := ∃ t, PTs X ifs t ∧ Sn X.K repB W t c
section
variable {X : Cx} {W : WX} {e : Expr} {es : List Expr} {fa : ES} {ca : CS}
theorem SE.can (h : SE X W e fa) : PE X e (tS X.K (repV X.K) W fa) := by
  obtain ⟨t, h1, h2⟩ := h
  exact ⟨fun pins s σ H Q I ⟨φ, S, h, σv, rl, rs, post⟩ => h1.run pins s σ H Q I (h2.run rl rs post)⟩
theorem SCs.can (h : SCs X W es ca) : PTs X es (tS X.K repB W ca) := by
  obtain ⟨t, h1, h2⟩ := h
  exact ⟨fun pins s σ H Q I ⟨φ, S, h, σv, rl, rs, post⟩ => h1.run pins s σ H Q I (h2.run rl rs post)⟩
def cYes : CS := fun _ h => .ok true h
theorem scs_nil : SCs X W [] cYes := ⟨_, pts_nil, ⟨fun {φ S H h σv σ Q} rl rs post => post true φ S H rl (Step.refl _ _ _) rfl⟩⟩
theorem scs_one (h : ST X W e ca) : SCs X W [e] ca := let ⟨t, h1, h2⟩ := h; ⟨t, pts_one h1, h2⟩
end
def tGd (K : PySem.W.Frag) (gs : GD) (own : List Nat) : TG := fun v σ H Q => ∃ φ S σv σv' d, Ex S H ∧ RelS K φ S σv σ ∧ Rp K φ S v d ∧ gs d σv = some σv' ∧ ∀ σ', RelS K φ S σv' σ' → σ'.length = σ.length → (∀ j, j ∉ own → σ'[j]? = σ[j]?) → Q σ' H
theorem QG.can {X : Cx} {tg : Expr} {gs : GD} {own : List Nat} (h : QG X tg gs own) : PG X tg (tGd X.K gs own) := by
  obtain ⟨t, h1, h2⟩ := h
  exact ⟨fun pins s σ H v u Q I r ⟨φ, S, σv, σv', d, ex, rs, rp, e, k⟩ => h1.run pins s σ H v u Q I r (h2.run ex rs rp e k)⟩
section
variable {X : Cx} {W : WX} {elt tg iter : Expr} {ifs : List Expr} {scope : Scope} {own : List (Str × Nat)} {is : IS} {g : GD} {gown : List Nat} {c : CS} {el : ES} {pos spos : Pos}
theorem sn_lc {wi : TI} (h2 : Sn X.K (repI X.K) W wi is) (hown : ∀ j ∈ gown, j ∈ own.map (·.2)) :
    Sn X.K (repL X.K) W (tLc wi (tGd X.K g gown) (tS X.K repB W0 c) (tS X.K (repV X.K) W0 el) (own.map (·.2))) (lLc is g c el (own.map (·.2))) := by
  refine ⟨fun {φ S H h σv σ Q} rl rs post => h2.run rl rs (post.map fun pr h1 J φ1 S1 H1 rl1 st rp post => ?_)⟩
  obtain ⟨ds, chk⟩ := pr
  have ok : ItOk X.K φ1 S1 J ds chk := rp
  have hz : ds.length ≤ 16777216 := by
    refine Classical.byContradiction fun hz => ?_
    simp only [hz, if_false] at post
    exact post.elim
  simp only [hz, if_true] at post
  intro D hD
  have rs1 : RelS X.K φ1 S1 σv σ := rs.step st
  have hD0 : H D = none := st.fresh hD
  generalize hvs : own.map (·.2) = vs at post hown ⊢
  -- what is still to come, put behind what is made
  refine ⟨fun i m H' => m = ds.length - i ∧ i ≤ ds.length ∧ ∃ φ' S' h' acc da, Rel X.K φ' S' H' h' ∧ Step φ1 S1 H1 φ' S' H' ∧ S' D = none ∧ D ∉ φ' ∧ H' D = some (.lst acc) ∧ RpA X.K φ' S' acc da ∧ da.length ≤ i ∧
      Post X.K (repL X.K) φ S H ((lcD chk g c el (ds.drop i) (wipeV σv vs) h').bind fun ys h3 => .ok (da ++ ys) h3) Q (fun c d H' => W c d σ H'), ?_, ?_⟩
  · obtain ⟨r2, s2⟩ := rl1.hold (o := .lst []) hD
    refine ⟨ds.length, rfl, Nat.zero_le _, φ1, S1, h1, [], [], r2, s2, rl1.snone hD, rl1.notin hD, upd_same, .nil, Nat.le_refl _, ?_⟩
    rw [List.drop_zero]
    cases q : lcD chk g c el ds (wipeV σv vs) h1 with
    | ok a h => rw [q] at post; exact post
    | exc x h => rw [q] at post; exact post
    | stuck => rw [q] at post; exact post
  · rintro i m H' ⟨rfl, hi, φ', S', h', acc, da, r2, st2, sD, nD, hDl, ra, hda, post⟩
    have s12 : Step φ1 S1 H1 φ' S' H' := st2
    by_cases hlt : i < ds.length
    · rw [List.drop_eq_getElem_cons hlt] at post
      have hck : chk h' = true := by
        refine Classical.byContradiction fun hck => ?_
        simp only [lcD, hck] at post
        exact post.elim
      simp only [lcD, hck, if_true] at post
      obtain ⟨go, yl⟩ := ok.go r2 st2.prefix st2.sub hck hlt
      cases q : g ds[i] (wipeV σv vs) with
      | none => simp only [q] at post; exact post.elim
      | some σ1 =>
        simp only [q] at post
        refine .inr ⟨go, fun H2 => ∃ φ2 S2 h2 acc2 da2, Rel X.K φ2 S2 H2 h2 ∧ Step φ1 S1 H1 φ2 S2 H2 ∧ S2 D = none ∧ D ∉ φ2 ∧ H2 D = some (.lst acc2) ∧ RpA X.K φ2 S2 acc2 da2 ∧ da2.length ≤ i + 1 ∧
          Post X.K (repL X.K) φ S H ((lcD chk g c el (ds.drop (i + 1)) (wipeV σv vs) h2).bind fun ys h3 => .ok (da2 ++ ys) h3) Q (fun c d H' => W c d σ H'), fun H2 hN => ⟨ds.length - (i + 1), by omega, rfl, hlt, hN⟩, fun x H3 hy => ?_⟩
        obtain ⟨S3, d, hd, r3, st3, rx⟩ := yl x H3 hy
        rw [List.getElem?_eq_getElem hlt] at hd
        cases hd
        have rsw : RelS X.K φ' S3 (wipeV σv vs) (wipe σ vs) := ((rs1.step s12).step st3).wipe vs
        refine ⟨φ', S3, _, _, _, r3.sub, rsw, rx, q, fun σ4 rs4 l4 f4 => ⟨wipe_same l4 f4 hown, ?_⟩⟩
        refine ⟨φ', S3, h', σ1, r3, rs4, ?_⟩
        cases qc : c σ1 h' with
        | stuck => simp only [qc, R.calm_stuck, R.bind_stuck] at post; exact post.elim
        | exc x h => simp only [qc, R.calm, R.bind_stuck] at post; exact post.elim
        | ok b h5 =>
          simp only [qc, R.calm_ok, R.bind_ok] at post
          intro b' φ5 S5 H5 r5 st5 eb
          cases (show b' = b from eb)
          have s15 : Step φ1 S1 H1 φ5 S5 H5 := (st2.trans st3).trans st5
          have nD' : H' D ≠ none := by rw [hDl]; exact fun z => nomatch z
          have S3D : S3 D = none := (st3.old D nD').trans sD
          have H3D : H3 D = some (.lst acc) := st3.keep D _ hDl nD
          have S5D : S5 D = none := (st5.old D (by rw [H3D]; exact fun z => nomatch z)).trans S3D
          have H5D : H5 D = some (.lst acc) := st5.keep D _ H3D nD
          have n5D : D ∉ φ5 := fun z => by
            obtain ⟨ψ, e, hn⟩ := st5.pre
            rw [e] at z
            rcases List.mem_append.mp z with z | z
            · exact nD z
            · rw [hn D z] at H3D; cases H3D
          have ra5 : RpA X.K φ5 S5 acc da := ra.mono (st3.trans st5).prefix (st3.trans st5).sub
          cases b with
          | false =>
            rw [if_neg Bool.false_ne_true]
            exact ⟨φ5, S5, h5, acc, da, r5, s15, S5D, n5D, H5D, ra5, by omega, post⟩
          | true =>
            rw [if_pos rfl]
            simp only [if_true] at post
            refine ⟨φ5, S5, h5, σ1, r5, rs4.step st5, ?_⟩
            cases qe : el σ1 h5 with
            | stuck => simp only [qe, R.calm_stuck, R.bind_stuck] at post; exact post.elim
            | exc x h => simp only [qe, R.calm, R.bind_stuck] at post; exact post.elim
            | ok y h6 =>
              simp only [qe, R.calm_ok, R.bind_ok] at post
              intro v φ6 S6 H6 r6 st6 rv
              have S6D : S6 D = none := (st6.old D (by rw [H5D]; exact fun z => nomatch z)).trans S5D
              have H6D : H6 D = some (.lst acc) := st6.keep D _ H5D n5D
              have n6D : D ∉ φ6 := fun z => by
                obtain ⟨ψ, e, hn⟩ := st6.pre
                rw [e] at z
                rcases List.mem_append.mp z with z | z
                · exact n5D z
                · rw [hn D z] at H5D; cases H5D
              have ra6 : RpA X.K φ6 S6 acc da := ra5.mono st6.prefix st6.sub
              refine ⟨acc, H6D, by rw [ra.length, line_eq]; omega, φ6, S6, h6, acc ++ [v], da ++ [y], ?_, ?_, S6D, n6D, upd_same, ra6.append (.cons rv .nil), by rw [List.length_append, List.length_singleton]; omega, ?_⟩
              · refine ⟨r6.len, fun a o e => ?_, r6.nd, fun n a c e1 e2 => ?_⟩
                · rw [upd_ne (ne_of_none e S6D)]; exact r6.sub a o e
                · obtain ⟨h1, o', h2, h3⟩ := r6.cel n a c e1 e2
                  exact ⟨h1, o', by rw [upd_ne (fun z => n6D (by rw [← z]; exact List.mem_of_getElem? e1))]; exact h2, h3⟩
              · have s16 := s15.trans st6
                refine ⟨s16.pre, s16.sub, s16.old, fun a o e hn => ?_, fun a ha => ?_⟩
                · rw [upd_ne (ne_of_none e hD)]; exact s16.keep a o e hn
                · rw [upd_ne (fun z => ha (by rw [z]; exact hD))]; exact s16.there a ha
              · cases ql : lcD chk g c el (ds.drop (i + 1)) (wipeV σv vs) h6 with
                | ok ys h7 => simp only [ql, R.bind_ok, List.append_assoc, List.singleton_append] at post ⊢; exact post
                | exc x h7 => simp only [ql, R.bind_exc] at post ⊢; exact post
                | stuck => simp only [ql, R.bind_stuck] at post; exact post.elim
    · have e : i = ds.length := by omega
      subst e
      rw [List.drop_length] at post
      have hck : chk h' = true := by
        refine Classical.byContradiction fun hck => ?_
        simp only [lcD, hck] at post
        exact post.elim
      simp only [lcD, hck, if_true, R.bind_ok, List.append_nil] at post
      exact .inl ⟨ok.stop r2 st2.prefix st2.sub hck, post (.ref D) φ' S' H' r2 (st.trans s12) ⟨D, acc, rfl, hD0, hDl, sD, nD, ra⟩⟩
theorem sn_V {K : PySem.W.Frag} {W : WX} {te : TE} {f : LS} (h : Sn K (repL K) W te f) : Sn K (repV K) W te (eV f) := ⟨fun rl rs post => h.run rl rs (post.map fun ds h1 v φ1 S1 H1 rl1 st rp post => by
  obtain ⟨p, vs, rfl, hp, hp1, hs1, hn1, ra⟩ := rp
  exact post (.ref p) φ1 _ H1 (rl1.still hp1 hs1 hn1) (st.still hp hs1) (.lst upd_same (ra.mono (Pre.refl _) (Ex.new hs1))))⟩
theorem sn_C {K : PySem.W.Frag} {W : WX} {te : TE} {f : LS} (h : Sn K (repL K) W te f) : Sn K (repV K) W te (eC f) := ⟨fun rl rs post => h.run rl rs (post.map fun ds h1 v φ1 S1 H1 rl1 st rp post => by
  obtain ⟨p, vs, rfl, hp, hp1, hs1, hn1, ra⟩ := rp
  refine post (.ref p) (φ1 ++ [p]) S1 H1 (rl1.celled hp1 hs1 hn1 ⟨vs, rfl, ra⟩) (st.celled hp) (.cell ?_)
  rw [← rl1.len, List.getElem?_append_right (Nat.le_refl _), Nat.sub_self]
  rfl)⟩
theorem sl_lc (nd : X.N.Nodup) (hi : QI X W tg iter is) (ok : BlkOk X.N X.env.scope scope own)
    (hg : ∀ (s : Shared) (H : Hp) (C : Addr) (cl : List (Str × Addr)) (fp : List Addr), QG (X.blk s H scope (compEnvC scope cl C X.env) fp) tg g gown) (hown : ∀ j ∈ gown, j ∈ own.map (·.2))
    (ht : ∀ (s : Shared) (H : Hp) (C : Addr) (cl : List (Str × Addr)) (fp : List Addr), SCs (X.blk s H scope (compEnvC scope cl C X.env) fp) W0 ifs c)
    (he : ∀ (s : Shared) (H : Hp) (C : Addr) (cl : List (Str × Addr)) (fp : List Addr), SE (X.blk s H scope (compEnvC scope cl C X.env) fp) W0 elt el) (hc : X.calm = true := by rfl) (hs : ∀ x, foldedSetIterable iter X.env x = pure x := by intro _; rfl) :
    SL X W (.ListComp elt [⟨tg, iter, ifs, 0⟩] scope pos) (lLc is g c el (own.map (·.2))) := by
  obtain ⟨wi, h1, h2⟩ := hi
  exact ⟨_, pe_lc hc nd h1 ok (fun s H C cl fp => (hg s H C cl fp).can) (fun s H C cl fp => (ht s H C cl fp).can) (fun s H C cl fp => (he s H C cl fp).can) hs, sn_lc h2 hown⟩
theorem sns_set {K : PySem.W.Frag} {W : WX} {te : TE} {f : ES} {i : Nat} (h : Sn K (repV K) W te f) : SnS K W (tAsg te (gName i)) (sSet i f) := ⟨fun rl rs post => h.thenS rl rs post fun d h1 v φ1 S1 H1 rl1 rs1 st rp post => post _ φ1 S1 H1 rl1 (rs1.set rp i) (Step.refl _ _ _)⟩
/-- y = [..] -/
theorem qs_setLc {i : Nat} {y : Str} {py : Pos} {f : LS → ES} (hf : ∀ {K : PySem.W.Frag} {W : WX} {te : TE} {l : LS}, Sn K (repL K) W te l → Sn K (repV K) W te (f l)) (nd : X.N.Nodup)
    (hsw : swapsWith (.ListComp elt [⟨tg, iter, ifs, 0⟩] scope pos) (some (.Name y py)) spos.line X.env = pure true) (hi : QI X W tg iter is) (ok : BlkOk X.N X.env.scope scope own)
    (hg : ∀ (s : Shared) (H : Hp) (C : Addr) (cl : List (Str × Addr)) (fp : List Addr), QG (X.blk s H scope (compEnvC scope cl C X.env) fp) tg g gown) (hown : ∀ j ∈ gown, j ∈ own.map (·.2))
    (ht : ∀ (s : Shared) (H : Hp) (C : Addr) (cl : List (Str × Addr)) (fp : List Addr), SCs (X.blk s H scope (compEnvC scope cl C X.env) fp) W0 ifs c)
    (he : ∀ (s : Shared) (H : Hp) (C : Addr) (cl : List (Str × Addr)) (fp : List Addr), SE (X.blk s H scope (compEnvC scope cl C X.env) fp) W0 elt el)
    (hy : X.N[i]? = some y := by rfl) (hyl : X.env.scope.names.lookup y = some .local := by rfl) (hc : X.calm = true := by rfl) (hs : ∀ x, foldedSetIterable iter X.env x = pure x := by intro _; rfl) :
    QS X W (.Assign [.Name y py] (.ListComp elt [⟨tg, iter, ifs, 0⟩] scope pos) spos) (sSet i (f (lLc is g c el (own.map (·.2))))) := by
  obtain ⟨wi, h1, h2⟩ := hi
  exact ⟨_, ps_setLc hc nd hy hyl hsw h1 ok (fun s H C cl fp => (hg s H C cl fp).can) (fun s H C cl fp => (ht s H C cl fp).can) (fun s H C cl fp => (he s H C cl fp).can) hs, sns_set (hf (sn_lc h2 hown))⟩
end
end
end VD

set_option Elab.async false
set_option linter.all false
set_option maxRecDepth 100000
set_option maxHeartbeats 4000000
namespace VD
open PySem PySem.Spec PyProof.Rows L2
noncomputable section
/-! ### behind a def its own cells are still -/
def frz (n0 : Nat) (h : Hv) : Nat → D → Option D
  | 0, _ => none
  | _ + 1, .non => some .non
  | _ + 1, .bl b => some (.bl b)
  | _ + 1, .int i => some (.int i)
  | _ + 1, .str x => some (.str x)
  | f + 1, .lst ds => (optAll (frz n0 h f) ds).map .lst
  | f + 1, .fz ds => (optAll (frz n0 h f) ds).map .fz
  | f + 1, .tup ds => (optAll (frz n0 h f) ds).map .tup
  | f + 1, .cell n => if n < n0 then some (.cell n) else match h[n]? with
    | some (.lst ds) => (optAll (frz n0 h f) ds).map .lst
    | some (.dF kvs) => (optAll (frz n0 h f) (kvs.map (·.2))).map (.dct (kvs.map (·.1)))
    | some (.ins c fs) => (optAll (frz n0 h f) (fs.map (·.2))).map (.obj c (fs.map (·.1)))
    | _ => none
  | _ + 1, .raw v => some (.raw v)
  | f + 1, .dct ks ds => (optAll (frz n0 h f) ds).map (.dct ks)
  | f + 1, .obj c ks ds => (optAll (frz n0 h f) ds).map (.obj c ks)
  | _ + 1, .exv _ _ _ _ => none
def still (φ : List Addr) (n0 : Nat) (S H : Hp) : Hp := fun a => if a ∈ φ.drop n0 then H a else S a
section
variable {K : PySem.W.Frag} {φ : List Addr} {S H : Hp} {h : Hv} {n0 : Nat}
theorem still_ex (rl : Rel K φ S H h) : Ex S (still φ n0 S H) := fun a o e => by
  unfold still
  rw [if_neg]
  · exact e
  · intro z
    have := (rl.mem (List.mem_of_mem_drop z)).1
    rw [this] at e
    cases e
theorem still_sub (rl : Rel K φ S H h) : Ex (still φ n0 S H) H := fun a o e => by
  unfold still at e
  split at e
  · exact e
  · exact rl.sub a o e
theorem frzA_of {f : Nat} {K : PySem.W.Frag} {φ φ' : List Addr} {S S' : Hp} (ih : ∀ (d : D) (v : V) (d' : D), Rp K φ S v d → frz n0 h f d = some d' → Rp K φ' S' v d') :
    ∀ (ds : List D) (vs : List V) (ds' : List D), RpA K φ S vs ds → optAll (frz n0 h f) ds = some ds' → RpA K φ' S' vs ds' := by
  intro ds
  induction ds with
  | nil => intro vs ps r e; cases r; cases e; exact .nil
  | cons d ds ih2 =>
    intro vs ps r e
    cases r with
    | cons r t =>
      simp only [optAll] at e
      cases q : frz n0 h f d with
      | none => rw [q] at e; cases e
      | some p0 =>
        rw [q] at e
        cases q2 : optAll (frz n0 h f) ds with
        | none => simp only [q2] at e; cases e
        | some p1 =>
          simp only [q2] at e
          cases e
          exact .cons (ih d _ p0 r q) (ih2 _ p1 t q2)
theorem frz_ok (rl : Rel K φ S H h) : ∀ (f : Nat) (d : D) (v : V) (d' : D), Rp K φ S v d → frz n0 h f d = some d' → Rp K (φ.take n0) (still φ n0 S H) v d' := by
  intro f
  induction f with
  | zero => intro d v p _ e; cases e
  | succ f ih =>
    have all := frzA_of (K := K) (n0 := n0) (h := h) ih
    intro d v p r e
    cases r with
    | non => cases e; exact .non
    | bl b => cases e; exact .bl b
    | int i => cases e; exact .int i
    | str x => cases e; exact .str x
    | @lst a vs ds h1 h2 =>
      obtain ⟨ps, q, rfl⟩ := Option.map_eq_some_iff.mp (show (optAll (frz n0 h f) ds).map .lst = some p from e)
      exact .lst (still_ex rl _ _ h1) (all ds vs ps h2 q)
    | @fz a vs ds h1 h2 =>
      obtain ⟨ps, q, rfl⟩ := Option.map_eq_some_iff.mp (show (optAll (frz n0 h f) ds).map .fz = some p from e)
      exact .fz ((still_ex rl).sql h1) (all ds vs ps h2 q)
    | @tup a vs ds h1 h2 =>
      obtain ⟨ps, q, rfl⟩ := Option.map_eq_some_iff.mp (show (optAll (frz n0 h f) ds).map .tup = some p from e)
      exact .tup ((still_ex rl).sqt h1) (all ds vs ps h2 q)
    | @cell a n h1 =>
      simp only [frz] at e
      by_cases hn : n < n0
      · rw [if_pos hn] at e
        cases e
        refine .cell ?_
        rw [List.getElem?_take]
        rw [if_pos hn]
        exact h1
      · rw [if_neg hn] at e
        obtain ⟨c, hc⟩ := rl.at h1
        obtain ⟨_, o, ho, rc⟩ := rl.cel _ _ _ h1 hc
        rw [hc] at e
        cases c with
        | lst ds =>
          obtain ⟨vs, rfl, ra⟩ := rc
          obtain ⟨ps, q, rfl⟩ := Option.map_eq_some_iff.mp (show (optAll (frz n0 h f) ds).map .lst = some p from e)
          refine .lst (vs := vs) ?_ (all ds vs ps ra q)
          unfold still
          rw [if_pos]
          · exact ho
          · refine List.mem_of_getElem? (i := n - n0) ?_
            rw [List.getElem?_drop, show n0 + (n - n0) = n by omega]
            exact h1
        | dK kvs => cases e
        | dF kvs =>
          obtain ⟨od, kv, rfl, ek, ra⟩ := rc
          obtain ⟨ps, q, rfl⟩ := Option.map_eq_some_iff.mp (show (optAll (frz n0 h f) (kvs.map (·.2))).map (.dct (kvs.map (·.1))) = some p from e)
          refine .dct (kv := kv) (od := od) ?_ ek (all _ _ ps ra q)
          unfold still
          rw [if_pos]
          · exact ho
          · refine List.mem_of_getElem? (i := n - n0) ?_
            rw [List.getElem?_drop, show n0 + (n - n0) = n by omega]
            exact h1
        | dN w kvs => cases e
        | ins c fs =>
          obtain ⟨dx, kv, rfl, ek, ra⟩ := rc
          obtain ⟨ps, q, rfl⟩ := Option.map_eq_some_iff.mp (show (optAll (frz n0 h f) (fs.map (·.2))).map (.obj c (fs.map (·.1))) = some p from e)
          refine .obj (fv := kv) (dx := dx) ?_ ek (all _ _ ps ra q)
          unfold still
          rw [if_pos]
          · exact ho
          · refine List.mem_of_getElem? (i := n - n0) ?_
            rw [List.getElem?_drop, show n0 + (n - n0) = n by omega]
            exact h1
    | raw v => cases e; exact .raw v
    | @dct a od kv ks ds h1 h2 h3 =>
      obtain ⟨ps, q, rfl⟩ := Option.map_eq_some_iff.mp (show (optAll (frz n0 h f) ds).map (.dct ks) = some p from e)
      exact .dct (still_ex rl _ _ h1) h2 (all ds _ ps h3 q)
    | @obj a dx fv c ks ds h1 h2 h3 =>
      obtain ⟨ps, q, rfl⟩ := Option.map_eq_some_iff.mp (show (optAll (frz n0 h f) ds).map (.obj c ks) = some p from e)
      exact .obj (still_ex rl _ _ h1) h2 (all ds _ ps h3 q)
    | exv h1 h2 => cases e
def frzC (n0 : Nat) (h : Hv) : Cell → Option Cell
  | .lst ds => (optAll (frz n0 h 12) ds).map .lst
  | .dK kvs => (optAll (fun kv : Key × D => (frz n0 h 12 kv.2).map fun d => (kv.1, d)) kvs).map .dK
  | .dF kvs => (optAll (fun kv : Key × D => (frz n0 h 12 kv.2).map fun d => (kv.1, d)) kvs).map .dF
  | .ins C fs => (optAll (fun kv : Str × D => (frz n0 h 12 kv.2).map fun d => (kv.1, d)) fs).map (.ins C)
  | .dN w kvs => (optAll (fun kv : NestedKey × D => (frz n0 h 12 kv.2).map fun d => (kv.1, d)) kvs).map (.dN w)
theorem frzP_of {κ : Type} (rl : Rel K φ S H h) : ∀ (fs fs' : List (κ × D)) (fv : List (κ × V)), optAll (fun kv : κ × D => (frz n0 h 12 kv.2).map fun d => (kv.1, d)) fs = some fs' → fv.map (·.1) = fs.map (·.1) → RpA K φ S (fv.map (·.2)) (fs.map (·.2)) →
    fv.map (·.1) = fs'.map (·.1) ∧ RpA K (φ.take n0) (still φ n0 S H) (fv.map (·.2)) (fs'.map (·.2))
  | [], fs', fv, e, ek, ra => by
    cases e
    cases fv with
    | nil => exact ⟨rfl, .nil⟩
    | cons _ _ => cases ek
  | (k, d) :: fs, fs', fv, e, ek, ra => by
    cases fv with
    | nil => cases ek
    | cons p fv =>
      rw [List.map_cons, List.map_cons] at ek ra
      cases ra with
      | cons r t =>
        simp only [optAll] at e
        cases q : frz n0 h 12 d with
        | none => rw [q] at e; simp at e
        | some d1 =>
          rw [q] at e
          simp only [Option.map_some] at e
          cases q2 : optAll (fun kv : κ × D => (frz n0 h 12 kv.2).map fun d => (kv.1, d)) fs with
          | none => rw [q2] at e; cases e
          | some r1 =>
            rw [q2] at e
            cases e
            injection ek with e1 e2
            obtain ⟨a1, a2⟩ := frzP_of rl fs r1 fv q2 e2 t
            refine ⟨?_, ?_⟩
            · rw [List.map_cons, List.map_cons, e1, a1]
            · rw [List.map_cons, List.map_cons]
              exact .cons (frz_ok rl _ _ _ _ r q) a2
theorem frzC_ok (rl : Rel K φ S H h) {c c' : Cell} {o : HO} (r : RpC K φ S c o) (e : frzC n0 h c = some c') : RpC K (φ.take n0) (still φ n0 S H) c' o := by
  cases c with
  | lst ds =>
    obtain ⟨vs, rfl, ra⟩ := r
    obtain ⟨ps, q, rfl⟩ := Option.map_eq_some_iff.mp (show (optAll (frz n0 h 12) ds).map Cell.lst = some c' from e)
    exact ⟨vs, rfl, frzA_of (fun d v d' r e => frz_ok rl _ d v d' r e) ds vs ps ra q⟩
  | dK kvs =>
    obtain ⟨kv, rfl, ek, ra⟩ := r
    obtain ⟨ps, q, rfl⟩ := Option.map_eq_some_iff.mp (show (optAll _ kvs).map Cell.dK = some c' from e)
    obtain ⟨a1, a2⟩ := frzP_of rl kvs ps kv q ek ra
    exact ⟨kv, rfl, a1, a2⟩
  | dF kvs =>
    obtain ⟨od, kv, rfl, ek, ra⟩ := r
    obtain ⟨ps, q, rfl⟩ := Option.map_eq_some_iff.mp (show (optAll _ kvs).map Cell.dF = some c' from e)
    obtain ⟨a1, a2⟩ := frzP_of rl kvs ps kv q ek ra
    exact ⟨od, kv, rfl, a1, a2⟩
  | ins C fs =>
    obtain ⟨dx, fv, rfl, ek, ra⟩ := r
    obtain ⟨ps, q, rfl⟩ := Option.map_eq_some_iff.mp (show (optAll _ fs).map (Cell.ins C) = some c' from e)
    obtain ⟨a1, a2⟩ := frzP_of rl fs ps fv q ek ra
    exact ⟨dx, fv, rfl, a1, a2⟩
  | dN w kvs =>
    obtain ⟨a, xs, rfl, ek, h3, ra⟩ := r
    obtain ⟨ps, q, rfl⟩ := Option.map_eq_some_iff.mp (show (optAll _ kvs).map (Cell.dN w) = some c' from e)
    have m1 : (xs.map fun x => (x.1, x.2.2)).map (·.1) = kvs.map (·.1) := by rw [List.map_map]; exact ek
    have m2 : (xs.map fun x => (x.1, x.2.2)).map (·.2) = xs.map (·.2.2) := by rw [List.map_map]; rfl
    obtain ⟨a1, a2⟩ := frzP_of rl kvs ps (xs.map fun x => (x.1, x.2.2)) q m1 (by rw [m2]; exact ra)
    rw [m2] at a2
    rw [List.map_map] at a1
    exact ⟨a, xs, rfl, a1, fun x hx => (h3 x hx).mono (Pre.refl []) (still_ex rl), a2⟩
theorem optAll_at {α β : Type} {g : β → Option α} : ∀ {xs : List β} {ys : List α}, optAll g xs = some ys → xs.length = ys.length ∧ ∀ (i : Nat) (y : α), ys[i]? = some y → ∃ x, xs[i]? = some x ∧ g x = some y
  | [], ys, e => by
    cases e
    exact ⟨rfl, fun i y h => by simp at h⟩
  | x :: xs, ys, e => by
    simp only [optAll] at e
    cases q : g x with
    | none => rw [q] at e; cases e
    | some y0 =>
      rw [q] at e
      cases q2 : optAll g xs with
      | none => simp only [q2] at e; cases e
      | some ys0 =>
        simp only [q2] at e
        cases e
        obtain ⟨h1, h2⟩ := optAll_at q2
        refine ⟨by rw [List.length_cons, List.length_cons, h1], fun i y h => ?_⟩
        cases i with
        | zero =>
          rw [List.getElem?_cons_zero] at h ⊢
          cases h
          exact ⟨x, rfl, q⟩
        | succ i =>
          rw [List.getElem?_cons_succ] at h ⊢
          exact h2 i y h
/-- behind the def: the heap as the caller has it -/
theorem exit_rel (rl : Rel K φ S H h) {h' : Hv} (hn : n0 ≤ h.length) (e : optAll (frzC n0 h) (h.take n0) = some h') : Rel K (φ.take n0) (still φ n0 S H) H h' := by
  obtain ⟨el, ea⟩ := optAll_at e
  rw [List.length_take] at el
  refine ⟨?_, still_sub rl, List.Nodup.sublist (List.take_sublist _ _) rl.nd, fun n a c e1 e2 => ?_⟩
  · rw [List.length_take, rl.len]
    omega
  · obtain ⟨c0, hc0, q⟩ := ea n c e2
    have hl := (List.getElem?_eq_some_iff.mp e2).1
    have hn2 : n < n0 := by omega
    rw [List.getElem?_take, if_pos hn2] at e1 hc0
    obtain ⟨sa, o, ho, rc⟩ := rl.cel n a c0 e1 hc0
    refine ⟨?_, o, ho, frzC_ok rl rc q⟩
    unfold still
    rw [if_neg]
    · exact sa
    · intro z
      obtain ⟨m, hm⟩ := List.getElem?_of_mem z
      rw [List.getElem?_drop] at hm
      have := nd_ix rl.nd e1 hm
      omega
theorem exit_step {φ0 : List Addr} {S0 H0 : Hp} (st : Step φ0 S0 H0 φ S H) (rl : Rel K φ S H h) : Step φ0 S0 H0 (φ.take φ0.length) (still φ φ0.length S H) H ∧ φ.take φ0.length = φ0 := by
  obtain ⟨ψ, rfl, hn⟩ := st.pre
  have e : (φ0 ++ ψ).take φ0.length = φ0 := by rw [List.take_append_of_le_length (Nat.le_refl _), List.take_length]
  refine ⟨?_, e⟩
  rw [e]
  refine ⟨⟨[], (List.append_nil _).symm, fun _ z => nomatch z⟩, st.sub.trans (still_ex rl), fun a ha => ?_, st.keep, st.there⟩
  unfold still
  rw [if_neg]
  · exact st.old a ha
  · intro z
    rw [List.drop_append_of_le_length (Nat.le_refl _), List.drop_length, List.nil_append] at z
    exact ha (hn a z)
end
def exitD (n0 : Nat) (d : D) (h : Hv) : R D := match frz n0 h 12 d, optAll (frzC n0 h) (h.take n0) with
  | some d', some h' => if n0 ≤ h.length then .ok d' h' else .stuck
  | _, _ => .stuck
def exitX (n0 : Nat) (x : Xn) (h : Hv) : R D := match x.pay with
  | none => (match optAll (frzC n0 h) (h.take n0) with
    | some h' => if n0 ≤ h.length then .exc x h' else .stuck
    | none => .stuck)
  | some (f, d) => (match frz n0 h 12 d, optAll (frzC n0 h) (h.take n0) with
    | some d', some h' => if n0 ≤ h.length then .exc ⟨x.cls, some (f, d')⟩ h' else .stuck
    | _, _ => .stuck)
/-- what a def computes: np parameters, nl other names -/
def fnS (np nl : Nat) (body : SS) : List D → Hv → R D := fun ds h => if ds.length = np then (match body (ds.map some ++ List.replicate nl none) h with
  | .ret d h' => exitD h.length d h'
  | .next _ h' => exitD h.length .non h'
  | .exc x _ h' => exitX h.length x h'
  | _ => .stuck) else .stuck
/-- a def keeps what sem tells -/
def spOf (K : PySem.W.Frag) (sem : List D → Hv → R D) : Sp := fun vs H Q E => ∃ φ S h ds, Rel K φ S H h ∧ RpA K φ S vs ds ∧ Post K (repV K) φ S H (sem ds h) Q E
theorem fnS_len {np nl : Nat} {body : SS} {ds : List D} {h : Hv} (e : fnS np nl body ds h ≠ .stuck) : ds.length = np := by
  unfold fnS at e
  split at e
  · next q => exact q
  · exact absurd rfl e
theorem relS_start {K : PySem.W.Frag} {φ : List Addr} {S : Hp} {vs : List V} {ds : List D} (ra : RpA K φ S vs ds) (nl : Nat) (N : List Str) (hN : N.length = ds.length + nl) : RelS K φ S (ds.map some ++ List.replicate nl none) (L2.start N vs) := by
  have hl := ra.length
  unfold L2.start
  rw [hN, hl, Nat.add_sub_cancel_left]
  refine ⟨by rw [List.length_append, List.length_append, List.length_map, List.length_map, hl, List.length_replicate, List.length_replicate], fun i d hd => ?_⟩
  by_cases hi : i < ds.length
  · rw [List.getElem?_append_left (by rw [List.length_map]; exact hi), List.getElem?_map] at hd
    cases q : ds[i]? with
    | none => rw [q] at hd; cases hd
    | some d0 =>
      rw [q] at hd
      cases hd
      obtain ⟨v, hv, rv⟩ := ra.at q
      refine ⟨v, ?_, rv⟩
      rw [List.getElem?_append_left (by rw [List.length_map, hl]; exact hi), List.getElem?_map, hv]
      rfl
  · rw [List.getElem?_append_right (by rw [List.length_map]; omega), List.getElem?_replicate] at hd
    split at hd <;> cases hd
section
variable {P : Program} {w : World} {K : PySem.W.Frag} {mg : Str → Option Value} {base : Heap}
theorem fn_ok {x qual : Str} {st : Stmt} {f : Addr} {fd : FuncData} {N ps : List Str} {k np nl : Nat} {body : SS} (F : Fun K x qual st f fd) (Sc : FnScope N ps (defScope st)) (hps : ps.length = np) (hN : N.length = np + nl)
    (hbody : ∀ (cdv : Value) (A : Around) (outer : List Env) (s : Shared) (H : Hp) (E : XK), Room k (A.deeper (envOfC qual (defScope st) s.heap.objs.size f cdv)) →
      QB (cxOf (L2.CX P w) P w K mg base N qual (defScope st) f cdv A outer s H E) (fun cls d _ H' => E cls d H') (defBody st) body) : FnOk P w K mg base (L2.CX P w) (k + 1) f fd ps (spOf K (fnS np nl body)) := by
  refine F.okX Sc (fun vs H Q E h => ?_) (fun cdv A outer s H vs Q E hr h => ?_)
  · obtain ⟨φ, S, h, ds, rl, ra, post⟩ := h
    rw [ra.length, hps]
    refine fnS_len (nl := nl) (body := body) (h := h) fun z => ?_
    rw [z] at post
    exact post.elim
  · obtain ⟨φ, S, h, ds, rl, ra, post⟩ := h
    obtain ⟨t, h1, h2⟩ := hbody cdv A outer s H E hr
    refine ⟨t, h1, h2.run rl (relS_start ra nl N (by
      have hl : ds.length = np := fnS_len (nl := nl) (body := body) (h := h) fun z => by
        rw [z] at post
        exact post.elim
      rw [hl]
      exact hN)) ?_⟩
    unfold fnS at post
    have hl : ds.length = np := by
      refine Classical.byContradiction fun z => ?_
      rw [if_neg z] at post
      exact post.elim
    rw [if_pos hl] at post
    have en : h.length = φ.length := rl.len.symm
    have out : ∀ {φ' S' H' h' d v}, Rel K φ' S' H' h' → Step φ S H φ' S' H' → Rp K φ' S' v d → Post K (repV K) φ S H (exitD h.length d h') Q E → Q v H' := fun {φ' S' H' h' d v} r2 st rv post => by
      unfold exitD at post
      split at post
      · next d' h'' q1 q2 =>
        split at post
        · next hn =>
          rw [en] at q1 q2 hn
          obtain ⟨s2, _⟩ := exit_step st r2
          exact post v _ _ H' (exit_rel r2 hn q2) s2 (frz_ok r2 _ _ _ _ rv q1)
        · exact post.elim
      · exact post.elim
    cases hb : body (ds.map some ++ List.replicate nl none) h with
    | next σ' h' =>
      rw [hb] at post
      exact fun σ1 φ' S' H' r2 _ st => out r2 st .non post
    | ret d h' =>
      rw [hb] at post
      exact fun v φ' S' H' r2 st rv => out r2 st rv post
    | brk σ' h' => rw [hb] at post; exact post.elim
    | cont σ' h' => rw [hb] at post; exact post.elim
    | stuck => rw [hb] at post; exact post.elim
    | exc x σ' h' =>
      rw [hb] at post
      intro σ1 cls dd φ' S' H' r2 _ st rx
      simp only [exitX] at post
      obtain ⟨s2, _⟩ := exit_step st r2
      obtain ⟨e1, rx⟩ := rx
      cases hp : x.pay with
      | none =>
        simp only [hp] at post rx
        split at post
        · next h'' q2 =>
          split at post
          · next hn =>
            rw [en] at q2 hn
            exact post cls dd _ _ H' (exit_rel r2 hn q2) s2 ⟨e1, by rw [hp]; exact rx⟩
          · exact post.elim
        · exact post.elim
      | some p =>
        obtain ⟨fl, d⟩ := p
        simp only [hp] at post rx
        obtain ⟨dx, v, e2, e3, rv⟩ := rx
        split at post
        · next d' h'' q1 q2 =>
          split at post
          · next hn =>
            rw [en] at q1 q2 hn
            exact post cls dd _ _ H' (exit_rel r2 hn q2) s2 ⟨e1, dx, v, e2, still_ex r2 _ _ e3, frz_ok r2 _ _ _ _ rv q1⟩
          · exact post.elim
        · exact post.elim
end
/-! ### calls of defs -/
/-- data without cells -/
def pureD (ds : List D) : Option (List D) := optAll (frz 0 [] 12) ds
theorem frz0_ok {K : PySem.W.Frag} {φ : List Addr} {S : Hp} : ∀ (f : Nat) (d : D) (v : V) (d' : D), Rp K φ S v d → frz 0 [] f d = some d' → Rp K [] S v d' := by
  intro f
  induction f with
  | zero => intro d v p _ e; cases e
  | succ f ih =>
    have all := frzA_of (K := K) (n0 := 0) (h := []) ih
    intro d v p r e
    cases r with
    | non => cases e; exact .non
    | bl b => cases e; exact .bl b
    | int i => cases e; exact .int i
    | str x => cases e; exact .str x
    | @lst a vs ds h1 h2 =>
      obtain ⟨ps, q, rfl⟩ := Option.map_eq_some_iff.mp (show (optAll (frz 0 [] f) ds).map .lst = some p from e)
      exact .lst h1 (all ds vs ps h2 q)
    | @fz a vs ds h1 h2 =>
      obtain ⟨ps, q, rfl⟩ := Option.map_eq_some_iff.mp (show (optAll (frz 0 [] f) ds).map .fz = some p from e)
      exact .fz h1 (all ds vs ps h2 q)
    | @tup a vs ds h1 h2 =>
      obtain ⟨ps, q, rfl⟩ := Option.map_eq_some_iff.mp (show (optAll (frz 0 [] f) ds).map .tup = some p from e)
      exact .tup h1 (all ds vs ps h2 q)
    | cell h1 => simp [frz] at e
    | raw v => cases e; exact .raw v
    | @dct a od kv ks ds h1 h2 h3 =>
      obtain ⟨ps, q, rfl⟩ := Option.map_eq_some_iff.mp (show (optAll (frz 0 [] f) ds).map (.dct ks) = some p from e)
      exact .dct h1 h2 (all ds _ ps h3 q)
    | @obj a dx fv c ks ds h1 h2 h3 =>
      obtain ⟨ps, q, rfl⟩ := Option.map_eq_some_iff.mp (show (optAll (frz 0 [] f) ds).map (.obj c ks) = some p from e)
      exact .obj h1 h2 (all ds _ ps h3 q)
    | exv h1 h2 => cases e
theorem Rel.bare {K : PySem.W.Frag} {S H : Hp} (e : Ex S H) : Rel K [] S H [] := ⟨rfl, e, List.nodup_nil, fun n a c h => by simp at h⟩
/-- the callee's steps are the caller's -/
theorem Rel.frame {K : PySem.W.Frag} {φ φ' : List Addr} {S H S' H' : Hp} {h : Hv} (rl : Rel K φ S H h) (r2 : Rel K φ' S' H' []) (st : Step [] S H φ' S' H') : φ' = [] ∧ Rel K φ S' H' h ∧ Step φ S H φ S' H' := by
  have e : φ' = [] := List.length_eq_zero_iff.mp r2.len
  subst e
  refine ⟨rfl, ⟨rl.len, r2.sub, rl.nd, fun n a c e1 e2 => ?_⟩, ⟨⟨[], (List.append_nil _).symm, fun _ z => nomatch z⟩, st.sub, st.old, fun a o e _ => st.keep a o e (fun z => nomatch z), st.there⟩⟩
  obtain ⟨h1, o, h2, h3⟩ := rl.cel n a c e1 e2
  exact ⟨(st.old a (by rw [h2]; exact fun z => nomatch z)).trans h1, o, st.keep a o h2 (fun z => nomatch z), h3.mono (Pre.refl _) st.sub⟩
def callP (sem : List D → Hv → R D) (ds : List D) (h : Hv) : R D := match pureD ds with
  | some ds' => (match sem ds' [] with
    | .ok d [] => .ok d h
    | .exc x [] => .exc x h
    | _ => .stuck)
  | none => .stuck
theorem spOf_P {K : PySem.W.Frag} {sem : List D → Hv → R D} {φ : List Addr} {S H : Hp} {h : Hv} {ds : List D} {vs : List V} {Q : VK} {E : XK} (rl : Rel K φ S H h) (ra : RpA K φ S vs ds) (post : Post K (repV K) φ S H (callP sem ds h) Q E) : spOf K sem vs H Q E := by
  unfold callP at post
  split at post
  · next ds' q =>
    refine ⟨[], S, [], ds', Rel.bare rl.sub, frzA_of (n0 := 0) (h := []) (fun d v d' r e => frz0_ok 12 d v d' r e) ds vs ds' ra q, ?_⟩
    split at post
    · next d hs =>
      rw [hs]
      intro v φ' S' H' r2 st rv
      obtain ⟨rfl, r3, s3⟩ := rl.frame r2 st
      exact post v φ S' H' r3 s3 (Rp.mono ⟨φ, rfl⟩ (Ex.refl _) rv)
    · next x hs =>
      rw [hs]
      intro cls dd φ' S' H' r2 st rx
      obtain ⟨rfl, r3, s3⟩ := rl.frame r2 st
      refine post cls dd φ S' H' r3 s3 ⟨rx.1, ?_⟩
      have rx2 := rx.2
      cases hp : x.pay with
      | none => rw [hp] at rx2; exact rx2
      | some p =>
        rw [hp] at rx2
        obtain ⟨dx, v, e2, e3, rv⟩ := rx2
        exact ⟨dx, v, e2, e3, Rp.mono ⟨φ, rfl⟩ (Ex.refl _) rv⟩
    · exact post.elim
  · exact post.elim
mutual
def isScal : D → Bool
  | .non => true
  | .bl _ => true
  | .int _ => true
  | .str _ => true
  | .tup ds => isScalL ds
  | .lst _ => false
  | .fz _ => false
  | .cell _ => false
  | .raw _ => false
  | .dct _ _ => false
  | .obj _ _ _ => false
  | .exv _ _ _ _ => false
def isScalL : List D → Bool
  | [] => true
  | d :: ds => isScal d && isScalL ds
end
/-- the objects that are still, but those of the caller's cells -/
def offS (φ : List Addr) (S S' : Hp) : Hp := fun a => if a ∈ φ then S a else S' a
section
variable {K : PySem.W.Frag} {φ : List Addr} {S S' : Hp}
theorem offS_sqt (nt : ∀ (a : Addr) (vs : List V), Rd S' a (.tup vs) → a ∉ φ) {a : Addr} {vs : List V} (h : SqT K S' a vs) : SqT K (offS φ S S') a vs := by
  refine h.imp (fun z => ?_) id
  have na := nt a vs z
  unfold Rd offS at *
  rw [if_neg na]
  exact z
mutual
theorem scal_tr (nt : ∀ (a : Addr) (vs : List V), Rd S' a (.tup vs) → a ∉ φ) : ∀ {v : V} {d : D}, isScal d = true → Rp K [] S' v d → Rp K φ (offS φ S S') v d
  | _, _, _, .non => .non
  | _, _, _, .bl b => .bl b
  | _, _, _, .int i => .int i
  | _, _, _, .str x => .str x
  | _, .tup ds, hs, .tup h r => .tup (offS_sqt nt h) (scalA_tr nt (by rw [isScal] at hs; exact hs) r)
  | _, _, hs, .lst _ _ => by rw [isScal] at hs; cases hs
  | _, _, hs, .fz _ _ => by rw [isScal] at hs; cases hs
  | _, _, hs, .cell _ => by rw [isScal] at hs; cases hs
  | _, _, hs, .raw _ => by rw [isScal] at hs; cases hs
  | _, _, hs, .dct _ _ _ => by rw [isScal] at hs; cases hs
  | _, _, hs, .obj _ _ _ => by rw [isScal] at hs; cases hs
  | _, _, hs, .exv _ _ => by rw [isScal] at hs; cases hs
theorem scalA_tr (nt : ∀ (a : Addr) (vs : List V), Rd S' a (.tup vs) → a ∉ φ) : ∀ {vs : List V} {ds : List D}, isScalL ds = true → RpA K [] S' vs ds → RpA K φ (offS φ S S') vs ds
  | _, _, _, .nil => .nil
  | _, d :: ds, hs, .cons r t => by
    rw [isScalL, Bool.and_eq_true] at hs
    exact .cons (scal_tr nt hs.1 r) (scalA_tr nt hs.2 t)
end
end
/-- a call that only looks: its arguments may hold cells, its answer is a plain value -/
def callB (sem : List D → Hv → R D) (ds : List D) (h : Hv) : R D := match optAll (frz 0 h 12) ds with
  | some ds' => (match sem ds' [] with
    | .ok d [] => if isScal d then .ok d h else .stuck
    | .exc x [] => (match x.pay with
      | none => .exc x h
      | some (_, d) => if isScal d then .exc x h else .stuck)
    | _ => .stuck)
  | none => .stuck
theorem rel_B {K : PySem.W.Frag} {φ : List Addr} {S H S' H' : Hp} {h : Hv} (rl : Rel K φ S H h) (r2 : Rel K [] S' H' []) (st : Step [] (still φ 0 S H) H [] S' H') :
    (∀ (a : Addr) (vs : List V), Rd S' a (.tup vs) → a ∉ φ) ∧ (∀ (a : Addr) (vs : List (Str × V)), S' a = some (.xd vs) → a ∉ φ) ∧ Rel K φ (offS φ S S') H' h ∧ Step φ S H φ (offS φ S S') H' := by
  have kp : ∀ a o, H a = some o → H' a = some o := fun a o e => st.keep a o e (fun z => nomatch z)
  have sS : ∀ a o, S a = some o → a ∉ φ := fun a o e z => by rw [(rl.mem z).1] at e; cases e
  have nt : ∀ (a : Addr) (vs : List V), Rd S' a (.tup vs) → a ∉ φ := fun a vs z hm => by
    obtain ⟨n, hn⟩ := List.getElem?_of_mem hm
    obtain ⟨c, hc⟩ := rl.at hn
    obtain ⟨_, o, ho, rc⟩ := rl.cel n a c hn hc
    have ho' := kp a o ho
    rcases z with z | ⟨u, z⟩
    · have := r2.sub _ _ z
      rw [ho'] at this
      cases this
      cases c with
      | lst ds => obtain ⟨_, e, _⟩ := rc; cases e
      | dK kvs => obtain ⟨_, e, _⟩ := rc; cases e
      | dF kvs => obtain ⟨_, _, e, _⟩ := rc; cases e
      | ins C fs => obtain ⟨_, _, e, _⟩ := rc; cases e
      | dN w kvs => obtain ⟨_, _, e, _⟩ := rc; cases e
    · have := r2.sub _ _ z
      rw [ho'] at this
      cases this
      cases c with
      | lst ds => obtain ⟨_, e, _⟩ := rc; cases e
      | dK kvs => obtain ⟨_, e, _⟩ := rc; cases e
      | dF kvs => obtain ⟨_, _, e, _⟩ := rc; cases e
      | ins C fs => obtain ⟨_, _, e, _⟩ := rc; cases e
      | dN w kvs => obtain ⟨_, _, e, _⟩ := rc; cases e
  have nx : ∀ (a : Addr) (vs : List (Str × V)), S' a = some (.xd vs) → a ∉ φ := fun a vs z hm => by
    obtain ⟨n, hn⟩ := List.getElem?_of_mem hm
    obtain ⟨c, hc⟩ := rl.at hn
    obtain ⟨_, o, ho, rc⟩ := rl.cel n a c hn hc
    have ho' := kp a o ho
    have := r2.sub _ _ z
    rw [ho'] at this
    cases this
    cases c with
    | lst ds => obtain ⟨_, e, _⟩ := rc; cases e
    | dK kvs => obtain ⟨_, e, _⟩ := rc; cases e
    | dF kvs => obtain ⟨_, _, e, _⟩ := rc; cases e
    | ins C fs => obtain ⟨_, _, e, _⟩ := rc; cases e
    | dN w kvs => obtain ⟨_, _, e, _⟩ := rc; cases e
  have ex : Ex S (offS φ S S') := fun a o e => by
    unfold offS
    rw [if_neg (sS a o e)]
    exact st.sub a o (still_ex rl a o e)
  refine ⟨nt, nx, ⟨rl.len, fun a o e => ?_, rl.nd, fun n a c e1 e2 => ?_⟩, ⟨⟨[], (List.append_nil _).symm, fun _ z => nomatch z⟩, ex, fun a ha => ?_, fun a o e _ => kp a o e, st.there⟩⟩
  · unfold offS at e
    split at e
    · exact kp a o (rl.sub a o e)
    · exact r2.sub a o e
  · obtain ⟨h1, o, h2, h3⟩ := rl.cel n a c e1 e2
    refine ⟨?_, o, kp a o h2, h3.mono ⟨[], (List.append_nil _).symm⟩ ex⟩
    unfold offS
    rw [if_pos (List.mem_of_getElem? e1)]
    exact h1
  · unfold offS
    split
    · rfl
    · next na =>
      rw [st.old a ha]
      unfold still
      rw [if_neg (fun z => na (List.mem_of_mem_drop z))]
theorem spOf_B {K : PySem.W.Frag} {sem : List D → Hv → R D} {φ : List Addr} {S H : Hp} {h : Hv} {ds : List D} {vs : List V} {Q : VK} {E : XK} (rl : Rel K φ S H h) (ra : RpA K φ S vs ds) (post : Post K (repV K) φ S H (callB sem ds h) Q E) : spOf K sem vs H Q E := by
  unfold callB at post
  split at post
  · next ds' q =>
    refine ⟨[], still φ 0 S H, [], ds', Rel.bare (still_sub rl), ?_, ?_⟩
    · have := frzA_of (n0 := 0) (h := h) (fun d v d' r e => frz_ok rl 12 d v d' r e) ds vs ds' ra q
      rw [List.take_zero] at this
      exact this
    split at post
    · next d hs =>
      rw [hs]
      split at post
      · next hsc =>
        intro v φ' S' H' r2 st rv
        have e : φ' = [] := List.length_eq_zero_iff.mp r2.len
        subst e
        obtain ⟨nt, _, r3, s3⟩ := rel_B rl r2 st
        exact post v φ (offS φ S S') H' r3 s3 (scal_tr nt hsc rv)
      · exact post.elim
    · next x hs =>
      rw [hs]
      intro cls dd φ' S' H' r2 st rx
      have e : φ' = [] := List.length_eq_zero_iff.mp r2.len
      subst e
      obtain ⟨nt, nx, r3, s3⟩ := rel_B rl r2 st
      have rx2 := rx.2
      split at post
      · next hp =>
        refine post cls dd φ (offS φ S S') H' r3 s3 ⟨rx.1, ?_⟩
        rw [hp] at rx2 ⊢
        exact rx2
      · next f d hp =>
        split at post
        · next hsc =>
          refine post cls dd φ (offS φ S S') H' r3 s3 ⟨rx.1, ?_⟩
          rw [hp] at rx2 ⊢
          obtain ⟨dx, v, e2, e3, rv⟩ := rx2
          refine ⟨dx, v, e2, ?_, scal_tr nt hsc rv⟩
          unfold offS
          rw [if_neg (nx _ _ e3)]
          exact e3
        · exact post.elim
    · exact post.elim
  · exact post.elim
section
variable {X : Cx} {W : WX} {k : Nat} {f : Addr} {fd : FuncData} {ps : List Str} {sem sem' : List D → Hv → R D} {x : Str} {p pos : Pos} {e : Expr} {es : List Expr} {la : LS}
theorem se_call (hsem : ∀ {φ : List Addr} {S H : Hp} {h : Hv} {ds : List D} {vs : List V} {Q : VK} {E : XK}, Rel X.K φ S H h → RpA X.K φ S vs ds → Post X.K (repV X.K) φ S H (sem' ds h) Q E → spOf X.K sem vs H Q E)
    (F : FnOk X.prog X.w X.K X.mg X.base (L2.CX X.prog X.w) k f fd ps (spOf X.K sem)) (hr : Room k X.A) (tk : Takes X W) (hm : X.mg x = some (.ref f)) (hk : PySem.W.keepIn X.K (.ref f) = true) (hb : Binds X.K fd ps []) (ha : SA X W (e :: es) la)
    (hg : Gl X x := by rfl) (hdb : (x == ("__debug__" : Str)) = false := by decide) (he : starEach (e :: es) X.env = (false, eval e X.env) :: starEach es X.env := by rfl) (hpl : (backTo pos (starEach es X.env)).any (·.1) = false := by rfl) :
    SE X W (.Call (.Name x p) (e :: es) [] pos) (eCa sem' la) := by
  obtain ⟨t, h1, h2⟩ := ha
  exact ⟨_, pe_callS F hr hg hm hk hb (fun σ => passAt tk σ) h1 hdb he hpl, ⟨fun rl rs post => h2.bind rl rs post fun ds h1 vs φ1 S1 H1 rl1 rs1 st rp post => hsem rl1 rp post⟩⟩
end
def callM (sem : List D → Hv → R D) : List D → Hv → R D := sem
theorem spOf_M {K : PySem.W.Frag} {sem : List D → Hv → R D} {φ : List Addr} {S H : Hp} {h : Hv} {ds : List D} {vs : List V} {Q : VK} {E : XK} (rl : Rel K φ S H h) (ra : RpA K φ S vs ds) (post : Post K (repV K) φ S H (callM sem ds h) Q E) : spOf K sem vs H Q E := ⟨φ, S, h, ds, rl, ra, post⟩
end
end VD

set_option Elab.async false
set_option linter.all false
set_option maxRecDepth 100000
set_option maxHeartbeats 4000000
namespace VD
open PySem PySem.Spec PyProof.Rows L2
noncomputable section
/-! ### methods of lists that are cells -/
def MtS (K : PySem.W.Frag) (r : V → List V → Hp → VK → Prop) (ro : D → List D → Hv → R D) : Prop :=
  ∀ {φ : List Addr} {S H : Hp} {h : Hv} {x : D} {v : V} {ds : List D} {vs : List V} {Q : VK} {E : XK}, Rel K φ S H h → Rp K φ S v x → RpA K φ S vs ds → Post K (repV K) φ S H (ro x ds h) Q E → r v vs H Q
def eBM (ro : D → List D → Hv → R D) (fo : ES) (la : LS) : ES := fun σ h => (fo σ h).bind fun x h1 => match lOf h1 x with
  | some _ => (la σ h1).bind fun ds h2 => ro x ds h2
  | none => .stuck
theorem Rel.cell {K : PySem.W.Frag} {φ : List Addr} {S H : Hp} {h : Hv} (rl : Rel K φ S H h) {n : Nat} {v : V} {xs : List D} (r : Rp K φ S v (.cell n)) (e : h[n]? = some (.lst xs)) : ∃ a vs, v = .ref a ∧ φ[n]? = some a ∧ H a = some (.lst vs) ∧ RpA K φ S vs xs := by
  cases r with
  | @cell a n h1 =>
    obtain ⟨_, o, ho, vs, rfl, ra⟩ := rl.cel _ _ _ h1 e
    exact ⟨a, vs, rfl, h1, ho, ra⟩
section
variable {X : Cx} {W : WX} {K : PySem.W.Frag} {o e : Expr} {es : List Expr} {fo fv fi : ES} {la : LS} {name : Str} {apos cpos pos tpos : Pos} {id : String} {r : V → List V → Hp → VK → Prop} {ro : D → List D → Hv → R D}
theorem se_bm (slot : Slot "list" name id) (hty : typeOf (.builtin id) = pure (.type "method_descriptor")) (hm : MtR X id r) (hr : MtS X.K r ro) (ho : SE X W o fo) (ha : SA X W (e :: es) la)
    (hbase : attributeBase o name X.env (eval o X.env) = eval o X.env := by rfl)
    (hfew : ((backTo cpos (starEach (e :: es) X.env)).all (fun x => !x.1) && (backToKw cpos (keywordEach [] X.env)).all (fun x => x.1.isSome)
      && decide ((e :: es).length + ([] : List Keyword).length + (if ([] : List Keyword).isEmpty then 0 else 1) < 30)) = true := by rfl)
    (hline : (apos.endLine == cpos.line) = true := by rfl) (hs : starEach (e :: es) X.env = (false, eval e X.env) :: starEach es X.env := by rfl) (hplain : (backTo cpos (starEach es X.env)).any (·.1) = false := by rfl) :
    SE X W (.Call (.Attribute o name apos) (e :: es) [] cpos) (eBM ro fo la) := by
  obtain ⟨to, h1, h2⟩ := ho
  obtain ⟨ta, k1, k2⟩ := ha
  refine ⟨_, pe_bm PySem.F.plainAttrs_list slot hty hm h1 k1 hbase hfew hline hs hplain, ⟨fun rl rs post => h2.bind rl rs post fun x h1 v φ1 S1 H1 rl1 rs1 st rp post => ?_⟩⟩
  cases q : lOf h1 x with
  | none => simp only [q] at post; exact post.elim
  | some xs =>
    simp only [q] at post
    obtain ⟨a, vs, rfl, g2, g3⟩ := lOf_ok rl1 rp q
    exact ⟨.inl ⟨rfl, vs, g2⟩, k2.bind rl1 rs1 post fun ds h2 us φ2 S2 H2 rl2 rs2 st2 rp2 post => hr rl2 (Rp.mono st2.prefix st2.sub rp) rp2 post⟩
theorem se_bm0 (slot : Slot "list" name id) (hty : typeOf (.builtin id) = pure (.type "method_descriptor")) (hm : MtR X id r) (hr : MtS X.K r ro) (ho : SE X W o fo)
    (hbase : attributeBase o name X.env (eval o X.env) = eval o X.env := by rfl) (hline : (apos.endLine == cpos.line) = true := by rfl) : SE X W (.Call (.Attribute o name apos) [] [] cpos) (eBM ro fo aNil) := by
  obtain ⟨to, h1, h2⟩ := ho
  refine ⟨_, pe_bm0 PySem.F.plainAttrs_list slot hty hm h1 hbase hline, ⟨fun rl rs post => h2.bind rl rs post fun x h1 v φ1 S1 H1 rl1 rs1 st rp post => ?_⟩⟩
  cases q : lOf h1 x with
  | none => simp only [q] at post; exact post.elim
  | some xs =>
    simp only [q] at post
    obtain ⟨a, vs, rfl, g2, g3⟩ := lOf_ok rl1 rp q
    exact ⟨.inl ⟨rfl, vs, g2⟩, hr rl1 rp .nil post⟩
def mAppend : D → List D → Hv → R D := fun x ds h => match x, ds with
  | .cell n, [d] => (match h[n]? with
    | some (.lst xs) => if xs.length < 16777216 then .ok .non (h.set n (.lst (xs ++ [d]))) else .stuck
    | _ => .stuck)
  | _, _ => .stuck
theorem ms_append : MtS K rAppend mAppend := by
  intro φ S H h x v ds vs Q E rl rx ra post
  unfold mAppend at post
  split at post
  · next n d =>
    split at post
    · next xs hx =>
      split at post
      · next hz =>
        obtain ⟨a, ws, rfl, hn, ho, rw_⟩ := rl.cell rx hx
        obtain ⟨u, rfl, ru⟩ := ra.one
        obtain ⟨r2, s2⟩ := rl.put hn (c := .lst (xs ++ [d])) (o := .lst (ws ++ [u])) ⟨_, rfl, rw_.append (.cons ru .nil)⟩
        exact ⟨a, ws, u, rfl, rfl, ho, by rw [rw_.length, line_eq]; exact hz, post _ φ S _ r2 s2 .non⟩
      · exact post.elim
    · exact post.elim
  · exact post.elim
def mReverse : D → List D → Hv → R D := fun x ds h => match x, ds with
  | .cell n, [] => (match h[n]? with
    | some (.lst xs) => .ok .non (h.set n (.lst xs.reverse))
    | _ => .stuck)
  | _, _ => .stuck
theorem ms_reverse : MtS K rReverse mReverse := by
  intro φ S H h x v ds vs Q E rl rx ra post
  unfold mReverse at post
  split at post
  · next n =>
    split at post
    · next xs hx =>
      obtain ⟨a, ws, rfl, hn, ho, rw_⟩ := rl.cell rx hx
      cases ra
      obtain ⟨r2, s2⟩ := rl.put hn (c := .lst xs.reverse) (o := .lst ws.reverse) ⟨_, rfl, rw_.reverse⟩
      exact ⟨a, ws, rfl, rfl, ho, post _ φ S _ r2 s2 .non⟩
    · exact post.elim
  · exact post.elim
def mPopAt : D → List D → Hv → R D := fun x ds h => match x, ds with
  | .cell n, [.int i] => (match h[n]? with
    | some (.lst xs) => @ite _ (-(2 ^ 63) ≤ i ∧ i < 2 ^ 63) (Classical.propDecidable _) (match seqIndex? i xs.length with
      | some k => (match xs[k]? with
        | some y => .ok y (h.set n (.lst (xs.eraseIdx k)))
        | none => .stuck)
      | none => .stuck) .stuck
    | _ => .stuck)
  | _, _ => .stuck
theorem ms_popAt : MtS K rPopAt mPopAt := by
  intro φ S H h x v ds vs Q E rl rx ra post
  unfold mPopAt at post
  split at post
  · next n i =>
    split at post
    · next xs hx =>
      split at post
      · next hz =>
        split at post
        · next k hk =>
          split at post
          · next y hy =>
            obtain ⟨a, ws, rfl, hn, ho, rw_⟩ := rl.cell rx hx
            obtain ⟨u, rfl, ru⟩ := ra.one
            cases ru
            obtain ⟨w, hw, rww⟩ := rw_.at hy
            obtain ⟨r2, s2⟩ := rl.put hn (c := .lst (xs.eraseIdx k)) (o := .lst (ws.eraseIdx k)) ⟨_, rfl, rw_.eraseIdx k⟩
            exact ⟨a, ws, i, k, w, rfl, rfl, ho, hz.1, hz.2, by rw [rw_.length]; exact hk, hw, post _ φ S _ r2 s2 rww⟩
          · exact post.elim
        · exact post.elim
      · exact post.elim
    · exact post.elim
  · exact post.elim
def mInsert : D → List D → Hv → R D := fun x ds h => match x, ds with
  | .cell n, [.int i, d] => (match h[n]? with
    | some (.lst xs) => @ite _ ((0 ≤ i ∧ i < 2 ^ 63) ∧ xs.length < 16777216) (Classical.propDecidable _) (.ok .non (h.set n (.lst (xs.take i.toNat ++ [d] ++ xs.drop i.toNat)))) .stuck
    | _ => .stuck)
  | _, _ => .stuck
def rInsert : V → List V → Hp → VK → Prop := fun x vs H Q => ∃ (l : Addr) (xs : List V) (i : Int) (y : V), x = .ref l ∧ vs = [.int i, y] ∧ H l = some (.lst xs) ∧ xs.length < sizeLine ∧ 0 ≤ i ∧ i < 2 ^ 63 ∧
    Q .non (upd H l (.lst (xs.take i.toNat ++ [y] ++ xs.drop i.toNat)))
theorem mt_insertR : MtR X "list.insert" rInsert := mt_insert
theorem ms_insert : MtS K rInsert mInsert := by
  intro φ S H h x v ds vs Q E rl rx ra post
  unfold mInsert at post
  split at post
  · next n i d =>
    split at post
    · next xs hx =>
      split at post
      · next hz =>
        obtain ⟨a, ws, rfl, hn, ho, rw_⟩ := rl.cell rx hx
        obtain ⟨u, u2, rfl, ru, ru2⟩ := ra.two
        cases ru
        obtain ⟨r2, s2⟩ := rl.put hn (c := .lst (xs.take i.toNat ++ [d] ++ xs.drop i.toNat)) (o := .lst (ws.take i.toNat ++ [u2] ++ ws.drop i.toNat)) ⟨_, rfl, ((rw_.take _).append (.cons ru2 .nil)).append (rw_.drop _)⟩
        exact ⟨a, ws, i, u2, rfl, rfl, ho, by rw [rw_.length, line_eq]; exact hz.2, hz.1.1, hz.1.2, post _ φ S _ r2 s2 .non⟩
      · exact post.elim
    · exact post.elim
  · exact post.elim
/-- xs.index(n), ints -/
def firstIx (n : Int) : List Int → Option Nat
  | [] => none
  | x :: xs => if x = n then some 0 else (firstIx n xs).map (· + 1)
theorem firstIx_ok {n : Int} : ∀ {xs : List Int} {j : Nat}, firstIx n xs = some j → xs[j]? = some n ∧ ∀ m z, m < j → xs[m]? = some z → z ≠ n
  | [], j, h => by cases h
  | x :: xs, j, h => by
    simp only [firstIx] at h
    split at h
    · next q =>
      cases h
      subst q
      exact ⟨rfl, fun m z hm => by omega⟩
    · next q =>
      obtain ⟨k, hk, rfl⟩ := Option.map_eq_some_iff.mp h
      obtain ⟨h1, h2⟩ := firstIx_ok hk
      refine ⟨by rw [List.getElem?_cons_succ]; exact h1, fun m z hm hz => ?_⟩
      cases m with
      | zero =>
        rw [List.getElem?_cons_zero] at hz
        cases hz
        exact q
      | succ m =>
        rw [List.getElem?_cons_succ] at hz
        exact h2 m z (by omega) hz
def mIndex : D → List D → Hv → R D := fun x ds h => match ds with
  | [.int i] => (match (lOf h x).bind (optAll toI) with
    | some ns => (match firstIx i ns with
      | some j => .ok (.int (j : Nat)) h
      | none => .stuck)
    | none => .stuck)
  | _ => .stuck
theorem ms_index : MtS K (rIndex K) mIndex := by
  intro φ S H h x v ds vs Q E rl rx ra post
  unfold mIndex at post
  split at post
  · next i =>
    split at post
    · next ns hn =>
      split at post
      · next j hj =>
        obtain ⟨xs, q1, q2⟩ := Option.bind_eq_some_iff.mp hn
        obtain ⟨a, vs, rfl, h2, h3⟩ := lOf_ok rl rx q1
        rw [toIs_ok h3 q2] at h2
        obtain ⟨u, rfl, ru⟩ := ra.one
        cases ru
        obtain ⟨f1, f2⟩ := firstIx_ok hj
        refine ⟨a, ns.map V.int, .int i, j, .int i, rfl, rfl, h2, rfl, List.all_eq_true.mpr fun z hz => ?_, by rw [List.getElem?_map, f1]; rfl, (by simp [eqV]), fun m z' hm hz' => ?_, post _ φ S H rl (Step.refl _ _ _) (.int _)⟩
        · obtain ⟨k, _, rfl⟩ := List.mem_map.mp hz
          rfl
        · rw [List.getElem?_map] at hz'
          obtain ⟨k, hk, rfl⟩ := Option.map_eq_some_iff.mp hz'
          have := f2 m k hm hk
          simp [eqV, this]
      · exact post.elim
    · exact post.elim
  · exact post.elim
/-! ### o[i] = e, a list -/
def sSetIx (fv fo fi : ES) : SS := fun σ h => (fv σ h).then σ fun d h1 => (fo σ h1).then σ fun x h2 => (fi σ h2).then σ fun i h3 => match x, i with
  | .cell n, .int k => (match h3[n]? with
    | some (.lst xs) => (match ixN xs.length k with
      | some j => .next σ (h3.set n (.lst (xs.set j d)))
      | none => .stuck)
    | _ => .stuck)
  | _, _ => .stuck
theorem qs_setIx {i : Expr} {ve : Expr} (hv : SE X W ve fv) (ho : SE X W o fo) (hi : SE X W i fi) (hs : swapsWithSole [.Subscript o i tpos] ve pos.line X.env = pure false := by rfl) (hw : swappedStores [.Subscript o i tpos] ve X.env = pure none := by rfl)
    (h1 : (assignEach [.Subscript o i tpos] X.env).map (·.2) = [assign (.Subscript o i tpos) X.env] := by rfl)
    (ha : ∀ v, assign (.Subscript o i tpos) X.env v = (do
      let ov ← holding [v] (eval o X.env)
      let iv ← holding [v, ov] (eval i X.env)
      standAt tpos
      holding [v, ov, iv] (setItem ov iv v)
      release [v, ov, iv] []) := by intro _; rfl) (htk : Takes X W := by assumption) : QS X W (.Assign [.Subscript o i tpos] ve pos) (sSetIx fv fo fi) := by
  obtain ⟨tv, a1, a2⟩ := hv
  obtain ⟨to, b1, b2⟩ := ho
  obtain ⟨ti, c1, c2⟩ := hi
  refine ⟨_, ps_asg a1 (pg_sub b1 c1 set_list ha) hs hw h1, ⟨fun rl rs post => a2.thenS rl rs post fun d h1 v φ1 S1 H1 rl1 rs1 st1 r1 post => b2.thenS rl1 rs1 post fun x h2 u φ2 S2 H2 rl2 rs2 st2 r2 post => c2.thenS rl2 rs2 post fun y h3 w φ3 S3 H3 rl3 rs3 st3 r3 post => ?_⟩⟩
  cases x with
  | cell n =>
    cases y with
    | int k =>
      simp only at post
      split at post
      · next xs hx =>
        split at post
        · next j hj =>
          have r2' : Rp X.K φ3 S3 u (.cell n) := Rp.mono st3.prefix st3.sub r2
          have r1' : Rp X.K φ3 S3 v d := Rp.mono (st2.trans st3).prefix (st2.trans st3).sub r1
          obtain ⟨a, ws, rfl, hn, ho, rw_⟩ := rl3.cell r2' hx
          cases (show Rp _ _ _ _ _ from r3)
          obtain ⟨q1, q2⟩ := rl3.put hn (c := .lst (xs.set j d)) (o := .lst (ws.set j v)) ⟨_, rfl, rw_.set r1' j⟩
          exact ⟨a, ws, k, j, rfl, rfl, ho, by rw [rw_.length]; exact hj, post _ φ3 S3 _ q1 rs3 q2⟩
        · exact post.elim
      · exact post.elim
    | _ => exact post.elim
  | _ => exact post.elim

/-! ### raise C('..'), a class of one's own over ValueError -/
structure ExcT (K : PySem.W.Frag) (mg : Str → Option Value) (x : Str) (C : Addr) : Prop where
  g : mg x = some (.ref C)
  exc : PySem.W.excIn K C [.type "ValueError", .type "Exception", .type "BaseException", .type "object"] "ValueError.__new__" = true
  keep : PySem.W.keepIn K (.ref C) = true
  sub : PySem.W.subIn K (.ref C) (.type "BaseException") = some true
  ty : PySem.W.typeIn K (.ref C) = some (.type "type")
def sRaise (C : Str) : SS := fun σ h => .exc ⟨C, none⟩ σ h
theorem qs_raise {x m : Str} {j : Nat} {p p2 p3 : Pos} (T : ExcT X.K X.mg x (He.ga X.K x)) (tk : Takes X W) (hg : Gl X x := by rfl) (hdb : (x == ("__debug__" : Str)) = false := by decide) (hc : X.calm = true := by rfl) :
    QS X W (.Raise (some (.Call (.Name x p) [.Constant (.str m) j p2] [] pos)) none p3) (sRaise x) :=
  ⟨_, ps_raise hc tk (pmk_own PySem.F.excBase_ValueError T.exc T.g T.keep (raises_own T.sub T.ty) hg hdb), ⟨fun {φ S H h σv σ D} rl rs post => post σ (.ref (He.ga X.K x)) none φ S H rl rs (Step.refl _ _ _) ⟨rfl, rfl⟩⟩⟩
end
/-! ### the law's own end -/
theorem law_sp {K : PySem.W.Frag} {sem : List D → Hv → R D} {n : Nat} (hs : ∀ ns : List Int, ns.length ≤ n → sem [.fz (ns.map .int)] [] = .ok (.bl true) []) (H : Hp) (a : Addr) (ns : List Int) (hl : ns.length ≤ n) (hS : SqL K H a (ns.map V.int)) :
    spOf K sem [.ref a] H (fun v _ => v = .bl true) fun _ _ _ => False := by
  refine ⟨[], H, [], [.fz (ns.map .int)], Rel.bare (Ex.refl H), .cons (.fz hS (.of_ints ns)) .nil, ?_⟩
  rw [hs ns hl]
  intro v φ' S' H' r2 st rv
  cases (show Rp _ _ _ _ _ from rv)
  rfl
end
end VD

set_option Elab.async false
set_option linter.all false
set_option maxRecDepth 100000
set_option maxHeartbeats 4000000
namespace VD
open PySem PySem.Spec PyProof.Rows L2
noncomputable section
/-! ### isinstance of plain values -/
def tyName (h : Hv) : D → Option String
  | .non => some "NoneType"
  | .bl _ => some "bool"
  | .int _ => some "int"
  | .str _ => some "str"
  | .lst _ => some "list"
  | .fz _ => some "list"
  | .tup _ => some "tuple"
  | .cell n => match h[n]? with
    | some (.lst _) => some "list"
    | some (.dK _) => some "dict"
    | _ => none
  | .dct _ _ => some "dict"
  | _ => none
theorem tyx_l {K : PySem.W.Frag} {H : Hp} {a : Addr} {vs : List V} (h : SqL K H a vs) : TyX K H (.ref a) (.type "list") := by
  rcases h with (h | ⟨o, h⟩) | ⟨o, its, n, h1, h2, _⟩
  · exact .base (.lst h)
  · exact .base (.frz h)
  · exact .kList h1 h2
theorem tyx_t {K : PySem.W.Frag} {H : Hp} {a : Addr} {vs : List V} (h : SqT K H a vs) : TyX K H (.ref a) (.type "tuple") := by
  rcases h with (h | ⟨o, h⟩) | ⟨o, its, n, h1, h2, _⟩
  · exact .base (.tup h)
  · exact .fTuple h
  · exact .kTuple h1 h2
theorem tyName_ok {K : PySem.W.Frag} {φ : List Addr} {S H : Hp} {h : Hv} {d : D} {v : V} {t : String} (rl : Rel K φ S H h) (r : Rp K φ S v d) (e : tyName h d = some t) : TyX K H v (.type t) := by
  cases r with
  | non => cases e; exact .base .non
  | bl b => cases e; exact .base (.bl b)
  | int i => cases e; exact .base (.int i)
  | str x => cases e; exact .base (.str x)
  | lst h1 h2 => cases e; exact .base (.lst (rl.sub _ _ h1))
  | fz h1 h2 => cases e; exact tyx_l (rl.sub.sql h1)
  | tup h1 h2 => cases e; exact tyx_t (rl.sub.sqt h1)
  | @cell a n h1 =>
    obtain ⟨c, hc⟩ := rl.at h1
    obtain ⟨_, o, ho, rc⟩ := rl.cel _ _ _ h1 hc
    simp only [tyName] at e
    rw [hc] at e
    cases c with
    | lst ds =>
      obtain ⟨vs, rfl, ra⟩ := rc
      cases e
      exact .base (.lst ho)
    | dK kvs =>
      obtain ⟨vs, rfl, _⟩ := rc
      cases e
      exact .base (.dK ho)
    | dF kvs => cases e
    | ins C fs => cases e
    | dN w kvs => cases e
  | dct h1 h2 h3 => cases e; exact .fDict (rl.sub _ _ h1)
  | _ => cases e
section
variable {X : Cx} {W : WX} {K : PySem.W.Frag} {a b c e : Expr} {fa fb fc : ES} {pos p p2 apos : Pos}
def eIsi (T : String) (f : ES) : ES := fun σ h => (f σ h).bind fun d h1 => match (tyName h1 d).bind fun t => kitB t T with
  | some r => .ok (.bl r) h1
  | none => .stuck
theorem se_isi {T : String} {tx : Str} (hm : X.mg "isinstance" = none) (hm2 : X.mg tx = none) (hv : bootBuiltins tx = some (.type T)) (ha : SE X W a fa) (hg : Gl X "isinstance" := by rfl) (hg2 : Gl X tx := by rfl) (hn : tx ≠ "__name__" := by decide) (hdb : (tx == ("__debug__" : Str)) = false := by decide)
    (h1 : starEach [.Name tx p2] X.env = (false, eval (.Name tx p2) X.env) :: starEach [] X.env := by rfl)
    (he : starEach (a :: [.Name tx p2]) X.env = (false, eval a X.env) :: starEach [.Name tx p2] X.env := by rfl) (hpl : (backTo pos (starEach [.Name tx p2] X.env)).any (·.1) = false := by rfl) :
    SE X W (.Call (.Name "isinstance" p) [a, .Name tx p2] [] pos) (eIsi T fa) := by
  obtain ⟨ta, k1, k2⟩ := ha
  have hT : PE X (.Name tx p2) (tC (.ty T)) := pe_bltn hg2 hm2 hv rfl hn hdb
  have hA : PA X [a, .Name tx p2] (tCons ta (tCons (tC (.ty T)) tNil)) := pa_cons k1 (pa_cons hT pa_nil h1) he
  refine ⟨_, pe_callB call_isi hg hm (by decide +kernel) hA (by decide) (by decide) he hpl, ⟨fun rl rs post => k2.bind rl rs post fun d h1 v φ1 S1 H1 rl1 rs1 st rp post => ?_⟩⟩
  cases q : tyName h1 d with
  | none => simp only [q, Option.bind_none] at post; exact post.elim
  | some t =>
    simp only [q, Option.bind_some] at post
    cases q2 : kitB t T with
    | none => simp only [q2] at post; exact post.elim
    | some r =>
      simp only [q2] at post
      exact ⟨v, .ty T, .type t, .type T, r, rfl, .ty T, tyName_ok rl1 rp q, kit_ty q2, post _ φ1 S1 H1 rl1 (Step.refl _ _ _) (.bl r)⟩
/-! ### a < b < c -/
def eChain (o1 o2 : D → D → Hv → R D) (fa fb fc : ES) : ES := fun σ h => (fa σ h).bind fun x h1 => (fb σ h1).bind fun y h2 => (o1 x y h2).bind fun z h3 => match z with
  | .bl true => (fc σ h3).bind fun u h4 => o2 y u h4
  | .bl false => .ok (.bl false) h3
  | _ => .stuck
theorem sn_chain {r r' : R2} {o1 o2 : D → D → Hv → R D} {ta tb tc : TE} (hr : OpS X.K r o1) (hr' : OpS X.K r' o2) (h2 : Sn X.K (repV X.K) W ta fa) (k2 : Sn X.K (repV X.K) W tb fb) (l2 : Sn X.K (repV X.K) W tc fc) : Sn X.K (repV X.K) W (tChain r r' ta tb tc) (eChain o1 o2 fa fb fc) := ⟨fun rl rs post =>
  h2.bind rl rs post fun x h1 v φ1 S1 H1 rl1 rs1 st rp post =>
  k2.bind rl1 rs1 post fun y h2 u φ2 S2 H2 rl2 rs2 st2 rp2 post =>
  hr rl2 (Rp.mono st2.prefix st2.sub rp) rp2 (post.map fun z h3 zv φ3 S3 H3 rl3 st3 rz post => by
    cases z with
    | bl k =>
      cases (show Rp _ _ _ _ _ from rz)
      cases k with
      | true => exact ⟨true, rfl, l2.bind rl3 (rs2.step st3) (Post.up st3 post) fun w h4 wv φ4 S4 H4 rl4 rs4 st4 rp4 post => hr' rl4 (Rp.mono (st3.trans st4).prefix (st3.trans st4).sub rp2) rp4 post⟩
      | false => exact ⟨false, rfl, post _ φ3 S3 H3 rl3 st3 (.bl false)⟩
    | _ => exact post.elim)⟩
theorem se_chain {op op' : CmpOp} {r r' : R2} {o1 o2 : D → D → Hv → R D} (ho : OpR X (compareOp op) r) (hr : OpS X.K r o1) (ho' : OpR X (compareOp op') r') (hr' : OpS X.K r' o2) (ha : SE X W a fa) (hb : SE X W b fb) (hc : SE X W c fc)
    (hm : lastMarks [op, op'] [b, c] = false := by with_unfolding_all rfl) : SE X W (.Compare a [op, op'] [b, c] pos) (eChain o1 o2 fa fb fc) := by
  obtain ⟨ta, h1, h2⟩ := ha
  obtain ⟨tb, k1, k2⟩ := hb
  obtain ⟨tc, l1, l2⟩ := hc
  exact ⟨_, pe_chain ho ho' h1 k1 l1 hm, sn_chain hr hr' h2 k2 l2⟩
theorem st_chain {op op' : CmpOp} {r r' : R2} {o1 o2 : D → D → Hv → R D} (ho : OpR X (compareOp op) r) (hr : OpS X.K r o1) (ho' : OpR X (compareOp op') r') (hr' : OpS X.K r' o2) (ha : SE X W a fa) (hb : SE X W b fb) (hc : SE X W c fc)
    (hm : lastMarks [op, op'] [b, c] = false := by with_unfolding_all rfl) : ST X W (.Compare a [op, op'] [b, c] pos) (toB (eChain o1 o2 fa fb fc)) := by
  obtain ⟨ta, h1, h2⟩ := ha
  obtain ⟨tb, k1, k2⟩ := hb
  obtain ⟨tc, l1, l2⟩ := hc
  exact ⟨_, pt_chain ho ho' h1 k1 l1 hm, sn_B (sn_chain hr hr' h2 k2 l2)⟩
/-! ### texts -/
def signsD (x : Str) : List D := x.cps.toList.map fun c => .str ⟨#[c]⟩
def iS (f : ES) : IS := fun σ h => (f σ h).bind fun d h1 => match d with
  | .str x => .ok (signsD x, always) h1
  | _ => .stuck
theorem qi_str {tg : Expr} (he : SE X W e fa) : QI X W tg e (iS fa) := by
  obtain ⟨ta, h1, h2⟩ := he
  refine ⟨_, pi_str h1, ⟨fun rl rs post => h2.bind rl rs post fun d h1 v φ1 S1 H1 rl1 rs1 st rp post => ?_⟩⟩
  cases d with
  | str x =>
    cases (show Rp _ _ _ _ _ from rp)
    refine ⟨x, rfl, post (Its x) φ1 S1 H1 rl1 (Step.refl _ _ _) ⟨fun {i φ S H h} r2 pr ex _ hi => ?_, fun {φ S H h} r2 pr ex _ => ?_⟩⟩
    · unfold signsD at hi ⊢
      rw [List.length_map, Array.length_toList] at hi
      refine ⟨hi, fun y H' yl => ?_⟩
      obtain ⟨rfl, c, hc, rfl⟩ := yl
      refine ⟨S, .str ⟨#[c]⟩, ?_, r2, Step.refl _ _ _, .str _⟩
      rw [List.getElem?_map, Array.getElem?_toList, hc]
      rfl
    · show x.cps.size ≤ (signsD x).length
      unfold signsD
      rw [List.length_map, Array.length_toList]
      exact Nat.le_refl _
  | _ => exact post.elim
def oFind : D → D → Hv → R D := fun x y h => match x, y with
  | .str a, .str b => .ok (.int (Txt.find a b)) h
  | _, _ => .stuck
theorem se_m1 {id : String} {name : Str} {r : V → List V → Hp → VK → Prop} {ro : D → D → Hv → R D} (slot : Slot "str" name id) (ty : typeOf (.builtin id) = pure (.type "method_descriptor")) (rule : MtR X id r)
    (hr : ∀ {φ S H h x y} {v : V} {u : V} {Q : VK} {E : XK}, Rel X.K φ S H h → Rp X.K φ S v x → Rp X.K φ S u y → Post X.K (repV X.K) φ S H (ro x y h) Q E → r v [u] H Q) (hs0 : ∀ {x y h}, ro x y h ≠ .stuck → ∃ z, x = .str z) (ho : SE X W a fa) (he : SE X W b fb)
    (hs : starEach [b] X.env = [(false, eval b X.env)] := by rfl) (hbase : attributeBase a name X.env (eval a X.env) = eval a X.env := by rfl) (hline : (apos.endLine == pos.line) = true := by rfl) :
    SE X W (.Call (.Attribute a name apos) [b] [] pos) (fun σ h => (fa σ h).bind fun x h1 => match x with
      | .str _ => (fb σ h1).bind fun y h2 => ro x y h2
      | _ => .stuck) := by
  obtain ⟨ta, h1, h2⟩ := ho
  obtain ⟨tb, k1, k2⟩ := he
  refine ⟨_, pe_m1 slot ty rule h1 k1 hs hbase hline, ⟨fun rl rs post => h2.bind rl rs post fun x h1 v φ1 S1 H1 rl1 rs1 st rp post => ?_⟩⟩
  cases x with
  | str z =>
    cases (show Rp _ _ _ _ _ from rp)
    exact ⟨⟨z, rfl⟩, k2.bind rl1 rs1 post fun y h2 u φ2 S2 H2 rl2 rs2 st2 rp2 post => hr rl2 (.str z) rp2 post⟩
  | _ => exact post.elim
def eStr1 (ro : D → D → Hv → R D) (fa fb : ES) : ES := fun σ h => (fa σ h).bind fun x h1 => match x with
      | .str _ => (fb σ h1).bind fun y h2 => ro x y h2
      | _ => .stuck
theorem se_find (ho : SE X W a fa) (he : SE X W b fb) (hs : starEach [b] X.env = [(false, eval b X.env)] := by rfl) (hbase : attributeBase a "find" X.env (eval a X.env) = eval a X.env := by rfl) (hline : (apos.endLine == pos.line) = true := by rfl) :
    SE X W (.Call (.Attribute a "find" apos) [b] [] pos) (eStr1 oFind fa fb) := by
  refine se_m1 PySem.F.slot_str_find PySem.F.type_str_find mt_find (ro := oFind) (fun {φ S H h x y v u Q E} rl rx ry post => ?_) (fun {x y h} q => ?_) ho he hs hbase hline
  · cases rx <;> cases ry <;> first
      | exact post.elim
      | exact ⟨_, _, rfl, rfl, post _ φ S H rl (Step.refl _ _ _) (.int _)⟩
  · cases x <;> first
      | exact ⟨_, rfl⟩
      | exact absurd rfl q
def oJoin : D → D → Hv → R D := fun x y h => match x with
  | .str a => (match (sqOf h y).bind (optAll toS) with
    | some ys => if (ys.map (·.length)).sum + ys.length * a.length ≤ 16777216 then .ok (.str (Txt.join a ys)) h else .stuck
    | none => .stuck)
  | _ => .stuck
theorem se_join (ho : SE X W a fa) (he : SE X W b fb) (hs : starEach [b] X.env = [(false, eval b X.env)] := by rfl) (hbase : attributeBase a "join" X.env (eval a X.env) = eval a X.env := by rfl) (hline : (apos.endLine == pos.line) = true := by rfl) :
    SE X W (.Call (.Attribute a "join" apos) [b] [] pos) (eStr1 oJoin fa fb) := by
  refine se_m1 PySem.F.slot_str_join PySem.F.type_str_join mt_join (ro := oJoin) (fun {φ S H h x y v u Q E} rl rx ry post => ?_) (fun {x y h} q => ?_) ho he hs hbase hline
  · cases rx with
    | str z =>
      simp only [oJoin] at post
      split at post
      · next ys hy =>
        split at post
        · next hz =>
          obtain ⟨xs, q1, q2⟩ := Option.bind_eq_some_iff.mp hy
          obtain ⟨p, vs, rfl, g2, g3⟩ := sqOf_ok rl ry q1
          rw [toSs_ok g3 q2] at g2
          exact ⟨z, p, ys, rfl, rfl, g2, hz, post _ φ S H rl (Step.refl _ _ _) (.str _)⟩
        · exact post.elim
      · exact post.elim
    | _ => exact post.elim
  · cases x <;> first
      | exact ⟨_, rfl⟩
      | exact absurd rfl q
end
/-! ### defs by their names -/
def OkF (P : Program) (w : World) (K : PySem.W.Frag) (mg : Str → Option Value) (base : Heap) (k : Nat) (x : Str) (ps : List Str) (sem : List D → Hv → R D) : Prop :=
  ∃ fd, (∃ oc od osl, K.lookup (He.ga K x) = some ⟨oc, od, .func fd, osl⟩) ∧ FnOk P w K mg base (L2.CX P w) k (He.ga K x) fd ps (spOf K sem) ∧ Binds K fd ps [] ∧ mg x = some (.ref (He.ga K x)) ∧ PySem.W.keepIn K (.ref (He.ga K x)) = true
section
variable {P : Program} {w : World} {K : PySem.W.Frag} {mg : Str → Option Value} {base : Heap}
theorem okF_mk {x : Str} {st : Stmt} {fd : FuncData} {N ps : List Str} {k np nl : Nat} {body : SS} (F : Fun K x x st (He.ga K x) fd) (Sc : FnScope N ps (defScope st)) (hps : ps.length = np) (hN : N.length = np + nl) (g : mg x = some (.ref (He.ga K x))) (b : Binds K fd ps [])
    (hbody : ∀ (cdv : Value) (A : Around) (outer : List Env) (s : Shared) (H : Hp) (E : XK), Room k (A.deeper (envOfC x (defScope st) s.heap.objs.size (He.ga K x) cdv)) →
      QB (cxOf (L2.CX P w) P w K mg base N x (defScope st) (He.ga K x) cdv A outer s H E) (fun cls d _ H' => E cls d H') (defBody st) body) : OkF P w K mg base (k + 1) x ps (fnS np nl body) := ⟨fd, let ⟨oc, od, _, _, _, _, _, _, osl, _, lk, _⟩ := F.ex; ⟨oc, od, osl, lk⟩, fn_ok F Sc hps hN hbody, b, g, F.kp⟩
theorem takes_fn {N : List Str} {qual : Str} {scope : Scope} {f : Addr} {cd : Value} {A : Around} {outer : List Env} {s : Shared} {H : Hp} {E : XK} : Takes (cxOf (L2.CX P w) P w K mg base N qual scope f cd A outer s H E) (fun cls d _ H' => E cls d H') := takes_of rfl rfl rfl rfl
theorem passes_fn {N : List Str} {qual : Str} {scope : Scope} {f : Addr} {cd : Value} {A : Around} {outer : List Env} {s : Shared} {H : Hp} {E : XK} :
    PassesOwn (model (cxOf (L2.CX P w) P w K mg base N qual scope f cd A outer s H E).prog (cxOf (L2.CX P w) P w K mg base N qual scope f cd A outer s H E).w) (cxOf (L2.CX P w) P w K mg base N qual scope f cd A outer s H E).A (cxOf (L2.CX P w) P w K mg base N qual scope f cd A outer s H E).env (cxOf (L2.CX P w) P w K mg base N qual scope f cd A outer s H E).xe :=
  passes_of (X := cxOf (L2.CX P w) P w K mg base N qual scope f cd A outer s H E) (K := fun e s'' => L2.CX P w outer H s E e s'') (E₁ := fun e' s'' => L2.CX P w outer H s E e' s'') rfl
end
/-- how a call is told -/
inductive Cm where
  | P | B | M
def Cm.f : Cm → (List D → Hv → R D) → List D → Hv → R D
  | .P => callP
  | .B => callB
  | .M => callM
theorem cm_ok (c : Cm) {K : PySem.W.Frag} {sem : List D → Hv → R D} {φ : List Addr} {S H : Hp} {h : Hv} {ds : List D} {vs : List V} {Q : VK} {E : XK} (rl : Rel K φ S H h) (ra : RpA K φ S vs ds) (post : Post K (repV K) φ S H (c.f sem ds h) Q E) : spOf K sem vs H Q E := by
  cases c with
  | P => exact spOf_P rl ra post
  | B => exact spOf_B rl ra post
  | M => exact spOf_M rl ra post
theorem se_fn {X : Cx} {W : WX} {k : Nat} {ps : List Str} {sem : List D → Hv → R D} {x : Str} {p pos : Pos} {e : Expr} {es : List Expr} {la : LS} (c : Cm)
    (o : OkF X.prog X.w X.K X.mg X.base k x ps sem) (hr : Room k X.A) (tk : Takes X W) (ha : SA X W (e :: es) la)
    (hg : Gl X x := by rfl) (hdb : (x == ("__debug__" : Str)) = false := by decide) (he : starEach (e :: es) X.env = (false, eval e X.env) :: starEach es X.env := by rfl) (hpl : (backTo pos (starEach es X.env)).any (·.1) = false := by rfl) :
    SE X W (.Call (.Name x p) (e :: es) [] pos) (eCa (c.f sem) la) := by
  obtain ⟨fd, _, F, b, g, kp⟩ := o
  exact se_call (cm_ok c) F hr tk g kp b ha hg hdb he hpl
/-! ### the end -/
theorem cx_false {P : Program} {w : World} {outer : List Env} {H : Hp} {s : Shared} {e : Value} {s' : Shared} (z : L2.CX P w outer H s (fun _ _ _ => False) e s') : False := by
  obtain ⟨_, _, _, _, _, _, _, _, _, _, _, _, z⟩ := z
  exact z
theorem excT_of {K : PySem.W.Frag} {mg : Str → Option Value} {x : Str} (g : mg x = some (.ref (He.ga K x))) (c : PySem.W.excIn K (He.ga K x) He.veBase "ValueError.__new__" = true ∧ PySem.W.keepIn K (.ref (He.ga K x)) = true ∧ PySem.W.subIn K (.ref (He.ga K x)) (.type "BaseException") = some true ∧
    PySem.W.typeIn K (.ref (He.ga K x)) = some (.type "type")) : ExcT K mg x (He.ga K x) := ⟨g, c.1, c.2.1, c.2.2.1, c.2.2.2⟩
theorem law_end {P : Program} {w : World} {K : PySem.W.Frag} {mg : Str → Option Value} {h : Heap} {x : Str} {k n : Nat} {fa : Addr} {sem : List D → Hv → R D} {st : Stmt} (KX : K.In h) (hF : ∃ fd, Fun K "law" "law" st (He.ga K "law") fd) (g : mg "law" = some (.ref (He.ga K "law"))) (hmg : mg "law" = some (.ref fa))
    (hb : ∀ fd : FuncData, Fun K "law" "law" st (He.ga K "law") fd → ∀ (s : Shared) (u : Value), BindsTo s fd ⟨[u], []⟩ [(x, u)])
    (o : ∀ base : Heap, OkF P w K mg base k "law" [x] sem) (hs : ∀ ns : List Int, ns.length ≤ n → sem [.fz (ns.map .int)] [] = .ok (.bl true) []) :
    ∃ (K : PySem.W.Frag) (fd : FuncData) (sp : Sp), K.In h ∧ (∀ (s : Shared) (u : Value), BindsTo s fd ⟨[u], []⟩ [(x, u)]) ∧
        (∀ (H : Hp) (a : Addr) (ns : List Int), ns.length ≤ n → Only H → SqL K H a (ns.map V.int) → sp [.ref a] H (fun v _ => v = .bl true) fun _ _ _ => False) ∧
        ∀ base : Heap, K.In base → base.Ns mainGlobals mg → FnOk P w K mg base (L2.CX P w) k fa fd [x] sp := by
  obtain ⟨fd, F⟩ := hF
  have e := g.symm.trans hmg
  cases e
  refine ⟨K, fd, spOf K sem, KX, hb fd F, fun H a ns hl _ hS => law_sp hs H a ns hl hS, fun base _ _ => ?_⟩
  obtain ⟨fd', ⟨oc, od, osl, lk⟩, F', _⟩ := o base
  obtain ⟨oc2, od2, _, _, _, _, _, _, osl2, _, lk2, _⟩ := F.ex
  rw [lk] at lk2
  have e2 : fd' = fd := by
    injection lk2 with lk2
    injection lk2 with _ _ lk2 _
    injection lk2
  subst e2
  exact F'
/-- list(range(n)) -/
noncomputable def lRg1 (f : ES) : LS := fun σ h => (f σ h).bind fun d h1 => match d with
  | .int n => @ite _ ((-(2 ^ 62) ≤ n ∧ n < 2 ^ 62) ∧ n.toNat ≤ 2 ^ 24) (Classical.propDecidable _) (.ok (rgD 0 n.toNat) h1) .stuck
  | _ => .stuck
theorem rgV_rp {K : PySem.W.Frag} {φ : List Addr} {S : Hp} (n : Nat) : ∀ (f : Nat → Int), RpA K φ S ((List.range n).map fun i => V.int (f i)) ((List.range n).map fun i => D.int (f i)) := by
  induction n with
  | zero => intro f; exact .nil
  | succ n ih =>
    intro f
    rw [List.range_succ_eq_map, List.map_cons, List.map_cons, List.map_map, List.map_map]
    exact .cons (.int _) (ih fun i => f (i + 1))
theorem sl_listRg1 {X : Cx} {W : WX} {a : Expr} {fa : ES} {p p2 pos pos2 : Pos} (hml : X.mg "list" = none) (hmr : X.mg "range" = none) (ha : SE X W a fa) (hgl : Gl X "list" := by rfl) (hgr : Gl X "range" := by rfl) (hc : X.calm = true := by rfl)
    (na : starEach [a] X.env = (false, eval a X.env) :: starEach [] X.env := by rfl) (nb : starEach [Expr.Call (.Name "range" p2) [a] [] pos2] X.env = (false, eval (Expr.Call (.Name "range" p2) [a] [] pos2) X.env) :: starEach [] X.env := by rfl) :
    SL X W (.Call (.Name "list" p) [.Call (.Name "range" p2) [a] [] pos2] [] pos) (lRg1 fa) := by
  obtain ⟨ta, h1, h2⟩ := ha
  refine ⟨_, pe_listRg hc hgl hml (prg_1 hgr hmr h1 na) nb, ⟨fun rl rs post => h2.bind rl rs post fun d h1 v φ1 S1 H1 rl1 rs1 st rp post => ?_⟩⟩
  cases d with
  | int n =>
    cases (show Rp _ _ _ _ _ from rp)
    by_cases q : (-(2 ^ 62) ≤ n ∧ n < 2 ^ 62) ∧ n.toNat ≤ 2 ^ 24
    · simp only [if_pos q] at post
      refine ⟨n, rfl, ⟨by decide, by decide, q.1.1, q.1.2, by rw [Int.sub_zero]; exact q.2⟩, fun p hp => ?_⟩
      obtain ⟨r2, s2⟩ := rl1.hold (o := .lst (rgV 0 n)) hp
      refine post (.ref p) φ1 _ _ r2 s2 ⟨p, rgV 0 n, rfl, hp, upd_same, rl1.snone hp, rl1.notin hp, ?_⟩
      unfold rgV rgD
      rw [Int.sub_zero]
      exact rgV_rp _ _
    · simp only [if_neg q] at post
      exact post.elim
  | _ => exact post.elim
/-- a law's end, where what a raise leaves may lean on the world -/
theorem walk_own {lw : PySem.W.OpenLaw} {num lev : Nat} {pr : Program} {ls : List Str} {X1 : (Str → Option Value) → Heap → Prop} {Y1 : World → Heap → Prop} {dr : DefRec} {CC : World → CXT} {nm : Str} (e1 : lw.most = some num) (e2 : num ≤ sizeLine) (e3 : dr.params.defaults = []) (e4 : Room lev callerA)
    (body : ∀ (w : World) (mg : Str → Option Value) (fa : Addr) (h : Heap), Y1 w h → h.Ns mainGlobals mg → mg dr.name = some (.ref fa) → ∃ (K : PySem.W.Frag) (fd : FuncData) (sp : Sp), K.In h ∧ (∀ (s : Shared) (u : Value), BindsTo s fd ⟨[u], []⟩ [(nm, u)]) ∧ (∀ (H : Hp) (a : Addr) (ns : List Int), ns.length ≤ num → Only H → SqL K H a (ns.map V.int) → sp [.ref a] H (fun v _ => v = .bl true) fun _ _ _ => False) ∧ ∀ base : Heap, K.In base → base.Ns mainGlobals mg → FnOk lw.prog w K mg base (CC w) lev fa fd [nm] sp)
    (noX : ∀ (w : World) (H : Hp) (s : Shared) (e : Value) (s' : Shared), CC w [] H s (fun _ _ _ => False) e s' → False) : PySem.W.WalkO pr ls X1 Y1 lw.row.toRowW dr [] (fun f vs => PySem.call f vs) := by
  refine Att.attach_call e1 e3 fun w s0 s1 mg mb fa ob pm cdv doc ad vals nms gg yy q1 q2 q3 q4 q5 q6 q7 q8 => ?_
  obtain ⟨K, fd, sp, kx, kb, ks, kf⟩ := body w mg fa _ yy gg.T.g q4
  exact law_call kx gg.T.g gg.T.b gg.T.builtins gg.T.nolimit q8 q5 q6 (Nat.le_trans q7 e2) e4 kf kb (fun H hO hS => ks H ad nms q7 hO hS) fun H e s' => noX w H s1 e s'
end
end VD

set_option Elab.async false
set_option linter.all false
set_option maxRecDepth 100000
set_option maxHeartbeats 4000000
namespace VD
open PySem PySem.Spec PyProof.Rows L2
noncomputable section
/-! ### defs whose new objects the caller goes on changing -/
mutual
def shD (n : Nat) : D → D
  | .lst ds => .lst (shL n ds)
  | .fz ds => .fz (shL n ds)
  | .tup ds => .tup (shL n ds)
  | .cell m => .cell (n + m)
  | .non => .non
  | .bl b => .bl b
  | .int i => .int i
  | .str x => .str x
  | .raw v => .raw v
  | .dct ks ds => .dct ks (shL n ds)
  | .obj c ks ds => .obj c ks (shL n ds)
  | .exv a dd f d => .exv a dd f (shD n d)
def shL (n : Nat) : List D → List D
  | [] => []
  | d :: ds => shD n d :: shL n ds
end
def shP {κ : Type} (n : Nat) (kvs : List (κ × D)) : List (κ × D) := kvs.map fun p => (p.1, shD n p.2)
def shC (n : Nat) : Cell → Cell
  | .lst ds => .lst (shL n ds)
  | .dK kvs => .dK (shP n kvs)
  | .dF kvs => .dF (shP n kvs)
  | .ins C fs => .ins C (shP n fs)
  | .dN w kvs => .dN w (shP n kvs)
theorem shL_eq (n : Nat) : ∀ ds : List D, shL n ds = ds.map (shD n)
  | [] => rfl
  | d :: ds => by rw [shL, shL_eq n ds]; rfl
section
variable {K : PySem.W.Frag} {φ ψ : List Addr} {S : Hp}
mutual
theorem Rp.sh : ∀ {v : V} {d : D}, Rp K ψ S v d → Rp K (φ ++ ψ) S v (shD φ.length d)
  | _, _, .non => .non
  | _, _, .bl b => .bl b
  | _, _, .int i => .int i
  | _, _, .str x => .str x
  | _, _, .lst h r => .lst h (RpA.sh r)
  | _, _, .fz h r => .fz h (RpA.sh r)
  | _, _, .tup h r => .tup h (RpA.sh r)
  | _, _, .cell (n := n) h => .cell (by rw [List.getElem?_append_right (Nat.le_add_right _ _), Nat.add_sub_cancel_left]; exact h)
  | _, _, .raw v => .raw v
  | _, _, .dct h k r => .dct h k (RpA.sh r)
  | _, _, .obj h k r => .obj h k (RpA.sh r)
  | _, _, .exv h r => .exv h (Rp.sh r)
theorem RpA.sh : ∀ {vs : List V} {ds : List D}, RpA K ψ S vs ds → RpA K (φ ++ ψ) S vs (shL φ.length ds)
  | _, _, .nil => .nil
  | _, _, .cons r t => .cons (Rp.sh r) (RpA.sh t)
end
theorem shP_1 {κ : Type} (n : Nat) (kvs : List (κ × D)) : (shP n kvs).map (·.1) = kvs.map (·.1) := by
  unfold shP
  rw [List.map_map]
  rfl
theorem shP_2 {κ : Type} (n : Nat) (kvs : List (κ × D)) : (shP n kvs).map (·.2) = shL n (kvs.map (·.2)) := by
  unfold shP
  rw [List.map_map, shL_eq, List.map_map]
  rfl
theorem RpC.sh {c : Cell} {o : HO} (h : RpC K ψ S c o) : RpC K (φ ++ ψ) S (shC φ.length c) o := by
  cases c with
  | lst ds =>
    obtain ⟨vs, h1, h2⟩ := h
    exact ⟨vs, h1, h2.sh⟩
  | dK kvs =>
    obtain ⟨vs, h1, h2, h3⟩ := h
    exact ⟨vs, h1, by rw [shP_1]; exact h2, by rw [shP_2]; exact h3.sh⟩
  | dF kvs =>
    obtain ⟨od, vs, h1, h2, h3⟩ := h
    exact ⟨od, vs, h1, by rw [shP_1]; exact h2, by rw [shP_2]; exact h3.sh⟩
  | ins C fs =>
    obtain ⟨dx, vs, h1, h2, h3⟩ := h
    exact ⟨dx, vs, h1, by rw [shP_1]; exact h2, by rw [shP_2]; exact h3.sh⟩
  | dN w kvs =>
    obtain ⟨a, xs, h1, h2, h3, h4⟩ := h
    exact ⟨a, xs, h1, by rw [shP_1]; exact h2, h3, by rw [shP_2]; exact h4.sh⟩
end
/-- the call: run on no objects, its new ones behind the caller's -/
def callC (sem : List D → Hv → R D) (ds : List D) (h : Hv) : R D := match pureD ds with
  | some ds' => (match sem ds' [] with
    | .ok d h' => .ok (shD h.length d) (h ++ h'.map (shC h.length))
    | .exc x [] => .exc x h
    | _ => .stuck)
  | none => .stuck
theorem join_rel {K : PySem.W.Frag} {φ φ' : List Addr} {S H S' H' : Hp} {h h' : Hv} (rl : Rel K φ S H h) (r2 : Rel K φ' S' H' h') (st : Step [] S H φ' S' H') : Rel K (φ ++ φ') S' H' (h ++ h'.map (shC h.length)) ∧ Step φ S H (φ ++ φ') S' H' := by
  obtain ⟨ψ, e, hn⟩ := st.pre
  rw [List.nil_append] at e
  subst e
  have dis : ∀ a ∈ φ, a ∉ φ' := fun a ha hb => by
    have := (rl.mem ha).2
    exact this (hn a hb)
  refine ⟨⟨by rw [List.length_append, List.length_append, List.length_map, rl.len, r2.len], r2.sub, List.nodup_append.mpr ⟨rl.nd, r2.nd, fun a ha b hb e => dis a ha (e ▸ hb)⟩, fun n a c e1 e2 => ?_⟩, ⟨⟨φ', rfl, hn⟩, st.sub, st.old, fun a o e _ => st.keep a o e (fun z => nomatch z), st.there⟩⟩
  by_cases q : n < φ.length
  · rw [List.getElem?_append_left q] at e1
    rw [List.getElem?_append_left (by rw [← rl.len]; exact q)] at e2
    obtain ⟨h1, o, h2, h3⟩ := rl.cel n a c e1 e2
    exact ⟨(st.old a (by rw [h2]; exact fun z => nomatch z)).trans h1, o, st.keep a o h2 (fun z => nomatch z), h3.mono ⟨φ', rfl⟩ st.sub⟩
  · rw [List.getElem?_append_right (by omega)] at e1
    rw [List.getElem?_append_right (by rw [← rl.len]; omega), ← rl.len, List.getElem?_map] at e2
    obtain ⟨c0, hc0, rfl⟩ := Option.map_eq_some_iff.mp e2
    obtain ⟨h1, o, h2, h3⟩ := r2.cel _ a c0 e1 hc0
    exact ⟨h1, o, h2, h3.sh⟩
theorem spOf_C {K : PySem.W.Frag} {sem : List D → Hv → R D} {φ : List Addr} {S H : Hp} {h : Hv} {ds : List D} {vs : List V} {Q : VK} {E : XK} (rl : Rel K φ S H h) (ra : RpA K φ S vs ds) (post : Post K (repV K) φ S H (callC sem ds h) Q E) : spOf K sem vs H Q E := by
  unfold callC at post
  split at post
  · next ds' q =>
    refine ⟨[], S, [], ds', Rel.bare rl.sub, frzA_of (n0 := 0) (h := []) (fun d v d' r e => frz0_ok 12 d v d' r e) ds vs ds' ra q, ?_⟩
    split at post
    · next d h' hs =>
      rw [hs]
      intro v φ' S' H' r2 st rv
      obtain ⟨r3, s3⟩ := join_rel rl r2 st
      rw [← rl.len] at post r3
      exact post v _ _ _ r3 s3 rv.sh
    · next x hs =>
      rw [hs]
      intro cls dd φ' S' H' r2 st rx
      obtain ⟨r3, s3⟩ := join_rel rl r2 st
      have e : φ' = [] := List.length_eq_zero_iff.mp r2.len
      subst e
      rw [List.append_nil] at r3 s3
      rw [List.map_nil, List.append_nil] at r3
      refine post cls dd _ _ _ r3 s3 ⟨rx.1, ?_⟩
      have rx2 := rx.2
      cases hp : x.pay with
      | none => rw [hp] at rx2; exact rx2
      | some p =>
        rw [hp] at rx2
        obtain ⟨dx, v, e2, e3, rv⟩ := rx2
        exact ⟨dx, v, e2, e3, Rp.mono ⟨φ, rfl⟩ (Ex.refl _) rv⟩
    · exact post.elim
  · exact post.elim
def fnU (np nl : Nat) (body : SS) : List D → Hv → R D := fun ds h => if ds.length = np then (match body (ds.map some ++ List.replicate nl none) h with
  | .ret d h' => .ok d h'
  | .exc x _ h' => exitX h.length x h'
  | _ => .stuck) else .stuck
theorem fnU_len {np nl : Nat} {body : SS} {ds : List D} {h : Hv} (e : fnU np nl body ds h ≠ .stuck) : ds.length = np := by
  unfold fnU at e
  split at e
  · next q => exact q
  · exact absurd rfl e
section
variable {P : Program} {w : World} {K : PySem.W.Frag} {mg : Str → Option Value} {base : Heap}
theorem fnU_ok {x qual : Str} {st : Stmt} {f : Addr} {fd : FuncData} {N ps : List Str} {k np nl : Nat} {body : SS} (F : Fun K x qual st f fd) (Sc : FnScope N ps (defScope st)) (hps : ps.length = np) (hN : N.length = np + nl)
    (hbody : ∀ (cdv : Value) (A : Around) (outer : List Env) (s : Shared) (H : Hp) (E : XK), Room k (A.deeper (envOfC qual (defScope st) s.heap.objs.size f cdv)) →
      QB (cxOf (L2.CX P w) P w K mg base N qual (defScope st) f cdv A outer s H E) (fun cls d _ H' => E cls d H') (defBody st) body) : FnOk P w K mg base (L2.CX P w) (k + 1) f fd ps (spOf K (fnU np nl body)) := by
  refine F.okX Sc (fun vs H Q E h => ?_) (fun cdv A outer s H vs Q E hr h => ?_)
  · obtain ⟨φ, S, h, ds, rl, ra, post⟩ := h
    rw [ra.length, hps]
    refine fnU_len (nl := nl) (body := body) (h := h) fun z => ?_
    rw [z] at post
    exact post.elim
  · obtain ⟨φ, S, h, ds, rl, ra, post⟩ := h
    obtain ⟨t, h1, h2⟩ := hbody cdv A outer s H E hr
    refine ⟨t, h1, h2.run rl (relS_start ra nl N (by
      have hl : ds.length = np := fnU_len (nl := nl) (body := body) (h := h) fun z => by
        rw [z] at post
        exact post.elim
      rw [hl]
      exact hN)) ?_⟩
    unfold fnU at post
    have hl : ds.length = np := by
      refine Classical.byContradiction fun z => ?_
      rw [if_neg z] at post
      exact post.elim
    rw [if_pos hl] at post
    have en : h.length = φ.length := rl.len.symm
    cases hb : body (ds.map some ++ List.replicate nl none) h with
    | next σ' h' => rw [hb] at post; exact post.elim
    | ret d h' =>
      rw [hb] at post
      exact fun v φ' S' H' r2 st rv => post v φ' S' H' r2 st rv
    | brk σ' h' => rw [hb] at post; exact post.elim
    | cont σ' h' => rw [hb] at post; exact post.elim
    | stuck => rw [hb] at post; exact post.elim
    | exc x σ' h' =>
      rw [hb] at post
      intro σ1 cls dd φ' S' H' r2 _ st rx
      simp only [exitX] at post
      obtain ⟨s2, _⟩ := exit_step st r2
      obtain ⟨e1, rx⟩ := rx
      cases hp : x.pay with
      | none =>
        simp only [hp] at post rx
        split at post
        · next h'' q2 =>
          split at post
          · next hn =>
            rw [en] at q2 hn
            exact post cls dd _ _ H' (exit_rel r2 hn q2) s2 ⟨e1, by rw [hp]; exact rx⟩
          · exact post.elim
        · exact post.elim
      | some p =>
        obtain ⟨fl, d⟩ := p
        simp only [hp] at post rx
        obtain ⟨dx, v, e2, e3, rv⟩ := rx
        split at post
        · next d' h'' q1 q2 =>
          split at post
          · next hn =>
            rw [en] at q1 q2 hn
            exact post cls dd _ _ H' (exit_rel r2 hn q2) s2 ⟨e1, dx, v, e2, still_ex r2 _ _ e3, frz_ok r2 _ _ _ _ rv q1⟩
          · exact post.elim
        · exact post.elim
theorem okU_mk {x : Str} {st : Stmt} {fd : FuncData} {N ps : List Str} {k np nl : Nat} {body : SS} (F : Fun K x x st (He.ga K x) fd) (Sc : FnScope N ps (defScope st)) (hps : ps.length = np) (hN : N.length = np + nl) (g : mg x = some (.ref (He.ga K x))) (b : Binds K fd ps [])
    (hbody : ∀ (cdv : Value) (A : Around) (outer : List Env) (s : Shared) (H : Hp) (E : XK), Room k (A.deeper (envOfC x (defScope st) s.heap.objs.size (He.ga K x) cdv)) →
      QB (cxOf (L2.CX P w) P w K mg base N x (defScope st) (He.ga K x) cdv A outer s H E) (fun cls d _ H' => E cls d H') (defBody st) body) : OkF P w K mg base (k + 1) x ps (fnU np nl body) := ⟨fd, let ⟨oc, od, _, _, _, _, _, _, osl, _, lk, _⟩ := F.ex; ⟨oc, od, osl, lk⟩, fnU_ok F Sc hps hN hbody, b, g, F.kp⟩
end
theorem se_fnC {X : Cx} {W : WX} {k : Nat} {ps : List Str} {sem : List D → Hv → R D} {x : Str} {p pos : Pos} {e : Expr} {es : List Expr} {la : LS} (o : OkF X.prog X.w X.K X.mg X.base k x ps sem) (hr : Room k X.A) (tk : Takes X W) (ha : SA X W (e :: es) la)
    (hg : Gl X x := by rfl) (hdb : (x == ("__debug__" : Str)) = false := by decide) (he : starEach (e :: es) X.env = (false, eval e X.env) :: starEach es X.env := by rfl) (hpl : (backTo pos (starEach es X.env)).any (·.1) = false := by rfl) : SE X W (.Call (.Name x p) (e :: es) [] pos) (eCa (callC sem) la) := by
  obtain ⟨fd, _, F, b, g, kp⟩ := o
  exact se_call spOf_C F hr tk g kp b ha hg hdb he hpl
end
end VD

set_option Elab.async false
set_option linter.all false
set_option maxRecDepth 100000
set_option maxHeartbeats 4000000
namespace VD
open PySem PySem.Spec PyProof.Rows L2
noncomputable section
/-! ### try, except -/
/-- the canonical reading of a text whose computing is known -/
def TSof (K : PySem.W.Frag) (W : WX) (ss : SS) : TS := fun D σ H => ∃ φ S h σv, Rel K φ S H h ∧ RelS K φ S σv σ ∧ PostS K φ S H (ss σv h) D W
theorem psof {X : Cx} {W : WX} {st : List Stmt} {ss : SS} (q : QB X W st ss) : PSs X st (TSof X.K W ss) := by
  obtain ⟨t, h1, h2⟩ := q
  refine ⟨fun pins s σ H D I h => ?_⟩
  obtain ⟨φ, S, hv, σv, rl, rs, post⟩ := h
  exact h1.run pins s σ H D I (h2.run rl rs post)
/-- a slot forgotten behind the suite -/
def wipeR (i : Nat) (r : RS) : RS := match r with
  | .next σ h => .next (σ.set i none) h
  | .brk σ h => .brk (σ.set i none) h
  | .cont σ h => .cont (σ.set i none) h
  | .ret d h => .ret d h
  | _ => .stuck
/-- what the slot of a caught error holds -/
def exD (a dd : Addr) : Option (Str × D) → D
  | none => .raw (.ref a)
  | some (f, d) => .exv a dd f d
abbrev exM (a dd : Addr) (p : Option (Str × D)) : Option D := some (exD a dd p)
def exA (dd : Addr) : Option (Str × D) → Option Addr
  | none => none
  | some _ => some dd
/-- a suite's end, where it is the same whatever address the error has -/
def tryA (i : Nat) (p : Option (Str × D)) (s : Addr → Addr → SS) (σ : VS) (h : Hv) : RS := @dite RS (∃ r, ∀ a dd, wipeR i (s a dd (σ.set i (exM a dd p)) h) = r) (Classical.propDecidable _) (fun z => Classical.choose z) (fun _ => .stuck)
theorem tryA_eq {i : Nat} {p : Option (Str × D)} {s : Addr → Addr → SS} {σ : VS} {h : Hv} {r : RS} (e : ∀ a dd, wipeR i (s a dd (σ.set i (exM a dd p)) h) = r) : tryA i p s σ h = r := by
  have z : ∃ r, ∀ a dd, wipeR i (s a dd (σ.set i (exM a dd p)) h) = r := ⟨r, e⟩
  unfold tryA
  rw [dif_pos z]
  rw [← Classical.choose_spec z 0 0]
  exact e 0 0
theorem tryA_at {i : Nat} {p : Option (Str × D)} {s : Addr → Addr → SS} {σ : VS} {h : Hv} (n : tryA i p s σ h ≠ .stuck) (a dd : Addr) : wipeR i (s a dd (σ.set i (exM a dd p)) h) = tryA i p s σ h := by
  by_cases z : ∃ r, ∀ a dd, wipeR i (s a dd (σ.set i (exM a dd p)) h) = r
  · obtain ⟨r, e⟩ := z
    rw [tryA_eq e]
    exact e a dd
  · unfold tryA at n
    rw [dif_neg z] at n
    exact absurd rfl n
/-- try: body; except y as (slot i): suite; tb tells whether a class is under another -/
def sTryAs (tb : Str → Str → Option Bool) (y : Str) (i : Nat) (suite : Xn → Addr → Addr → SS) (body : SS) : SS := fun σ h => match body σ h with
  | .exc x σ' h' => (match tb x.cls y with
    | some true => tryA i x.pay (suite x) σ' h'
    | some false => .exc x σ' h'
    | none => .stuck)
  | r => r
def W00 : WX := fun _ _ _ _ => False
/-- what the table says is so -/
def TabOk (K : PySem.W.Frag) (tb : Str → Str → Option Bool) : Prop := ∀ x y b, tb x y = some b → PySem.W.exmOne K (.ref (He.ga K x)) (.ref (He.ga K y)) = some b
theorem qs_try_as {X : Cx} {W : WX} {y n : Str} {i : Nat} {body suite : List Stmt} {b₀ : Stmt} {np pos pos' : Pos} {tb : Str → Str → Option Bool} {bs : SS} {den : Xn → Addr → Addr → SS} (tk : Takes X W) (tok : TabOk X.K tb) (g : X.mg y = some (.ref (He.ga X.K y)))
    (hb : ∀ (W : WX) (pn : List (Addr × Obj)) (xe : Value → Shared → Prop), Takes (X.tr pn xe) W → PassesOwn (model X.prog X.w) X.A X.env xe → QB (X.tr pn xe) W body bs)
    (hsu : ∀ (x : Xn) (a dd : Addr) (oe : Obj) (pn : List (Addr × Obj)), tb x.cls y = some true → Zc (.ref (He.ga X.K x.cls)) (exA dd x.pay) oe → (∃ vs, oe.data = .fields vs) → QB (X.suite a ((a, oe) :: pn)) W00 (b₀ :: suite) (den x a dd))
    (hN : X.N.Nodup) (hi : X.N[i]? = some n := by rfl) (hs : X.stack = X.env :: X.outer := by rfl) (hf : X.env.frame = some X.env.locals := by rfl) (hln : X.env.kindOf n = some .local := by rfl) (hg : Gl X y := by rfl) (hdb : (y == ("__debug__" : Str)) = false := by decide) :
    QS X W (.Try body [.ExceptHandler (some (.Name y np)) (some n) (b₀ :: suite) pos'] [] [] pos) (sTryAs tb y i den bs) := by
  refine ⟨_, ps_try_as (ts := fun a cls d D σ H => ∃ (x : Xn) (dd : Addr), tb x.cls y = some true ∧ cls = .ref (He.ga X.K x.cls) ∧ d = exA dd x.pay ∧ TSof X.K W00 (den x a dd) D σ H) (tb := fun W => TSof X.K W bs) (Wout := W) hs hf hN hi hln ⟨hg, hdb, .inl g⟩ tk (fun W pn xe t1 t2 => psof (hb W pn xe t1 t2)) (fun a oe cls d pn z hfl => ⟨fun pins s σ H D I h => ?_⟩), ⟨fun {φ S H h σv σ D} rl rs post => ?_⟩⟩
  · obtain ⟨x, dd, hc, rfl, rfl, h⟩ := h
    exact (psof (hsu x a dd oe pn hc z hfl)).run pins s σ H D I h
  · refine ⟨φ, S, h, σv, rl, rs, ?_⟩
    unfold sTryAs at post
    cases qb : bs σv h with
    | next σ' h' => simp only [qb] at post; exact post
    | brk σ' h' => simp only [qb] at post; exact post
    | cont σ' h' => simp only [qb] at post; exact post
    | ret d h' => simp only [qb] at post; exact post
    | stuck => simp only [qb] at post; exact post.elim
    | exc x σ' h' =>
      simp only [qb] at post
      intro σ1 cls dd φ' S' H' r2 rs2 st rx
      obtain ⟨e1, rx2⟩ := rx
      subst e1
      cases qt : tb x.cls y with
      | none => simp only [qt] at post; exact post.elim
      | some b =>
        refine ⟨b, tok _ _ _ qt, fun hb1 a ha => ?_, fun hb1 => ?_⟩
        · subst hb1
          simp only [qt] at post
          have nst : tryA i x.pay (den x) σ' h' ≠ .stuck := fun z => by rw [z] at post; exact post.elim
          obtain ⟨d0, ed, rm⟩ : ∃ d0, dd = exA d0 x.pay ∧ Rp X.K φ' S' (.ref a) (exD a d0 x.pay) := by
            cases qp : x.pay with
            | none =>
              rw [qp] at rx2
              exact ⟨0, rx2, .raw _⟩
            | some p =>
              obtain ⟨f, d⟩ := p
              rw [qp] at rx2
              obtain ⟨dx, v, e1, e2, e3⟩ := rx2
              exact ⟨dx, e1, .exv e2 e3⟩
          refine ⟨x, d0, qt, rfl, ed, φ', S', h', σ'.set i (exM a d0 x.pay), r2, rs2.set rm i, ?_⟩
          rw [← tryA_at nst a d0] at post
          cases qd : den x a d0 (σ'.set i (exM a d0 x.pay)) h' with
          | next σ2 h2 =>
            simp only [qd, wipeR] at post
            exact fun σ3 φ3 S3 H3 r3 rs3 st3 => post _ φ3 S3 H3 r3 (rs3.unset i none) (st.trans st3)
          | brk σ2 h2 =>
            simp only [qd, wipeR] at post
            exact fun σ3 φ3 S3 H3 r3 rs3 st3 => post _ φ3 S3 H3 r3 (rs3.unset i none) (st.trans st3)
          | cont σ2 h2 =>
            simp only [qd, wipeR] at post
            exact fun σ3 φ3 S3 H3 r3 rs3 st3 => post _ φ3 S3 H3 r3 (rs3.unset i none) (st.trans st3)
          | ret d h2 =>
            simp only [qd, wipeR] at post
            exact fun v φ3 S3 H3 r3 st3 rv => post v φ3 S3 H3 r3 (st.trans st3) rv
          | exc x2 σ2 h2 => simp only [qd, wipeR] at post; exact post.elim
          | stuck => simp only [qd, wipeR] at post; exact post.elim
        · subst hb1
          simp only [qt] at post
          exact post σ1 (.ref (He.ga X.K x.cls)) dd φ' S' H' r2 rs2 st ⟨rfl, rx2⟩
/-- try: body; except y: suite -/
def sTryO (tb : Str → Str → Option Bool) (y : Str) (suite : SS) (body : SS) : SS := fun σ h => match body σ h with
  | .exc x σ' h' => (match tb x.cls y with
    | some true => (match suite σ' h' with
      | .exc _ _ _ => .stuck
      | r => r)
    | some false => .exc x σ' h'
    | none => .stuck)
  | r => r
theorem qs_try_only {X : Cx} {W : WX} {y : Str} {body suite : List Stmt} {b₀ : Stmt} {np pos pos' : Pos} {tb : Str → Str → Option Bool} {bs : SS} {den : SS} (tk : Takes X W) (tok : TabOk X.K tb) (g : X.mg y = some (.ref (He.ga X.K y)))
    (hb : ∀ (W : WX) (pn : List (Addr × Obj)) (xe : Value → Shared → Prop), Takes (X.tr pn xe) W → PassesOwn (model X.prog X.w) X.A X.env xe → QB (X.tr pn xe) W body bs)
    (hsu : ∀ (a : Addr) (oe : Obj) (pn : List (Addr × Obj)), QB (X.suite a ((a, oe) :: pn)) W00 (b₀ :: suite) den)
    (hs : X.stack = X.env :: X.outer := by rfl) (hf : X.env.frame = some X.env.locals := by rfl) (hg : Gl X y := by rfl) (hdb : (y == ("__debug__" : Str)) = false := by decide) :
    QS X W (.Try body [.ExceptHandler (some (.Name y np)) none (b₀ :: suite) pos'] [] [] pos) (sTryO tb y den bs) := by
  refine ⟨_, ps_try_only (ts := fun a cls d D σ H => TSof X.K W00 den D σ H) (tb := fun W => TSof X.K W bs) (Wout := W) hs hf ⟨hg, hdb, .inl g⟩ tk (fun W pn xe t1 t2 => psof (hb W pn xe t1 t2)) (fun a oe cls d pn z hfl => ⟨fun pins s σ H D I h => ?_⟩), ⟨fun {φ S H h σv σ D} rl rs post => ?_⟩⟩
  · exact (psof (hsu a oe pn)).run pins s σ H D I h
  · refine ⟨φ, S, h, σv, rl, rs, ?_⟩
    unfold sTryO at post
    cases qb : bs σv h with
    | next σ' h' => simp only [qb] at post; exact post
    | brk σ' h' => simp only [qb] at post; exact post
    | cont σ' h' => simp only [qb] at post; exact post
    | ret d h' => simp only [qb] at post; exact post
    | stuck => simp only [qb] at post; exact post.elim
    | exc x σ' h' =>
      simp only [qb] at post
      intro σ1 cls dd φ' S' H' r2 rs2 st rx
      obtain ⟨e1, rx2⟩ := rx
      subst e1
      cases qt : tb x.cls y with
      | none => simp only [qt] at post; exact post.elim
      | some b =>
        refine ⟨b, tok _ _ _ qt, fun hb1 a ha => ?_, fun hb1 => ?_⟩
        · subst hb1
          simp only [qt] at post
          refine ⟨φ', S', h', σ', r2, rs2, ?_⟩
          cases qd : den σ' h' with
          | next σ2 h2 =>
            simp only [qd] at post
            exact PostS.up st post
          | brk σ2 h2 =>
            simp only [qd] at post
            exact PostS.up st post
          | cont σ2 h2 =>
            simp only [qd] at post
            exact PostS.up st post
          | ret d h2 =>
            simp only [qd] at post
            exact PostS.up st post
          | exc x2 σ2 h2 => simp only [qd] at post; exact post.elim
          | stuck => simp only [qd] at post; exact post.elim
        · subst hb1
          simp only [qt] at post
          exact post σ1 (.ref (He.ga X.K x.cls)) dd φ' S' H' r2 rs2 st ⟨rfl, rx2⟩
/-! ### facts of classes -/
/-- what is asked of the classes: one's own exceptions; one under another; isinstance -/
inductive Ef where
  | exc (x : Str)
  | sub (x y : Str) (b : Bool)
  | isa (x y : Str) (b : Bool)
  | isT (x : Str) (T : String) (b : Bool)
  | oex (x : Str)
  | nof (x f : Str)
  | bi (x : Str)
def excB (K : PySem.W.Frag) (D : Addr) : Bool := decide (PySem.W.findIn K (.ref D) "__getattribute__" = some (some (.builtin "BaseException.__getattribute__"))) && (decide (PySem.W.findIn K (.ref D) "__getattr__" = some none) && (decide (PySem.W.subIn K (.ref D) (.type "BaseException") = some true) && (PySem.W.hasDictIn K D && (decide (PySem.W.findIn K (.ref D) "__class__" = some (some (.builtin "object.__class__"))) && (decide (PySem.W.specialIn K (.builtin "object.__class__") "__get__" = some (some (.builtin "getset_descriptor.__get__"))) && (decide (PySem.W.takesIn K (.builtin "object.__class__") = some true) && decide (PySem.W.mroIn K D (.type "object") = some true)))))))
theorem and_of {a b : Bool} (h : (a && b) = true) : a = true ∧ b = true := by
  cases a <;> cases b <;> first | exact ⟨rfl, rfl⟩ | cases h
theorem excB_ok {K : PySem.W.Frag} {D : Addr} (h : excB K D = true) : ExcC K D := by
  unfold excB at h
  obtain ⟨a1, h⟩ := and_of h
  obtain ⟨a2, h⟩ := and_of h
  obtain ⟨a3, h⟩ := and_of h
  obtain ⟨a4, h⟩ := and_of h
  obtain ⟨a5, h⟩ := and_of h
  obtain ⟨a6, h⟩ := and_of h
  obtain ⟨a7, a8⟩ := and_of h
  exact ⟨of_decide_eq_true a1, of_decide_eq_true a2, of_decide_eq_true a3, a4, of_decide_eq_true a5, of_decide_eq_true a6, of_decide_eq_true a7, of_decide_eq_true a8⟩
/-- a class of errors with an __init__ of its own -/
def oexB (K : PySem.W.Frag) (C : Addr) : Bool := (match K.lookup C with
  | some ⟨.type "type", _, .cls cd, sl⟩ => (match cd.mro, sl.toList with
    | .ref C' :: bm, [_, _, _, _, some (.builtin n), _] => decide (C' = C) && (decide (n = "ValueError.__new__") && (!cd.hasDel && (cd.hasDict && PySem.HandSPX.refsVE bm)))
    | _, _ => false)
  | _ => false) && (decide (PySem.W.findIn K (.ref C) "__setattr__" = some (some (.builtin "object.__setattr__"))) && (decide (PySem.W.subIn K (.ref C) (.type "BaseException") = some true) && (decide (PySem.W.typeIn K (.ref C) = some (.type "type")) && PySem.W.keepIn K (.ref C))))
theorem oexB_ok {K : PySem.W.Frag} {C : Addr} (h : oexB K C = true) : OexC K C := by
  obtain ⟨q, h⟩ := and_of h
  obtain ⟨h1, h⟩ := and_of h
  obtain ⟨h2, h⟩ := and_of h
  obtain ⟨h3, h4⟩ := and_of h
  refine ⟨?_, of_decide_eq_true h1, of_decide_eq_true h2, of_decide_eq_true h3, h4⟩
  split at q
  · rename_i dd cd sl ho
    split at q
    · rename_i C' bm k0 k1 k2 k3 n k5 hm hs
      obtain ⟨q1, q⟩ := and_of q
      obtain ⟨q2, q⟩ := and_of q
      obtain ⟨q3, q⟩ := and_of q
      obtain ⟨q4, q5⟩ := and_of q
      cases of_decide_eq_true q1
      cases of_decide_eq_true q2
      obtain ⟨cn, cb, cm, cns, cq, chd, csn, csub, cab, ccol, cdl⟩ := cd
      dsimp only at hm q3 q4
      subst hm q4
      have q3 : cdl = false := by cases cdl <;> first | rfl | cases q3
      subst q3
      have esl : sl = #[k0, k1, k2, k3, some (.builtin "ValueError.__new__"), k5] := Array.toList_inj.mp hs
      subst esl
      exact ⟨cn, cq, cns, cb, bm, csn, csub, cab, ccol, dd, k0, k1, k2, k3, k5, ho, q5⟩
    · cases q
  · cases q
/-- a class whose __init__ is ValueError's -/
def biB (K : PySem.W.Frag) (C : Addr) : Bool := PySem.W.readsIn K C (.type "type") && (decide (PySem.W.specialIn K (.ref C) "__getattribute__" = some (some (.builtin "type.__getattribute__"))) && (match PySem.W.findCls K (.ref C) (.type "type") "__init__" with
  | some (.val (.builtin s)) => decide (s = "ValueError.__init__")
  | _ => false))
def Ef.ok (K : PySem.W.Frag) : Ef → Bool
  | .exc x => excB K (He.ga K x)
  | .sub x y b => decide (PySem.W.exmOne K (.ref (He.ga K x)) (.ref (He.ga K y)) = some b)
  | .isa x y b => decide (PySem.W.kitOne K (.ref (He.ga K x)) (.ref (He.ga K y)) = some b)
  | .isT x T b => decide (PySem.W.kitOne K (.ref (He.ga K x)) (.type T) = some b)
  | .oex x => oexB K (He.ga K x)
  | .nof x f => decide (PySem.W.findIn K (.ref (He.ga K x)) f = some none)
  | .bi x => biB K (He.ga K x)
def obsE (n : Nat) (fa : List He.Fa) (fn : List He.DefD) (ef : List Ef) (g : Addr → Option Obj) : He.AlD × Bool := (He.obsD fa fn (He.frG g ((He.asD g n ++ [cStatics]))), ef.all fun f => f.ok (He.frG g ((He.asD g n ++ [cStatics]))))
def hookE (n : Nat) (fa : List He.Fa) (fn : List He.DefD) (ef : List Ef) : PySem.W.Hook where
  α := He.AlD × Bool
  obs := fun s => obsE n fa fn ef s.heap.get?
  val := fun _ => (He.valD fn, true)
  says := fun _ h => ∃ K : PySem.W.Frag, K.In h ∧ He.SaysD fa fn K ∧ (ef.all fun f => f.ok K) = true
  of := fun _ _ e => ⟨_, He.frG_in, congrArg (fun z : He.AlD × Bool => z.1) e, congrArg (fun z : He.AlD × Bool => z.2) e⟩
  keeps := fun _ _ _ z k => by
    obtain ⟨K, hK, c, d⟩ := z
    exact ⟨K, PySem.W.Frag.In.keeps hK k, c, d⟩
theorem obsE_eq {n : Nat} {fa : List He.Fa} {fn : List He.DefD} {ef : List Ef} {g : Addr → Option Obj} {s : Shared} (h : ∀ a, g a = s.heap.get? a) : obsE n fa fn ef g = (hookE n fa fn ef).obs s := by
  have e : g = s.heap.get? := funext h
  rw [e] <;> rfl
theorem ef_at {K : PySem.W.Frag} {ef : List Ef} (h : (ef.all fun f => f.ok K) = true) {f : Ef} (hm : f ∈ ef) : f.ok K = true := List.all_eq_true.mp h f hm
/-- the table of what stands there -/
def tabE : List Ef → Str → Str → Option Bool
  | [], _, _ => none
  | .sub a b r :: l, x, y => if a = x ∧ b = y then some r else tabE l x y
  | _ :: l, x, y => tabE l x y
theorem tabE_ok {K : PySem.W.Frag} : ∀ {ef : List Ef}, (ef.all fun f => f.ok K) = true → TabOk K (tabE ef)
  | [], _, x, y, b, e => by cases e
  | f :: l, h, x, y, b, e => by
    rw [List.all_cons] at h
    obtain ⟨h1, h2⟩ := and_of h
    have ih := tabE_ok h2 x y b
    cases f with
    | sub a c r =>
      simp only [tabE] at e
      by_cases q : a = x ∧ c = y
      · rw [if_pos q] at e
        cases e
        obtain ⟨rfl, rfl⟩ := q
        exact of_decide_eq_true h1
      · rw [if_neg q] at e
        exact ih e
    | exc a => exact ih e
    | isa a c r => exact ih e
    | isT a T r => exact ih e
    | oex a => exact ih e
    | nof a f => exact ih e
    | bi a => exact ih e
/-! ### isinstance(e, C), e what the suite holds -/
/-- the slot still holds what was caught -/
def isEx (a dd : Addr) (p : Option (Str × D)) (d : D) : Bool := match p, d with
  | none, .raw (.ref b) => decide (b = a)
  | some _, .exv b d0 _ _ => decide (b = a) && decide (d0 = dd)
  | _, _ => false
theorem isEx_ok {K : PySem.W.Frag} {φ : List Addr} {S : Hp} {a dd : Addr} {p : Option (Str × D)} {d : D} {v : V} (e : isEx a dd p d = true) (r : Rp K φ S v d) : v = .ref a ∧ (exA dd p = none ∨ ∃ fs, exA dd p = some dd ∧ S dd = some (.xd fs)) := by
  unfold isEx at e
  split at e
  · cases r
    exact ⟨by rw [of_decide_eq_true e], .inl rfl⟩
  · obtain ⟨e1, e2⟩ := and_of e
    cases r with
    | exv h1 h2 =>
      cases of_decide_eq_true e1
      cases of_decide_eq_true e2
      exact ⟨rfl, .inr ⟨_, rfl, h1⟩⟩
  · cases e
theorem isEx_exv {a dd b d0 : Addr} {p : Option (Str × D)} {g : Str} {d : D} (e : isEx a dd p (.exv b d0 g d) = true) : b = a ∧ d0 = dd ∧ exA dd p = some dd := by
  cases p with
  | none => cases e
  | some q =>
    have e' : (decide (b = a) && decide (d0 = dd)) = true := e
    obtain ⟨z1, z2⟩ := and_of e'
    exact ⟨of_decide_eq_true z1, of_decide_eq_true z2, rfl⟩
def eIsE (i : Nat) (x : Xn) (a dd : Addr) (r : Bool) : ES := fun σ h => (eVar i σ h).bind fun d h1 => if isEx a dd x.pay d = true then .ok (.bl r) h1 else .stuck
/-- what is known of the exception's own dict -/
def dctX (H : Hp) (d : Option Addr) : Prop := d = none ∨ ∃ dd fs, d = some dd ∧ H dd = some (.xd fs)
theorem inst_ex {X : Cx} {pins : List (Addr × Obj)} {σ : L2.St} {H : Hp} {s : Shared} {a D : Addr} {d : Option Addr} {oe : Obj} {pn : List (Addr × Obj)} (hz : Zc (.ref D) d oe) (hf : ∃ vs, oe.data = .fields vs) (I : Inv (X.suite a ((a, oe) :: pn)) pins σ H s) (hd : dctX H d) : ∃ od, PySem.W.InstAt s.heap a oe D od := by
  obtain ⟨hget, _⟩ := I.pin (a, oe) (List.mem_append.mpr (.inl List.mem_cons_self))
  obtain ⟨vs, hv⟩ := hf
  obtain ⟨oc, od, oda, osl⟩ := oe
  obtain ⟨h1, h2⟩ := hz
  dsimp only at h1 h2 hv
  subst h1 h2 hv
  rcases hd with rfl | ⟨dd, fs, rfl, ea⟩
  · exact ⟨none, hget, rfl, rfl, trivial⟩
  · obtain ⟨mA, hns, hr⟩ := (show ObjOk X.prog X.w H s.heap dd (.xd fs) from I.hok dd _ ea)
    obtain ⟨o2, ho, hl⟩ := lookIn_ns hns
    exact ⟨some o2, hget, rfl, rfl, ho⟩
def rIsX (K : PySem.W.Frag) (D a : Addr) (d : Option Addr) : List V → Hp → VK → Prop := fun xs H Q => ∃ (c : V) (cv : Value) (b : Bool), xs = [.ref a, c] ∧ (∀ u, RelV c u → u = cv) ∧ PySem.W.kitOne K (.ref D) cv = some b ∧ dctX H d ∧ Q (.bl b) H
theorem exc_cls {K : PySem.W.Frag} {D : Addr} (C : ExcC K D) : (PySem.W.clsIn K D).isSome = true := by
  obtain ⟨cd, hc, _⟩ := PySem.W.any_some C.hd
  rw [hc]; rfl
theorem call_isX {X : Cx} {a D : Addr} {d : Option Addr} {oe : Obj} {pn : List (Addr × Obj)} (C : ExcC X.K D) (hz : Zc (.ref D) d oe) (hf : ∃ vs, oe.data = .fields vs) : CallR (X.suite a ((a, oe) :: pn)) (.builtin "isinstance") (rIsX X.K D a d) := by
  intro pins s σ H xs us Q I r h
  obtain ⟨c, cv, b, rfl, hcv, e, hd, q⟩ := h
  cases r with
  | cons rx rr =>
    cases rr with
    | cons rt rr =>
      cases rr
      cases rx
      have ec := hcv _ rt
      subst ec
      obtain ⟨od, J⟩ := inst_ex hz hf I hd
      exact PySem.W.kia_one (PySem.W.kitx_exc (exc_cls C) C.hg C.hk C.hs C.ha C.hn C.ht C.hm) I.kIn J e (fun z => nomatch z) fun tk => ⟨.bl b, H, I.kept (t' := tk) fun _ _ z => z, rfl, q⟩
section
variable {X : Cx} {W : WX} {a D dd : Addr} {x : Xn} {oe : Obj} {pn : List (Addr × Obj)} {e : Expr} {i : Nat} {p p2 pos : Pos} {r : Bool} {y : Str}
theorem dctX_of {K : PySem.W.Frag} {φ : List Addr} {S H : Hp} {h : Hv} {p : Option (Str × VD.D)} (rl : Rel K φ S H h) (z : exA dd p = none ∨ ∃ fs, exA dd p = some dd ∧ S dd = some (.xd fs)) : dctX H (exA dd p) := by
  rcases z with z | ⟨fs, z1, z2⟩
  · exact .inl z
  · exact .inr ⟨dd, fs, z1, rl.sub _ _ z2⟩
theorem se_isE (C : ExcC X.K D) (hz : Zc (.ref D) (exA dd x.pay) oe) (hfl : ∃ vs, oe.data = .fields vs) (hm : X.mg "isinstance" = none) {cv : V} {cu : Value} (hcv : ∀ u, RelV cv u → u = cu) (hk : PySem.W.kitOne X.K (.ref D) cu = some r)
    (ha : SE (X.suite a ((a, oe) :: pn)) W e (eVar i)) (hT : PE (X.suite a ((a, oe) :: pn)) (.Name y p2) (tC cv)) (hg : Gl (X.suite a ((a, oe) :: pn)) "isinstance" := by rfl)
    (h1 : starEach [.Name y p2] (X.suite a ((a, oe) :: pn)).env = (false, eval (.Name y p2) (X.suite a ((a, oe) :: pn)).env) :: starEach [] (X.suite a ((a, oe) :: pn)).env := by rfl)
    (he : starEach (e :: [.Name y p2]) (X.suite a ((a, oe) :: pn)).env = (false, eval e (X.suite a ((a, oe) :: pn)).env) :: starEach [.Name y p2] (X.suite a ((a, oe) :: pn)).env := by rfl) (hpl : (backTo pos (starEach [.Name y p2] (X.suite a ((a, oe) :: pn)).env)).any (·.1) = false := by rfl) :
    SE (X.suite a ((a, oe) :: pn)) W (.Call (.Name "isinstance" p) [e, .Name y p2] [] pos) (eIsE i x a dd r) := by
  obtain ⟨ta, k1, k2⟩ := ha
  have hA : PA (X.suite a ((a, oe) :: pn)) [e, .Name y p2] (tCons ta (tCons (tC cv) tNil)) := pa_cons k1 (pa_cons hT pa_nil h1) he
  refine ⟨_, pe_callB (call_isX C hz hfl) hg hm (by decide +kernel) hA (by decide) (by decide) he hpl, ⟨fun rl rs post => k2.bind rl rs post fun d h1 v φ1 S1 H1 rl1 rs1 st rp post2 => ?_⟩⟩
  by_cases q : isEx a dd x.pay d = true
  · rw [if_pos q] at post2
    obtain ⟨ev, ed⟩ := isEx_ok q rp
    subst ev
    exact ⟨cv, cu, r, rfl, hcv, hk, dctX_of rl1 ed, post2 _ φ1 S1 H1 rl1 (Step.refl _ _ _) (.bl r)⟩
  · rw [if_neg q] at post2
    exact post2.elim
def tCs : List V → TA
  | [] => tNil
  | v :: r => tCons (tC v) (tCs r)
theorem tCs_run : ∀ (cs : List V) {σ : L2.St} {H : Hp} {Q : List V → Hp → Prop}, Q cs H → tCs cs σ H Q
  | [], _, _, _, q => q
  | v :: r, _, _, _, q => tCs_run r q
/-- isinstance(e, (c1, c2, ..)) -/
def rIsET (K : PySem.W.Frag) (D a : Addr) (d : Option Addr) : List V → Hp → VK → Prop := fun xs H Q => ∃ (tp : Addr) (cs : List V) (us : List Value) (b : Bool), xs = [.ref a, .ref tp] ∧ H tp = some (.tup cs) ∧ Paired ClsV cs us ∧ PySem.W.kitAny K (.ref D) us = some b ∧ dctX H d ∧ Q (.bl b) H
theorem call_isET {d : Option Addr} (C : ExcC X.K D) (hz : Zc (.ref D) d oe) (hf : ∃ vs, oe.data = .fields vs) : CallR (X.suite a ((a, oe) :: pn)) (.builtin "isinstance") (rIsET X.K D a d) := by
  intro pins s σ H xs us Q I r0 h
  obtain ⟨tp, cs, ws, b, rfl, hT, k, ek, hd, q⟩ := h
  obtain ⟨u1, u2, rfl, r1, r2⟩ := vals2 r0
  cases (show u1 = Value.ref a from r1)
  cases (show u2 = Value.ref tp from r2)
  obtain ⟨od, J⟩ := inst_ex hz hf I hd
  obtain ⟨_, its, rv, o, g1, g2, n, g3⟩ := (show ObjOk X.prog X.w H s.heap tp (.tup cs) from I.hok tp _ hT)
  have g4 := ClsV.all k rv
  subst g4
  obtain ⟨oc, od, dt, sl⟩ := o
  simp only at g2 g3
  subst g2 g3
  exact PySem.W.kia_tup (PySem.W.kitx_exc (exc_cls C) C.hg C.hk C.hs C.ha C.hn C.ht C.hm) I.kIn J g1 ek (fun z => nomatch z) fun tk => ⟨.bl b, H, I.kept (t' := tk) fun _ _ z => z, rfl, q⟩
theorem se_isET {x1} {pt : Pos} {es : List Expr} {cs : List V} {us : List Value} (C : ExcC X.K D) (hz : Zc (.ref D) (exA dd x.pay) oe) (hfl : ∃ vs, oe.data = .fields vs) (hm : X.mg "isinstance" = none) (k : Paired ClsV cs us) (hl : cs.length ≤ 100) (hk : PySem.W.kitAny X.K (.ref D) us = some r)
    (ha : SE (X.suite a ((a, oe) :: pn)) W e (eVar i)) (hT : PA (X.suite a ((a, oe) :: pn)) es (tCs cs)) (hg : Gl (X.suite a ((a, oe) :: pn)) "isinstance" := by rfl)
    (h1 : starEach [.Tuple es x1 pt] (X.suite a ((a, oe) :: pn)).env = (false, eval (.Tuple es x1 pt) (X.suite a ((a, oe) :: pn)).env) :: starEach [] (X.suite a ((a, oe) :: pn)).env := by rfl)
    (he : starEach (e :: [.Tuple es x1 pt]) (X.suite a ((a, oe) :: pn)).env = (false, eval e (X.suite a ((a, oe) :: pn)).env) :: starEach [.Tuple es x1 pt] (X.suite a ((a, oe) :: pn)).env := by rfl) (hpl : (backTo pos (starEach [.Tuple es x1 pt] (X.suite a ((a, oe) :: pn)).env)).any (·.1) = false := by rfl) :
    SE (X.suite a ((a, oe) :: pn)) W (.Call (.Name "isinstance" p) [e, .Tuple es x1 pt] [] pos) (eIsE i x a dd r) := by
  obtain ⟨ta, k1, k2⟩ := ha
  have hA : PA (X.suite a ((a, oe) :: pn)) [e, .Tuple es x1 pt] (tCons ta (tCons (tTup (tCs cs)) tNil)) := pa_cons k1 (pa_cons (pe_tup hT) pa_nil h1) he
  refine ⟨_, pe_callB (call_isET C hz hfl) hg hm (by decide +kernel) hA (by decide) (by decide) he hpl, ⟨fun rl rs post => k2.bind rl rs post fun d h1 v φ1 S1 H1 rl1 rs1 st rp post2 => ?_⟩⟩
  by_cases q : isEx a dd x.pay d = true
  · rw [if_pos q] at post2
    obtain ⟨ev, ed⟩ := isEx_ok q rp
    subst ev
    refine tCs_run cs ⟨by rw [line_eq]; omega, fun p hp => ?_⟩
    obtain ⟨r2, s2⟩ := rl1.lay (o := .tup cs) hp
    refine ⟨p, cs, us, r, rfl, upd_same, k, hk, ?_, post2 _ φ1 _ _ r2 s2 (.bl r)⟩
    rcases ed with z | ⟨fs, z1, z2⟩
    · exact .inl z
    · exact .inr ⟨dd, fs, z1, r2.sub _ _ (s2.sub _ _ z2)⟩
  · rw [if_neg q] at post2
    exact post2.elim
/-- e.f -/
def eFldE (i : Nat) (x : Xn) (a dd : Addr) (f : Str) : ES := fun σ h => (eVar i σ h).bind fun d h1 => match d with
  | .exv b d0 g d' => if isEx a dd x.pay (.exv b d0 g d') = true ∧ g = f then .ok d' h1 else .stuck
  | _ => .stuck
theorem se_fldE {f : Str} (C : ExcC X.K D) (hno : PySem.W.findIn X.K (.ref D) f = some none) (hz : Zc (.ref D) (exA dd x.pay) oe) (hfl : ∃ vs, oe.data = .fields vs) (ha : SE (X.suite a ((a, oe) :: pn)) W e (eVar i))
    (hb : attributeBase e f (X.suite a ((a, oe) :: pn)).env (eval e (X.suite a ((a, oe) :: pn)).env) = eval e (X.suite a ((a, oe) :: pn)).env := by rfl) :
    SE (X.suite a ((a, oe) :: pn)) W (.Attribute e f pos) (eFldE i x a dd f) := by
  obtain ⟨ta, k1, k2⟩ := ha
  refine ⟨_, pe_xf ⟨C.hg, C.hk, C.hs, C.hd⟩ hno hz hfl k1 hb, ⟨fun rl rs post => k2.bind rl rs post fun d h1 v φ1 S1 H1 rl1 rs1 st rp post2 => ?_⟩⟩
  cases d with
  | exv b d0 g d' =>
    dsimp only at post2
    by_cases q : isEx a dd x.pay (.exv b d0 g d') = true ∧ g = f
    · rw [if_pos q] at post2
      obtain ⟨q1, rfl⟩ := q
      obtain ⟨ev, ed⟩ := isEx_ok q1 rp
      cases (show Rp X.K φ1 S1 v (.exv b d0 g d') from rp) with
      | @exv _ _ _ w _ g1 g2 =>
        obtain ⟨_, z2, z3⟩ := isEx_exv q1
        subst z2
        exact ⟨ev, rfl, d0, _, w, z3, rl1.sub _ _ g1, by simp, post2 w φ1 S1 H1 rl1 (Step.refl _ _ _) g2⟩
    · rw [if_neg q] at post2
      exact post2.elim
  | _ => exact post2.elim
end
/-! .. told by the table -/
def exT : List Ef → Str → Bool
  | [], _ => false
  | .exc a :: l, x => if a = x then true else exT l x
  | _ :: l, x => exT l x
theorem exT_ok {K : PySem.W.Frag} {x : Str} : ∀ {ef : List Ef}, (ef.all fun f => f.ok K) = true → exT ef x = true → ExcC K (He.ga K x)
  | [], _, e => by cases e
  | f :: l, h, e => by
    rw [List.all_cons] at h
    obtain ⟨h1, h2⟩ := and_of h
    have ih := exT_ok (x := x) h2
    cases f with
    | exc a =>
      simp only [exT] at e
      by_cases q : a = x
      · subst q
        exact excB_ok h1
      · rw [if_neg q] at e
        exact ih e
    | sub a c r => exact ih e
    | isa a c r => exact ih e
    | isT a T r => exact ih e
    | oex a => exact ih e
    | nof a f => exact ih e
    | bi a => exact ih e
def isaE : List Ef → Str → Str → Option Bool
  | [], _, _ => none
  | .isa a b r :: l, x, y => if a = x ∧ b = y then some r else isaE l x y
  | _ :: l, x, y => isaE l x y
theorem isaE_ok {K : PySem.W.Frag} {x y : Str} {b : Bool} : ∀ {ef : List Ef}, (ef.all fun f => f.ok K) = true → isaE ef x y = some b → PySem.W.kitOne K (.ref (He.ga K x)) (.ref (He.ga K y)) = some b
  | [], _, e => by cases e
  | f :: l, h, e => by
    rw [List.all_cons] at h
    obtain ⟨h1, h2⟩ := and_of h
    have ih := isaE_ok (x := x) (y := y) (b := b) h2
    cases f with
    | isa a c r =>
      simp only [isaE] at e
      by_cases q : a = x ∧ c = y
      · rw [if_pos q] at e
        cases e
        obtain ⟨rfl, rfl⟩ := q
        exact of_decide_eq_true h1
      · rw [if_neg q] at e
        exact ih e
    | exc a => exact ih e
    | sub a c r => exact ih e
    | isT a T r => exact ih e
    | oex a => exact ih e
    | nof a f => exact ih e
    | bi a => exact ih e
def isTE : List Ef → Str → String → Option Bool
  | [], _, _ => none
  | .isT a b r :: l, x, y => if a = x ∧ b = y then some r else isTE l x y
  | _ :: l, x, y => isTE l x y
theorem isTE_ok {K : PySem.W.Frag} {x : Str} {y : String} {b : Bool} : ∀ {ef : List Ef}, (ef.all fun f => f.ok K) = true → isTE ef x y = some b → PySem.W.kitOne K (.ref (He.ga K x)) (.type y) = some b
  | [], _, e => by cases e
  | f :: l, h, e => by
    rw [List.all_cons] at h
    obtain ⟨h1, h2⟩ := and_of h
    have ih := isTE_ok (x := x) (y := y) (b := b) h2
    cases f with
    | isT a c r =>
      simp only [isTE] at e
      by_cases q : a = x ∧ c = y
      · rw [if_pos q] at e
        cases e
        obtain ⟨rfl, rfl⟩ := q
        exact of_decide_eq_true h1
      · rw [if_neg q] at e
        exact ih e
    | exc a => exact ih e
    | sub a c r => exact ih e
    | isa a c r => exact ih e
    | oex a => exact ih e
    | nof a f => exact ih e
    | bi a => exact ih e
def anyE (ef : List Ef) (x : Str) : List Str → Option Bool
  | [] => some false
  | y :: r => match isaE ef x y with
    | some true => some true
    | some false => anyE ef x r
    | none => none
theorem anyE_ok {K : PySem.W.Frag} {ef : List Ef} {x : Str} {b : Bool} (h : (ef.all fun f => f.ok K) = true) : ∀ {ys : List Str}, anyE ef x ys = some b → PySem.W.kitAny K (.ref (He.ga K x)) (ys.map fun y => .ref (He.ga K y)) = some b
  | [], e => e
  | y :: r, e => by
    unfold anyE at e
    rw [List.map_cons]
    unfold PySem.W.kitAny
    cases q : isaE ef x y with
    | none => rw [q] at e; cases e
    | some z =>
      rw [q] at e
      rw [isaE_ok h q]
      cases z with
      | true => exact e
      | false => exact anyE_ok h e
/-- what the suite asks of what it caught: o, where the slot holds it -/
def eIsO (i : Nat) (x : Xn) (a dd : Addr) (o : Option Bool) : ES := fun σ h => (eVar i σ h).bind fun d h1 => if isEx a dd x.pay d = true then (match o with
    | some r => .ok (.bl r) h1
    | none => .stuck) else .stuck
theorem eIsO_some {i : Nat} {x : Xn} {a dd : Addr} {r : Bool} : eIsO i x a dd (some r) = eIsE i x a dd r := rfl
theorem eVar_bind {α : Type} {i : Nat} {σ : VS} {h : Hv} {f : D → Hv → R α} (hf : ∀ d h1, f d h1 = .stuck) : (eVar i σ h).bind f = .stuck := by
  cases q : eVar i σ h with
  | ok d h1 => rw [R.bind_ok, hf]
  | exc x h1 =>
    unfold eVar at q
    split at q <;> cases q
  | stuck => rfl
theorem se_stuck {X : Cx} {W : WX} {e : Expr} {f : ES} (hs : ∀ σ h, f σ h = .stuck) : SE X W e f :=
  ⟨fun _ _ _ => False, ⟨fun _ _ _ _ _ _ z => z.elim⟩, ⟨fun {φ S H h σv σ Q} rl rs post => by
    rw [hs] at post
    exact post.elim⟩⟩
theorem se_isO_of {X : Cx} {W : WX} {e : Expr} {i : Nat} {x : Xn} {a dd : Addr} {o : Option Bool} (hs : ∀ r, o = some r → SE X W e (eIsE i x a dd r)) : SE X W e (eIsO i x a dd o) := by
  cases o with
  | some r => exact hs r rfl
  | none => exact se_stuck fun σ h => eVar_bind fun d h1 => by split <;> rfl
/-- the classes of a tuple -/
theorem cls_pair {K : PySem.W.Frag} : ∀ ys : List Str, Paired ClsV (ys.map fun y => V.ref (He.ga K y)) (ys.map fun y => Value.ref (He.ga K y))
  | [] => .nil
  | y :: r => .cons (.own _) (cls_pair r)
def nofE : List Ef → Str → Str → Bool
  | [], _, _ => false
  | .nof a b :: l, x, y => if a = x ∧ b = y then true else nofE l x y
  | _ :: l, x, y => nofE l x y
theorem nofE_ok {K : PySem.W.Frag} {x y : Str} : ∀ {ef : List Ef}, (ef.all fun f => f.ok K) = true → nofE ef x y = true → PySem.W.findIn K (.ref (He.ga K x)) y = some none
  | [], _, e => by cases e
  | f :: l, h, e => by
    rw [List.all_cons] at h
    obtain ⟨h1, h2⟩ := and_of h
    have ih := nofE_ok (x := x) (y := y) h2
    cases f with
    | nof a c =>
      simp only [nofE] at e
      by_cases q : a = x ∧ c = y
      · obtain ⟨rfl, rfl⟩ := q
        exact of_decide_eq_true h1
      · rw [if_neg q] at e
        exact ih e
    | exc a => exact ih e
    | sub a c r => exact ih e
    | isa a c r => exact ih e
    | isT a T r => exact ih e
    | oex a => exact ih e
    | bi a => exact ih e
section
variable {X : Cx} {W : WX} {a dd : Addr} {x : Xn} {oe : Obj} {pn : List (Addr × Obj)} {e : Expr} {i : Nat} {p p2 pos : Pos} {y : Str} {ef : List Ef}
def xIs (ef : List Ef) (c y : Str) : Option Bool := if exT ef c = true then isaE ef c y else none
def xIsT (ef : List Ef) (c : Str) (T : String) : Option Bool := if exT ef c = true then isTE ef c T else none
def xIsA (ef : List Ef) (c : Str) (ys : List Str) : Option Bool := if exT ef c = true then anyE ef c ys else none
def eFldX (ef : List Ef) (i : Nat) (x : Xn) (a dd : Addr) (f : Str) : ES := if exT ef x.cls = true ∧ nofE ef x.cls f = true then eFldE i x a dd f else fun _ _ => .stuck
theorem se_isO (ce : (ef.all fun f => f.ok X.K) = true) (hz : Zc (.ref (He.ga X.K x.cls)) (exA dd x.pay) oe) (hfl : ∃ vs, oe.data = .fields vs) (hm : X.mg "isinstance" = none) (gy : X.mg y = some (.ref (He.ga X.K y))) (ha : SE (X.suite a ((a, oe) :: pn)) W e (eVar i))
    (hgy : Gl (X.suite a ((a, oe) :: pn)) y := by rfl) (hdy : (y == ("__debug__" : Str)) = false := by decide) (hg : Gl (X.suite a ((a, oe) :: pn)) "isinstance" := by rfl)
    (h1 : starEach [.Name y p2] (X.suite a ((a, oe) :: pn)).env = (false, eval (.Name y p2) (X.suite a ((a, oe) :: pn)).env) :: starEach [] (X.suite a ((a, oe) :: pn)).env := by rfl)
    (he : starEach (e :: [.Name y p2]) (X.suite a ((a, oe) :: pn)).env = (false, eval e (X.suite a ((a, oe) :: pn)).env) :: starEach [.Name y p2] (X.suite a ((a, oe) :: pn)).env := by rfl) (hpl : (backTo pos (starEach [.Name y p2] (X.suite a ((a, oe) :: pn)).env)).any (·.1) = false := by rfl) :
    SE (X.suite a ((a, oe) :: pn)) W (.Call (.Name "isinstance" p) [e, .Name y p2] [] pos) (eIsO i x a dd (xIs ef x.cls y)) := se_isO_of fun r hr => by
  unfold xIs at hr
  by_cases q : exT ef x.cls = true
  · rw [if_pos q] at hr
    exact se_isE (exT_ok ce q) hz hfl hm (cv := .ref (He.ga X.K y)) (fun u ru => ru) (isaE_ok ce hr) ha (pe_glob hgy gy rfl hdy) hg h1 he hpl
  · rw [if_neg q] at hr
    cases hr
theorem se_isOT {T : String} (ce : (ef.all fun f => f.ok X.K) = true) (hz : Zc (.ref (He.ga X.K x.cls)) (exA dd x.pay) oe) (hfl : ∃ vs, oe.data = .fields vs) (hm : X.mg "isinstance" = none) (my : X.mg y = none) (hv : bootBuiltins y = some (.type T)) (ha : SE (X.suite a ((a, oe) :: pn)) W e (eVar i))
    (hgy : Gl (X.suite a ((a, oe) :: pn)) y := by rfl) (hdy : (y == ("__debug__" : Str)) = false := by decide) (hny : y ≠ "__name__" := by decide) (hg : Gl (X.suite a ((a, oe) :: pn)) "isinstance" := by rfl)
    (h1 : starEach [.Name y p2] (X.suite a ((a, oe) :: pn)).env = (false, eval (.Name y p2) (X.suite a ((a, oe) :: pn)).env) :: starEach [] (X.suite a ((a, oe) :: pn)).env := by rfl)
    (he : starEach (e :: [.Name y p2]) (X.suite a ((a, oe) :: pn)).env = (false, eval e (X.suite a ((a, oe) :: pn)).env) :: starEach [.Name y p2] (X.suite a ((a, oe) :: pn)).env := by rfl) (hpl : (backTo pos (starEach [.Name y p2] (X.suite a ((a, oe) :: pn)).env)).any (·.1) = false := by rfl) :
    SE (X.suite a ((a, oe) :: pn)) W (.Call (.Name "isinstance" p) [e, .Name y p2] [] pos) (eIsO i x a dd (xIsT ef x.cls T)) := se_isO_of fun r hr => by
  unfold xIsT at hr
  by_cases q : exT ef x.cls = true
  · rw [if_pos q] at hr
    exact se_isE (exT_ok ce q) hz hfl hm (cv := .ty T) (fun u ru => ru) (isTE_ok ce hr) ha (pe_bltn hgy my hv rfl hny hdy) hg h1 he hpl
  · rw [if_neg q] at hr
    cases hr
theorem se_isOA {x1} {pt : Pos} {es : List Expr} {ys : List Str} (ce : (ef.all fun f => f.ok X.K) = true) (hz : Zc (.ref (He.ga X.K x.cls)) (exA dd x.pay) oe) (hfl : ∃ vs, oe.data = .fields vs) (hm : X.mg "isinstance" = none) (hl : ys.length ≤ 100) (ha : SE (X.suite a ((a, oe) :: pn)) W e (eVar i))
    (hT : PA (X.suite a ((a, oe) :: pn)) es (tCs (ys.map fun y => V.ref (He.ga X.K y)))) (hg : Gl (X.suite a ((a, oe) :: pn)) "isinstance" := by rfl)
    (h1 : starEach [.Tuple es x1 pt] (X.suite a ((a, oe) :: pn)).env = (false, eval (.Tuple es x1 pt) (X.suite a ((a, oe) :: pn)).env) :: starEach [] (X.suite a ((a, oe) :: pn)).env := by rfl)
    (he : starEach (e :: [.Tuple es x1 pt]) (X.suite a ((a, oe) :: pn)).env = (false, eval e (X.suite a ((a, oe) :: pn)).env) :: starEach [.Tuple es x1 pt] (X.suite a ((a, oe) :: pn)).env := by rfl) (hpl : (backTo pos (starEach [.Tuple es x1 pt] (X.suite a ((a, oe) :: pn)).env)).any (·.1) = false := by rfl) :
    SE (X.suite a ((a, oe) :: pn)) W (.Call (.Name "isinstance" p) [e, .Tuple es x1 pt] [] pos) (eIsO i x a dd (xIsA ef x.cls ys)) := se_isO_of fun r hr => by
  unfold xIsA at hr
  by_cases q : exT ef x.cls = true
  · rw [if_pos q] at hr
    exact se_isET (exT_ok ce q) hz hfl hm (cls_pair ys) (by rw [List.length_map]; exact hl) (anyE_ok ce hr) ha hT hg h1 he hpl
  · rw [if_neg q] at hr
    cases hr
theorem se_fldX {f : Str} (ce : (ef.all fun f => f.ok X.K) = true) (hz : Zc (.ref (He.ga X.K x.cls)) (exA dd x.pay) oe) (hfl : ∃ vs, oe.data = .fields vs) (ha : SE (X.suite a ((a, oe) :: pn)) W e (eVar i))
    (hb : attributeBase e f (X.suite a ((a, oe) :: pn)).env (eval e (X.suite a ((a, oe) :: pn)).env) = eval e (X.suite a ((a, oe) :: pn)).env := by rfl) :
    SE (X.suite a ((a, oe) :: pn)) W (.Attribute e f pos) (eFldX ef i x a dd f) := by
  unfold eFldX
  by_cases q : exT ef x.cls = true ∧ nofE ef x.cls f = true
  · rw [if_pos q]
    exact se_fldE (exT_ok ce q.1) (nofE_ok ce q.2) hz hfl ha hb
  · rw [if_neg q]
    exact se_stuck fun _ _ => rfl
/-- one class more in the tuple -/
theorem pa_cls {X : Cx} {y : Str} {p : Pos} {es : List Expr} {vs : List V} (gy : X.mg y = some (.ref (He.ga X.K y))) (h : PA X es (tCs vs)) (hgy : Gl X y := by rfl) (hdy : (y == ("__debug__" : Str)) = false := by decide)
    (he : starEach (.Name y p :: es) X.env = (false, eval (.Name y p) X.env) :: starEach es X.env := by rfl) : PA X (.Name y p :: es) (tCs (.ref (He.ga X.K y) :: vs)) := pa_cons (pe_glob hgy gy rfl hdy) h he
theorem pa_cls0 {X : Cx} : PA X [] (tCs []) := pa_nil
end
end
end VD

set_option Elab.async false
set_option linter.all false
set_option maxRecDepth 100000
set_option maxHeartbeats 4000000
namespace VD
open PySem PySem.Spec PyProof.Rows L2
noncomputable section
/-- a method's statement -/
def clsS : Stmt → Nat → Stmt
  | .ClassDef _ _ _ b _ _ _ _ _ _ _, j => b.getD j (.Pass ⟨0, 0, 0, 0⟩)
  | s, _ => s
/-! ### errors that bear a value -/
/-- what such an __init__ does -/
def spPay (K : PySem.W.Frag) (C : Addr) (f : Str) : Sp := fun vs H Q _ => ∃ (a : Addr) (v : V), vs = [.ref a, v] ∧ H a = some (exo a C none) ∧ OexC K C ∧ PySem.W.findIn K (.ref C) f = some none ∧
  ∀ dx, H dx = none → dx ≠ a → Q .non (upd (upd H dx (exd dx [(f, v)])) a (exo a C (some dx)))
section
variable {X : Cx} {e : Expr} {es : List Expr} {ta : TA} {b : Str} {B : Addr} {p1 p2 pos : Pos}
theorem biB_ok {K : PySem.W.Frag} {C : Addr} (h : biB K C = true) : PySem.W.readsIn K C (.type "type") = true ∧ PySem.W.specialIn K (.ref C) "__getattribute__" = some (some (.builtin "type.__getattribute__")) ∧ PySem.W.findCls K (.ref C) (.type "type") "__init__" = some (.val (.builtin "ValueError.__init__")) := by
  unfold biB at h
  obtain ⟨h1, h⟩ := and_of h
  obtain ⟨h2, h3⟩ := and_of h
  refine ⟨h1, of_decide_eq_true h2, ?_⟩
  split at h3
  · next s q =>
    rw [q, of_decide_eq_true h3]
  · cases h3
theorem pe_ceinit {pl : Sem Bool} (hg : Gl X b) (hm : X.mg b = some (.ref B)) (bi : biB X.K B = true) (ha : PA X (e :: es) ta) (hdb : (b == ("__debug__" : Str)) = false := by decide)
    (hc : eval (.Call (.Attribute (.Name b p1) "__init__" p2) (e :: es) [] pos) X.env = (do
      let ov ← eval (.Name b p1) X.env
      standAt p2.atName
      let (f, first) ← holding [ov] (getMethod ov "__init__" pl)
      callWith pos f first (backTo pos (starEach (e :: es) X.env)) (backToKw pos (keywordEach [] X.env))) := by rfl)
    (he : starEach (e :: es) X.env = (false, eval e X.env) :: starEach es X.env := by rfl) (hpl : (backTo pos (starEach es X.env)).any (·.1) = false := by rfl) :
    PE X (.Call (.Attribute (.Name b p1) "__init__" p2) (e :: es) [] pos) (tVeI X.K ta) := by
  obtain ⟨b1, b2, b3⟩ := biB_ok bi
  have fin : ∀ {pins : List (Addr × Obj)} {s1 : Shared} {σ : L2.St} {H1 : Hp} {Q : VK} {us : List Value} {vs : List V}, Inv X pins σ H1 s1 → Vals vs us → (∃ (x Y : Addr) (more : List V), vs = .ref x :: more ∧ more.length ≤ 1000 ∧ OexC X.K Y ∧ H1 x = some (exo x Y none) ∧ Q .non H1) →
      wpAny (model X.prog X.w) X.A (call (.builtin "ValueError.__init__") us) (EP X pins σ Q) X.xe s1 := fun {pins s1 σ H1 Q us vs} J rv z => by
    obtain ⟨x, Y, more, rfl, few, oy, at_, done⟩ := z
    cases rv with
    | cons r0 rt =>
      cases r0
      refine oinit_ok oy J at_ ?_ fun s2 J2 => ⟨.non, H1, J2, rfl, done⟩
      have e := Paired.length rt
      rw [sizeLine_eq]
      omega
  constructor
  intro pins s σ H Q I0 rd
  exact PySem.W.methodCall_KW (ld_glob I0 hg hm (PySem.W.method_cls I0.kIn b2 (PySem.W.cls_value I0.kIn b1 b3 (by decide +kernel)
    (PyProof.Rows.callWith_method1 (thn (ha.run pos pins _ σ H _ (I0.tok _) rd) fun us s1 ⟨vs, H1, I1, rv, z⟩ => fin I1 rv z) he hpl))) hdb) hc
end
section
variable {P : Program} {w : World} {K : PySem.W.Frag} {mg : Str → Option Value} {base : Heap}
theorem payInit_ok {x qual z fl : Str} {st : Stmt} {f C : Addr} {fd : FuncData} {N ps : List Str} {k : Nat} (F : Fun K x qual st f fd) (Sc : FnScope N ps (defScope st)) (hps : ps.length = 2) (hN : N.length = 2)
    (hbody : ∀ (cdv : Value) (A : Around) (outer : List Env) (s : Shared) (H : Hp) (E : XK), Room k (A.deeper (envOfC qual (defScope st) s.heap.objs.size f cdv)) →
      PSs (cxOf (L2.CX P w) P w K mg base N qual (defScope st) f cdv A outer s H E) (defBody st) (tSeq (tDrop (tVeI K (tCons (tVar 0) (tCons (tC (.str z)) tNil)))) (tOst K fl (tVar 0) (tVar 1)))) : FnOk P w K mg base (L2.CX P w) (k + 1) f fd ps (spPay K C fl) := by
  refine F.okX Sc (fun vs H Q E h => ?_) (fun cdv A outer s H vs Q E hr h => ?_)
  · obtain ⟨a, v, rfl, _⟩ := h
    exact hps.symm
  · obtain ⟨a, v, rfl, ea, ox, no, q⟩ := h
    refine ⟨_, hbody cdv A outer s H E hr, ?_⟩
    have es : L2.start N [.ref a, v] = [some (.ref a), some v] := by
      unfold L2.start
      rw [hN]
      rfl
    rw [es]
    refine ⟨.ref a, rfl, a, C, [.str z], rfl, by simp, ox, ea, v, rfl, .ref a, rfl, a, C, rfl, ox, no, .inl ⟨ea, q⟩⟩
/-- a class of errors that bear a value in the field f -/
structure PayT (P : Program) (w : World) (K : PySem.W.Frag) (mg : Str → Option Value) (base : Heap) (k : Nat) (x f : Str) : Prop where
  g : mg x = some (.ref (He.ga K x))
  ox : OexC K (He.ga K x)
  no : PySem.W.findIn K (.ref (He.ga K x)) f = some none
  ini : ∃ (fI : Addr) (fd : FuncData) (ps : List Str), PySem.W.findIn K (.ref (He.ga K x)) "__init__" = some (some (.ref fI)) ∧ PySem.W.typeIn K (.ref fI) = some (.type "function") ∧ FnOk P w K mg base (L2.CX P w) k fI fd ps (spPay K (He.ga K x) f) ∧ Binds K fd ps []
end
def sRaiseP (C f : Str) (fe : ES) : SS := fun σ h => (fe σ h).then σ fun d h' => .exc ⟨C, some (f, d)⟩ σ h'
theorem del_upd {H : Hp} {a dx : Addr} {o1 o2 o3 u : HO} (ha : H a = none) (hd : dx ≠ a) : upd (del (upd (upd (upd H a o1) dx o2) a o3) a) dx u = upd H dx u := by
  funext b
  by_cases q : b = dx
  · subst q
    rw [upd_same, upd_same]
  · rw [upd_ne q, upd_ne q]
    by_cases q2 : b = a
    · subst q2
      rw [del_same, ha]
    · rw [del_ne q2, upd_ne q2, upd_ne q, upd_ne q2]
section
variable {X : Cx} {W : WX} {e : Expr} {fe : ES} {x f : Str} {k : Nat} {p pos p3 : Pos}
theorem qs_raiseP (T : PayT X.prog X.w X.K X.mg X.base k x f) (hr : Room (k + 1) X.A) (tk : Takes X W) (ha : SE X W e fe) (hg : Gl X x := by rfl) (hdb : (x == ("__debug__" : Str)) = false := by decide) (hc : X.calm = true := by rfl)
    (he : starEach [e] X.env = (false, eval e X.env) :: starEach [] X.env := by rfl) (hpl : (backTo pos (starEach [] X.env)).any (·.1) = false := by rfl) :
    QS X W (.Raise (some (.Call (.Name x p) [e] [] pos)) none p3) (sRaiseP x f fe) := by
  obtain ⟨fI, fd, ps, iC, tI, F1, hb⟩ := T.ini
  obtain ⟨te, k1, k2⟩ := ha
  refine ⟨_, ps_raise hc tk (pmk_oex (ds := []) (dvs := []) T.ox iC tI F1 hr hb .nil (fun _ _ _ _ _ _ _ h => (cx_false h).elim) hg T.g (pa_cons k1 pa_nil he) hdb he hpl), ⟨fun {φ S H h σv σ D} rl rs post => ?_⟩⟩
  · refine k2.thenS rl rs post fun d h1 v φ1 S1 H1 rl1 rs1 st rp post => ?_
    refine ⟨by simp, fun a ha => ⟨a, v, rfl, upd_same, T.ox, T.no, fun dx hdx hne => ?_⟩⟩
    have hdx' : H1 dx = none := by rw [upd_ne hne] at hdx; exact hdx
    refine ⟨rfl, dx, [(f, v)], upd_same, by rw [upd_ne hne, upd_same], hdx', ?_⟩
    rw [del_upd ha hne]
    obtain ⟨r2, s2⟩ := rl1.lay (o := .xd [(f, v)]) hdx'
    exact post σ (.ref (He.ga X.K x)) (some dx) φ1 _ _ r2 (rs1.step s2) s2 ⟨rfl, dx, v, rfl, upd_same, Rp.mono s2.prefix s2.sub rp⟩
end
end
end VD

set_option Elab.async false
set_option linter.all false
set_option maxRecDepth 100000
set_option maxHeartbeats 4000000
namespace VD
open PySem PySem.Spec PyProof.Rows L2
noncomputable section
/-! ### sorted, of pairs of whole numbers -/
def pairOf : D → Option (Int × Int)
  | .tup [.int a, .int b] => some (a, b)
  | _ => none
abbrev pD (p : Int × Int) : D := .tup [.int p.1, .int p.2]
theorem pairOf_ok {d : D} {p : Int × Int} (h : pairOf d = some p) : d = pD p := by
  unfold pairOf at h
  split at h
  · cases h; rfl
  · cases h
def lePB (p q : Int × Int) : Bool := decide (p.1 < q.1 ∨ (p.1 = q.1 ∧ p.2 ≤ q.2))
def LeP (p q : Int × Int) : Prop := p.1 < q.1 ∨ (p.1 = q.1 ∧ p.2 ≤ q.2)
def sortP (ps : List (Int × Int)) : List (Int × Int) := ps.mergeSort lePB
theorem sortP_perm (ps : List (Int × Int)) : (sortP ps).Perm ps := List.mergeSort_perm _ _
theorem sortP_rises (ps : List (Int × Int)) : (sortP ps).Pairwise LeP := by
  have h := List.pairwise_mergeSort (le := lePB) (fun a b c h1 h2 => by
    have := of_decide_eq_true h1
    have := of_decide_eq_true h2
    exact decide_eq_true (by omega)) (fun a b => by
    unfold lePB
    by_cases q : a.1 < b.1 ∨ (a.1 = b.1 ∧ a.2 ≤ b.2)
    · rw [decide_eq_true q]; rfl
    · rw [decide_eq_true (show b.1 < a.1 ∨ (b.1 = a.1 ∧ b.2 ≤ a.2) by omega), Bool.or_true]) ps
  exact h.imp fun h => of_decide_eq_true h
theorem sortP_one {xs ys : List (Int × Int)} (hp : xs.Perm ys) (h1 : xs.Pairwise LeP) (h2 : ys.Pairwise LeP) : xs = ys := hp.eq_of_pairwise (le := LeP) (fun a b _ _ x y => by
  unfold LeP at x y
  exact Prod.ext (by omega) (by omega)) h1 h2
/-- a list of pairs ps -/
def rSortPT (K : PySem.W.Frag) : List V → Hp → VK → Prop := fun vs H Q => ∃ (b : Addr) (ws : List V) (ps : List (Int × Int)), vs = [V.ref b] ∧ SqL K H b ws ∧ ws.length = ps.length ∧ (∀ z ∈ ws.zip ps, ∃ t, z.1 = V.ref t ∧ SqT K H t [.int z.2.1, .int z.2.2]) ∧
  ∀ zs p, zs.length = (sortP ps).length → (∀ z ∈ zs.zip (sortP ps), z ∈ ws.zip ps) → H p = none → Q (.ref p) (upd H p (.lst zs))
def keyZ (ws : List V) (ps : List (Int × Int)) (w : V) : Int × Int := @dite (Int × Int) (∃ p, (w, p) ∈ ws.zip ps) (Classical.propDecidable _) (fun z => Classical.choose z) (fun _ => (0, 0))
theorem keyZ_mem {ws : List V} {ps : List (Int × Int)} (hl : ws.length = ps.length) {w : V} (hw : w ∈ ws) : (w, keyZ ws ps w) ∈ ws.zip ps := by
  have z : ∃ p, (w, p) ∈ ws.zip ps := by
    obtain ⟨i, hi⟩ := List.getElem?_of_mem hw
    have h1 := (List.getElem?_eq_some_iff.mp hi).1
    refine ⟨ps[i]'(by omega), List.mem_of_getElem? (i := i) ?_⟩
    rw [List.getElem?_zip_eq_some]
    exact ⟨hi, List.getElem?_eq_getElem _⟩
  unfold keyZ
  rw [dif_pos z]
  exact Classical.choose_spec z
theorem cr_sortPT {X : Cx} : CallR X (.builtin "sorted") (rSortPT X.K) := by
  intro pins s σ H vs us Q I r hyp
  obtain ⟨b, ws, ps, rfl, hS, len, hE, fin⟩ := hyp
  obtain ⟨its, rv, lst, size⟩ := I.list hS
  obtain ⟨u, rfl, ru⟩ := vals1 r
  obtain rfl : u = Value.ref b := ru
  have one : ∀ {w p q}, (w, p) ∈ ws.zip ps → (w, q) ∈ ws.zip ps → p = q := fun {w p q} h1 h2 => by
    obtain ⟨t, e, s1⟩ := hE _ h1
    obtain ⟨t', e', s2⟩ := hE _ h2
    rw [e] at e'
    cases e'
    have := I.tuple_inj s1 s2
    injection this with a1 a2
    injection a2 with a2 _
    injection a1 with a1
    injection a2 with a2
    exact Prod.ext a1 a2
  have kmap : ws.map (keyZ ws ps) = ps := by
    apply List.ext_getElem
    · rw [List.length_map]; exact len
    · intro i h1 h2
      rw [List.length_map] at h1
      rw [List.getElem_map]
      refine one (keyZ_mem len (List.getElem_mem h1)) (List.mem_of_getElem? (i := i) ?_)
      rw [List.getElem?_zip_eq_some]
      exact ⟨List.getElem?_eq_getElem h1, List.getElem?_eq_getElem h2⟩
  obtain ⟨back, refs⟩ := refs_back rv fun w hw => (hE _ (keyZ_mem len hw)).imp fun t z => z.1
  refine SrtO.sorted_pairsO (k := fun u => keyZ ws ps (backV u)) lst.isList (by rw [← rv.length]; exact size) (fun u hu => ?_) fun g d out ord stb old dl new => ?_
  · obtain ⟨t, rfl⟩ := refs u hu
    obtain ⟨t', e, sq⟩ := hE _ (keyZ_mem len (w := V.ref t) (by rw [back]; exact List.mem_map.mpr ⟨_, hu, rfl⟩))
    cases e
    obtain ⟨its2, r2, ⟨o, ho, oc, n, od⟩, _⟩ := I.tuple sq
    obtain ⟨u1, u2, e2, ⟨t1, e3⟩, ⟨t2, e4⟩⟩ := vals2 r2
    subst e3 e4
    rw [e2] at od
    exact ⟨t, o, t1, t2, n, rfl, ho, oc, od⟩
  · have refs2 : ∀ u ∈ out, ∃ a, u = Value.ref a := fun u hu => refs u (stb.perm.mem_iff.mp hu)
    obtain ⟨n, new⟩ := new
    have pm : (out.map backV).Perm ws := by
      rw [back]
      exact stb.perm.map backV
    have srt : (out.map backV).map (keyZ ws ps) = sortP ps := by
      refine sortP_one ?_ ?_ (sortP_rises ps)
      · have := pm.map (keyZ ws ps)
        rw [kmap] at this
        exact this.trans (sortP_perm ps).symm
      · rw [List.map_map]
        refine List.pairwise_map.mpr (List.Pairwise.imp (fun {x y} z => ?_) ord)
        have := SrtO.lexB_no.mp z
        show (keyZ ws ps (backV x)).1 < (keyZ ws ps (backV y)).1 ∨ ((keyZ ws ps (backV x)).1 = (keyZ ws ps (backV y)).1 ∧ (keyZ ws ps (backV x)).2 ≤ (keyZ ws ps (backV y)).2)
        omega
    refine ⟨.ref d, upd H d (.lst (out.map backV)), I.laid (t' := s.toks) old dl ⟨by rw [pm.length_eq]; exact size, out, n, vals_back refs2, new⟩, rfl, fin _ d (by rw [← srt]; simp) (fun z hz => ?_) (I.hok.fresh dl)⟩
    rw [← srt] at hz
    obtain ⟨i, hi⟩ := List.getElem?_of_mem hz
    rw [List.getElem?_zip_eq_some] at hi
    obtain ⟨h1, h2⟩ := hi
    rw [List.getElem?_map, h1] at h2
    have e : keyZ ws ps z.1 = z.2 := Option.some.inj h2
    have := keyZ_mem len (pm.mem_iff.mp (List.mem_of_getElem? h1))
    rw [e] at this
    exact this
def bSortP : List D → Hv → R (List D) := fun ds h => match ds with
  | [d] => (match (lOf h d).bind (optAll pairOf) with
    | some ps => .ok ((sortP ps).map pD) h
    | none => .stuck)
  | _ => .stuck
theorem ra_zip {K : PySem.W.Frag} {φ : List Addr} {S : Hp} : ∀ {ds : List D} {ps : List (Int × Int)} {vs : List V}, optAll pairOf ds = some ps → RpA K φ S vs ds → vs.length = ps.length ∧ ∀ z ∈ vs.zip ps, Rp K φ S z.1 (pD z.2)
  | [], ps, vs, e, r => by
    cases e
    cases r
    exact ⟨rfl, fun w hw => nomatch hw⟩
  | d :: ds, ps, vs, e, r => by
    simp only [optAll] at e
    cases q : pairOf d with
    | none => rw [q] at e; cases e
    | some p =>
      rw [q] at e
      cases q2 : optAll pairOf ds with
      | none => simp only [q2] at e; cases e
      | some ps2 =>
        simp only [q2] at e
        cases e
        cases r with
        | cons r t =>
          obtain ⟨e1, e2⟩ := ra_zip q2 t
          rw [pairOf_ok q] at r
          refine ⟨by rw [List.length_cons, List.length_cons, e1], fun w hw => ?_⟩
          rw [List.zip_cons_cons] at hw
          rcases List.mem_cons.mp hw with rfl | hw
          · exact r
          · exact e2 w hw
theorem ra_of_zip {K : PySem.W.Frag} {φ : List Addr} {S : Hp} : ∀ {vs : List V} {ps : List (Int × Int)}, vs.length = ps.length → (∀ z ∈ vs.zip ps, Rp K φ S z.1 (pD z.2)) → RpA K φ S vs (ps.map pD)
  | [], [], _, _ => .nil
  | [], _ :: _, e, _ => nomatch e
  | _ :: _, [], e, _ => nomatch e
  | v :: vs, p :: ps, e, q => by
    rw [List.zip_cons_cons] at q
    exact .cons (q (v, p) List.mem_cons_self) (ra_of_zip (Nat.succ.inj e) fun z hz => q z (List.mem_cons_of_mem _ hz))
theorem cl_sortP {K : PySem.W.Frag} : CaL K (rSortPT K) bSortP := by
  intro φ S H h ds vs Q E rl ra post
  unfold bSortP at post
  split at post
  · next d =>
    obtain ⟨v, rfl, r⟩ := ra.one
    split at post
    · next ps hn =>
      obtain ⟨xs, q1, q2⟩ := Option.bind_eq_some_iff.mp hn
      obtain ⟨b, ws, rfl, h2, h3⟩ := lOf_ok rl r q1
      obtain ⟨len, all⟩ := ra_zip q2 h3
      refine ⟨b, ws, ps, rfl, h2, len, fun z hz => ?_, fun zs p l1 l2 hp => ?_⟩
      · have rz := all z hz
        obtain ⟨w, pp⟩ := z
        cases (show Rp K φ S w (.tup [.int pp.1, .int pp.2]) from rz) with
        | tup g1 g2 =>
          cases g2 with
          | cons r1 t1 =>
            cases t1 with
            | cons r2 t2 =>
              cases t2
              cases r1
              cases r2
              exact ⟨_, rfl, rl.sub.sqt g1⟩
      · obtain ⟨r2, s2⟩ := rl.hold (o := .lst zs) hp
        exact post _ φ _ _ r2 s2 ⟨p, _, rfl, hp, upd_same, rl.snone hp, rl.notin hp, ra_of_zip l1 fun z hz => all z (l2 z hz)⟩
    · exact post.elim
  · exact post.elim
end
end VD

set_option Elab.async false
set_option linter.all false
set_option maxRecDepth 100000
set_option maxHeartbeats 4000000
namespace VD
open PySem PySem.Spec PyProof.Rows L2
noncomputable section
/-! ### dicts -/
def keyOf : D → Option Key
  | .int i => some (.inl i)
  | .str x => some (.inr x)
  | _ => none
def keyD : Key → D
  | .inl i => .int i
  | .inr x => .str x
theorem keyOf_ok {K : PySem.W.Frag} {φ : List Addr} {S : Hp} {v : V} {d : D} {k : Key} (r : Rp K φ S v d) (e : keyOf d = some k) : v = kV k := by
  cases r <;> cases e <;> rfl
theorem keyD_ok {K : PySem.W.Frag} {φ : List Addr} {S : Hp} (k : Key) : Rp K φ S (kV k) (keyD k) := by
  cases k with
  | inl i => exact .int i
  | inr x => exact .str x
def getD (kvs : List (Key × D)) (k : Key) : Option D := (kvs.find? fun p => decide (p.1 = k)).map (·.2)
def putD (kvs : List (Key × D)) (k : Key) (d : D) : List (Key × D) := if (kvs.any fun p => decide (p.1 = k)) = true then kvs.map (fun p => if p.1 = k then (p.1, d) else p) else kvs ++ [(k, d)]
def dropD (kvs : List (Key × D)) (k : Key) : List (Key × D) := kvs.filter fun p => decide (p.1 ≠ k)
inductive RpK (K : PySem.W.Frag) (φ : List Addr) (S : Hp) : List (Key × V) → List (Key × D) → Prop where
  | nil : RpK K φ S [] []
  | cons {k : Key} {v : V} {d : D} {kv : List (Key × V)} {kd : List (Key × D)} : Rp K φ S v d → RpK K φ S kv kd → RpK K φ S ((k, v) :: kv) ((k, d) :: kd)
section
variable {K : PySem.W.Frag} {φ : List Addr} {S H : Hp} {h : Hv} {kv : List (Key × V)} {kd : List (Key × D)}
theorem RpK.of : ∀ {kv : List (Key × V)} {kd : List (Key × D)}, kv.map (·.1) = kd.map (·.1) → RpA K φ S (kv.map (·.2)) (kd.map (·.2)) → RpK K φ S kv kd
  | [], [], _, _ => .nil
  | [], _ :: _, e, _ => nomatch e
  | _ :: _, [], e, _ => nomatch e
  | (k, v) :: kv, (j, d) :: kd, e, r => by
    rw [List.map_cons, List.map_cons] at e r
    injection e with e1 e2
    have e1 : k = j := e1
    subst e1
    cases r with
    | cons r t => exact .cons r (RpK.of e2 t)
theorem RpK.to (r : RpK K φ S kv kd) : kv.map (·.1) = kd.map (·.1) ∧ RpA K φ S (kv.map (·.2)) (kd.map (·.2)) := by
  induction r with
  | nil => exact ⟨rfl, .nil⟩
  | cons r _ ih => exact ⟨by rw [List.map_cons, List.map_cons, ih.1], .cons r ih.2⟩
theorem RpK.len (r : RpK K φ S kv kd) : kv.length = kd.length := by
  have := congrArg List.length r.to.1
  rw [List.length_map, List.length_map] at this
  exact this
theorem RpK.get (r : RpK K φ S kv kd) (k : Key) : (getD kd k = none ∧ valV kv k = none) ∨ ∃ d v, getD kd k = some d ∧ valV kv k = some v ∧ Rp K φ S v d := by
  induction r with
  | nil => exact .inl ⟨rfl, rfl⟩
  | @cons j v d kv kd r _ ih =>
    by_cases q : j = k
    · refine .inr ⟨d, v, ?_, ?_, r⟩
      · unfold getD; rw [List.find?_cons_of_pos (by exact decide_eq_true q)]; rfl
      · unfold valV; rw [List.find?_cons_of_pos (by exact decide_eq_true q)]; rfl
    · unfold getD valV at ih ⊢
      rw [List.find?_cons_of_neg (by exact fun z => q (of_decide_eq_true z)), List.find?_cons_of_neg (by exact fun z => q (of_decide_eq_true z))]
      exact ih
theorem RpK.any (r : RpK K φ S kv kd) (k : Key) : (kv.any fun p => decide (p.1 = k)) = (kd.any fun p => decide (p.1 = k)) := by
  induction r with
  | nil => rfl
  | cons r _ ih => rw [List.any_cons, List.any_cons, ih]
theorem RpK.rep (r : RpK K φ S kv kd) (k : Key) {v : V} {d : D} (rv : Rp K φ S v d) : RpK K φ S (kv.map fun p => if p.1 = k then (p.1, v) else p) (kd.map fun p => if p.1 = k then (p.1, d) else p) := by
  induction r with
  | nil => exact .nil
  | @cons j w e kv kd r _ ih =>
    rw [List.map_cons, List.map_cons]
    by_cases q : j = k
    · rw [if_pos q, if_pos q]
      exact .cons rv ih
    · rw [if_neg q, if_neg q]
      exact .cons r ih
theorem RpK.snoc (r : RpK K φ S kv kd) (k : Key) {v : V} {d : D} (rv : Rp K φ S v d) : RpK K φ S (kv ++ [(k, v)]) (kd ++ [(k, d)]) := by
  induction r with
  | nil => exact .cons rv .nil
  | cons r _ ih => exact .cons r ih
theorem RpK.put (r : RpK K φ S kv kd) (k : Key) {v : V} {d : D} (rv : Rp K φ S v d) : RpK K φ S (putK kv k v) (putD kd k d) := by
  unfold putK putD
  rw [r.any k]
  split
  · exact r.rep k rv
  · exact r.snoc k rv
theorem RpK.drop (r : RpK K φ S kv kd) (k : Key) : RpK K φ S (dropK kv k) (dropD kd k) := by
  unfold dropK dropD
  induction r with
  | nil => exact .nil
  | @cons j w e kv kd r _ ih =>
    by_cases q : j = k
    · rw [List.filter_cons_of_neg (by simp [q]), List.filter_cons_of_neg (by simp [q])]
      exact ih
    · rw [List.filter_cons_of_pos (by simp [q]), List.filter_cons_of_pos (by simp [q])]
      exact .cons r ih
theorem RpK.at (r : RpK K φ S kv kd) {i : Nat} {k : Key} {d : D} (e : kd[i]? = some (k, d)) : ∃ v, kv[i]? = some (k, v) ∧ Rp K φ S v d := by
  induction r generalizing i with
  | nil => simp at e
  | cons r _ ih =>
    cases i with
    | zero =>
      rw [List.getElem?_cons_zero] at e ⊢
      cases e
      exact ⟨_, rfl, r⟩
    | succ i =>
      rw [List.getElem?_cons_succ] at e ⊢
      exact ih e
/-- a dict to be read -/
def kvOf (h : Hv) : D → Option (List (Key × D))
  | .cell n => match h[n]? with
    | some (.dK kvs) => some kvs
    | some (.dF kvs) => some kvs
    | _ => none
  | .dct ks ds => if ks.length = ds.length then some (ks.zip ds) else none
  | _ => none
theorem zip_1 : ∀ {ks : List Key} {ds : List D}, ks.length = ds.length → (ks.zip ds).map (·.1) = ks ∧ (ks.zip ds).map (·.2) = ds
  | [], [], _ => ⟨rfl, rfl⟩
  | [], _ :: _, e => nomatch e
  | _ :: _, [], e => nomatch e
  | k :: ks, d :: ds, e => by
    obtain ⟨a, b⟩ := zip_1 (ks := ks) (ds := ds) (Nat.succ.inj e)
    exact ⟨by rw [List.zip_cons_cons, List.map_cons, a], by rw [List.zip_cons_cons, List.map_cons, b]⟩
theorem kvOf_ok (rl : Rel K φ S H h) {d : D} {v : V} (r : Rp K φ S v d) (e : kvOf h d = some kd) : ∃ a kv, v = .ref a ∧ Rd H a (.dK kv) ∧ RpK K φ S kv kd := by
  cases r with
  | @cell a n h1 =>
    obtain ⟨c, hc⟩ := rl.at h1
    obtain ⟨_, o, ho, rc⟩ := rl.cel _ _ _ h1 hc
    simp only [kvOf] at e
    rw [hc] at e
    cases c with
    | dK kvs =>
      obtain ⟨kv, rfl, ek, ra⟩ := rc
      cases e
      exact ⟨a, kv, rfl, .inl ho, .of ek ra⟩
    | dF kvs =>
      obtain ⟨od, kv, rfl, ek, ra⟩ := rc
      cases e
      exact ⟨a, kv, rfl, .inr ⟨od, ho⟩, .of ek ra⟩
    | lst xs => cases e
    | ins C fs => cases e
    | dN w kvs => cases e
  | @dct a od kv ks ds h1 h2 h3 =>
    simp only [kvOf] at e
    split at e
    · next q =>
      cases e
      obtain ⟨z1, z2⟩ := zip_1 q
      exact ⟨a, kv, rfl, .inr ⟨od, rl.sub _ _ h1⟩, .of (by rw [z1]; exact h2) (by rw [z2]; exact h3)⟩
    · cases e
  | _ => cases e
def oDget : D → D → Hv → R D := fun x y h => match kvOf h x, keyOf y with
  | some kd, some k => (match getD kd k with
    | some d => .ok d h
    | none => .stuck)
  | _, _ => .stuck
def oDin : D → D → Hv → R D := fun y x h => match kvOf h x, keyOf y with
  | some kd, some k => .ok (.bl (getD kd k).isSome) h
  | _, _ => .stuck
def oDnin : D → D → Hv → R D := fun y x h => match kvOf h x, keyOf y with
  | some kd, some k => .ok (.bl (!(getD kd k).isSome)) h
  | _, _ => .stuck
end
section
variable {X : Cx} {W : WX} {o i e f value : Expr} {fo fi fe fv : ES} {pos pos' apos cpos : Pos}
theorem sn_din {ty td : TE} {neg : Bool} (h2 : Sn X.K (repV X.K) W ty fi) (k2 : Sn X.K (repV X.K) W td fo) : Sn X.K (repV X.K) W (fun σ H Q => ty σ H fun y H1 => td σ H1 fun x H2 => ∃ a o, x = .ref a ∧ DGet H2 a y o ∧ Q (.bl (if neg then !o.isSome else o.isSome)) H2) (eOp (if neg then oDnin else oDin) fi fo) := ⟨fun rl rs post =>
  h2.bind rl rs post fun y h1 v φ1 S1 H1 rl1 rs1 st rp post =>
  k2.bind rl1 rs1 post fun x h2 u φ2 S2 H2 rl2 rs2 st2 rp2 post => by
    have rv : Rp X.K φ2 S2 v y := Rp.mono st2.prefix st2.sub rp
    cases qx : kvOf h2 x with
    | none => cases neg <;> simp only [Bool.false_eq_true, if_false, if_true, oDin, oDnin, qx] at post <;> exact post.elim
    | some kd =>
      cases qk : keyOf y with
      | none => cases neg <;> simp only [Bool.false_eq_true, if_false, if_true, oDin, oDnin, qx, qk] at post <;> exact post.elim
      | some k =>
        obtain ⟨a, kv, rfl, ha, rk⟩ := kvOf_ok rl2 rp2 qx
        have ev := keyOf_ok rv qk
        subst ev
        refine ⟨a, valV kv k, rfl, .inl ⟨kv, k, ha, rfl, rfl⟩, ?_⟩
        have ei : (valV kv k).isSome = (getD kd k).isSome := by
          rcases rk.get k with ⟨g1, g2⟩ | ⟨d, w, g1, g2, _⟩
          · rw [g1, g2]; rfl
          · rw [g1, g2]; rfl
        cases neg with
        | false =>
          simp only [oDin, qx, qk, Bool.false_eq_true, if_false] at post ⊢
          rw [ei]
          exact post _ φ2 S2 H2 rl2 (Step.refl _ _ _) (.bl _)
        | true =>
          simp only [oDnin, qx, qk, if_true] at post ⊢
          rw [ei]
          exact post _ φ2 S2 H2 rl2 (Step.refl _ _ _) (.bl _)⟩
theorem se_din (hu : X.A.units + 1 < cLine) (hi : SE X W i fi) (ho : SE X W o fo) (hm : behindInMarks .In o = false := by rfl) : SE X W (.Compare i [.In] [o] pos) (eOp oDin fi fo) := by
  obtain ⟨ti, h1, h2⟩ := hi
  obtain ⟨to, k1, k2⟩ := ho
  exact ⟨_, pe_cmp (pc_din hu h1 k1) hm, sn_din (neg := false) h2 k2⟩
theorem se_dnin (hu : X.A.units + 1 < cLine) (hi : SE X W i fi) (ho : SE X W o fo) (hm : behindInMarks .NotIn o = false := by rfl) : SE X W (.Compare i [.NotIn] [o] pos) (eOp oDnin fi fo) := by
  obtain ⟨ti, h1, h2⟩ := hi
  obtain ⟨to, k1, k2⟩ := ho
  exact ⟨_, pe_cmp (pc_dnotin hu h1 k1) hm, sn_din (neg := true) h2 k2⟩
theorem st_din (hu : X.A.units + 1 < cLine) (hi : SE X W i fi) (ho : SE X W o fo) (hm : behindInMarks .In o = false := by rfl) : ST X W (.Compare i [.In] [o] pos) (toB (eOp oDin fi fo)) := by
  obtain ⟨ti, h1, h2⟩ := hi
  obtain ⟨to, k1, k2⟩ := ho
  exact ⟨_, pt_cmp (pc_din hu h1 k1) hm, sn_B (sn_din (neg := false) h2 k2)⟩
theorem st_dnin (hu : X.A.units + 1 < cLine) (hi : SE X W i fi) (ho : SE X W o fo) (hm : behindInMarks .NotIn o = false := by rfl) : ST X W (.Compare i [.NotIn] [o] pos) (toB (eOp oDnin fi fo)) := by
  obtain ⟨ti, h1, h2⟩ := hi
  obtain ⟨to, k1, k2⟩ := ho
  exact ⟨_, pt_cmp (pc_dnotin hu h1 k1) hm, sn_B (sn_din (neg := true) h2 k2)⟩
theorem se_dget (hu : X.A.units + 1 < cLine) (ho : SE X W o fo) (hi : SE X W i fi) (hs : NoSl i := by intro _ _; rfl) : SE X W (.Subscript o i pos) (eOp oDget fo fi) := by
  obtain ⟨to, h1, h2⟩ := ho
  obtain ⟨ti, k1, k2⟩ := hi
  refine ⟨_, pe_dget hu h1 k1 hs, ⟨fun rl rs post =>
    h2.bind rl rs post fun x h1 v φ1 S1 H1 rl1 rs1 st rp post =>
    k2.bind rl1 rs1 post fun y h2 u φ2 S2 H2 rl2 rs2 st2 rp2 post => ?_⟩⟩
  have rv : Rp X.K φ2 S2 v x := Rp.mono st2.prefix st2.sub rp
  cases qx : kvOf h2 x with
  | none => simp only [oDget, qx] at post; exact post.elim
  | some kd =>
    cases qk : keyOf y with
    | none => simp only [oDget, qx, qk] at post; exact post.elim
    | some k =>
      obtain ⟨a, kv, rfl, ha, rk⟩ := kvOf_ok rl2 rv qx
      have ev := keyOf_ok rp2 qk
      subst ev
      rcases rk.get k with ⟨g1, g2⟩ | ⟨d, w, g1, g2, rd⟩
      · simp only [oDget, qx, qk, g1] at post; exact post.elim
      · simp only [oDget, qx, qk, g1] at post
        refine ⟨a, w, rfl, ?_, post w φ2 S2 H2 rl2 (Step.refl _ _ _) rd⟩
        exact .inl ⟨kv, k, ha, rfl, g2.symm⟩
/-- d[i] = v -/
def sDput (fv fo fi : ES) : SS := fun σ h => (fv σ h).then σ fun d h1 => (fo σ h1).then σ fun x h2 => (fi σ h2).then σ fun y h3 => match x, keyOf y with
  | .cell n, some k => (match h3[n]? with
    | some (.dK kd) => if kd.length < 16777216 then .next σ (h3.set n (.dK (putD kd k d))) else .stuck
    | _ => .stuck)
  | _, _ => .stuck
theorem qs_dput (hu : X.A.units + 1 < cLine) (hv : SE X W value fv) (ho : SE X W o fo) (hi : SE X W i fi) (hs : swapsWith value (some (.Subscript o i pos')) pos.line X.env = pure false := by rfl) : QS X W (.Assign [.Subscript o i pos'] value pos) (sDput fv fo fi) := by
  obtain ⟨tv, h1, h2⟩ := hv
  obtain ⟨to, k1, k2⟩ := ho
  obtain ⟨ti, l1, l2⟩ := hi
  refine ⟨_, ps_dput hu k1 l1 h1 hs, ⟨fun rl rs post =>
    h2.thenS rl rs post fun d h1 v φ1 S1 H1 rl1 rs1 st1 rp1 post =>
    k2.thenS rl1 rs1 post fun x h2 u φ2 S2 H2 rl2 rs2 st2 rp2 post =>
    l2.thenS rl2 rs2 post fun y h3 w φ3 S3 H3 rl3 rs3 st3 rp3 post => ?_⟩⟩
  cases qk : keyOf y with
  | none =>
    cases x <;> (simp only [qk] at post; exact post.elim)
  | some k =>
    cases x with
    | cell n =>
      cases hx : h3[n]? with
      | none => simp only [qk, hx] at post; exact post.elim
      | some c =>
        cases c with
        | lst xs => simp only [qk, hx] at post; exact post.elim
        | dF kd => simp only [qk, hx] at post; exact post.elim
        | ins c fs => simp only [qk, hx] at post; exact post.elim
        | dN w kvs => simp only [qk, hx] at post; exact post.elim
        | dK kd =>
          simp only [qk, hx] at post
          by_cases hl : kd.length < 16777216
          · rw [if_pos hl] at post
            cases (show Rp X.K φ2 S2 u (.cell n) from rp2) with
            | @cell a _ ha =>
              have ha3 := st3.prefix.at ha
              obtain ⟨_, o', ho', rc⟩ := rl3.cel n a (.dK kd) ha3 hx
              obtain ⟨kv, rfl, ek, ra⟩ := rc
              have rk : RpK X.K φ3 S3 kv kd := .of ek ra
              have ev := keyOf_ok rp3 qk
              subst ev
              have rv : Rp X.K φ3 S3 v d := Rp.mono st3.prefix st3.sub (Rp.mono st2.prefix st2.sub rp1)
              have rk2 := (rk.put k rv).to
              obtain ⟨r4, s4⟩ := rl3.put (o := .dK (putK kv k v)) (c := .dK (putD kd k d)) ha3 ⟨_, rfl, rk2.1, rk2.2⟩
              exact ⟨a, _, rfl, DPut.k ho' (by rw [rk.len, line_eq]; exact hl), post _ φ3 S3 _ r4 (rs3.step s4) s4⟩
          · rw [if_neg hl] at post
            exact post.elim
    | _ => simp only [qk] at post; exact post.elim
/-- {} -/
def eDnew : ES := fun _ h => .ok (.cell h.length) (h ++ [.dK []])
theorem se_dnew : SE X W (.Dict [] [] pos) eDnew := ⟨_, pe_dnewK, ⟨fun {φ S H h σv σ Q} rl rs post => fun p hp => by
  obtain ⟨r2, s2⟩ := rl.hold (o := .dK []) hp
  have r3 := r2.celled (c := .dK []) upd_same (rl.snone hp) (rl.notin hp) ⟨[], rfl, rfl, .nil⟩
  exact post (.ref p) _ _ _ r3 (s2.celled hp) (.cell (by rw [← rl.len, List.getElem?_append_right (Nat.le_refl _), Nat.sub_self]; rfl))⟩⟩
/-- a dict that changes no more -/
def eLock (f : ES) : ES := fun σ h => (f σ h).bind fun d h1 => match d with
  | .cell n => (match h1[n]? with
    | some (.dK kd) => .ok (.cell n) (h1.set n (.dF kd))
    | _ => .stuck)
  | _ => .stuck
theorem pe_lockP {t : TE} (he : PE X e t) : PE X e (fun σ H Q => t σ H fun v H1 => ∃ d u, H1 d = some u ∧ Mut (some u) ∧ ∀ od, Q v (upd H1 d (.frz od u))) := by
  constructor
  intro pins s σ H Q I rd
  refine thn (he.run pins s σ H _ I rd) fun v s1 z => ?_
  obtain ⟨x, H1, I1, rx, d, u, hd, mu, q⟩ := z
  obtain ⟨od, I2⟩ := I1.lock hd mu
  exact ⟨x, _, I2, rx, q od⟩
theorem se_lock (he : SE X W e fe) : SE X W e (eLock fe) := by
  obtain ⟨te, h1, h2⟩ := he
  refine ⟨_, pe_lockP h1, ⟨fun rl rs post => h2.bind rl rs post fun d h1 v φ1 S1 H1 rl1 rs1 st rp post => ?_⟩⟩
  cases d with
  | cell n =>
    cases hx : h1[n]? with
    | none => simp only [hx] at post; exact post.elim
    | some c =>
      cases c with
      | dK kd =>
        simp only [hx] at post
        cases (show Rp X.K φ1 S1 v (.cell n) from rp) with
        | @cell a _ ha =>
          obtain ⟨_, o', ho', kv, rfl, ek, ra⟩ := rl1.cel n a (.dK kd) ha hx
          refine ⟨a, _, ho', True.intro, fun od => ?_⟩
          obtain ⟨r4, s4⟩ := rl1.put (o := .frz od (.dK kv)) (c := .dF kd) ha ⟨od, kv, rfl, ek, ra⟩
          exact post (.ref a) φ1 S1 _ r4 s4 (.cell ha)
      | _ => simp only [hx] at post; exact post.elim
  | _ => exact post.elim
/-- the keys of a dict that changes no more -/
def iD (f : ES) : IS := fun σ h => (f σ h).bind fun d h1 => match d with
  | .dct ks ds => .ok (ks.map keyD, always) h1
  | _ => .stuck
theorem qi_dict {tg : Expr} (he : SE X W e fe) : QI X W tg e (iD fe) := by
  obtain ⟨te, h1, h2⟩ := he
  refine ⟨_, pi_keys h1, ⟨fun rl rs post => h2.bind rl rs post fun d h1 v φ1 S1 H1 rl1 rs1 st rp post => ?_⟩⟩
  cases d with
  | dct ks ds =>
    cases (show Rp X.K φ1 S1 v (.dct ks ds) from rp) with
    | @dct a od kv _ _ g1 g2 g3 =>
      refine ⟨a, od, rfl, .inl ⟨kv, rl1.sub _ _ g1, post (Itk a od kv) φ1 S1 H1 rl1 (Step.refl _ _ _) ⟨fun {i φ S H h} r2 pr ex _ hi => ?_, fun {φ S H h} r2 pr ex _ => ?_⟩⟩⟩
      · rw [List.length_map, ← g2, List.length_map] at hi
        refine ⟨⟨r2.sub _ _ (ex _ _ g1), hi⟩, fun x H' y => ?_⟩
        obtain ⟨rfl, k, w, hk, rfl⟩ := y
        refine ⟨S, keyD k, ?_, r2, Step.refl _ _ _, keyD_ok k⟩
        rw [← g2, List.map_map, List.getElem?_map, hk]
        rfl
      · refine ⟨r2.sub _ _ (ex _ _ g1), ?_⟩
        rw [List.length_map, ← g2, List.length_map]
        exact Nat.le_refl _
  | _ => exact post.elim
/-! displays -/
abbrev PSd := VS → Hv → R (List (D × D))
def repP (K : PySem.W.Frag) : Rep (List (D × D)) (List (V × V)) := fun _ φ' S' _ b a => RpA K φ' S' (b.map (·.1)) (a.map (·.1)) ∧ RpA K φ' S' (b.map (·.2)) (a.map (·.2))
instance {K : PySem.W.Frag} : Rep.Up (repP K) := ⟨fun _ h => h⟩
def SP (X : Cx) (W : WX) (pos : Pos) (ks : List (Option Expr)) (vs : List Expr) (g : PSd) : Prop := ∃ trs, PPs X pos ks vs trs ∧ Sn X.K (repP X.K) W (tPairs trs) g
def pNil : PSd := fun _ h => .ok [] h
def pCons (fk fv : ES) (g : PSd) : PSd := fun σ h => (fk σ h).bind fun k h1 => (fv σ h1).bind fun v h2 => (g σ h2).bind fun r h3 => .ok ((k, v) :: r) h3
theorem sp_nil : SP X W pos [] [] pNil := ⟨[], pps_nil, ⟨fun {φ S H h σv σ Q} rl rs post => post [] φ S H rl (Step.refl _ _ _) ⟨.nil, .nil⟩⟩⟩
theorem sp_cons {ks : List (Option Expr)} {vs : List Expr} {g : PSd} (hk : SE X W i fi) (hv : SE X W value fv) (hr : SP X W pos ks vs g) : SP X W pos (some i :: ks) (value :: vs) (pCons fi fv g) := by
  obtain ⟨tk, a1, a2⟩ := hk
  obtain ⟨tv, b1, b2⟩ := hv
  obtain ⟨trs, c1, c2⟩ := hr
  exact ⟨_, pps_cons a1 b1 c1, ⟨fun rl rs post =>
    a2.bind rl rs post fun k h1 u φ1 S1 H1 rl1 rs1 st rp post =>
    b2.bind rl1 rs1 post fun v h2 w φ2 S2 H2 rl2 rs2 st2 rp2 post =>
    c2.bind rl2 rs2 post fun r h3 z φ3 S3 H3 rl3 rs3 st3 rp3 post =>
      post ((u, w) :: z) φ3 S3 H3 rl3 (Step.refl _ _ _) ⟨.cons (Rp.mono st3.prefix st3.sub (Rp.mono st2.prefix st2.sub rp)) rp3.1, .cons (Rp.mono st3.prefix st3.sub rp2) rp3.2⟩⟩⟩
def mergeD (kd more : List (Key × D)) : List (Key × D) := more.foldl (fun acc p => putD acc p.1 p.2) kd
theorem RpK.merge {K : PySem.W.Frag} {φ : List Addr} {S : Hp} {more : List (Key × V)} {mored : List (Key × D)} (r2 : RpK K φ S more mored) : ∀ {kv : List (Key × V)} {kd : List (Key × D)}, RpK K φ S kv kd → RpK K φ S (mergeK kv more) (mergeD kd mored) := by
  induction r2 with
  | nil => intro kv kd r; exact r
  | cons r _ ih => intro kv kd r0; exact ih (r0.put _ r)
def keyP (p : D × D) : Option (Key × D) := (keyOf p.1).map fun k => (k, p.2)
theorem keyPs_ok {K : PySem.W.Frag} {φ : List Addr} {S : Hp} : ∀ {b : List (V × V)} {a : List (D × D)} {kd : List (Key × D)}, RpA K φ S (b.map (·.1)) (a.map (·.1)) → RpA K φ S (b.map (·.2)) (a.map (·.2)) → optAll keyP a = some kd → ∃ kv : List (Key × V), b = kv.map (fun p => (kV p.1, p.2)) ∧ RpK K φ S kv kd
  | [], [], kd, _, _, e => by
    cases e
    exact ⟨[], rfl, .nil⟩
  | [], _ :: _, _, r, _, _ => by cases r
  | _ :: _, [], _, r, _, _ => by cases r
  | (u, w) :: b, (k, d) :: a, kd, r1, r2, e => by
    rw [List.map_cons, List.map_cons] at r1 r2
    cases r1 with
    | cons q1 t1 =>
      cases r2 with
      | cons q2 t2 =>
        simp only [optAll] at e
        cases hk : keyOf k with
        | none => simp only [keyP, hk, Option.map_none] at e; cases e
        | some k0 =>
          simp only [keyP, hk, Option.map_some] at e
          cases hr : optAll keyP a with
          | none => simp only [hr] at e; cases e
          | some kd0 =>
            simp only [hr] at e
            cases e
            obtain ⟨kv, rfl, rk⟩ := keyPs_ok t1 t2 hr
            have ev : u = kV k0 := keyOf_ok q1 hk
            refine ⟨(k0, w) :: kv, ?_, .cons q2 rk⟩
            rw [List.map_cons, ev]
def eDisp (g : PSd) : ES := fun σ h => (g σ h).bind fun ps h1 => match optAll keyP ps with
  | some kd => if kd.length ≤ 15 then .ok (.cell h1.length) (h1 ++ [.dK (mergeD [] kd)]) else .stuck
  | none => .stuck
theorem sn_disp {trs : List (TE × TE)} {g : PSd} {α : Type} {rep : Rep α V} {fin : List (Key × D) → Hv → R α} {φ : List Addr} {S H : Hp} {h : Hv} {σv : VS} {σ : L2.St} {E : XK} {T : V → Hp → Prop} {p : Addr} (h2 : Sn X.K (repP X.K) W (tPairs trs) g) (rl : Rel X.K φ S H h) (rs : RelS X.K φ S σv σ) (hp : H p = none)
    (post : ∀ cls dd φ' S' H' h' x, g σv h = .exc x h' → Rel X.K φ' S' H' h' → Step φ S H φ' S' H' → RpX X.K φ' S' H' x cls dd → W cls dd σ H')
    (ok : ∀ ps h' kd (kv : List (Key × V)) φ' S' H', g σv h = .ok ps h' → optAll keyP ps = some kd → Rel X.K φ' S' H' h' → Step φ S (upd H p (.dK [])) φ' S' H' → RpK X.K φ' S' kv kd → S' p = none → p ∉ φ' → H' p = some (.dK []) → kv.length ≤ 15 ∧ T (.ref p) (upd H' p (.dK (mergeK [] kv))))
    (good : ∃ ps h' kd, g σv h = .ok ps h' ∧ optAll keyP ps = some kd ∨ ∃ x, g σv h = .exc x h') :
    tPairs trs σ (upd H p (.dK [])) fun ps H2 => H2 p = some (.dK []) ∧ ∃ kvs : List (Key × V), ps = kvs.map (fun kv => (kV kv.1, kv.2)) ∧ kvs.length ≤ 15 ∧ T (.ref p) (upd H2 p (.dK (mergeK [] kvs))) := by
  obtain ⟨r0, s0⟩ := rl.hold (o := .dK []) hp
  have sp := rl.snone hp
  have np := rl.notin hp
  refine h2.run r0 (rs.step s0) ?_
  cases hg : g σv h with
  | stuck =>
    obtain ⟨ps, h', kd, ⟨e, _⟩ | ⟨x, e⟩⟩ := good
    · rw [hg] at e; cases e
    · rw [hg] at e; cases e
  | exc x h' => exact fun cls dd φ' S' H' r2 st rx => post cls dd φ' S' H' h' x hg r2 (s0.trans st) rx
  | ok ps h' =>
    intro b φ' S' H' r2 st rp
    obtain ⟨ps2, h2', kd, ⟨e, hk⟩ | ⟨x, e⟩⟩ := good
    · rw [hg] at e
      cases e
      obtain ⟨kv, rfl, rk⟩ := keyPs_ok rp.1 rp.2 hk
      have np' : p ∉ φ' := by
        obtain ⟨ψ, e, hn⟩ := st.pre
        rw [e]
        intro z
        rcases List.mem_append.mp z with z | z
        · exact np z
        · have := hn p z
          rw [upd_same] at this
          cases this
      have hp' : H' p = some (.dK []) := st.keep p _ upd_same np
      have sp' : S' p = none := (st.old p (by rw [upd_same]; exact fun z => nomatch z)).trans sp
      obtain ⟨z1, z2⟩ := ok ps h' kd kv φ' S' H' hg hk r2 st rk sp' np' hp'
      exact ⟨hp', kv, rfl, z1, z2⟩
    · rw [hg] at e; cases e
theorem upd_rel {K : PySem.W.Frag} {φ : List Addr} {S H : Hp} {h : Hv} (r : Rel K φ S H h) {p : Addr} {o : HO} (sp : S p = none) (np : p ∉ φ) : Rel K φ S (upd H p o) h := ⟨r.len, fun c u e => by
    have q : c ≠ p := fun z => by rw [z, sp] at e; cases e
    rw [upd_ne q]
    exact r.sub c u e, r.nd, fun n c x e1 e2 => by
    obtain ⟨z1, o, z2, z3⟩ := r.cel n c x e1 e2
    have q : c ≠ p := fun z => np (by rw [← z]; exact List.mem_of_getElem? e1)
    exact ⟨z1, o, by rw [upd_ne q]; exact z2, z3⟩⟩
theorem upd_step {φ φ' : List Addr} {S H S' H' : Hp} (st : Step φ S H φ' S' H') {p : Addr} {o : HO} (hp : H p = none) : Step φ S H φ' S' (upd H' p o) := ⟨st.pre, st.sub, st.old, fun a u e hn => by
    have q : a ≠ p := ne_of_none e hp
    rw [upd_ne q]
    exact st.keep a u e hn, fun a ha => by
    by_cases q : a = p
    · rw [q, upd_same]; exact fun z => nomatch z
    · rw [upd_ne q]; exact st.there a ha⟩
theorem se_disp {ks : List (Option Expr)} {vs : List Expr} {g : PSd} (h : SP X W pos ks vs g) (hall : ks.all (·.isSome) = true := by rfl) (hl : ks.length = vs.length := by rfl) (h0 : ks ≠ [] := by exact fun z => nomatch z) (h15 : ks.length ≤ 15 := by decide) : SE X W (.Dict ks vs pos) (eDisp g) := by
  obtain ⟨trs, h1, h2⟩ := h
  refine ⟨_, pe_disp h1 hall hl h0 h15, ⟨fun {φ S H h σv σ Q} rl rs post p hp => ?_⟩⟩
  obtain ⟨_, s0⟩ := rl.hold (o := .dK []) hp
  unfold eDisp at post
  refine sn_disp (rep := repV X.K) (fin := fun _ _ => .stuck) (E := fun c d H' => W c d σ H') h2 rl rs hp (fun cls dd φ' S' H' h' x e r2 st rx => ?_) (fun ps h' kd kv φ' S' H' e hk r2 st rk sp' np' hp' => ?_) ?_
  · rw [e] at post
    exact post cls dd φ' S' H' r2 st rx
  · rw [e, R.bind_ok] at post
    simp only [hk] at post
    by_cases hz : kd.length ≤ 15
    · rw [if_pos hz] at post
      have rm := ((rk.merge .nil).to : _)
      have r4 := (upd_rel (o := .dK (mergeK [] kv)) r2 sp' np').celled (c := .dK (mergeD [] kd)) upd_same sp' np' ⟨_, rfl, rm.1, rm.2⟩
      exact ⟨by rw [rk.len]; exact hz, post (.ref p) _ _ _ r4 ((upd_step (s0.trans st) hp).celled hp) (.cell (by rw [← r2.len, List.getElem?_append_right (Nat.le_refl _), Nat.sub_self]; rfl))⟩
    · rw [if_neg hz] at post
      exact post.elim
  · cases hg : g σv h with
    | stuck => rw [hg] at post; exact post.elim
    | exc x h' => exact ⟨[], h', [], .inr ⟨x, rfl⟩⟩
    | ok ps h' =>
      rw [hg, R.bind_ok] at post
      cases hk : optAll keyP ps with
      | none => simp only [hk] at post; exact post.elim
      | some kd => exact ⟨ps, h', kd, .inl ⟨rfl, hk⟩⟩
/-- a display that changes no more -/
def eDispF (g : PSd) : ES := fun σ h => (g σ h).bind fun ps h1 => match optAll keyP ps with
  | some kd => if kd.length ≤ 15 then .ok (.dct ((mergeD [] kd).map (·.1)) ((mergeD [] kd).map (·.2))) h1 else .stuck
  | none => .stuck
theorem se_dispF {ks : List (Option Expr)} {vs : List Expr} {g : PSd} (h : SP X W pos ks vs g) (hall : ks.all (·.isSome) = true := by rfl) (hl : ks.length = vs.length := by rfl) (h0 : ks ≠ [] := by exact fun z => nomatch z) (h15 : ks.length ≤ 15 := by decide) : SE X W (.Dict ks vs pos) (eDispF g) := by
  obtain ⟨trs, h1, h2⟩ := h
  refine ⟨_, pe_lockP (pe_disp h1 hall hl h0 h15), ⟨fun {φ S H h σv σ Q} rl rs post p hp => ?_⟩⟩
  obtain ⟨_, s0⟩ := rl.hold (o := .dK []) hp
  unfold eDispF at post
  refine sn_disp (T := fun v H1 => ∃ d u, H1 d = some u ∧ Mut (some u) ∧ ∀ (od : Obj), Q v (upd H1 d (.frz od u))) (rep := repV X.K) (fin := fun _ _ => .stuck) (E := fun c d H' => W c d σ H') h2 rl rs hp (fun cls dd φ' S' H' h' x e r2 st rx => ?_) (fun ps h' kd kv φ' S' H' e hk r2 st rk sp' np' hp' => ?_) ?_
  · rw [e] at post
    exact post cls dd φ' S' H' r2 st rx
  · rw [e, R.bind_ok] at post
    simp only [hk] at post
    by_cases hz : kd.length ≤ 15
    · rw [if_pos hz] at post
      have rm := ((rk.merge .nil).to : _)
      refine ⟨by rw [rk.len]; exact hz, p, _, upd_same, True.intro, fun od => ?_⟩
      rw [upd_upd]
      have r4 := (upd_rel (o := .frz od (.dK (mergeK [] kv))) r2 sp' np').still upd_same sp' np'
      exact post (.ref p) _ _ _ r4 ((upd_step (s0.trans st) hp).still hp sp') (.dct upd_same rm.1 (rm.2.mono (Pre.refl _) (Ex.new sp')))
    · rw [if_neg hz] at post
      exact post.elim
  · cases hg : g σv h with
    | stuck => rw [hg] at post; exact post.elim
    | exc x h' => exact ⟨[], h', [], .inr ⟨x, rfl⟩⟩
    | ok ps h' =>
      rw [hg, R.bind_ok] at post
      cases hk : optAll keyP ps with
      | none => simp only [hk] at post; exact post.elim
      | some kd => exact ⟨ps, h', kd, .inl ⟨rfl, hk⟩⟩
/-! d.pop(k) -/
def eDpop (fo fi : ES) : ES := fun σ h => (fo σ h).bind fun x h1 => match kvOf h1 x with
  | some _ => (fi σ h1).bind fun y h2 => (match x, keyOf y with
    | .cell n, some k => (match h2[n]? with
      | some (.dK kd) => (match getD kd k with
        | some d => .ok d (h2.set n (.dK (dropD kd k)))
        | none => .stuck)
      | _ => .stuck)
    | _, _ => .stuck)
  | none => .stuck
theorem se_dpop (ho : SE X W o fo) (hi : SE X W i fi) (hbase : attributeBase o "pop" X.env (eval o X.env) = eval o X.env := by rfl)
    (hfew : ((backTo cpos (starEach [i] X.env)).all (fun x => !x.1) && (backToKw cpos (keywordEach [] X.env)).all (fun x => x.1.isSome) && decide (([i] : List Expr).length + ([] : List Keyword).length + (if ([] : List Keyword).isEmpty then 0 else 1) < 30)) = true := by rfl)
    (hline : (apos.endLine == cpos.line) = true := by rfl) (htr : backTo cpos (starEach [i] X.env) = [(false, eval i X.env)] := by rfl) : SE X W (.Call (.Attribute o "pop" apos) [i] [] cpos) (eDpop fo fi) := by
  obtain ⟨to, h1, h2⟩ := ho
  obtain ⟨ti, k1, k2⟩ := hi
  refine ⟨_, pe_dpop1 h1 k1 ⟨hbase, hfew, hline, htr⟩, ⟨fun rl rs post => h2.bind rl rs post fun x h1 v φ1 S1 H1 rl1 rs1 st rp post => ?_⟩⟩
  cases qx : kvOf h1 x with
  | none => simp only [qx] at post; exact post.elim
  | some kd0 =>
    simp only [qx] at post
    obtain ⟨a, kv0, rfl, ha0, _⟩ := kvOf_ok rl1 rp qx
    refine ⟨a, rfl, .inl ⟨kv0, ha0⟩, k2.bind rl1 rs1 post fun y h2 u φ2 S2 H2 rl2 rs2 st2 rp2 post => ?_⟩
    cases qk : keyOf y with
    | none => cases x <;> (simp only [qk] at post; exact post.elim)
    | some k =>
      cases x with
      | cell n =>
        cases hx : h2[n]? with
        | none => simp only [qk, hx] at post; exact post.elim
        | some c =>
          cases c with
          | dK kd =>
            cases qg : getD kd k with
            | none => simp only [qk, hx, qg] at post; exact post.elim
            | some d =>
              simp only [qk, hx, qg] at post
              cases (show Rp X.K φ1 S1 (.ref a) (.cell n) from rp) with
              | @cell _ _ hn =>
                have hn2 := st2.prefix.at hn
                obtain ⟨_, o', ho', kv, rfl, ek, ra⟩ := rl2.cel n a (.dK kd) hn2 hx
                have rk : RpK X.K φ2 S2 kv kd := .of ek ra
                have ev := keyOf_ok rp2 qk
                subst ev
                rcases rk.get k with ⟨g1, _⟩ | ⟨d', w, g1, g2, rd⟩
                · rw [qg] at g1; cases g1
                · rw [qg] at g1
                  cases g1
                  have rk2 := (rk.drop k).to
                  obtain ⟨r4, s4⟩ := rl2.put (o := .dK (dropK kv k)) (c := .dK (dropD kd k)) hn2 ⟨_, rfl, rk2.1, rk2.2⟩
                  exact ⟨kv, k, w, ho', rfl, g2, post w φ2 S2 _ r4 s4 rd⟩
          | _ => simp only [qk, hx] at post; exact post.elim
      | _ => simp only [qk] at post; exact post.elim
end
/-! sorted(d), whole numbers as keys -/
def intK : Key → Option Int
  | .inl i => some i
  | .inr _ => none
def bSortDI : List D → Hv → R (List D) := fun ds h => match ds with
  | [d] => (match (kvOf h d).bind fun kd => optAll intK (kd.map (·.1)) with
    | some ns => if ns.length < 64 then .ok ((sortI ns).map .int) h else .stuck
    | none => .stuck)
  | _ => .stuck
def rSortDI (K : PySem.W.Frag) : List V → Hp → VK → Prop := fun xs H Q => ∃ (a : Addr) (kvs : List (Key × V)) (ks : List Int), xs = [.ref a] ∧ Rd H a (.dK kvs) ∧ kvs.map (·.1) = ks.map Sum.inl ∧ ks.length < 64 ∧ ∀ (ys : List Int) (p : Addr), ys.Perm ks → ys.Pairwise (· ≤ ·) → H p = none → Q (.ref p) (upd H p (.lst (ys.map V.int)))
theorem intKs : ∀ {ks : List Key} {ns : List Int}, optAll intK ks = some ns → ks = ns.map Sum.inl
  | [], ns, e => by cases e; rfl
  | k :: ks, ns, e => by
    simp only [optAll] at e
    cases k with
    | inr x => cases e
    | inl i =>
      simp only [intK] at e
      cases q : optAll intK ks with
      | none =>
        simp only [q] at e
        cases e
      | some ns' =>
        simp only [q] at e
        cases e
        rw [intKs q]; rfl
theorem cl_sortDI {K : PySem.W.Frag} : CaL K (rSortDI K) bSortDI := by
  intro φ S H h ds vs Q E rl ra post
  unfold bSortDI at post
  split at post
  · next d =>
    obtain ⟨v, rfl, r⟩ := ra.one
    split at post
    · next ns hn =>
      obtain ⟨kd, q1, q2⟩ := Option.bind_eq_some_iff.mp hn
      split at post
      · next hl =>
        obtain ⟨a, kv, rfl, h2, rk⟩ := kvOf_ok rl r q1
        refine ⟨a, kv, ns, rfl, h2, by rw [rk.to.1]; exact intKs q2, hl, fun ns' p hperm hs hp => ?_⟩
        have e : ns' = sortI ns := sort_one (hperm.trans (sortI_perm ns).symm) hs (sortI_rises ns)
        rw [e]
        obtain ⟨r2, s2⟩ := rl.hold (o := .lst ((sortI ns).map V.int)) hp
        exact post _ φ _ _ r2 s2 ⟨p, _, rfl, hp, upd_same, rl.snone hp, rl.notin hp, .of_ints _⟩
      · exact post.elim
    · exact post.elim
  · exact post.elim
theorem cr_sortDI {X : Cx} (hc : X.calm = true := by rfl) : CallR X (.builtin "sorted") (rSortDI X.K) := call_sortedDI hc
end
end VD

set_option Elab.async false
set_option linter.all false
set_option maxRecDepth 100000
set_option maxHeartbeats 4000000
namespace VD
open PySem PySem.Spec PyProof.Rows L2
noncomputable section
/-! ### text * number, str and int of texts -/
def repS (a : Str) (n : Int) : Str := ⟨((List.replicate n.toNat a.cps.toList).flatten).toArray⟩
theorem rep_fold (xs : List Nat) : ∀ (n : Nat) (acc : Array Nat), ((List.replicate n xs.toArray).foldl (· ++ ·) acc) = acc ++ ((List.replicate n xs).flatten).toArray
  | 0, acc => by simp
  | n + 1, acc => by
    rw [List.replicate_succ, List.replicate_succ, List.foldl_cons, rep_fold xs n, List.flatten_cons]
    simp
def rMulS : R2 := fun x y H Q => ∃ (a : Str) (n : Int), x = .str a ∧ y = .int n ∧ (-1000 ≤ n ∧ n ≤ 1000) ∧ a.length ≤ 1000 ∧ Q (.str (repS a n)) H
theorem op_mulS {X : Cx} : OpR X (binaryOp .Mult) rMulS := by
  intro pins s σ H x y v u Q I rx ry h
  obtain ⟨a, n, rfl, rfl, ⟨b0, b1⟩, hl, q⟩ := h
  obtain ⟨t, rfl⟩ := rx
  obtain ⟨t', rfl⟩ := ry
  have ok : ∀ {tk : Tok} {s' : Shared}, Inv X pins σ H s' → EP X pins σ Q (.str (repS a n) tk) s' := fun {tk s'} J => ⟨.str (repS a n), H, J, ⟨_, rfl⟩, q⟩
  have z0 : ¬ n < -(2 ^ 63 : Int) := by omega
  have z1 : ¬ n ≥ 2 ^ 63 := by omega
  refine P.mul_str (by rw [decide_eq_false z0, decide_eq_false z1]; rfl) (fun h1 _ => ?_) (fun h1 _ => ?_) ?_
  · have h3 : (1000 : Int) ≤ (2 ^ 63 - 1) / n := (Int.le_ediv_iff_mul_le (by omega)).mpr (by omega)
    omega
  · have : a.length * n.toNat ≤ 1000 * 1000 := Nat.mul_le_mul hl (by omega)
    exact decide_eq_false (by rw [line_eq]; omega)
  · by_cases h1 : n < 1
    · rw [if_pos h1]
      have e : repS a n = Str.empty := by
        unfold repS
        have : n.toNat = 0 := by omega
        rw [this]; rfl
      rw [e] at ok
      exact ⟨by decide, ok (I.tok _)⟩
    · rw [if_neg h1]
      by_cases h2 : (n == 1 || a.length == 0) = true
      · rw [if_pos h2]
        have e : repS a n = a := by
          cases a with
          | mk cs =>
            unfold repS
            rw [Bool.or_eq_true, beq_iff_eq, beq_iff_eq] at h2
            rcases h2 with h2 | h2
            · rw [h2]
              show Str.mk _ = Str.mk _
              simp
            · have h2 : cs.size = 0 := h2
              have : cs = #[] := Array.size_eq_zero_iff.mp h2
              subst this
              show Str.mk _ = Str.mk _
              simp
        show EP X pins σ Q (.str a t) s
        exact ⟨.str (repS a n), H, I, ⟨t, by rw [e]⟩, q⟩
      · rw [if_neg h2]
        have e : (⟨(List.replicate n.toNat a.cps).foldl (· ++ ·) #[]⟩ : Str) = repS a n := by
          unfold repS
          have := rep_fold a.cps.toList n.toNat #[]
          rw [Array.toArray_toList] at this
          rw [this]
          simp
        rw [e]
        refine ⟨?_, ok (I.tok _)⟩
        rw [line_eq]
        have : (repS a n).length = n.toNat * a.length := by
          show (((List.replicate n.toNat a.cps.toList).flatten).toArray).size = _
          simp [Str.length]
        rw [this]
        exact Nat.le_trans (Nat.mul_le_mul (show n.toNat ≤ 1000 by omega) hl) (by decide)
section
variable {K : PySem.W.Frag}
def oMulS : D → D → Hv → R D := fun x y h => match x, y with
  | .str a, .int n => @ite _ ((-1000 ≤ n ∧ n ≤ 1000) ∧ a.length ≤ 1000) (Classical.propDecidable _) (.ok (.str (repS a n)) h) .stuck
  | _, _ => .stuck
theorem os_mulS : OpS K rMulS oMulS := by
  intro φ S H h x y v u Q E rl rx ry post
  unfold oMulS at post
  split at post
  · cases rx
    cases ry
    split at post
    · next q => exact ⟨_, _, rfl, rfl, q.1, q.2, post _ φ S H rl (Step.refl _ _ _) (.str _)⟩
    · exact post.elim
  · exact post.elim
/-- str of a whole number or a text, int of a whole number, a truth or a text -/
def bStrA : List D → Hv → R D := fun ds h => match ds with
  | [.int i] => if i.natAbs.log2 < 1920 then .ok (.str (toString i)) h else .stuck
  | [.str a] => .ok (.str a) h
  | _ => .stuck
def rStrA : List V → Hp → VK → Prop := fun xs H Q => (∃ i, xs = [.int i] ∧ i.natAbs.log2 < 1920 ∧ Q (.str (toString i)) H) ∨ ∃ a, xs = [.str a] ∧ Q (.str a) H
theorem call_strA {X : Cx} : CallR X (.type "str") rStrA := by
  intro pins s σ H xs us Q I r h
  rcases h with h | h
  · exact call_str_int pins s σ H xs us Q I r h
  · exact SkE.call_str_str pins s σ H xs us Q I r h
theorem cs_strA : CaS K rStrA bStrA := by
  intro φ S H h ds vs Q E rl ra post
  unfold bStrA at post
  split at post
  · obtain ⟨v, rfl, r⟩ := ra.one
    cases r
    split at post
    · next q => exact .inl ⟨_, rfl, q, post _ φ S H rl (Step.refl _ _ _) (.str _)⟩
    · exact post.elim
  · obtain ⟨v, rfl, r⟩ := ra.one
    cases r
    exact .inr ⟨_, rfl, post _ φ S H rl (Step.refl _ _ _) (.str _)⟩
  · exact post.elim
def bIntA : List D → Hv → R D := fun ds h => match ds with
  | [.int i] => .ok (.int i) h
  | [.bl b] => .ok (.int (if b then 1 else 0)) h
  | [.str a] => (match PySem.intText? a with
    | some n => if a.length ≤ 640 then .ok (.int n) h else .stuck
    | none => .stuck)
  | _ => .stuck
def rIntA : List V → Hp → VK → Prop := fun xs H Q => ((∃ i, xs = [.int i] ∧ Q (.int i) H) ∨ ∃ k, xs = [.bl k] ∧ Q (.int (if k then 1 else 0)) H) ∨ ∃ a n, xs = [.str a] ∧ PySem.intText? a = some n ∧ a.length ≤ 640 ∧ Q (.int n) H
theorem call_intA {X : Cx} : CallR X (.type "int") rIntA := by
  intro pins s σ H xs us Q I r h
  rcases h with h | h
  · exact call_int1 pins s σ H xs us Q I r h
  · exact call_int_str pins s σ H xs us Q I r h
theorem cs_intA : CaS K rIntA bIntA := by
  intro φ S H h ds vs Q E rl ra post
  unfold bIntA at post
  split at post
  · obtain ⟨v, rfl, r⟩ := ra.one
    cases r
    exact .inl (.inl ⟨_, rfl, post _ φ S H rl (Step.refl _ _ _) (.int _)⟩)
  · obtain ⟨v, rfl, r⟩ := ra.one
    cases r
    exact .inl (.inr ⟨_, rfl, post _ φ S H rl (Step.refl _ _ _) (.int _)⟩)
  · split at post
    · next n hn =>
      obtain ⟨v, rfl, r⟩ := ra.one
      cases r
      split at post
      · next hl => exact .inr ⟨_, n, rfl, hn, hl, post _ φ S H rl (Step.refl _ _ _) (.int _)⟩
      · exact post.elim
    · exact post.elim
  · exact post.elim
@[simp] theorem bStrA_str {a : Str} {h : Hv} : bStrA [.str a] h = .ok (.str a) h := rfl
theorem bStrA_int {i : Int} {h : Hv} (h1 : -(10 ^ 77) < i) (h2 : i < 10 ^ 77) : bStrA [.int i] h = .ok (.str (toString i)) h := by
  have e : (10 : Int) ^ 77 = 100000000000000000000000000000000000000000000000000000000000000000000000000000 := by decide
  have e2 : (2 : Nat) ^ 256 = 115792089237316195423570985008687907853269984665640564039457584007913129639936 := by decide
  have l : i.natAbs < 2 ^ 256 := by rw [e] at h1 h2; rw [e2]; omega
  exact if_pos (Nat.lt_of_lt_of_le (PySem.Flt.log2_lt_of (by decide) l) (by decide))
@[simp] theorem bIntA_int {i : Int} {h : Hv} : bIntA [.int i] h = .ok (.int i) h := rfl
@[simp] theorem bIntA_bl {b : Bool} {h : Hv} : bIntA [.bl b] h = .ok (.int (if b then 1 else 0)) h := rfl
theorem bIntA_str {a : Str} {n : Int} {h : Hv} (e : PySem.intText? a = some n) (hl : a.length ≤ 640) : bIntA [.str a] h = .ok (.int n) h := by
  show (match PySem.intText? a with | some n => if a.length ≤ 640 then R.ok (D.int n) h else .stuck | none => .stuck) = _
  rw [e]
  exact if_pos hl
theorem oMulS_ap {a : Str} {n : Int} {h : Hv} (h1 : -1000 ≤ n) (h2 : n ≤ 1000) (h3 : a.length ≤ 1000) : oMulS (.str a) (.int n) h = .ok (.str (repS a n)) h := if_pos ⟨⟨h1, h2⟩, h3⟩
end
/-! ### a thing of any kind among others -/
def seqP : PyData → Option (List PyData)
  | .list xs => some xs
  | .tuple xs => some xs
  | _ => none
def inP (h : Hv) (x y : D) : Option Bool := match toPy h 12 x, (toPy h 12 y).bind seqP with
  | some d, some xs => some (xs.any fun z => PyData.eqv z d)
  | _, _ => none
def oInP : D → D → Hv → R D := fun x y h => match inP h x y with
  | some b => .ok (.bl b) h
  | none => .stuck
def oNotInP : D → D → Hv → R D := fun x y h => match inP h x y with
  | some b => .ok (.bl (!b)) h
  | none => .stuck
def rInP (K : PySem.W.Frag) (neg : Bool) : R2 := fun x y H Q => ∃ d e xs, Dp K H x d ∧ Dp K H y e ∧ seqP e = some xs ∧ (d.plain = true ∧ e.plain = true ∧ d.depth ≤ 63) ∧ Q (.bl (if neg then !xs.any fun z => PyData.eqv z d else xs.any fun z => PyData.eqv z d)) H
theorem op_inP {X : Cx} (hu : X.A.units + 64 < cLine) : OpR X (compareOp .In) (rInP X.K false) := by
  intro pins s σ H x y v u Q I rx ry h
  obtain ⟨d, e, xs, hd, he, es, ⟨pd, pe, dd⟩, q⟩ := h
  obtain ⟨as, r1⟩ := Dp.reads I d x v hd rx
  obtain ⟨bs, r2⟩ := Dp.reads I e y u he ry
  have line : ∀ ys : List PyData, X.A.units + 1 + min (PyData.depthAll ys) d.depth < cLine := fun ys => by
    have := Nat.min_le_right (PyData.depthAll ys) d.depth
    omega
  cases e with
  | list ys =>
    cases es
    exact PySem.SeqAt.in_list_data r2 r1 (by simpa only [PyData.plain] using pe) pd (line _) ⟨.bl _, H, I, rfl, q⟩
  | tuple ys =>
    cases es
    exact PySem.SeqAt.in_tuple_data r2 r1 (by simpa only [PyData.plain] using pe) pd (line _) ⟨.bl _, H, I, rfl, q⟩
  | _ => cases es
theorem op_notInP {X : Cx} (hu : X.A.units + 64 < cLine) : OpR X (compareOp .NotIn) (rInP X.K true) := by
  intro pins s σ H x y v u Q I rx ry h
  obtain ⟨d, e, xs, hd, he, es, ⟨pd, pe, dd⟩, q⟩ := h
  obtain ⟨as, r1⟩ := Dp.reads I d x v hd rx
  obtain ⟨bs, r2⟩ := Dp.reads I e y u he ry
  have line : ∀ ys : List PyData, X.A.units + 1 + min (PyData.depthAll ys) d.depth < cLine := fun ys => by
    have := Nat.min_le_right (PyData.depthAll ys) d.depth
    omega
  cases e with
  | list ys =>
    cases es
    exact PySem.SeqAt.notIn_list_data r2 r1 (by simpa only [PyData.plain] using pe) pd (line _) ⟨.bl _, H, I, rfl, q⟩
  | tuple ys =>
    cases es
    exact PySem.SeqAt.notIn_tuple_data r2 r1 (by simpa only [PyData.plain] using pe) pd (line _) ⟨.bl _, H, I, rfl, q⟩
  | _ => cases es
theorem inP_ok {K : PySem.W.Frag} {φ : List Addr} {S H : Hp} {h : Hv} {x y : D} {v u : V} {b : Bool} (rl : Rel K φ S H h) (rx : Rp K φ S v x) (ry : Rp K φ S u y) (e : inP h x y = some b) :
    ∃ d e xs, Dp K H v d ∧ Dp K H u e ∧ seqP e = some xs ∧ (d.plain = true ∧ e.plain = true ∧ d.depth ≤ 63) ∧ (xs.any fun z => PyData.eqv z d) = b := by
  unfold inP at e
  cases e1 : toPy h 12 x with
  | none => simp only [e1] at e; cases e
  | some d =>
    cases e2 : toPy h 12 y with
    | none => simp only [e1, e2, Option.bind_none] at e; cases e
    | some d2 =>
      simp only [e1, e2, Option.bind_some] at e
      cases e3 : seqP d2 with
      | none => simp only [e3] at e; cases e
      | some xs =>
        simp only [e3] at e
        obtain ⟨p1, p2⟩ := toPy_plain 12 x d e1
        obtain ⟨q1, q2⟩ := toPy_plain 12 y d2 e2
        exact ⟨d, d2, xs, dp_of rl _ _ _ _ rx e1, dp_of rl _ _ _ _ ry e2, e3, ⟨p1, q1, by omega⟩, Option.some.inj e⟩
theorem os_inP {K : PySem.W.Frag} : OpS K (rInP K false) oInP := by
  intro φ S H h x y v u Q E rl rx ry post
  simp only [oInP] at post
  cases e : inP h x y with
  | none => simp only [e] at post; exact post.elim
  | some b =>
    simp only [e] at post
    have fin := post _ φ S H rl (Step.refl _ _ _) (.bl b)
    obtain ⟨d, e', xs, h1, h2, h3, h4, h5⟩ := inP_ok rl rx ry e
    exact ⟨d, e', xs, h1, h2, h3, h4, by rw [if_neg Bool.false_ne_true, h5]; exact fin⟩
theorem os_notInP {K : PySem.W.Frag} : OpS K (rInP K true) oNotInP := by
  intro φ S H h x y v u Q E rl rx ry post
  simp only [oNotInP] at post
  cases e : inP h x y with
  | none => simp only [e] at post; exact post.elim
  | some b =>
    simp only [e] at post
    have fin := post _ φ S H rl (Step.refl _ _ _) (.bl (!b))
    obtain ⟨d, e', xs, h1, h2, h3, h4, h5⟩ := inP_ok rl rx ry e
    exact ⟨d, e', xs, h1, h2, h3, h4, by rw [if_pos rfl, h5]; exact fin⟩
/-! ### what an expression makes is still behind it -/
def frzR (n0 : Nat) (r : R D) : R D := match r with
  | .ok d h => exitD n0 d h
  | _ => .stuck
def eFrz (f : ES) : ES := fun σ h => frzR h.length (f σ h)
theorem se_frz {X : Cx} {W : WX} {e : Expr} {f : ES} (hs : SE X W e f) : SE X W e (eFrz f) := by
  obtain ⟨t, h1, h2⟩ := hs
  refine ⟨t, h1, ⟨fun {φ S H h σv σ Q} rl rs post => h2.run rl rs ?_⟩⟩
  unfold eFrz at post
  have en : h.length = φ.length := rl.len.symm
  cases q : f σv h with
  | ok d h' =>
    rw [q] at post
    intro v φ' S' H' r2 st rv
    simp only [frzR] at post
    unfold exitD at post
    split at post
    · next d' h'' q1 q2 =>
      split at post
      · next hn =>
        rw [en] at q1 q2 hn
        obtain ⟨s2, _⟩ := exit_step st r2
        exact post v _ _ H' (exit_rel r2 hn q2) s2 (frz_ok r2 _ _ _ _ rv q1)
      · exact post.elim
    · exact post.elim
  | exc x h' => rw [q] at post; exact post.elim
  | stuck => rw [q] at post; exact post.elim
end
end VD

set_option Elab.async false
set_option linter.all false
set_option maxRecDepth 100000
set_option maxHeartbeats 4000000
namespace VD
open PySem PySem.Spec PyProof.Rows L2
noncomputable section
/-! ### what is computed, by rewriting -/
@[simp high] theorem at0 {α : Type} (a : α) (l : List α) : (a :: l)[0]? = some a := rfl
section
variable {σ : VS} {h : Hv} {i j : Nat} {d : D} {f g k : ES} {l : LS} {c c2 : CS} {α : Type}
@[simp] theorem eVar_ap : eVar i σ h = (match σ[i]? with
  | some (some d) => .ok d h
  | _ => .stuck) := rfl
@[simp] theorem eK_ap : eK d σ h = .ok d h := rfl
@[simp] theorem eV_ap : eV l σ h = (l σ h).bind fun ds h' => .ok (.lst ds) h' := rfl
@[simp] theorem eC_ap : eC l σ h = (l σ h).bind fun ds h' => .ok (.cell h'.length) (h' ++ [.lst ds]) := rfl
def kOp (ro : D → D → Hv → R α) (g : ES) (σ : VS) (x : D) (h : Hv) : R α := (g σ h).bind (ro x)
@[simp] theorem eOp_ap {ro : D → D → Hv → R α} : eOp ro f g σ h = (f σ h).bind (kOp ro g σ) := rfl
@[simp] theorem kOp_ap {ro : D → D → Hv → R α} {x : D} : kOp ro g σ x h = (g σ h).bind (ro x) := rfl
@[simp] theorem eUn_ap {ro : D → Hv → R D} : eUn ro f σ h = (f σ h).bind ro := rfl
@[simp] theorem toB_ap : toB f σ h = (f σ h).bind fun d h1 => (match d with
  | .bl b => .ok b h1
  | _ => .stuck) := rfl
@[simp] theorem cTru_ap : cTru f σ h = (f σ h).bind fun d h1 => (match dTru h1 d with
  | some b => .ok b h1
  | none => .stuck) := rfl
def kAnd (c2 : CS) (σ : VS) (k : Bool) (h : Hv) : R Bool := if k then c2 σ h else .ok false h
@[simp] theorem cAnd_ap : cAnd c c2 σ h = (c σ h).bind (kAnd c2 σ) := rfl
@[simp] theorem kAnd_ap {k : Bool} : kAnd c2 σ k h = if k then c2 σ h else .ok false h := rfl
def kOr (c2 : CS) (σ : VS) (k : Bool) (h : Hv) : R Bool := if k then .ok true h else c2 σ h
@[simp] theorem cOr_ap : cOr c c2 σ h = (c σ h).bind (kOr c2 σ) := rfl
@[simp] theorem kOr_ap {k : Bool} : kOr c2 σ k h = if k then .ok true h else c2 σ h := rfl
@[simp] theorem cNot_ap : cNot c σ h = (c σ h).bind fun k h1 => .ok (!k) h1 := rfl
def kIf (u v : VS → Hv → R α) (σ : VS) (k : Bool) (h : Hv) : R α := if k then u σ h else v σ h
@[simp] theorem eIf_ap {u v : VS → Hv → R α} : eIf c u v σ h = (c σ h).bind (kIf u v σ) := rfl
@[simp] theorem kIf_ap {u v : VS → Hv → R α} {k : Bool} : kIf u v σ k h = if k then u σ h else v σ h := rfl
@[simp] theorem aNil_ap : aNil σ h = .ok [] h := rfl
def kCons (l : LS) (σ : VS) (d : D) (h : Hv) : R (List D) := (l σ h).bind fun ds h2 => .ok (d :: ds) h2
@[simp] theorem aCons_ap : aCons f l σ h = (f σ h).bind (kCons l σ) := rfl
@[simp] theorem kCons_ap : kCons l σ d h = (l σ h).bind fun ds h2 => .ok (d :: ds) h2 := rfl
@[simp] theorem eTup_ap : eTup l σ h = (l σ h).bind fun ds h1 => if ds.length ≤ 16777216 then .ok (.tup ds) h1 else .stuck := rfl
@[simp] theorem lLst_ap : lLst l σ h = (l σ h).bind fun ds h1 => if ds.length ≤ 16777216 then .ok ds h1 else .stuck := rfl
def kAndV (g : ES) (σ : VS) (d : D) (h : Hv) : R D := match d with
  | .bl true => g σ h
  | .bl false => .ok (.bl false) h
  | _ => .stuck
@[simp] theorem eAndV_ap : eAndV f g σ h = (f σ h).bind (kAndV g σ) := by
  show (f σ h).bind _ = _
  cases f σ h with
  | ok d h1 => cases d with
    | bl b => cases b <;> rfl
    | _ => rfl
  | exc x h1 => rfl
  | stuck => rfl
@[simp] theorem kAndV_ap {k : Bool} : kAndV g σ (.bl k) h = if k then g σ h else .ok (.bl false) h := by cases k <;> rfl
def kOrV (g : ES) (σ : VS) (d : D) (h : Hv) : R D := match d with
  | .bl true => .ok (.bl true) h
  | .bl false => g σ h
  | _ => .stuck
@[simp] theorem eOrV_ap : eOrV f g σ h = (f σ h).bind (kOrV g σ) := by
  show (f σ h).bind _ = _
  cases f σ h with
  | ok d h1 => cases d with
    | bl b => cases b <;> rfl
    | _ => rfl
  | exc x h1 => rfl
  | stuck => rfl
@[simp] theorem kOrV_ap {k : Bool} : kOrV g σ (.bl k) h = if k then .ok (.bl true) h else g σ h := by cases k <;> rfl
@[simp] theorem eNotV_ap : eNotV f σ h = (f σ h).bind fun d h1 => (match d with
  | .bl b => .ok (.bl (!b)) h1
  | _ => .stuck) := rfl
@[simp] theorem eCa_ap {ro : List D → Hv → R α} : eCa ro l σ h = (l σ h).bind ro := rfl
@[simp] theorem eIsi_ap {T : String} : eIsi T f σ h = (f σ h).bind fun d h1 => (match (tyName h1 d).bind fun t => kitB t T with
  | some r => .ok (.bl r) h1
  | none => .stuck) := rfl
@[simp] theorem eChain_ap {o1 o2 : D → D → Hv → R D} : eChain o1 o2 f g k σ h = (f σ h).bind fun x h1 => (g σ h1).bind fun y h2 => (o1 x y h2).bind fun z h3 => (match z with
  | .bl true => (k σ h3).bind fun u h4 => o2 y u h4
  | .bl false => .ok (.bl false) h3
  | _ => .stuck) := rfl
def kStr1 (ro : D → D → Hv → R D) (g : ES) (σ : VS) (x : D) (h : Hv) : R D := match x with
      | .str _ => (g σ h).bind fun y h2 => ro x y h2
      | _ => .stuck
@[simp] theorem eStr1_ap {ro : D → D → Hv → R D} : eStr1 ro f g σ h = (f σ h).bind (kStr1 ro g σ) := rfl
@[simp] theorem kStr1_ap {ro : D → D → Hv → R D} {x : Str} : kStr1 ro g σ (.str x) h = (g σ h).bind (ro (.str x)) := rfl
def kBM (ro : D → List D → Hv → R D) (l : LS) (σ : VS) (x : D) (h : Hv) : R D := match lOf h x with
  | some _ => (l σ h).bind fun ds h2 => ro x ds h2
  | none => .stuck
@[simp] theorem eBM_ap {ro : D → List D → Hv → R D} : eBM ro f l σ h = (f σ h).bind (kBM ro l σ) := rfl
@[simp] theorem kBM_ap {ro : D → List D → Hv → R D} {x : D} : kBM ro l σ x h = match lOf h x with
  | some _ => (l σ h).bind (ro x)
  | none => .stuck := rfl
@[simp] theorem pNo_ap : pNo σ h = .ok none h := rfl
@[simp] theorem pAt_ap : pAt f σ h = (f σ h).bind fun d h1 => (match d with
  | .int i => .ok (some i) h1
  | _ => .stuck) := rfl
def kSl (d : D) (l u : Option Int) (h : Hv) : R (List D) := match lOf h d with
  | some xs => .ok (cutD xs l u) h
  | none => .stuck
def kSl1 (hi : OS) (σ : VS) (d : D) (l : Option Int) (h : Hv) : R (List D) := (hi σ h).bind (kSl d l)
def kSl2 (lo hi : OS) (σ : VS) (d : D) (h : Hv) : R (List D) := (lo σ h).bind (kSl1 hi σ d)
@[simp] theorem lSl_ap {lo hi : OS} : lSl f lo hi σ h = (f σ h).bind (kSl2 lo hi σ) := rfl
@[simp] theorem kSl2_ap {lo hi : OS} : kSl2 lo hi σ d h = (lo σ h).bind (kSl1 hi σ d) := rfl
@[simp] theorem kSl1_ap {hi : OS} {u : Option Int} : kSl1 hi σ d u h = (hi σ h).bind (kSl d u) := rfl
@[simp] theorem kSl_ap {u v : Option Int} : kSl d u v h = match lOf h d with
  | some xs => .ok (cutD xs u v) h
  | none => .stuck := rfl
def kSe (d : D) (l u : Option Int) (h : Hv) : R D := match slD d l u with
  | some d' => .ok d' h
  | none => .stuck
def kSe1 (hi : OS) (σ : VS) (d : D) (l : Option Int) (h : Hv) : R D := (hi σ h).bind (kSe d l)
def kSe2 (lo hi : OS) (σ : VS) (d : D) (h : Hv) : R D := (lo σ h).bind (kSe1 hi σ d)
@[simp] theorem eSl_ap {lo hi : OS} : eSl f lo hi σ h = (f σ h).bind (kSe2 lo hi σ) := rfl
@[simp] theorem kSe2_ap {lo hi : OS} : kSe2 lo hi σ d h = (lo σ h).bind (kSe1 hi σ d) := rfl
@[simp] theorem kSe1_ap {hi : OS} {u : Option Int} : kSe1 hi σ d u h = (hi σ h).bind (kSe d u) := rfl
@[simp] theorem kSe_ap {u v : Option Int} : kSe d u v h = match slD d u v with
  | some d' => .ok d' h
  | none => .stuck := rfl
theorem lLc_ap {is : IS} {gd : GD} {el : ES} {own : List Nat} : lLc is gd c el own σ h = (is σ h).bind fun p h1 => if p.1.length ≤ 16777216 then lcD p.2 gd c el p.1 (wipeV σ own) h1 else .stuck := rfl
@[simp] theorem cYes_ap : cYes σ h = .ok true h := rfl
@[simp] theorem wipeV_nil : wipeV σ [] = σ := rfl
@[simp] theorem wipeV_cons {vs : List Nat} : wipeV σ (i :: vs) = (wipeV σ vs).set i none := rfl
@[simp] theorem cmP {sem : List D → Hv → R D} : Cm.f .P sem = callP sem := rfl
@[simp] theorem cmB {sem : List D → Hv → R D} : Cm.f .B sem = callB sem := rfl
@[simp] theorem cmM {sem : List D → Hv → R D} : Cm.f .M sem = sem := rfl
-- operators
@[simp] theorem oAdd_int {a b : Int} : oAdd (.int a) (.int b) h = .ok (.int (a + b)) h := rfl
theorem oAdd_str {a b : Str} : oAdd (.str a) (.str b) h = if a.length + b.length ≤ 16777216 then .ok (.str (a ++ b)) h else .stuck := rfl
@[simp] theorem oSub_int {a b : Int} : oSub (.int a) (.int b) h = .ok (.int (a - b)) h := rfl
theorem oMul_int {a b : Int} : oMul (.int a) (.int b) h = if mulOk a b then .ok (.int (a * b)) h else .stuck := rfl
@[simp] theorem oMod_int {a b : Int} : oMod (.int a) (.int b) h = if 0 < b then .ok (.int (a % b)) h else .stuck := rfl
theorem oFdiv_int {a b : Int} : oFdiv (.int a) (.int b) h = if divOk b then .ok (.int (a / b)) h else .stuck := rfl
@[simp] theorem oPow_int {a b : Int} : oPow (.int a) (.int b) h = if powOk a b then .ok (.int (a ^ b.toNat)) h else .stuck := rfl
@[simp] theorem uNeg_int {a : Int} : uNeg (.int a) h = .ok (.int (-a)) h := rfl
@[simp] theorem oLt_int {a b : Int} : oLt (.int a) (.int b) h = .ok (.bl (decide (a < b))) h := rfl
@[simp] theorem oGt_int {a b : Int} : oGt (.int a) (.int b) h = .ok (.bl (decide (b < a))) h := rfl
@[simp] theorem oLe_int {a b : Int} : oLe (.int a) (.int b) h = .ok (.bl (decide (a ≤ b))) h := rfl
@[simp] theorem oGe_int {a b : Int} : oGe (.int a) (.int b) h = .ok (.bl (decide (b ≤ a))) h := rfl
theorem oLt_str {a b : Str} : oLt (.str a) (.str b) h = .ok (.bl (decide (a.cps.toList < b.cps.toList))) h := rfl
@[simp] theorem toPy_int {n : Nat} {a : Int} : toPy h (n + 1) (.int a) = some (.int a) := rfl
@[simp] theorem toPy_bl {n : Nat} {a : Bool} : toPy h (n + 1) (.bl a) = some (.bool a) := rfl
@[simp] theorem toPy_str {n : Nat} {a : Str} : toPy h (n + 1) (.str a) = some (.str a) := rfl
@[simp] theorem toPy_non {n : Nat} : toPy h (n + 1) .non = some .none := rfl
@[simp] theorem toPy_lst {n : Nat} {xs : List D} : toPy h (n + 1) (.lst xs) = (optAll (toPy h n) xs).map .list := rfl
@[simp] theorem toPy_fz {n : Nat} {xs : List D} : toPy h (n + 1) (.fz xs) = (optAll (toPy h n) xs).map .list := rfl
@[simp] theorem toPy_tup {n : Nat} {xs : List D} : toPy h (n + 1) (.tup xs) = (optAll (toPy h n) xs).map .tuple := rfl
@[simp] theorem toPy_cell {n m : Nat} : toPy h (n + 1) (.cell m) = (match h[m]? with
    | some (.lst ds) => (optAll (toPy h n) ds).map .list
    | _ => none) := rfl
@[simp] theorem optAll_nil {β : Type} {g : β → Option α} : optAll g [] = some [] := rfl
@[simp] theorem optAll_cons {β : Type} {g : β → Option α} {x : β} {xs : List β} : optAll g (x :: xs) = (match g x with
    | some a => (match optAll g xs with
      | some as => some (a :: as)
      | none => none)
    | none => none) := rfl
theorem optAll_map {β γ : Type} {g : β → Option α} {e : γ → β} {e' : γ → α} : ∀ {xs : List γ}, (∀ x ∈ xs, g (e x) = some (e' x)) → optAll g (xs.map e) = some (xs.map e')
  | [], _ => rfl
  | x :: xs, q => by
    rw [List.map_cons, optAll_cons, q x List.mem_cons_self, optAll_map (xs := xs) fun y hy => q y (List.mem_cons_of_mem _ hy)]
    rfl
theorem optAll_append {β : Type} {g : β → Option α} {xs ys : List β} {as bs : List α} (h1 : optAll g xs = some as) (h2 : optAll g ys = some bs) : optAll g (xs ++ ys) = some (as ++ bs) := by
  induction xs generalizing as with
  | nil => cases h1; exact h2
  | cons x xs ih =>
    rw [optAll_cons] at h1
    cases q : g x with
    | none => rw [q] at h1; cases h1
    | some a =>
      cases q2 : optAll g xs with
      | none => rw [q] at h1; simp only [q2] at h1; cases h1
      | some as' =>
        rw [q] at h1
        simp only [q2] at h1
        cases h1
        rw [List.cons_append, optAll_cons, q, ih q2]
        rfl
@[simp] theorem frz_int {n0 n : Nat} {a : Int} : frz n0 h (n + 1) (.int a) = some (.int a) := rfl
@[simp] theorem frz_bl {n0 n : Nat} {a : Bool} : frz n0 h (n + 1) (.bl a) = some (.bl a) := rfl
@[simp] theorem frz_str {n0 n : Nat} {a : Str} : frz n0 h (n + 1) (.str a) = some (.str a) := rfl
@[simp] theorem frz_non {n0 n : Nat} : frz n0 h (n + 1) .non = some .non := rfl
@[simp] theorem frz_lst {n0 n : Nat} {xs : List D} : frz n0 h (n + 1) (.lst xs) = (optAll (frz n0 h n) xs).map .lst := rfl
@[simp] theorem frz_fz {n0 n : Nat} {xs : List D} : frz n0 h (n + 1) (.fz xs) = (optAll (frz n0 h n) xs).map .fz := rfl
@[simp] theorem frz_tup {n0 n : Nat} {xs : List D} : frz n0 h (n + 1) (.tup xs) = (optAll (frz n0 h n) xs).map .tup := rfl
@[simp] theorem frz_cell {n0 n m : Nat} : frz n0 h (n + 1) (.cell m) = (if m < n0 then some (.cell m) else match h[m]? with
    | some (.lst ds) => (optAll (frz n0 h n) ds).map .lst
    | some (.dF kvs) => (optAll (frz n0 h n) (kvs.map (·.2))).map (.dct (kvs.map (·.1)))
    | some (.ins c fs) => (optAll (frz n0 h n) (fs.map (·.2))).map (.obj c (fs.map (·.1)))
    | _ => none) := rfl
@[simp] theorem frz_dct {n0 n : Nat} {ks : List Key} {xs : List D} : frz n0 h (n + 1) (.dct ks xs) = (optAll (frz n0 h n) xs).map (.dct ks) := rfl
@[simp] theorem frz_obj {n0 n : Nat} {c : Str} {ks : List Str} {xs : List D} : frz n0 h (n + 1) (.obj c ks xs) = (optAll (frz n0 h n) xs).map (.obj c ks) := rfl
@[simp] theorem eqD_int {a b : Int} : eqD h (.int a) (.int b) = some (decide (a = b)) := by
  show some (PyData.eqv (.int a) (.int b)) = _
  simp only [PyData.eqv]
  exact congrArg some (by rw [Bool.beq_eq_decide_eq])
@[simp] theorem eqD_str {a b : Str} : eqD h (.str a) (.str b) = some (decide (a = b)) := by
  show some (PyData.eqv (.str a) (.str b)) = _
  simp only [PyData.eqv]
  exact congrArg some (by rw [Bool.eq_iff_iff, beq_iff_eq, decide_eq_true_eq])
@[simp] theorem eqD_bl {a b : Bool} : eqD h (.bl a) (.bl b) = some (decide (a = b)) := by
  show some (PyData.eqv (.bool a) (.bool b)) = _
  simp only [PyData.eqv]
  exact congrArg some (by cases a <;> cases b <;> rfl)
@[simp] theorem oEq_ap {x y : D} : oEq x y h = (match eqD h x y with
  | some b => .ok (.bl b) h
  | none => .stuck) := rfl
@[simp] theorem oNe_ap {x y : D} : oNe x y h = (match eqD h x y with
  | some b => .ok (.bl (!b)) h
  | none => .stuck) := rfl
@[simp] theorem oIs_ap {x y : D} : oIs x y h = (match isD x y with
  | some b => .ok (.bl b) h
  | none => .stuck) := rfl
@[simp] theorem oIsNot_ap {x y : D} : oIsNot x y h = (match isD x y with
  | some b => .ok (.bl (!b)) h
  | none => .stuck) := rfl
@[simp] theorem isD_nn : isD .non .non = some true := rfl
@[simp] theorem isD_in {a : Int} : isD (.int a) .non = some false := rfl
@[simp] theorem isD_sn {a : Str} : isD (.str a) .non = some false := rfl
@[simp] theorem isD_bn {a : Bool} : isD (.bl a) .non = some false := rfl
@[simp] theorem isD_ln {a : List D} : isD (.lst a) .non = some false := rfl
@[simp] theorem isD_tn {a : List D} : isD (.tup a) .non = some false := rfl
@[simp] theorem isD_cn {n : Nat} : isD (.cell n) .non = some false := rfl
@[simp] theorem isD_bb {a b : Bool} : isD (.bl a) (.bl b) = some (decide (a = b)) := rfl
@[simp] theorem lOf_lst {xs : List D} : lOf h (.lst xs) = some xs := rfl
@[simp] theorem lOf_fz {xs : List D} : lOf h (.fz xs) = some xs := rfl
@[simp] theorem lOf_tup {xs : List D} : lOf h (.tup xs) = none := rfl
@[simp] theorem lOf_str {x : Str} : lOf h (.str x) = none := rfl
@[simp] theorem lOf_cell {n : Nat} : lOf h (.cell n) = (match h[n]? with
    | some (.lst xs) => some xs
    | _ => none) := rfl
@[simp] theorem kOf_lst {xs : List D} : kOf h (.lst xs) = some xs := rfl
@[simp] theorem kOf_cell {n : Nat} : kOf h (.cell n) = (match h[n]? with
    | some (.lst xs) => some xs
    | _ => none) := rfl
@[simp] theorem tOf_tup {xs : List D} : tOf (.tup xs) = some xs := rfl
@[simp] theorem sqOf_ap {x : D} : sqOf h x = (match lOf h x with
  | some xs => some xs
  | none => tOf x) := rfl
@[simp] theorem oIx_ap {x : D} {a : Int} : oIx x (.int a) h = (match ixD h x a with
    | some d => .ok d h
    | none => .stuck) := rfl
@[simp] theorem ixD_lst {xs : List D} {a : Int} : ixD h (.lst xs) a = atI xs a := rfl
@[simp] theorem ixD_fz {xs : List D} {a : Int} : ixD h (.fz xs) a = atI xs a := rfl
@[simp] theorem ixD_tup {xs : List D} {a : Int} : ixD h (.tup xs) a = atI xs a := rfl
theorem ixD_str {x : Str} {a : Int} : ixD h (.str x) a = if x.length ≤ 16777216 then (match atI x.cps.toList a with
    | some c => some (.str ⟨#[c]⟩)
    | none => none) else none := rfl
@[simp] theorem ixD_cell {n : Nat} {a : Int} : ixD h (.cell n) a = (match h[n]? with
    | some (.lst xs) => atI xs a
    | _ => none) := by
  show (match sqOf h (.cell n) with
    | some ds => atI ds a
    | none => none) = _
  simp only [sqOf_ap, lOf_cell]
  cases q : h[n]? with
  | none => rfl
  | some c => cases c <;> rfl
@[simp] theorem bLen_one {x : D} : bLen [x] h = (match lenD h x with
    | some n => .ok (.int n) h
    | none => .stuck) := rfl
@[simp] theorem lenD_lst {xs : List D} : lenD h (.lst xs) = some (xs.length : Int) := rfl
@[simp] theorem lenD_fz {xs : List D} : lenD h (.fz xs) = some (xs.length : Int) := rfl
@[simp] theorem lenD_tup {xs : List D} : lenD h (.tup xs) = some (xs.length : Int) := rfl
theorem lenD_str {x : Str} : lenD h (.str x) = if x.length ≤ 16777216 then some (x.length : Int) else none := rfl
@[simp] theorem lenD_cell {n : Nat} : lenD h (.cell n) = (match h[n]? with
    | some (.lst xs) => some (xs.length : Int)
    | _ => none) := by
  show (sqOf h (.cell n)).map (fun xs : List D => (xs.length : Int)) = _
  simp only [sqOf_ap, lOf_cell]
  cases q : h[n]? with
  | none => rfl
  | some c => cases c <;> rfl
@[simp] theorem bAbs_int {a : Int} : bAbs [.int a] h = .ok (.int (if a < 0 then -a else a)) h := rfl
@[simp] theorem bMax2_int {a b : Int} : bMax2 [.int a, .int b] h = .ok (.int (if b > a then b else a)) h := rfl
@[simp] theorem bMin2_int {a b : Int} : bMin2 [.int a, .int b] h = .ok (.int (if b < a then b else a)) h := rfl
@[simp] theorem bList_one {x : D} : bList [x] h = (match sqOf h x with
    | some xs => .ok xs h
    | none => .stuck) := rfl
theorem toI_map (ns : List Int) : optAll toI (ns.map .int) = some ns := by
  have := optAll_map (g := toI) (e := D.int) (e' := id) (xs := ns) fun _ _ => rfl
  rw [List.map_id] at this
  exact this
theorem toBl_map (ns : List Bool) : optAll toBl (ns.map .bl) = some ns := by
  have := optAll_map (g := toBl) (e := D.bl) (e' := id) (xs := ns) fun _ _ => rfl
  rw [List.map_id] at this
  exact this
theorem toS_map (ns : List Str) : optAll toS (ns.map .str) = some ns := by
  have := optAll_map (g := toS) (e := D.str) (e' := id) (xs := ns) fun _ _ => rfl
  rw [List.map_id] at this
  exact this
@[simp] theorem tyName_non : tyName h .non = some "NoneType" := rfl
@[simp] theorem tyName_bl {b : Bool} : tyName h (.bl b) = some "bool" := rfl
@[simp] theorem tyName_int {b : Int} : tyName h (.int b) = some "int" := rfl
@[simp] theorem tyName_str {b : Str} : tyName h (.str b) = some "str" := rfl
@[simp] theorem tyName_lst {b : List D} : tyName h (.lst b) = some "list" := rfl
@[simp] theorem tyName_tup {b : List D} : tyName h (.tup b) = some "tuple" := rfl
end
section
variable {σ : VS} {h : Hv} {f g k : ES} {l : LS} {c : CS} {s1 s2 : SS} {i : Nat}
@[simp] theorem sNext_ap : sNext σ h = .next σ h := rfl
@[simp] theorem sBrk_ap : sBrk σ h = .brk σ h := rfl
@[simp] theorem sCont_ap : sCont σ h = .cont σ h := rfl
theorem sSeq_ap : sSeq s1 s2 σ h = (match s1 σ h with
  | .next σ' h' => s2 σ' h'
  | r => r) := rfl
@[simp] theorem sDrop_ap : sDrop f σ h = (f σ h).then σ fun _ h' => .next σ h' := rfl
@[simp] theorem sRet_ap : sRet f σ h = (f σ h).then σ fun d h' => .ret d h' := rfl
theorem sIf_ap : sIf c s1 s2 σ h = (c σ h).then σ fun k h' => if k then s1 σ h' else s2 σ h' := rfl
@[simp] theorem sSet_ap : sSet i f σ h = (f σ h).then σ fun d h' => .next (σ.set i (some d)) h' := rfl
@[simp] theorem sPar_ap {j : Nat} : sPar i j l σ h = (l σ h).then σ fun ds h' => (match ds with
  | [x, y] => .next ((σ.set i (some x)).set j (some y)) h'
  | _ => .stuck) := rfl
@[simp] theorem sAsg_ap {gd : GD} : sAsg f gd σ h = (f σ h).then σ fun d h' => (match gd d σ with
  | some σ' => .next σ' h'
  | none => .stuck) := rfl
theorem sFor_ap {is : IS} {gd : GD} : sFor is gd s1 σ h = (is σ h).then σ fun p h1 => forD p.2 gd s1 p.1 σ h1 := rfl
def kSI3 (d x i : D) (σ : VS) (h : Hv) : RS := match x, i with
  | .cell n, .int k => (match h[n]? with
    | some (.lst xs) => (match ixN xs.length k with
      | some j => .next σ (h.set n (.lst (xs.set j d)))
      | none => .stuck)
    | _ => .stuck)
  | _, _ => .stuck
def kSI2 (k : ES) (σ : VS) (d x : D) (h : Hv) : RS := (k σ h).then σ fun i h3 => kSI3 d x i σ h3
def kSI1 (g k : ES) (σ : VS) (d : D) (h : Hv) : RS := (g σ h).then σ (kSI2 k σ d)
@[simp] theorem sSetIx_ap : sSetIx f g k σ h = (f σ h).then σ (kSI1 g k σ) := rfl
@[simp] theorem kSI1_ap {d : D} : kSI1 g k σ d h = (g σ h).then σ (kSI2 k σ d) := rfl
@[simp] theorem kSI2_ap {d x : D} : kSI2 k σ d x h = (k σ h).then σ fun i h3 => kSI3 d x i σ h3 := rfl
@[simp] theorem kSI3_ap {d : D} {n : Nat} {i : Int} : kSI3 d (.cell n) (.int i) σ h = (match h[n]? with
    | some (.lst xs) => (match ixN xs.length i with
      | some j => .next σ (h.set n (.lst (xs.set j d)))
      | none => .stuck)
    | _ => .stuck) := rfl
@[simp] theorem sRaise_ap {C : Str} : sRaise C σ h = .exc ⟨C, none⟩ σ h := rfl
@[simp] theorem gN_ap {d : D} : gN i d σ = some (σ.set i (some d)) := rfl
@[simp] theorem gsNil_ap : gsNil [] σ = some σ := rfl
@[simp] theorem gsCons_ap {gd : GD} {gs : GDs} {d : D} {r : List D} : gsCons gd gs (d :: r) σ = (match gd d σ with
    | some σ' => gs r σ'
    | none => none) := rfl
@[simp] theorem gT_ap {n : Nat} {gs : GDs} {ds : List D} : gT n gs (.tup ds) σ = if ds.length = n then gs ds σ else none := rfl
@[simp] theorem iL_ap : iL f σ h = (f σ h).bind fun d h1 => (match d with
  | .lst ds => .ok (ds, always) h1
  | .fz ds => .ok (ds, always) h1
  | _ => .stuck) := rfl
@[simp] theorem iC_ap : iC f σ h = (f σ h).bind fun d h1 => (match d with
  | .cell n => (match h1[n]? with
    | some (.lst ds) => .ok (ds, isCell n ds) h1
    | _ => .stuck)
  | _ => .stuck) := rfl
@[simp] theorem iT_ap : iT f σ h = (f σ h).bind fun d h1 => (match d with
  | .tup ds => .ok (ds, always) h1
  | _ => .stuck) := rfl
@[simp] theorem iS_ap : iS f σ h = (f σ h).bind fun d h1 => (match d with
  | .str x => .ok (signsD x, always) h1
  | _ => .stuck) := rfl
def kR1 (ds : List D) (h1 : Hv) : R (List D × (Hv → Bool)) := match ds with
  | [.int n] => @ite _ (-(2 ^ 62) ≤ n ∧ n < 2 ^ 62) (Classical.propDecidable _) (.ok (rgD 0 n.toNat, always) h1) .stuck
  | _ => .stuck
def kR2 (ds : List D) (h1 : Hv) : R (List D × (Hv → Bool)) := match ds with
  | [.int m, .int n] => @ite _ ((-(2 ^ 62) ≤ m ∧ m < 2 ^ 62) ∧ (-(2 ^ 62) ≤ n ∧ n < 2 ^ 62)) (Classical.propDecidable _) (.ok (rgD m (n - m).toNat, always) h1) .stuck
  | _ => .stuck
@[simp] theorem iR1_ap : iR1 l σ h = (l σ h).bind kR1 := rfl
@[simp] theorem iR2_ap : iR2 l σ h = (l σ h).bind kR2 := rfl
@[simp] theorem kR1_ap {n : Int} (h0 : -4000000000000000000 ≤ n) (h1 : n ≤ 4000000000000000000) : kR1 [.int n] h = .ok (rgD 0 n.toNat, always) h := if_pos ⟨Int.le_trans (by decide) h0, Int.lt_of_le_of_lt h1 (by decide)⟩
@[simp] theorem kR2_ap {m n : Int} (h0 : -4000000000000000000 ≤ m) (h1 : m ≤ 4000000000000000000) (h2 : -4000000000000000000 ≤ n) (h3 : n ≤ 4000000000000000000) : kR2 [.int m, .int n] h = .ok (rgD m (n - m).toNat, always) h := if_pos ⟨⟨Int.le_trans (by decide) h0, Int.lt_of_le_of_lt h1 (by decide)⟩, ⟨Int.le_trans (by decide) h2, Int.lt_of_le_of_lt h3 (by decide)⟩⟩
def kRg (d : D) (h1 : Hv) : R (List D) := match d with
  | .int n => @ite _ ((-(2 ^ 62) ≤ n ∧ n < 2 ^ 62) ∧ n.toNat ≤ 2 ^ 24) (Classical.propDecidable _) (.ok (rgD 0 n.toNat) h1) .stuck
  | _ => .stuck
@[simp] theorem lRg1_ap : lRg1 f σ h = (f σ h).bind kRg := rfl
@[simp] theorem kRg_ap {n : Int} (h0 : -16000000 ≤ n) (h1 : n ≤ 16000000) : kRg (.int n) h = .ok (rgD 0 n.toNat) h := if_pos ⟨⟨Int.le_trans (by decide) h0, Int.lt_of_le_of_lt h1 (by decide)⟩, by omega⟩
@[simp] theorem iZ_ap : iZ l σ h = (l σ h).bind fun ds h1 => (match ds with
  | [x, y] => (match lsOf x, lsOf y with
    | some xs, some ys => if xs.length = ys.length then .ok (zipD xs ys, always) h1 else .stuck
    | _, _ => .stuck)
  | _ => .stuck) := rfl
@[simp] theorem lsOf_lst {xs : List D} : lsOf (.lst xs) = some xs := rfl
@[simp] theorem lsOf_fz {xs : List D} : lsOf (.fz xs) = some xs := rfl
@[simp] theorem always_ap : always h = true := rfl
@[simp] theorem forD_nil {chk : Hv → Bool} {gd : GD} : forD chk gd s1 [] σ h = if chk h then .next σ h else .stuck := rfl
theorem forD_cons {chk : Hv → Bool} {gd : GD} {d : D} {ds : List D} : forD chk gd s1 (d :: ds) σ h = if chk h then (match gd d σ with
    | some σ1 => (match s1 σ1 h with
      | .next σ2 h2 => forD chk gd s1 ds σ2 h2
      | .cont σ2 h2 => forD chk gd s1 ds σ2 h2
      | .brk σ2 h2 => .next σ2 h2
      | r => r)
    | none => .stuck) else .stuck := rfl
end
/-! ### calls -/
theorem callP_ok {sem : List D → Hv → R D} {ds ds' : List D} {h : Hv} {d : D} (hp : pureD ds = some ds') (e : sem ds' [] = .ok d []) : callP sem ds h = .ok d h := by
  unfold callP
  rw [hp]
  simp only [e]
theorem callP_exc {sem : List D → Hv → R D} {ds ds' : List D} {h : Hv} {x : Xn} (hp : pureD ds = some ds') (e : sem ds' [] = .exc x []) : callP sem ds h = .exc x h := by
  unfold callP
  rw [hp]
  simp only [e]
theorem callB_ok {sem : List D → Hv → R D} {ds ds' : List D} {h : Hv} {d : D} (hp : optAll (frz 0 h 12) ds = some ds') (e : sem ds' [] = .ok d []) (hs : isScal d = true) : callB sem ds h = .ok d h := by
  unfold callB
  rw [hp]
  simp only [e]
  rw [if_pos hs]
theorem callB_exc {sem : List D → Hv → R D} {ds ds' : List D} {h : Hv} {C : Str} (hp : optAll (frz 0 h 12) ds = some ds') (e : sem ds' [] = .exc ⟨C, none⟩ []) : callB sem ds h = .exc ⟨C, none⟩ h := by
  unfold callB
  rw [hp]
  simp only [e]
theorem callB_excP {sem : List D → Hv → R D} {ds ds' : List D} {h : Hv} {C f : Str} {d : D} (hp : optAll (frz 0 h 12) ds = some ds') (e : sem ds' [] = .exc ⟨C, some (f, d)⟩ []) (hs : isScal d = true) : callB sem ds h = .exc ⟨C, some (f, d)⟩ h := by
  unfold callB
  rw [hp]
  simp only [e]
  rw [if_pos hs]
/-- a def without cells of others -/
theorem fnS_ret {np nl : Nat} {body : SS} {ds : List D} {d d' : D} {h' : Hv} (hl : ds.length = np) (hb : body (ds.map some ++ List.replicate nl none) [] = .ret d h') (hf : frz 0 h' 12 d = some d') : fnS np nl body ds [] = .ok d' [] := by
  unfold fnS
  rw [if_pos hl, hb]
  show exitD 0 d h' = _
  unfold exitD
  rw [hf, List.take_zero]
  simp only [optAll_nil, Nat.zero_le, if_true]
theorem fnS_next {np nl : Nat} {body : SS} {ds : List D} {σ : VS} {h' : Hv} (hl : ds.length = np) (hb : body (ds.map some ++ List.replicate nl none) [] = .next σ h') : fnS np nl body ds [] = .ok .non [] := by
  unfold fnS
  rw [if_pos hl, hb]
  show exitD 0 .non h' = _
  unfold exitD
  rw [frz_non, List.take_zero]
  simp only [optAll_nil, Nat.zero_le, if_true]
theorem fnS_exc {np nl : Nat} {body : SS} {ds : List D} {σ : VS} {h' : Hv} {C : Str} (hl : ds.length = np) (hb : body (ds.map some ++ List.replicate nl none) [] = .exc ⟨C, none⟩ σ h') : fnS np nl body ds [] = .exc ⟨C, none⟩ [] := by
  unfold fnS
  rw [if_pos hl, hb]
  show exitX 0 ⟨C, none⟩ h' = _
  unfold exitX
  rw [List.take_zero]
  simp only [optAll_nil, Nat.zero_le, if_true]
theorem fnS_excP {np nl : Nat} {body : SS} {ds : List D} {σ : VS} {h' : Hv} {C f : Str} {d d' : D} (hl : ds.length = np) (hb : body (ds.map some ++ List.replicate nl none) [] = .exc ⟨C, some (f, d)⟩ σ h') (hf : frz 0 h' 12 d = some d') : fnS np nl body ds [] = .exc ⟨C, some (f, d')⟩ [] := by
  unfold fnS
  rw [if_pos hl, hb]
  show exitX 0 ⟨C, some (f, d)⟩ h' = _
  unfold exitX
  dsimp only
  rw [hf, List.take_zero]
  simp only [optAll_nil, List.length_nil, Nat.zero_le, if_true]
/-! ### loops -/
def foldE {α S : Type} (F : S → α → Except D S) : S → List α → Except D S
  | s, [] => .ok s
  | s, a :: as => match F s a with
    | .ok s' => foldE F s' as
    | .error d => .error d
/-- a for loop, its turns told by F: an error is a return -/
theorem forD_run {α S : Type} {chk : Hv → Bool} {gd : GD} {body : SS} (enc : α → D) (I : S → VS → Hv → Prop) (F : S → α → Except D S) (xs : List α)
    (hc : ∀ s σ h, I s σ h → chk h = true)
    (step : ∀ s a σ h, a ∈ xs → I s σ h → ∃ σ1, gd (enc a) σ = some σ1 ∧ match F s a with
      | .ok s' => ∃ σ2 h2, (body σ1 h = .next σ2 h2 ∨ body σ1 h = .cont σ2 h2) ∧ I s' σ2 h2
      | .error d => ∃ h2, body σ1 h = .ret d h2) : ∀ {s σ h}, I s σ h → match foldE F s xs with
    | .ok s' => ∃ σ' h', forD chk gd body (xs.map enc) σ h = .next σ' h' ∧ I s' σ' h'
    | .error d => ∃ h', forD chk gd body (xs.map enc) σ h = .ret d h' := by
  induction xs with
  | nil =>
    intro s σ h i
    refine ⟨σ, h, ?_, i⟩
    rw [List.map_nil, forD_nil, hc s σ h i, if_pos rfl]
  | cons a xs ih =>
    intro s σ h i
    obtain ⟨σ1, e1, e2⟩ := step s a σ h List.mem_cons_self i
    rw [List.map_cons, forD_cons, hc s σ h i, if_pos rfl, e1]
    simp only [foldE]
    cases q : F s a with
    | ok s' =>
      rw [q] at e2
      obtain ⟨σ2, h2, hb, i2⟩ := e2
      have z := ih (fun s a σ h ha => step s a σ h (List.mem_cons_of_mem _ ha)) i2
      rcases hb with hb | hb
      · simp only [hb]
        exact z
      · simp only [hb]
        exact z
    | error d =>
      rw [q] at e2
      obtain ⟨h2, hb⟩ := e2
      exact ⟨h2, by simp only [hb]⟩
theorem forD_fold {α S : Type} {chk : Hv → Bool} {gd : GD} {body : SS} (enc : α → D) (I : S → VS → Hv → Prop) (F : S → α → S) (xs : List α)
    (hc : ∀ s σ h, I s σ h → chk h = true)
    (step : ∀ s a σ h, a ∈ xs → I s σ h → ∃ σ1 σ2 h2, gd (enc a) σ = some σ1 ∧ (body σ1 h = .next σ2 h2 ∨ body σ1 h = .cont σ2 h2) ∧ I (F s a) σ2 h2) {s : S} {σ : VS} {h : Hv} (i : I s σ h) :
    ∃ σ' h', forD chk gd body (xs.map enc) σ h = .next σ' h' ∧ I (xs.foldl F s) σ' h' := by
  have z := forD_run (chk := chk) (gd := gd) (body := body) enc I (fun s a => .ok (F s a)) xs hc (fun s a σ h ha i => by
    obtain ⟨σ1, σ2, h2, e1, e2, e3⟩ := step s a σ h ha i
    exact ⟨σ1, e1, σ2, h2, e2, e3⟩) i
  have e : ∀ (xs : List α) (s : S), foldE (fun s a => (.ok (F s a) : Except D S)) s xs = .ok (xs.foldl F s) := by
    intro xs
    induction xs with
    | nil => intro s; rfl
    | cons a xs ih => intro s; exact ih _
  rw [e] at z
  exact z
/-- a for loop that leaves at the first item that is not well -/
theorem forD_all {α : Type} {chk : Hv → Bool} {gd : GD} {body : SS} (enc : α → D) (I : VS → Hv → Prop) (p : α → Bool) (d : D) (xs : List α)
    (hc : ∀ σ h, I σ h → chk h = true)
    (step : ∀ a σ h, a ∈ xs → I σ h → ∃ σ1, gd (enc a) σ = some σ1 ∧ if p a = true then ∃ σ2 h2, (body σ1 h = .next σ2 h2 ∨ body σ1 h = .cont σ2 h2) ∧ I σ2 h2 else ∃ h2, body σ1 h = .ret d h2) {σ : VS} {h : Hv} (i : I σ h) :
    if xs.all p = true then ∃ σ' h', forD chk gd body (xs.map enc) σ h = .next σ' h' ∧ I σ' h' else ∃ h', forD chk gd body (xs.map enc) σ h = .ret d h' := by
  have z := forD_run (chk := chk) (gd := gd) (body := body) enc (fun (_ : Unit) σ h => I σ h) (fun _ a => if p a = true then .ok () else .error d) xs (fun _ => hc) (fun _ a σ h ha i => by
    obtain ⟨σ1, e1, e2⟩ := step a σ h ha i
    refine ⟨σ1, e1, ?_⟩
    by_cases q : p a = true
    · rw [if_pos q] at e2 ⊢
      exact e2
    · rw [if_neg q] at e2 ⊢
      exact e2) (s := ()) i
  have e : ∀ xs : List α, foldE (fun (_ : Unit) a => if p a = true then .ok () else (.error d : Except D Unit)) () xs = if xs.all p = true then .ok () else .error d := by
    intro xs
    induction xs with
    | nil => rfl
    | cons a xs ih =>
      rw [foldE]
      by_cases q : p a = true
      · rw [if_pos q]
        simp only [ih, List.all_cons, q, Bool.true_and]
      · rw [if_neg q]
        simp only [List.all_cons, q, Bool.false_and]
        rfl
  rw [e] at z
  by_cases q : xs.all p = true
  · rw [if_pos q] at z ⊢
    exact z
  · rw [if_neg q] at z ⊢
    exact z
theorem lcD_filter {α : Type} {chk : Hv → Bool} {gd : GD} {c : CS} {el : ES} {σ : VS} {h : Hv} (enc : α → D) (p : α → Bool) (f : α → D) (hc : chk h = true) : ∀ (xs : List α),
    (∀ a ∈ xs, ∃ σ1, gd (enc a) σ = some σ1 ∧ c σ1 h = .ok (p a) h ∧ (p a = true → el σ1 h = .ok (f a) h)) → lcD chk gd c el (xs.map enc) σ h = .ok ((xs.filter p).map f) h
  | [], _ => by
    rw [List.map_nil]
    simp only [lcD, hc, if_true, List.filter_nil, List.map_nil]
  | a :: xs, q => by
    obtain ⟨σ1, e1, e2, e3⟩ := q a List.mem_cons_self
    have ih := lcD_filter enc p f hc xs fun b hb => q b (List.mem_cons_of_mem _ hb)
    rw [List.map_cons]
    simp only [lcD, hc, if_true, e1, e2, R.calm_ok, R.bind_ok]
    cases pa : p a with
    | true =>
      simp only [if_true, e3 pa, R.calm_ok, R.bind_ok, ih, List.filter_cons, pa, List.map_cons]
    | false =>
      simp only [Bool.false_eq_true, if_false, ih, List.filter_cons, pa]
theorem lcD_map {α : Type} {chk : Hv → Bool} {gd : GD} {el : ES} {σ : VS} {h : Hv} (enc : α → D) (f : α → D) (hc : chk h = true) (xs : List α) (q : ∀ a ∈ xs, ∃ σ1, gd (enc a) σ = some σ1 ∧ el σ1 h = .ok (f a) h) : lcD chk gd cYes el (xs.map enc) σ h = .ok (xs.map f) h := by
  have := lcD_filter (c := cYes) enc (fun _ => true) f hc xs fun a ha => let ⟨σ1, e1, e2⟩ := q a ha; ⟨σ1, e1, rfl, fun _ => e2⟩
  rw [this, List.filter_eq_self.mpr (fun _ _ => rfl)]
/-! ### typed data -/
class En (α : Type) [DecidableEq α] [PySem.W.Datum α] where
  enc : α → D
  py : ∀ (h : Hv) (f : Nat) (a : α), PySem.W.Datum.depth α < f → toPy h f (enc a) = some (PySem.W.Datum.toD a)
  fr : ∀ (n0 : Nat) (h : Hv) (f : Nat) (a : α), PySem.W.Datum.depth α < f → frz n0 h f (enc a) = some (enc a)
instance : En Int := ⟨.int, fun h f a hf => by cases f; exact absurd hf (Nat.not_lt_zero _); rfl, fun n0 h f a hf => by cases f; exact absurd hf (Nat.not_lt_zero _); rfl⟩
instance : En Bool := ⟨.bl, fun h f a hf => by cases f; exact absurd hf (Nat.not_lt_zero _); rfl, fun n0 h f a hf => by cases f; exact absurd hf (Nat.not_lt_zero _); rfl⟩
instance : En Str := ⟨.str, fun h f a hf => by cases f; exact absurd hf (Nat.not_lt_zero _); rfl, fun n0 h f a hf => by cases f; exact absurd hf (Nat.not_lt_zero _); rfl⟩
section
variable {α β γ δ : Type} [DecidableEq α] [PySem.W.Datum α] [En α] [DecidableEq β] [PySem.W.Datum β] [En β] [DecidableEq γ] [PySem.W.Datum γ] [En γ] [DecidableEq δ] [PySem.W.Datum δ] [En δ]
open PySem.W (Datum T3 T4 Tup)
theorem toPy_all {h : Hv} {f : Nat} (hf : Datum.depth α < f) (xs : List α) : optAll (toPy h f) (xs.map En.enc) = some (xs.map Datum.toD) := optAll_map fun x _ => En.py h f x hf
theorem frz_all {n0 : Nat} {h : Hv} {f : Nat} (hf : Datum.depth α < f) (xs : List α) : optAll (frz n0 h f) (xs.map En.enc) = some (xs.map En.enc) := optAll_map fun x _ => En.fr n0 h f x hf
instance : En (List α) where
  enc xs := .lst (xs.map En.enc)
  py h f xs hf := by
    cases f with
    | zero => exact absurd hf (Nat.not_lt_zero _)
    | succ f =>
      have hf' : Datum.depth α + 1 < f + 1 := hf
      rw [toPy_lst, toPy_all (by omega)]
      rfl
  fr n0 h f xs hf := by
    cases f with
    | zero => exact absurd hf (Nat.not_lt_zero _)
    | succ f =>
      have hf' : Datum.depth α + 1 < f + 1 := hf
      rw [frz_lst, frz_all (by omega)]
      rfl
instance : En (α × β) where
  enc p := .tup [En.enc p.1, En.enc p.2]
  py h f p hf := by
    cases f with
    | zero => exact absurd hf (Nat.not_lt_zero _)
    | succ f =>
      have hf' : max (Datum.depth α) (Datum.depth β) + 1 < f + 1 := hf
      rw [toPy_tup, optAll_cons, optAll_cons, En.py h f p.1 (by omega), En.py h f p.2 (by omega)]
      rfl
  fr n0 h f p hf := by
    cases f with
    | zero => exact absurd hf (Nat.not_lt_zero _)
    | succ f =>
      have hf' : max (Datum.depth α) (Datum.depth β) + 1 < f + 1 := hf
      rw [frz_tup, optAll_cons, optAll_cons, En.fr n0 h f p.1 (by omega), En.fr n0 h f p.2 (by omega)]
      rfl
instance : En (T3 α β γ) where
  enc p := .tup [En.enc p.a, En.enc p.b, En.enc p.c]
  py h f p hf := by
    cases f with
    | zero => exact absurd hf (Nat.not_lt_zero _)
    | succ f =>
      have hf' : max (max (Datum.depth α) (Datum.depth β)) (Datum.depth γ) + 1 < f + 1 := hf
      rw [toPy_tup, optAll_cons, optAll_cons, optAll_cons, En.py h f p.a (by omega), En.py h f p.b (by omega), En.py h f p.c (by omega)]
      rfl
  fr n0 h f p hf := by
    cases f with
    | zero => exact absurd hf (Nat.not_lt_zero _)
    | succ f =>
      have hf' : max (max (Datum.depth α) (Datum.depth β)) (Datum.depth γ) + 1 < f + 1 := hf
      rw [frz_tup, optAll_cons, optAll_cons, optAll_cons, En.fr n0 h f p.a (by omega), En.fr n0 h f p.b (by omega), En.fr n0 h f p.c (by omega)]
      rfl
instance : En (T4 α β γ δ) where
  enc p := .tup [En.enc p.a, En.enc p.b, En.enc p.c, En.enc p.d]
  py h f p hf := by
    cases f with
    | zero => exact absurd hf (Nat.not_lt_zero _)
    | succ f =>
      have hf' : max (max (max (Datum.depth α) (Datum.depth β)) (Datum.depth γ)) (Datum.depth δ) + 1 < f + 1 := hf
      rw [toPy_tup, optAll_cons, optAll_cons, optAll_cons, optAll_cons, En.py h f p.a (by omega), En.py h f p.b (by omega), En.py h f p.c (by omega), En.py h f p.d (by omega)]
      rfl
  fr n0 h f p hf := by
    cases f with
    | zero => exact absurd hf (Nat.not_lt_zero _)
    | succ f =>
      have hf' : max (max (max (Datum.depth α) (Datum.depth β)) (Datum.depth γ)) (Datum.depth δ) + 1 < f + 1 := hf
      rw [frz_tup, optAll_cons, optAll_cons, optAll_cons, optAll_cons, En.fr n0 h f p.a (by omega), En.fr n0 h f p.b (by omega), En.fr n0 h f p.c (by omega), En.fr n0 h f p.d (by omega)]
      rfl
theorem eqD_en (h : Hv) (a b : α) (hd : Datum.depth α < 12 := by decide) : eqD h (En.enc a) (En.enc b) = some (decide (a = b)) := by
  unfold eqD
  rw [En.py h 12 a hd, En.py h 12 b hd]
  exact congrArg some (Datum.eqv a b)
@[simp] theorem eFrz_ap {f : ES} {σ : VS} {h : Hv} : eFrz f σ h = frzR h.length (f σ h) := rfl
@[simp] theorem frzR_ok {n0 : Nat} {d : D} {h : Hv} : frzR n0 (.ok d h) = exitD n0 d h := rfl
theorem oInP_en {h : Hv} {a : α} {xs : List α} (hd : Datum.depth α < 11 := by decide) : oInP (En.enc a) (.lst (xs.map En.enc)) h = .ok (.bl (decide (a ∈ xs))) h := by
  have e1 := En.py h 12 a (Nat.lt_succ_of_lt hd)
  have e2 : toPy h 12 (.lst (xs.map En.enc)) = some (.list (xs.map Datum.toD)) := by
    rw [toPy_lst, toPy_all hd]; rfl
  unfold oInP inP
  rw [e1, e2]
  simp only [Option.bind_some, seqP]
  congr 2
  rw [List.any_map, Bool.eq_iff_iff, List.any_eq_true, decide_eq_true_eq]
  constructor
  · rintro ⟨b, hb, q⟩
    have q : PyData.eqv (Datum.toD b) (Datum.toD a) = true := q
    rw [Datum.eqv] at q
    have := of_decide_eq_true q
    rw [← this]; exact hb
  · intro ha
    refine ⟨a, ha, ?_⟩
    show PyData.eqv (Datum.toD a) (Datum.toD a) = true
    rw [Datum.eqv]; exact decide_eq_true rfl
theorem oNotInP_en {h : Hv} {a : α} {xs : List α} (hd : Datum.depth α < 11 := by decide) : oNotInP (En.enc a) (.lst (xs.map En.enc)) h = .ok (.bl (!decide (a ∈ xs))) h := by
  have := oInP_en (h := h) (a := a) (xs := xs) hd
  unfold oInP at this
  unfold oNotInP
  cases e : inP h (En.enc a) (.lst (xs.map En.enc)) with
  | none => rw [e] at this; cases this
  | some b =>
    rw [e] at this
    simp only at this ⊢
    injection this with this _
    injection this with this
    rw [this]
theorem frz_en (n0 : Nat) (h : Hv) (a : α) (hd : Datum.depth α < 12 := by decide) : frz n0 h 12 (En.enc a) = some (En.enc a) := En.fr n0 h 12 a hd
end
@[simp] theorem enc_int (i : Int) : (En.enc i : D) = .int i := rfl
@[simp] theorem enc_bl (i : Bool) : (En.enc i : D) = .bl i := rfl
@[simp] theorem enc_str (i : Str) : (En.enc i : D) = .str i := rfl
theorem enc_ints (ns : List Int) : (En.enc ns : D) = .lst (ns.map .int) := rfl
/-! ### places -/
theorem ixN_nat {n : Nat} {k : Int} (h0 : 0 ≤ k) (h1 : k < n) : ixN n k = some k.toNat := by
  unfold ixN
  rw [if_pos h0, if_pos h1]
theorem ixN_some {n : Nat} {k : Int} {j : Nat} (e : k = j) (h1 : j < n) : ixN n k = some j := by
  subst e
  rw [ixN_nat (by omega) (by omega)]
  rfl
theorem atI_at {α : Type} {xs : List α} {k : Int} {j : Nat} {a : α} (e : k = j) (h : xs[j]? = some a) : atI xs k = some a := by
  unfold atI
  rw [ixN_some e (List.getElem?_eq_some_iff.mp h).1]
  exact h
theorem atI_map {α β : Type} {xs : List α} {e : α → β} {k : Int} {a : α} (h : atI xs k = some a) : atI (xs.map e) k = some (e a) := by
  unfold atI at h ⊢
  rw [List.length_map]
  cases q : ixN xs.length k with
  | none => rw [q] at h; cases h
  | some j =>
    rw [q] at h
    have h' : xs[j]? = some a := h
    show (xs.map e)[j]? = some (e a)
    rw [List.getElem?_map, h']
    rfl
theorem atI_get {α : Type} {xs : List α} {k : Int} (h0 : 0 ≤ k) (h1 : k < xs.length) : ∃ a, a ∈ xs ∧ xs[k.toNat]? = some a ∧ atI xs k = some a := by
  have h2 : k.toNat < xs.length := by omega
  exact ⟨xs[k.toNat], List.getElem_mem h2, List.getElem?_eq_getElem h2, atI_at (by omega) (List.getElem?_eq_getElem h2)⟩
theorem atI_getD {xs : List Int} {k : Int} (h0 : 0 ≤ k) (h1 : k < xs.length) : atI xs k = some (xs.getD k.toNat 0) := by
  obtain ⟨a, _, h2, h3⟩ := atI_get h0 h1
  rw [h3, List.getD_eq_getElem?_getD, h2]
  rfl
/-! ### sizes -/
theorem mulOk_of {i j : Int} {a b : Nat} (ha : i.natAbs < 2 ^ a) (hb : j.natAbs < 2 ^ b) (h0 : 0 < a) (h1 : 0 < b) (h : a + b ≤ 1000000) : mulOk i j = true := decide_eq_true (wide_mul ha hb h0 h1 h)
theorem lt_2_256 {i : Int} (h1 : -(10 ^ 77) < i) (h2 : i < 10 ^ 77) : i.natAbs < 2 ^ 256 := by
  have e : (10 : Int) ^ 77 = 100000000000000000000000000000000000000000000000000000000000000000000000000000 := by decide
  have e2 : (2 : Nat) ^ 256 = 115792089237316195423570985008687907853269984665640564039457584007913129639936 := by decide
  rw [e] at h1 h2
  rw [e2]
  omega
/-- a product of numbers of at most 77 figures -/
theorem mulOk77 {i j : Int} (h1 : -(10 ^ 77) < i) (h2 : i < 10 ^ 77) (h3 : -(10 ^ 77) < j) (h4 : j < 10 ^ 77) : mulOk i j = true := mulOk_of (lt_2_256 h1 h2) (lt_2_256 h3 h4) (by decide) (by decide) (by decide)
theorem divOk77 {j : Int} (h1 : 0 < j) (h2 : j < 10 ^ 77) : divOk j = true := decide_eq_true (wide_div (i := 0) h1 (lt_2_256 (by omega) h2) (by decide) (by decide))
@[simp] theorem oMul77 {i j : Int} {h : Hv} (h1 : -(10 ^ 77) < i) (h2 : i < 10 ^ 77) (h3 : -(10 ^ 77) < j) (h4 : j < 10 ^ 77) : oMul (.int i) (.int j) h = .ok (.int (i * j)) h := by rw [oMul_int, if_pos (mulOk77 h1 h2 h3 h4)]
@[simp] theorem oFdiv77 {i j : Int} {h : Hv} (h1 : 0 < j) (h2 : j < 10 ^ 77) : oFdiv (.int i) (.int j) h = .ok (.int (i / j)) h := by rw [oFdiv_int, if_pos (divOk77 h1 h2)]
/-! ### ranges, zips -/
theorem rgD_map (lo : Int) (n : Nat) : rgD lo n = (List.range n).map (fun i => D.int (lo + (i : Nat))) := rfl
theorem rgD_len (lo : Int) (n : Nat) : (rgD lo n).length = n := by
  unfold rgD
  rw [List.length_map, List.length_range]
theorem zipD_map {α β : Type} (e1 : α → D) (e2 : β → D) : ∀ (xs : List α) (ys : List β), zipD (xs.map e1) (ys.map e2) = (xs.zip ys).map fun p => .tup [e1 p.1, e2 p.2]
  | [], _ => rfl
  | _ :: _, [] => rfl
  | x :: xs, y :: ys => by
    rw [List.map_cons, List.map_cons, List.zip_cons_cons, List.map_cons, ← zipD_map e1 e2 xs ys]
    rfl
/-- a for loop by what holds between two turns -/
theorem forD_inv {α : Type} {chk : Hv → Bool} {gd : GD} {body : SS} (enc : α → D) (I : Nat → VS → Hv → Prop) (xs : List α) (hc : ∀ i σ h, I i σ h → chk h = true)
    (step : ∀ i a σ h, xs[i]? = some a → I i σ h → ∃ σ1 σ2 h2, gd (enc a) σ = some σ1 ∧ (body σ1 h = .next σ2 h2 ∨ body σ1 h = .cont σ2 h2) ∧ I (i + 1) σ2 h2) {σ : VS} {h : Hv} (i0 : I 0 σ h) :
    ∃ σ' h', forD chk gd body (xs.map enc) σ h = .next σ' h' ∧ I xs.length σ' h' := by
  have key : ∀ (n : Nat) (i : Nat) σ h, xs.length - i = n → i ≤ xs.length → I i σ h → ∃ σ' h', forD chk gd body ((xs.drop i).map enc) σ h = .next σ' h' ∧ I xs.length σ' h' := by
    intro n
    induction n with
    | zero =>
      intro i σ h hn hi q
      have e : i = xs.length := by omega
      subst e
      refine ⟨σ, h, ?_, q⟩
      rw [List.drop_length, List.map_nil, forD_nil, hc _ _ _ q, if_pos rfl]
    | succ n ih =>
      intro i σ h hn hi q
      have hlt : i < xs.length := by omega
      obtain ⟨σ1, σ2, h2, e1, e2, q2⟩ := step i xs[i] σ h (List.getElem?_eq_getElem hlt) q
      obtain ⟨σ', h', e3, q3⟩ := ih (i + 1) σ2 h2 (by omega) (by omega) q2
      refine ⟨σ', h', ?_, q3⟩
      rw [List.drop_eq_getElem_cons hlt, List.map_cons, forD_cons, hc _ _ _ q, if_pos rfl, e1]
      rcases e2 with e2 | e2
      · simp only [e2]; exact e3
      · simp only [e2]; exact e3
  have z := key xs.length 0 σ h (by omega) (by omega) i0
  rw [List.drop_zero] at z
  exact z
/-- .. one that may leave by a return -/
theorem forD_ret {α : Type} {chk : Hv → Bool} {gd : GD} {body : SS} (enc : α → D) (I : Nat → VS → Hv → Prop) (Rt : D → Hv → Prop) (xs : List α) (hc : ∀ i σ h, I i σ h → chk h = true)
    (step : ∀ i a σ h, xs[i]? = some a → I i σ h → ∃ σ1, gd (enc a) σ = some σ1 ∧ ((∃ σ2 h2, (body σ1 h = .next σ2 h2 ∨ body σ1 h = .cont σ2 h2) ∧ I (i + 1) σ2 h2) ∨ ∃ d h2, body σ1 h = .ret d h2 ∧ Rt d h2)) {σ : VS} {h : Hv} (i0 : I 0 σ h) :
    (∃ σ' h', forD chk gd body (xs.map enc) σ h = .next σ' h' ∧ I xs.length σ' h') ∨ ∃ d h', forD chk gd body (xs.map enc) σ h = .ret d h' ∧ Rt d h' := by
  have key : ∀ (n : Nat) (i : Nat) σ h, xs.length - i = n → i ≤ xs.length → I i σ h → (∃ σ' h', forD chk gd body ((xs.drop i).map enc) σ h = .next σ' h' ∧ I xs.length σ' h') ∨ ∃ d h', forD chk gd body ((xs.drop i).map enc) σ h = .ret d h' ∧ Rt d h' := by
    intro n
    induction n with
    | zero =>
      intro i σ h hn hi q
      have e : i = xs.length := by omega
      subst e
      refine .inl ⟨σ, h, ?_, q⟩
      rw [List.drop_length, List.map_nil, forD_nil, hc _ _ _ q, if_pos rfl]
    | succ n ih =>
      intro i σ h hn hi q
      have hlt : i < xs.length := by omega
      obtain ⟨σ1, e1, e2⟩ := step i xs[i] σ h (List.getElem?_eq_getElem hlt) q
      rw [List.drop_eq_getElem_cons hlt, List.map_cons, forD_cons, hc _ _ _ q, if_pos rfl, e1]
      rcases e2 with ⟨σ2, h2, e2 | e2, q2⟩ | ⟨d, h2, e2, q2⟩
      · simp only [e2]; exact ih (i + 1) σ2 h2 (by omega) (by omega) q2
      · simp only [e2]; exact ih (i + 1) σ2 h2 (by omega) (by omega) q2
      · exact .inr ⟨d, h2, by simp only [e2], q2⟩
  have z := key xs.length 0 σ h (by omega) (by omega) i0
  rw [List.drop_zero] at z
  exact z
/-! ### dicts -/
section
variable {σ : VS} {h : Hv} {f g k : ES} {d : D}
@[simp] theorem keyOf_int {i : Int} : keyOf (.int i) = some (.inl i) := rfl
@[simp] theorem keyOf_str {x : Str} : keyOf (.str x) = some (.inr x) := rfl
@[simp] theorem kvOf_cell {n : Nat} : kvOf h (.cell n) = (match h[n]? with
    | some (.dK kvs) => some kvs
    | some (.dF kvs) => some kvs
    | _ => none) := rfl
@[simp] theorem kvOf_dct {ks : List Key} {ds : List D} : kvOf h (.dct ks ds) = if ks.length = ds.length then some (ks.zip ds) else none := rfl
@[simp] theorem oDget_ap {x y : D} : oDget x y h = (match kvOf h x, keyOf y with
  | some kd, some k => (match getD kd k with
    | some d => .ok d h
    | none => .stuck)
  | _, _ => .stuck) := rfl
@[simp] theorem oDin_ap {x y : D} : oDin y x h = (match kvOf h x, keyOf y with
  | some kd, some k => .ok (.bl (getD kd k).isSome) h
  | _, _ => .stuck) := rfl
@[simp] theorem oDnin_ap {x y : D} : oDnin y x h = (match kvOf h x, keyOf y with
  | some kd, some k => .ok (.bl (!(getD kd k).isSome)) h
  | _, _ => .stuck) := rfl
def kDp3 (d x y : D) (σ : VS) (h : Hv) : RS := match x, keyOf y with
  | .cell n, some k => (match h[n]? with
    | some (.dK kd) => if kd.length < 16777216 then .next σ (h.set n (.dK (putD kd k d))) else .stuck
    | _ => .stuck)
  | _, _ => .stuck
def kDp2 (k : ES) (σ : VS) (d x : D) (h : Hv) : RS := (k σ h).then σ fun y h3 => kDp3 d x y σ h3
def kDp1 (g k : ES) (σ : VS) (d : D) (h : Hv) : RS := (g σ h).then σ (kDp2 k σ d)
@[simp] theorem sDput_ap : sDput f g k σ h = (f σ h).then σ (kDp1 g k σ) := rfl
@[simp] theorem kDp1_ap : kDp1 g k σ d h = (g σ h).then σ (kDp2 k σ d) := rfl
@[simp] theorem kDp2_ap {x : D} : kDp2 k σ d x h = (k σ h).then σ fun y h3 => kDp3 d x y σ h3 := rfl
@[simp] theorem kDp3_ap {n : Nat} {y : D} : kDp3 d (.cell n) y σ h = (match keyOf y with
  | some k => (match h[n]? with
    | some (.dK kd) => if kd.length < 16777216 then .next σ (h.set n (.dK (putD kd k d))) else .stuck
    | _ => .stuck)
  | none => .stuck) := by
  show (match D.cell n, keyOf y with
  | .cell n, some k => (match h[n]? with
    | some (.dK kd) => if kd.length < 16777216 then RS.next σ (h.set n (.dK (putD kd k d))) else .stuck
    | _ => .stuck)
  | _, _ => .stuck) = _
  cases keyOf y <;> rfl
@[simp] theorem eDnew_ap : eDnew σ h = .ok (.cell h.length) (h ++ [.dK []]) := rfl
@[simp] theorem eLock_ap : eLock f σ h = (f σ h).bind fun d h1 => (match d with
  | .cell n => (match h1[n]? with
    | some (.dK kd) => .ok (.cell n) (h1.set n (.dF kd))
    | _ => .stuck)
  | _ => .stuck) := rfl
@[simp] theorem iD_ap : iD f σ h = (f σ h).bind fun d h1 => (match d with
  | .dct ks ds => .ok (ks.map keyD, always) h1
  | _ => .stuck) := rfl
@[simp] theorem pNil_ap : pNil σ h = .ok [] h := rfl
def kPc2 (gp : PSd) (σ : VS) (k v : D) (h : Hv) : R (List (D × D)) := (gp σ h).bind fun r h3 => .ok ((k, v) :: r) h3
def kPc1 (g : ES) (gp : PSd) (σ : VS) (k : D) (h : Hv) : R (List (D × D)) := (g σ h).bind (kPc2 gp σ k)
@[simp] theorem pCons_ap {gp : PSd} : pCons f g gp σ h = (f σ h).bind (kPc1 g gp σ) := rfl
@[simp] theorem kPc1_ap {gp : PSd} {x : D} : kPc1 g gp σ x h = (g σ h).bind (kPc2 gp σ x) := rfl
@[simp] theorem kPc2_ap {gp : PSd} {x y : D} : kPc2 gp σ x y h = (gp σ h).bind fun r h3 => .ok ((x, y) :: r) h3 := rfl
@[simp] theorem keyP_ap {p : D × D} : keyP p = (keyOf p.1).map fun k => (k, p.2) := rfl
@[simp] theorem eDisp_ap {gp : PSd} : eDisp gp σ h = (gp σ h).bind fun ps h1 => (match optAll keyP ps with
  | some kd => if kd.length ≤ 15 then .ok (.cell h1.length) (h1 ++ [.dK (mergeD [] kd)]) else .stuck
  | none => .stuck) := rfl
@[simp] theorem eDispF_ap {gp : PSd} : eDispF gp σ h = (gp σ h).bind fun ps h1 => (match optAll keyP ps with
  | some kd => if kd.length ≤ 15 then .ok (.dct ((mergeD [] kd).map (·.1)) ((mergeD [] kd).map (·.2))) h1 else .stuck
  | none => .stuck) := rfl
def kDpop2 (x y : D) (h2 : Hv) : R D := match x, keyOf y with
    | .cell n, some k => (match h2[n]? with
      | some (.dK kd) => (match getD kd k with
        | some d => .ok d (h2.set n (.dK (dropD kd k)))
        | none => .stuck)
      | _ => .stuck)
    | _, _ => .stuck
def kDpop1 (g : ES) (σ : VS) (x : D) (h1 : Hv) : R D := match kvOf h1 x with
  | some _ => (g σ h1).bind (kDpop2 x)
  | none => .stuck
@[simp] theorem eDpop_ap : eDpop f g σ h = (f σ h).bind (kDpop1 g σ) := rfl
@[simp] theorem kDpop1_ap {x : D} : kDpop1 g σ x h = (match kvOf h x with
  | some _ => (g σ h).bind (kDpop2 x)
  | none => .stuck) := rfl
@[simp] theorem kDpop2_int {n : Nat} {i : Int} : kDpop2 (.cell n) (.int i) h = (match h[n]? with
      | some (.dK kd) => (match getD kd (.inl i) with
        | some d => .ok d (h.set n (.dK (dropD kd (.inl i))))
        | none => .stuck)
      | _ => .stuck) := rfl
@[simp] theorem getD_nil {k : Key} : getD [] k = none := rfl
theorem getD_cons {k j : Key} {kd : List (Key × D)} : getD ((j, d) :: kd) k = if j = k then some d else getD kd k := by
  unfold getD
  by_cases q : j = k
  · rw [List.find?_cons_of_pos (by exact decide_eq_true q), if_pos q]; rfl
  · rw [List.find?_cons_of_neg (by exact fun z => q (of_decide_eq_true z)), if_neg q]
end
end
end VD

set_option Elab.async false
set_option linter.all false
set_option maxRecDepth 100000
set_option maxHeartbeats 4000000
namespace VD
open PySem PySem.Spec PyProof.Rows L2
noncomputable section
/-! ### what a def comes to, told from its end -/
structure Wp (Q : RS → Prop) (r : RS) : Prop where
  run : Q r
theorem Wp.eq (Q : RS → Prop) (r : RS) : Wp Q r = Q r := propext ⟨Wp.run, Wp.mk⟩
def Sq (Q : RS → Prop) (b : SS) (r : RS) : Prop := match r with
  | .next σ h => Wp Q (b σ h)
  | r => Wp Q r
def Br (Q : RS → Prop) (a b : SS) (σ : VS) (r : R Bool) : Prop := Wp Q (r.then σ fun k h => if k then a σ h else b σ h)
section
variable {Q : RS → Prop} {a b : SS} {σ : VS} {h : Hv} {d : D} {c : CS} {x : Xn} {p : Prop} [Decidable p] {r1 r2 : R Bool} {s1 s2 : RS} {k k2 : Bool}
@[simp] theorem Wp_seq : Wp Q (sSeq a b σ h) = Wp (Sq Q b) (a σ h) := by
  rw [sSeq_ap]
  cases a σ h <;> (rw [Wp.eq (Sq Q b)]; rfl)
@[simp] theorem Wp_sq_next : Wp (Sq Q b) (.next σ h) = Wp Q (b σ h) := Wp.eq _ _
@[simp] theorem Wp_sq_ret : Wp (Sq Q b) (.ret d h) = Wp Q (.ret d h) := Wp.eq _ _
@[simp] theorem Wp_sq_brk : Wp (Sq Q b) (.brk σ h) = Wp Q (.brk σ h) := Wp.eq _ _
@[simp] theorem Wp_sq_cont : Wp (Sq Q b) (.cont σ h) = Wp Q (.cont σ h) := Wp.eq _ _
@[simp] theorem Wp_sq_exc : Wp (Sq Q b) (.exc x σ h) = Wp Q (.exc x σ h) := Wp.eq _ _
@[simp] theorem Wp_sq_stuck : Wp (Sq Q b) .stuck = Wp Q .stuck := Wp.eq _ _
@[simp] theorem Wp_if : Wp Q (sIf c a b σ h) = Br Q a b σ (c σ h) := rfl
@[simp] theorem Br_t : Br Q a b σ (.ok true h) = Wp Q (a σ h) := rfl
@[simp] theorem Br_f : Br Q a b σ (.ok false h) = Wp Q (b σ h) := rfl
@[simp] theorem Br_exc : Br Q a b σ (.exc x h) = Wp Q (.exc x σ h) := rfl
@[simp] theorem Br_stuck : Br Q a b σ .stuck = Wp Q .stuck := rfl
theorem Br_ok : Br Q a b σ (.ok k h) = if k = true then Wp Q (a σ h) else Wp Q (b σ h) := by cases k <;> rfl
@[simp] theorem Br_dec : Br Q a b σ (.ok (decide p) h) = if p then Wp Q (a σ h) else Wp Q (b σ h) := by
  by_cases q : p
  · rw [if_pos q, decide_eq_true q]; rfl
  · rw [if_neg q, decide_eq_false q]; rfl
@[simp] theorem Br_not : Br Q a b σ (.ok (!k) h) = Br Q b a σ (.ok k h) := by cases k <;> rfl
@[simp] theorem Br_ite : Br Q a b σ (if p then r1 else r2) = if p then Br Q a b σ r1 else Br Q a b σ r2 := by
  by_cases q : p
  · rw [if_pos q, if_pos q]
  · rw [if_neg q, if_neg q]
@[simp] theorem Wp_ite : Wp Q (if p then s1 else s2) = if p then Wp Q s1 else Wp Q s2 := by
  by_cases q : p
  · rw [if_pos q, if_pos q]
  · rw [if_neg q, if_neg q]
end
/-! try -/
def Wy (Q : RS → Prop) (i : Nat) (r : RS) : Prop := match r with
  | .next σ h => Wp Q (.next (σ.set i none) h)
  | .brk σ h => Wp Q (.brk (σ.set i none) h)
  | .cont σ h => Wp Q (.cont (σ.set i none) h)
  | .ret d h => Wp Q (.ret d h)
  | _ => Wp Q .stuck
/-- what an except clause makes of an error -/
def tryR (tb : Str → Str → Option Bool) (y : Str) (i : Nat) (suite : Xn → Addr → Addr → SS) (x : Xn) (σ : VS) (h : Hv) : RS := match tb x.cls y with
  | some true => tryA i x.pay (suite x) σ h
  | some false => .exc x σ h
  | none => .stuck
def Ty (Q : RS → Prop) (tb : Str → Str → Option Bool) (y : Str) (i : Nat) (suite : Xn → Addr → Addr → SS) (r : RS) : Prop := match r with
  | .exc x σ h => Wp Q (tryR tb y i suite x σ h)
  | r => Wp Q r
def Is (r : RS) : RS → Prop := fun z => z = r
def tryOR (tb : Str → Str → Option Bool) (y : Str) (suite : SS) (x : Xn) (σ : VS) (h : Hv) : RS := match tb x.cls y with
  | some true => (match suite σ h with
    | .exc _ _ _ => .stuck
    | r => r)
  | some false => .exc x σ h
  | none => .stuck
def To (Q : RS → Prop) (tb : Str → Str → Option Bool) (y : Str) (suite : SS) (r : RS) : Prop := match r with
  | .exc x σ h => Wp Q (tryOR tb y suite x σ h)
  | r => Wp Q r
def Tn (Q : RS → Prop) (r : RS) : Prop := match r with
  | .exc _ _ _ => Wp Q .stuck
  | r => Wp Q r
section
variable {Q : RS → Prop} {tb : Str → Str → Option Bool} {y : Str} {i : Nat} {suite : Xn → Addr → Addr → SS} {su body : SS} {σ : VS} {h : Hv} {x : Xn} {d : D} {r : RS}
@[simp] theorem Wp_wipe : Wp Q (wipeR i r) = Wp (Wy Q i) r := by
  cases r <;> (rw [Wp.eq (Wy Q i)]; rfl)
@[simp] theorem Wp_wy_next : Wp (Wy Q i) (.next σ h) = Wp Q (.next (σ.set i none) h) := Wp.eq _ _
@[simp] theorem Wp_wy_brk : Wp (Wy Q i) (.brk σ h) = Wp Q (.brk (σ.set i none) h) := Wp.eq _ _
@[simp] theorem Wp_wy_cont : Wp (Wy Q i) (.cont σ h) = Wp Q (.cont (σ.set i none) h) := Wp.eq _ _
@[simp] theorem Wp_wy_ret : Wp (Wy Q i) (.ret d h) = Wp Q (.ret d h) := Wp.eq _ _
@[simp] theorem Wp_try : Wp Q (sTryAs tb y i suite body σ h) = Wp (Ty Q tb y i suite) (body σ h) := by
  unfold sTryAs
  cases body σ h <;> (rw [Wp.eq (Ty Q tb y i suite)]; rfl)
@[simp] theorem Wp_ty_next : Wp (Ty Q tb y i suite) (.next σ h) = Wp Q (.next σ h) := Wp.eq _ _
@[simp] theorem Wp_ty_ret : Wp (Ty Q tb y i suite) (.ret d h) = Wp Q (.ret d h) := Wp.eq _ _
@[simp] theorem Wp_ty_brk : Wp (Ty Q tb y i suite) (.brk σ h) = Wp Q (.brk σ h) := Wp.eq _ _
@[simp] theorem Wp_ty_cont : Wp (Ty Q tb y i suite) (.cont σ h) = Wp Q (.cont σ h) := Wp.eq _ _
@[simp] theorem Wp_ty_stuck : Wp (Ty Q tb y i suite) .stuck = Wp Q .stuck := Wp.eq _ _
@[simp] theorem Wp_ty_exc : Wp (Ty Q tb y i suite) (.exc x σ h) = Wp Q (tryR tb y i suite x σ h) := Wp.eq _ _
@[simp] theorem Wp_is_next {r : RS} : Wp (Is r) (.next σ h) = (RS.next σ h = r) := Wp.eq _ _
@[simp] theorem Wp_is_ret {r : RS} : Wp (Is r) (.ret d h) = (RS.ret d h = r) := Wp.eq _ _
@[simp] theorem Wp_is_brk {r : RS} : Wp (Is r) (.brk σ h) = (RS.brk σ h = r) := Wp.eq _ _
@[simp] theorem Wp_is_cont {r : RS} : Wp (Is r) (.cont σ h) = (RS.cont σ h = r) := Wp.eq _ _
/-- the clause takes it: the suite comes to r, whatever the error's address -/
theorem Wp_tryR {x : Xn} (r : RS) (t : tb x.cls y = some true) (hr : ∀ a dd, Wp (Wy (Is r) i) (suite x a dd (σ.set i (exM a dd x.pay)) h)) (q : Wp Q r) : Wp Q (tryR tb y i suite x σ h) := by
  have e : tryA i x.pay (suite x) σ h = r := tryA_eq fun a dd => by
    have z := hr a dd
    rw [← Wp_wipe] at z
    exact z.run
  unfold tryR
  rw [t]
  simp only [e]
  exact q
theorem tryR_no {x : Xn} (e : tb x.cls y = some false) : tryR tb y i suite x σ h = .exc x σ h := by
  unfold tryR
  simp only [e]
@[simp] theorem exM_none {a dd : Addr} : exM a dd none = some (.raw (.ref a)) := rfl
@[simp] theorem exM_some {a dd : Addr} {f : Str} : exM a dd (some (f, d)) = some (.exv a dd f d) := rfl
@[simp] theorem exD_none {a dd : Addr} : exD a dd none = .raw (.ref a) := rfl
@[simp] theorem exD_some {a dd : Addr} {f : Str} : exD a dd (some (f, d)) = .exv a dd f d := rfl
@[simp] theorem isEx_none {a dd : Addr} : isEx a dd none (.raw (.ref a)) = true := decide_eq_true rfl
@[simp] theorem isEx_some {a dd : Addr} {p : Str × D} {f : Str} : isEx a dd (some p) (.exv a dd f d) = true := by
  show (decide _ && decide _) = true
  rw [decide_eq_true rfl, decide_eq_true rfl]; rfl
@[simp] theorem Wp_tryO : Wp Q (sTryO tb y su body σ h) = Wp (To Q tb y su) (body σ h) := by
  unfold sTryO
  cases body σ h <;> (rw [Wp.eq (To Q tb y su)]; rfl)
@[simp] theorem Wp_to_next : Wp (To Q tb y su) (.next σ h) = Wp Q (.next σ h) := Wp.eq _ _
@[simp] theorem Wp_to_ret : Wp (To Q tb y su) (.ret d h) = Wp Q (.ret d h) := Wp.eq _ _
@[simp] theorem Wp_to_brk : Wp (To Q tb y su) (.brk σ h) = Wp Q (.brk σ h) := Wp.eq _ _
@[simp] theorem Wp_to_cont : Wp (To Q tb y su) (.cont σ h) = Wp Q (.cont σ h) := Wp.eq _ _
@[simp] theorem Wp_to_stuck : Wp (To Q tb y su) .stuck = Wp Q .stuck := Wp.eq _ _
@[simp] theorem Wp_to_exc : Wp (To Q tb y su) (.exc x σ h) = Wp Q (tryOR tb y su x σ h) := Wp.eq _ _
theorem tryOR_yes {c : Str} {p : Option (Str × D)} (e : tb c y = some true) : Wp Q (tryOR tb y su ⟨c, p⟩ σ h) = Wp (Tn Q) (su σ h) := by
  unfold tryOR
  simp only [e]
  cases su σ h <;> (rw [Wp.eq (Tn Q)]; rfl)
@[simp] theorem Wp_tn_next : Wp (Tn Q) (.next σ h) = Wp Q (.next σ h) := Wp.eq _ _
@[simp] theorem Wp_tn_ret : Wp (Tn Q) (.ret d h) = Wp Q (.ret d h) := Wp.eq _ _
@[simp] theorem Wp_tn_brk : Wp (Tn Q) (.brk σ h) = Wp Q (.brk σ h) := Wp.eq _ _
@[simp] theorem Wp_tn_cont : Wp (Tn Q) (.cont σ h) = Wp Q (.cont σ h) := Wp.eq _ _
end
@[simp] theorem eIsO_ap {i : Nat} {x : Xn} {a dd : Addr} {o : Option Bool} {σ : VS} {h : Hv} : eIsO i x a dd o σ h = (eVar i σ h).bind fun d h1 => if isEx a dd x.pay d = true then (match o with
    | some r => .ok (.bl r) h1
    | none => .stuck) else .stuck := rfl
theorem eFldX_ap {ef : List Ef} {i : Nat} {x : Xn} {a dd : Addr} {f : Str} {σ : VS} {h : Hv} (e1 : exT ef x.cls = true) (e2 : nofE ef x.cls f = true) : eFldX ef i x a dd f σ h = (eVar i σ h).bind fun d h1 => (match d with
  | .exv b d0 g d' => if isEx a dd x.pay (.exv b d0 g d') = true ∧ g = f then .ok d' h1 else .stuck
  | _ => .stuck) := by
  unfold eFldX
  rw [if_pos ⟨e1, e2⟩]
  rfl
@[simp] theorem sRaiseP_ap {C f : Str} {fe : ES} {σ : VS} {h : Hv} : sRaiseP C f fe σ h = (fe σ h).then σ fun d h' => .exc ⟨C, some (f, d)⟩ σ h' := rfl
/-- the end of a def that stands alone -/
def Rt (P : R D → Prop) (r : RS) : Prop := match r with
  | .ret d h => ∃ d', frz 0 h 12 d = some d' ∧ P (.ok d' [])
  | .next _ _ => P (.ok .non [])
  | .exc x _ h => match x.pay with
    | none => P (.exc ⟨x.cls, none⟩ [])
    | some (f, d) => ∃ d', frz 0 h 12 d = some d' ∧ P (.exc ⟨x.cls, some (f, d')⟩ [])
  | _ => False
section
variable {P : R D → Prop} {σ : VS} {h : Hv} {d : D} {C f : Str}
@[simp] theorem Wp_rt_ret : Wp (Rt P) (.ret d h) = ∃ d', frz 0 h 12 d = some d' ∧ P (.ok d' []) := Wp.eq _ _
@[simp] theorem Wp_rt_next : Wp (Rt P) (.next σ h) = P (.ok .non []) := Wp.eq _ _
@[simp] theorem Wp_rt_exc : Wp (Rt P) (.exc ⟨C, none⟩ σ h) = P (.exc ⟨C, none⟩ []) := by
  rw [Wp.eq, Rt]
@[simp] theorem Wp_rt_excP : Wp (Rt P) (.exc ⟨C, some (f, d)⟩ σ h) = ∃ d', frz 0 h 12 d = some d' ∧ P (.exc ⟨C, some (f, d')⟩ []) := by
  rw [Wp.eq, Rt]
@[simp] theorem Wp_rt_stuck : Wp (Rt P) .stuck = False := Wp.eq _ _
end
theorem fnS_of {P : R D → Prop} {np nl : Nat} {body : SS} {ds : List D} (hl : ds.length = np) (hw : Wp (Rt P) (body (ds.map some ++ List.replicate nl none) [])) : P (fnS np nl body ds []) := by
  replace hw := hw.run
  unfold Rt at hw
  split at hw
  · next d h e =>
    obtain ⟨d', e1, e2⟩ := hw
    rw [fnS_ret hl e e1]
    exact e2
  · next e => rw [fnS_next hl e]; exact hw
  · next x _ _ e =>
    cases x with
    | mk c p =>
      cases p with
      | none =>
        rw [fnS_exc hl e]
        exact hw
      | some q =>
        obtain ⟨d', e1, e2⟩ := hw
        rw [fnS_excP hl e e1]
        exact e2
  · exact hw.elim
/-- the end of a def that hands its objects on -/
def Ru (P : R D → Prop) (r : RS) : Prop := match r with
  | .ret d h => P (.ok d h)
  | .exc x _ _ => x.pay = none ∧ P (.exc ⟨x.cls, none⟩ [])
  | _ => False
section
variable {P : R D → Prop} {σ : VS} {h : Hv} {d : D} {C : Str}
@[simp] theorem Wp_ru_ret : Wp (Ru P) (.ret d h) = P (.ok d h) := Wp.eq _ _
@[simp] theorem Wp_ru_exc : Wp (Ru P) (.exc ⟨C, none⟩ σ h) = P (.exc ⟨C, none⟩ []) := by
  rw [Wp.eq, Ru]
  simp
@[simp] theorem Wp_ru_stuck : Wp (Ru P) .stuck = False := Wp.eq _ _
end
theorem fnU_of {P : R D → Prop} {np nl : Nat} {body : SS} {ds : List D} (hl : ds.length = np) (hw : Wp (Ru P) (body (ds.map some ++ List.replicate nl none) [])) : P (fnU np nl body ds []) := by
  replace hw := hw.run
  unfold fnU
  rw [if_pos hl]
  generalize body (ds.map some ++ List.replicate nl none) [] = r at hw ⊢
  cases r with
  | ret d h => exact hw
  | exc x σ h =>
    obtain ⟨e1, e2⟩ := hw
    cases x with
    | mk c p =>
      cases e1
      show P (exitX 0 ⟨c, none⟩ h)
      unfold exitX
      rw [List.take_zero]
      simp only [optAll_nil, Nat.zero_le, if_true]
      exact e2
  | next σ h => exact hw.elim
  | brk σ h => exact hw.elim
  | cont σ h => exact hw.elim
  | stuck => exact hw.elim
theorem callC_ok {sem : List D → Hv → R D} {ds ds' : List D} {h h' : Hv} {d : D} (hp : pureD ds = some ds') (e : sem ds' [] = .ok d h') : callC sem ds h = .ok (shD h.length d) (h ++ h'.map (shC h.length)) := by
  unfold callC
  rw [hp]
  simp only [e]
/-! loops -/
def Lp (Q : RS → Prop) (I : VS → Hv → Prop) (r : RS) : Prop := match r with
  | .next σ h => I σ h
  | .cont σ h => I σ h
  | .brk σ h => Wp Q (.next σ h)
  | .stuck => False
  | r => Wp Q r
section
variable {Q : RS → Prop} {I : VS → Hv → Prop} {σ : VS} {h : Hv} {d : D} {x : Xn}
@[simp] theorem Wp_lp_next : Wp (Lp Q I) (.next σ h) = I σ h := Wp.eq _ _
@[simp] theorem Wp_lp_cont : Wp (Lp Q I) (.cont σ h) = I σ h := Wp.eq _ _
@[simp] theorem Wp_lp_brk : Wp (Lp Q I) (.brk σ h) = Wp Q (.next σ h) := Wp.eq _ _
@[simp] theorem Wp_lp_ret : Wp (Lp Q I) (.ret d h) = Wp Q (.ret d h) := Wp.eq _ _
@[simp] theorem Wp_lp_exc : Wp (Lp Q I) (.exc x σ h) = Wp Q (.exc x σ h) := Wp.eq _ _
@[simp] theorem Wp_lp_stuck : Wp (Lp Q I) .stuck = False := Wp.eq _ _
end
theorem forD_wp {α : Type} {Q : RS → Prop} {chk : Hv → Bool} {gd : GD} {body : SS} (enc : α → D) (xs : List α) (I : Nat → VS → Hv → Prop)
    (hc : ∀ i σ h, I i σ h → chk h = true)
    (step : ∀ i a σ h, xs[i]? = some a → I i σ h → ∃ σ1, gd (enc a) σ = some σ1 ∧ Wp (Lp Q (I (i + 1))) (body σ1 h))
    (fin : ∀ σ h, I xs.length σ h → Wp Q (.next σ h)) {σ : VS} {h : Hv} (i0 : I 0 σ h) : Wp Q (forD chk gd body (xs.map enc) σ h) := by
  have key : ∀ (n : Nat) (i : Nat) σ h, xs.length - i = n → i ≤ xs.length → I i σ h → Wp Q (forD chk gd body ((xs.drop i).map enc) σ h) := by
    intro n
    induction n with
    | zero =>
      intro i σ h hn hi q
      have e : i = xs.length := by omega
      subst e
      rw [List.drop_length, List.map_nil, forD_nil, hc _ _ _ q, if_pos rfl]
      exact fin _ _ q
    | succ n ih =>
      intro i σ h hn hi q
      have hlt : i < xs.length := by omega
      obtain ⟨σ1, e1, e2⟩ := step i xs[i] σ h (List.getElem?_eq_getElem hlt) q
      rw [List.drop_eq_getElem_cons hlt, List.map_cons, forD_cons, hc _ _ _ q, if_pos rfl, e1]
      cases eb : body σ1 h with
      | next σ2 h2 => rw [eb, Wp_lp_next] at e2; simp only [eb]; exact ih (i + 1) σ2 h2 (by omega) (by omega) e2
      | cont σ2 h2 => rw [eb, Wp_lp_cont] at e2; simp only [eb]; exact ih (i + 1) σ2 h2 (by omega) (by omega) e2
      | brk σ2 h2 => rw [eb, Wp_lp_brk] at e2; simp only [eb]; exact e2
      | ret d h2 => rw [eb, Wp_lp_ret] at e2; simp only [eb]; exact e2
      | exc x σ2 h2 => rw [eb, Wp_lp_exc] at e2; simp only [eb]; exact e2
      | stuck => rw [eb, Wp_lp_stuck] at e2; exact e2.elim
  have z := key xs.length 0 σ h (by omega) (by omega) i0
  rw [List.drop_zero] at z
  exact z
theorem Wp.loop {α : Type} {Q : RS → Prop} {is : IS} {gd : GD} {body : SS} {σ : VS} {h : Hv} (enc : α → D) (xs : List α) (I : Nat → VS → Hv → Prop) {chk : Hv → Bool} {h0 : Hv}
    (his : is σ h = .ok (xs.map enc, chk) h0) (i0 : I 0 σ h0)
    (hc : ∀ i σ h, I i σ h → chk h = true)
    (step : ∀ i a σ h, xs[i]? = some a → I i σ h → ∃ σ1, gd (enc a) σ = some σ1 ∧ Wp (Lp Q (I (i + 1))) (body σ1 h))
    (fin : ∀ σ h, I xs.length σ h → Wp Q (.next σ h)) : Wp Q (sFor is gd body σ h) := by
  rw [sFor_ap, his]
  exact forD_wp enc xs I hc step fin i0
/-- a loop that doesn't look at a changing list -/
theorem Wp.loopA {α : Type} {Q : RS → Prop} {is : IS} {gd : GD} {body : SS} {σ : VS} {h : Hv} (enc : α → D) (xs : List α) (I : Nat → VS → Hv → Prop) {h0 : Hv}
    (his : is σ h = .ok (xs.map enc, always) h0) (i0 : I 0 σ h0)
    (step : ∀ i a σ h, xs[i]? = some a → I i σ h → ∃ σ1, gd (enc a) σ = some σ1 ∧ Wp (Lp Q (I (i + 1))) (body σ1 h))
    (fin : ∀ σ h, I xs.length σ h → Wp Q (.next σ h)) : Wp Q (sFor is gd body σ h) := Wp.loop enc xs I his i0 (fun _ _ _ _ => rfl) step fin
theorem Wp.range {Q : RS → Prop} {is : IS} {gd : GD} {body : SS} {σ : VS} {h : Hv} (lo : Int) (n : Nat) (I : Nat → VS → Hv → Prop) {h0 : Hv}
    (his : is σ h = .ok (rgD lo n, always) h0) (i0 : I 0 σ h0)
    (step : ∀ i σ h, i < n → I i σ h → ∃ σ1, gd (.int (lo + i)) σ = some σ1 ∧ Wp (Lp Q (I (i + 1))) (body σ1 h))
    (fin : ∀ σ h, I n σ h → Wp Q (.next σ h)) : Wp Q (sFor is gd body σ h) := by
  refine Wp.loopA (fun i : Nat => D.int (lo + i)) (List.range n) I (his.trans rfl) i0 (fun i a σ h ha hi => ?_) (by rw [List.length_range]; exact fin)
  obtain ⟨hlt, rfl⟩ := List.getElem?_eq_some_iff.mp ha
  rw [List.length_range] at hlt
  rw [List.getElem_range]
  exact step i σ h hlt hi
theorem Wp.while {Q : RS → Prop} {c : CS} {body : SS} (I : VS → Hv → Prop) (μ : VS → Hv → Nat)
    (step : ∀ σ h, I σ h → ∃ b, c σ h = .ok b h ∧ if b = true then Wp (Lp Q fun σ' h' => I σ' h' ∧ μ σ' h' < μ σ h) (body σ h) else Wp Q (.next σ h)) {σ : VS} {h : Hv} (i0 : I σ h) : Wp Q (sLoop c body σ h) := by
  have key : ∀ (m : Nat) σ h, μ σ h < m → I σ h → ∃ n, whileD c body n σ h ≠ .stuck ∧ Wp Q (whileD c body n σ h) := by
    intro m
    induction m with
    | zero => intro σ h hm; exact absurd hm (Nat.not_lt_zero _)
    | succ m ih =>
      intro σ h hm i
      obtain ⟨b, e1, e2⟩ := step σ h i
      cases b with
      | false =>
        refine ⟨1, ?_, ?_⟩
        · simp only [whileD, e1, R.then_ok]
          intro z; cases z
        · simp only [whileD, e1, R.then_ok]
          exact e2
      | true =>
        rw [if_pos rfl] at e2
        cases eb : body σ h with
        | next σ2 h2 =>
          rw [eb, Wp_lp_next] at e2
          obtain ⟨n, n1, n2⟩ := ih σ2 h2 (by omega) e2.1
          refine ⟨n + 1, ?_, ?_⟩
          · simp only [whileD, e1, R.then_ok, if_true, eb]; exact n1
          · simp only [whileD, e1, R.then_ok, if_true, eb]; exact n2
        | cont σ2 h2 =>
          rw [eb, Wp_lp_cont] at e2
          obtain ⟨n, n1, n2⟩ := ih σ2 h2 (by omega) e2.1
          refine ⟨n + 1, ?_, ?_⟩
          · simp only [whileD, e1, R.then_ok, if_true, eb]; exact n1
          · simp only [whileD, e1, R.then_ok, if_true, eb]; exact n2
        | brk σ2 h2 =>
          rw [eb, Wp_lp_brk] at e2
          refine ⟨1, ?_, ?_⟩
          · simp only [whileD, e1, R.then_ok, if_true, eb]
            intro z; cases z
          · simp only [whileD, e1, R.then_ok, if_true, eb]
            exact e2
        | ret d h2 =>
          rw [eb, Wp_lp_ret] at e2
          refine ⟨1, ?_, ?_⟩
          · simp only [whileD, e1, R.then_ok, if_true, eb]
            intro z; cases z
          · simp only [whileD, e1, R.then_ok, if_true, eb]
            exact e2
        | exc x σ2 h2 =>
          rw [eb, Wp_lp_exc] at e2
          refine ⟨1, ?_, ?_⟩
          · simp only [whileD, e1, R.then_ok, if_true, eb]
            intro z; cases z
          · simp only [whileD, e1, R.then_ok, if_true, eb]
            exact e2
        | stuck => rw [eb, Wp_lp_stuck] at e2; exact e2.elim
  obtain ⟨n, n1, n2⟩ := key (μ σ h + 1) σ h (by omega) i0
  rw [sLoop_at n1]
  exact n2
/-- the whole number in a slot -/
def slN (σ : VS) (j : Nat) : Nat := match σ[j]? with
  | some (some (.int y)) => y.toNat
  | _ => 0
/-! comprehensions -/
theorem lLc_map {α : Type} {is : IS} {gd : GD} {el : ES} {own : List Nat} {σ : VS} {h h0 : Hv} {chk : Hv → Bool} (enc : α → D) (f : α → D) (xs : List α) (his : is σ h = .ok (xs.map enc, chk) h0) (hc : chk h0 = true) (hl : xs.length ≤ 16777216)
    (q : ∀ a ∈ xs, ∃ σ1, gd (enc a) (wipeV σ own) = some σ1 ∧ el σ1 h0 = .ok (f a) h0) : lLc is gd cYes el own σ h = .ok (xs.map f) h0 := by
  rw [lLc_ap, his, R.bind_ok, List.length_map, if_pos hl]
  exact lcD_map enc f hc xs q
theorem lLc_filter {α : Type} {is : IS} {gd : GD} {c : CS} {el : ES} {own : List Nat} {σ : VS} {h h0 : Hv} {chk : Hv → Bool} (enc : α → D) (p : α → Bool) (f : α → D) (xs : List α) (his : is σ h = .ok (xs.map enc, chk) h0) (hc : chk h0 = true) (hl : xs.length ≤ 16777216)
    (q : ∀ a ∈ xs, ∃ σ1, gd (enc a) (wipeV σ own) = some σ1 ∧ c σ1 h0 = .ok (p a) h0 ∧ (p a = true → el σ1 h0 = .ok (f a) h0)) : lLc is gd c el own σ h = .ok ((xs.filter p).map f) h0 := by
  rw [lLc_ap, his, R.bind_ok, List.length_map, if_pos hl]
  exact lcD_filter enc p f hc xs q
theorem mul_bd {a u : Int} {k b : Nat} (h0 : 0 ≤ a) (h1 : a ≤ k) (h2 : 0 ≤ u) (h3 : u ≤ b) : 0 ≤ a * u ∧ a * u ≤ ((k * b : Nat) : Int) := by
  refine ⟨Int.mul_nonneg h0 h2, ?_⟩
  rw [Int.natCast_mul]
  exact Int.mul_le_mul h1 h3 h2 (by omega)
theorem lLc_ex {α : Type} {is : IS} {gd : GD} {el : ES} {own : List Nat} {σ : VS} {h h0 : Hv} {chk : Hv → Bool} (enc : α → D) (P : α → D → Prop) (xs : List α) (his : is σ h = .ok (xs.map enc, chk) h0) (hc : chk h0 = true) (hl : xs.length ≤ 16777216)
    (q : ∀ a ∈ xs, ∃ σ1 d, gd (enc a) (wipeV σ own) = some σ1 ∧ el σ1 h0 = .ok d h0 ∧ P a d) : ∃ f : α → D, lLc is gd cYes el own σ h = .ok (xs.map f) h0 ∧ ∀ a ∈ xs, P a (f a) := by
  have key : ∃ f : α → D, ∀ a ∈ xs, ∃ σ1, gd (enc a) (wipeV σ own) = some σ1 ∧ el σ1 h0 = .ok (f a) h0 ∧ P a (f a) := by
    refine ⟨fun a => @dite D (∃ d, ∃ σ1, gd (enc a) (wipeV σ own) = some σ1 ∧ el σ1 h0 = .ok d h0 ∧ P a d) (Classical.propDecidable _) (fun z => Classical.choose z) (fun _ => .non), fun a ha => ?_⟩
    have z : ∃ d, ∃ σ1, gd (enc a) (wipeV σ own) = some σ1 ∧ el σ1 h0 = .ok d h0 ∧ P a d := by
      obtain ⟨σ1, d, e⟩ := q a ha
      exact ⟨d, σ1, e⟩
    simp only [z, dite_true]
    exact Classical.choose_spec z
  obtain ⟨f, hf⟩ := key
  refine ⟨f, lLc_map enc f xs his hc hl fun a ha => ?_, fun a ha => ?_⟩
  · obtain ⟨σ1, e1, e2, _⟩ := hf a ha
    exact ⟨σ1, e1, e2⟩
  · obtain ⟨_, _, _, e⟩ := hf a ha
    exact e
/-- a comprehension whose items are new lists that change later -/
theorem lLc_cells {α : Type} {is : IS} {gd : GD} {el : ES} {own : List Nat} {σ : VS} {h h0 : Hv} (enc : α → D) (f : α → List D) (xs : List α) (his : is σ h = .ok (xs.map enc, always) h0) (hl : xs.length ≤ 16777216)
    (q : ∀ a ∈ xs, ∃ σ1, gd (enc a) (wipeV σ own) = some σ1 ∧ ∀ h1, el σ1 h1 = .ok (.cell h1.length) (h1 ++ [.lst (f a)])) : lLc is gd cYes el own σ h = .ok ((List.range xs.length).map fun i => .cell (h0.length + i)) (h0 ++ xs.map fun a => .lst (f a)) := by
  rw [lLc_ap, his, R.bind_ok, List.length_map, if_pos hl]
  have key : ∀ (xs : List α) (h : Hv), (∀ a ∈ xs, ∃ σ1, gd (enc a) (wipeV σ own) = some σ1 ∧ ∀ h1, el σ1 h1 = .ok (.cell h1.length) (h1 ++ [.lst (f a)])) → lcD always gd cYes el (xs.map enc) (wipeV σ own) h = .ok ((List.range xs.length).map fun i => .cell (h.length + i)) (h ++ xs.map fun a => .lst (f a)) := by
    intro xs
    induction xs with
    | nil =>
      intro h _
      simp [lcD]
    | cons a xs ih =>
      intro h q
      obtain ⟨σ1, e1, e2⟩ := q a List.mem_cons_self
      have ih := ih (h ++ [.lst (f a)]) fun b hb => q b (List.mem_cons_of_mem _ hb)
      rw [List.map_cons]
      simp only [lcD, always_ap, if_true, e1, cYes_ap, R.calm_ok, R.bind_ok, e2, ih]
      rw [List.length_cons, List.range_succ_eq_map, List.map_cons, List.map_map, List.length_append, List.map_cons, List.append_assoc]
      congr 1
      congr 1
      apply List.map_congr_left
      intro i _
      show D.cell _ = D.cell _
      congr 1
      simp
      omega
  exact key xs h0 q
theorem cutD_map {α : Type} (e : α → D) (xs : List α) (lo hi : Option Int) : ∃ ys : List α, cutD (xs.map e) lo hi = ys.map e ∧ ys.length ≤ xs.length := by
  refine ⟨(xs.drop (HT.sIx (xs.map e).length 0 lo)).take (HT.sIx (xs.map e).length (xs.map e).length hi - HT.sIx (xs.map e).length 0 lo), ?_, ?_⟩
  · rw [List.map_take, List.map_drop]; rfl
  · rw [List.length_take, List.length_drop]; omega
theorem set_wp {σ : VS} {i j : Nat} {v : Option D} (h : i ≠ j) : (σ.set j v).set i none = (σ.set i none).set j v := List.set_comm _ _ (Ne.symm h)
/-! ### numbers drawn -/
abbrev scr (ns : List Int) : D := .fz (ns.map .int)
@[simp] theorem pureD_ap {ds : List D} : pureD ds = optAll (frz 0 [] 12) ds := rfl
/-- a call's outcome, from the def's on data without cells -/
theorem cP {sem : List D → Hv → R D} {ds : List D} {d : D} (e : sem ds [] = .ok d []) (hp : pureD ds = some ds := by simp) (h : Hv) : callP sem ds h = .ok d h := callP_ok hp e
theorem cX {sem : List D → Hv → R D} {ds : List D} {x : Xn} (e : sem ds [] = .exc x []) (hp : pureD ds = some ds := by simp) (h : Hv) : callP sem ds h = .exc x h := callP_exc hp e
def drawF (ns : List Int) (k m : Int) : Int := if k < ns.length then ns[k.toNat]?.getD 0 % m else (((k * k + 3 + (if 0 < ns.length then ns[(k % ns.length).toNat]?.getD 0 % 65521 else 0)) * 48271 % 65521 + 5) * 40692 % 65519) % m
theorem drawF_bd (ns : List Int) (k : Int) {m : Int} (h : 0 < m) : 0 ≤ drawF ns k m ∧ drawF ns k m < m := by
  unfold drawF
  split
  · exact ⟨Int.emod_nonneg _ (by omega), Int.emod_lt_of_pos _ h⟩
  · exact ⟨Int.emod_nonneg _ (by omega), Int.emod_lt_of_pos _ h⟩
/-- the draw of k31 and of most laws behind it -/
def drawB : SS := sSeq (sIf (toB (eOp oLt (eVar 1) (eCa bLen (aCons (eVar 0) (aNil))))) (sRet (eOp oMod (eOp oIx (eVar 0) (eVar 1)) (eVar 2))) (sNext)) (sSeq (sSet 3 (eOp oAdd (eOp oMul (eVar 1) (eVar 1)) (eK (.int 3)))) (sSeq (sIf (toB (eOp oGt (eCa bLen (aCons (eVar 0) (aNil))) (eK (.int 0)))) (sSet 3 (eOp oAdd (eVar 3) (eOp oMod (eOp oIx (eVar 0) (eOp oMod (eVar 1) (eCa bLen (aCons (eVar 0) (aNil))))) (eK (.int 65521))))) (sNext)) (sRet (eOp oMod (eOp oMod (eOp oMul (eOp oAdd (eOp oMod (eOp oMul (eVar 3) (eK (.int 48271))) (eK (.int 65521))) (eK (.int 5))) (eK (.int 40692))) (eK (.int 65519))) (eVar 2)))))
def drawM : List D → Hv → R D := fnS 3 1 drawB
@[simp] theorem frz_ints {n0 f : Nat} {h : Hv} {xs : List Int} : optAll (frz n0 h (f + 1)) (xs.map D.int) = some (xs.map D.int) := optAll_map fun _ _ => rfl
@[simp] theorem frz_bls {n0 f : Nat} {h : Hv} {xs : List Bool} : optAll (frz n0 h (f + 1)) (xs.map D.bl) = some (xs.map D.bl) := optAll_map fun _ _ => rfl
@[simp] theorem frz_strs {n0 f : Nat} {h : Hv} {xs : List Str} : optAll (frz n0 h (f + 1)) (xs.map D.str) = some (xs.map D.str) := optAll_map fun _ _ => rfl
section
open PySem.W (Datum T3 T4 Tup)
@[simp] theorem enc_i3 (a : T3 Int Int Int) : (En.enc a : D) = .tup [.int a.a, .int a.b, .int a.c] := rfl
@[simp] theorem enc_i4 (a : T4 Int Int Int Int) : (En.enc a : D) = .tup [.int a.a, .int a.b, .int a.c, .int a.d] := rfl
@[simp] theorem enc_i2 (a : Int × Int) : (En.enc a : D) = .tup [.int a.1, .int a.2] := rfl
@[simp] theorem frz_i3 {n0 f : Nat} {h : Hv} {xs : List (T3 Int Int Int)} : optAll (frz n0 h (f + 2)) (xs.map En.enc) = some (xs.map En.enc) := optAll_map fun _ _ => rfl
@[simp] theorem frz_i4 {n0 f : Nat} {h : Hv} {xs : List (T4 Int Int Int Int)} : optAll (frz n0 h (f + 2)) (xs.map En.enc) = some (xs.map En.enc) := optAll_map fun _ _ => rfl
@[simp] theorem frz_i2 {n0 f : Nat} {h : Hv} {xs : List (Int × Int)} : optAll (frz n0 h (f + 2)) (xs.map En.enc) = some (xs.map En.enc) := optAll_map fun _ _ => rfl
end
theorem bInts_lst {f : List Int → Option D} {ns : List Int} {h : Hv} : bInts f [.lst (ns.map .int)] h = match f ns with
  | some z => .ok z h
  | none => .stuck := by
  show (match (some (ns.map D.int)).bind (optAll toI) with | some ns => (match f ns with | some z => R.ok z h | none => .stuck) | none => .stuck) = _
  rw [Option.bind_some, toI_map]
@[simp] theorem bSum_lst {ns : List Int} {h : Hv} : bSum [.lst (ns.map .int)] h = .ok (.int ns.sum) h := bInts_lst
theorem bInts_cell {f : List Int → Option D} {n : Nat} {h : Hv} {ns : List Int} (e : h[n]? = some (.lst (ns.map .int))) : bInts f [.cell n] h = match f ns with
  | some z => .ok z h
  | none => .stuck := by
  show (match (lOf h (.cell n)).bind (optAll toI) with | some ns => (match f ns with | some z => R.ok z h | none => .stuck) | none => .stuck) = _
  rw [lOf_cell, e]
  simp only [Option.bind_some, toI_map]
@[simp] theorem bSum_c0 {h : Hv} {ns : List Int} : bSum [.cell 0] (.lst (ns.map .int) :: h) = .ok (.int ns.sum) (.lst (ns.map .int) :: h) := bInts_cell rfl
@[simp] theorem bSum_c1 {h : Hv} {c : Cell} {ns : List Int} : bSum [.cell 1] (c :: .lst (ns.map .int) :: h) = .ok (.int ns.sum) (c :: .lst (ns.map .int) :: h) := bInts_cell rfl
theorem bMax_cell {n : Nat} {h : Hv} {ns : List Int} {m : Int} (e : h[n]? = some (.lst (ns.map .int))) (q : maxI ns = some m) : bMax [.cell n] h = .ok (.int m) h := by
  unfold bMax
  rw [bInts_cell e, q]
  rfl
theorem bMax_lst {h : Hv} {ns : List Int} {m : Int} (q : maxI ns = some m) : bMax [.lst (ns.map .int)] h = .ok (.int m) h := by
  unfold bMax
  rw [bInts_lst, q]
  rfl
theorem bMin_cell {n : Nat} {h : Hv} {ns : List Int} {m : Int} (e : h[n]? = some (.lst (ns.map .int))) (q : minI ns = some m) : bMin [.cell n] h = .ok (.int m) h := by
  unfold bMin
  rw [bInts_cell e, q]
  rfl
theorem bMin_lst {h : Hv} {ns : List Int} {m : Int} (q : minI ns = some m) : bMin [.lst (ns.map .int)] h = .ok (.int m) h := by
  unfold bMin
  rw [bInts_lst, q]
  rfl
theorem mIndex_cell {n : Nat} {h : Hv} {ns : List Int} {i : Int} {j : Nat} (e : h[n]? = some (.lst (ns.map .int))) (q : firstIx i ns = some j) : mIndex (.cell n) [.int i] h = .ok (.int (j : Nat)) h := by
  show (match (lOf h (.cell n)).bind (optAll toI) with | some ns => (match firstIx i ns with | some j => R.ok (D.int (j : Nat)) h | none => .stuck) | none => .stuck) = _
  rw [lOf_cell, e]
  simp only [Option.bind_some, toI_map, q]
theorem eqD_same {h : Hv} {x y : D} {p : PyData} (hx : toPy h 12 x = some p) (hy : toPy h 12 y = some p) : eqD h x y = some true := by
  unfold eqD
  rw [hx, hy]
  exact congrArg some (PySem.SeqAt.eqv_refl_plain p (toPy_plain _ _ _ hx).1)
@[simp] theorem toPy_ints {n : Nat} {h : Hv} {xs : List Int} : optAll (toPy h (n + 1)) (xs.map D.int) = some (xs.map PyData.int) := optAll_map fun _ _ => rfl
@[simp] theorem toPy_strs {n : Nat} {h : Hv} {xs : List Str} : optAll (toPy h (n + 1)) (xs.map D.str) = some (xs.map PyData.str) := optAll_map fun _ _ => rfl
@[simp] theorem shL_ints {n : Nat} {xs : List Int} : shL n (xs.map D.int) = xs.map D.int := by
  rw [shL_eq, List.map_map]; rfl
theorem bBools_lst {f : List Bool → Bool} {ns : List Bool} {h : Hv} : bBools f [.lst (ns.map .bl)] h = .ok (.bl (f ns)) h := by
  show (match (some (ns.map D.bl)).bind (optAll toBl) with | some ns => R.ok (D.bl (f ns)) h | none => .stuck) = _
  rw [Option.bind_some, toBl_map]
@[simp] theorem bAll_lst {ns : List Bool} {h : Hv} : bAll [.lst (ns.map .bl)] h = .ok (.bl (ns.all id)) h := bBools_lst
@[simp] theorem bAny_lst {ns : List Bool} {h : Hv} : bAny [.lst (ns.map .bl)] h = .ok (.bl (ns.any id)) h := bBools_lst
theorem cutD_from {xs : List D} {c : Int} (h0 : 0 ≤ c) (h1 : c ≤ xs.length) : cutD xs (some c) none = xs.drop c.toNat := by
  unfold cutD
  have e : HT.sIx xs.length 0 (some c) = c.toNat := by
    show (if c < 0 then _ else min c.toNat xs.length) = _
    rw [if_neg (by omega)]
    omega
  rw [e, HT.sIx_none, List.take_of_length_le (by rw [List.length_drop]; omega)]
theorem cutD_to {xs : List D} {c : Int} (h0 : 0 ≤ c) (h1 : c ≤ xs.length) : cutD xs none (some c) = xs.take c.toNat := by
  unfold cutD
  have e : HT.sIx xs.length xs.length (some c) = c.toNat := by
    show (if c < 0 then _ else min c.toNat xs.length) = _
    rw [if_neg (by omega)]
    omega
  rw [e, HT.sIx_none, List.drop_zero, Nat.sub_zero]
theorem mPopAt_c {α : Type} {e : α → D} {xs : List α} {i : Int} (h0 : 0 ≤ i) (h1 : i < xs.length) (h2 : i < 2 ^ 63) : ∃ y, mPopAt (.cell 0) [.int i] [.lst (xs.map e)] = .ok y [.lst ((xs.eraseIdx i.toNat).map e)] := by
  have h3 : i.toNat < xs.length := by omega
  refine ⟨e xs[i.toNat], ?_⟩
  show (@ite _ (-(2 ^ 63) ≤ i ∧ i < 2 ^ 63) (Classical.propDecidable _) (match seqIndex? i (xs.map e).length with
      | some k => (match (xs.map e)[k]? with
        | some y => R.ok y (([.lst (xs.map e)] : Hv).set 0 (.lst ((xs.map e).eraseIdx k)))
        | none => .stuck)
      | none => .stuck) .stuck) = _
  have es : seqIndex? i (xs.map e).length = some i.toNat := by
    unfold seqIndex?
    have e1 : (if i < 0 then i + ((xs.map e).length : Int) else i) = i := if_neg (by omega)
    simp only [e1]
    rw [if_pos]
    rw [Bool.and_eq_true, decide_eq_true_eq, decide_eq_true_eq, List.length_map]
    exact ⟨h0, by omega⟩
  rw [if_pos ⟨by omega, h2⟩, es]
  simp only [List.getElem?_map, List.getElem?_eq_getElem h3, Option.map_some, List.set_cons_zero]
  rw [List.eraseIdx_eq_take_drop_succ, List.eraseIdx_eq_take_drop_succ, List.map_append, List.map_take, List.map_drop]
theorem mInsert_c {xs : List D} {i : Int} {d : D} (h0 : 0 ≤ i) (h1 : i < 2 ^ 63) (h2 : xs.length < 16777216) : mInsert (.cell 0) [.int i, d] [.lst xs] = .ok .non [.lst (xs.take i.toNat ++ [d] ++ xs.drop i.toNat)] := by
  show (@ite _ ((0 ≤ i ∧ i < 2 ^ 63) ∧ xs.length < 16777216) (Classical.propDecidable _) (R.ok D.non (([.lst xs] : Hv).set 0 (.lst (xs.take i.toNat ++ [d] ++ xs.drop i.toNat)))) .stuck) = _
  rw [if_pos ⟨⟨h0, h1⟩, h2⟩]
  rfl
@[simp] theorem mAppend_ap {n : Nat} {d : D} {h : Hv} : mAppend (.cell n) [d] h = (match h[n]? with
    | some (.lst xs) => if xs.length < 16777216 then .ok .non (h.set n (.lst (xs ++ [d]))) else .stuck
    | _ => .stuck) := rfl
@[simp] theorem mReverse_ap {n : Nat} {h : Hv} : mReverse (.cell n) [] h = (match h[n]? with
    | some (.lst xs) => .ok .non (h.set n (.lst xs.reverse))
    | _ => .stuck) := rfl
@[simp] theorem oCat_ap {x y : D} {h : Hv} : oCat x y h = (match kOf h x, kOf h y with
  | some xs, some ys => if xs.length + ys.length ≤ 16777216 then .ok (xs ++ ys) h else .stuck
  | _, _ => .stuck) := rfl
@[simp] theorem oRep_one {x : D} {k : Int} {h : Hv} (h0 : 0 ≤ k) (h1 : k ≤ 16777216) : oRep (.lst [x]) (.int k) h = .ok (List.replicate k.toNat x) h := by
  show (@ite _ ([x].length * k.toNat ≤ 16777216 ∧ -(2 ^ 63) ≤ k ∧ k < 2 ^ 63) (Classical.propDecidable _) (R.ok (List.replicate k.toNat [x]).flatten h) .stuck) = _
  rw [if_pos ⟨by rw [List.length_singleton]; omega, by omega, by omega⟩, ]
  congr 1
  generalize k.toNat = m
  induction m with
  | zero => rfl
  | succ m ih => rw [List.replicate_succ, List.flatten_cons, ih]; rfl
section
variable {h : Hv} {ds : List D} {d : D} {c c1 : Cell}
theorem eqD_cellL {n : Nat} (e : h[n]? = some (.lst ds)) : eqD h (.cell n) d = eqD h (.lst ds) d := by
  have e2 : toPy h 12 (.cell n) = toPy h 12 (.lst ds) := by rw [toPy_cell, e, toPy_lst]
  unfold eqD
  rw [e2]
theorem eqD_cellR {n : Nat} (e : h[n]? = some (.lst ds)) : eqD h d (.cell n) = eqD h d (.lst ds) := by
  have e2 : toPy h 12 (.cell n) = toPy h 12 (.lst ds) := by rw [toPy_cell, e, toPy_lst]
  unfold eqD
  rw [e2]
@[simp] theorem eqD_cL0 : eqD (.lst ds :: h) (.cell 0) d = eqD (.lst ds :: h) (.lst ds) d := eqD_cellL rfl
@[simp] theorem eqD_cR0 : eqD (.lst ds :: h) d (.cell 0) = eqD (.lst ds :: h) d (.lst ds) := eqD_cellR rfl
@[simp] theorem eqD_cL1 : eqD (c :: .lst ds :: h) (.cell 1) d = eqD (c :: .lst ds :: h) (.lst ds) d := eqD_cellL rfl
@[simp] theorem eqD_cR1 : eqD (c :: .lst ds :: h) d (.cell 1) = eqD (c :: .lst ds :: h) d (.lst ds) := eqD_cellR rfl
@[simp] theorem eqD_ints {xs ys : List Int} : eqD h (.lst (xs.map .int)) (.lst (ys.map .int)) = some (decide (xs = ys)) := eqD_en h xs ys
end
theorem map_app {α β : Type} {f : α → β} {xs ys : List α} : xs.map f ++ ys.map f = (xs ++ ys).map f := List.map_append.symm
theorem map_one {α β : Type} {f : α → β} {x : α} : [f x] = [x].map f := rfl
theorem map_tk {α β : Type} {f : α → β} {xs : List α} {n : Nat} : (xs.map f).take n = (xs.take n).map f := List.map_take.symm
theorem map_dr {α β : Type} {f : α → β} {xs : List α} {n : Nat} : (xs.map f).drop n = (xs.drop n).map f := List.map_drop.symm
theorem map_rv {α β : Type} {f : α → β} {xs : List α} : (xs.map f).reverse = xs.reverse.map f := List.map_reverse.symm
def gI (xs : List Int) (k : Int) : Int := xs[k.toNat]?.getD 0
theorem ix_ints {xs : List Int} {j : Int} (h0 : 0 ≤ j) (h1 : j < xs.length) : atI (xs.map D.int) j = some (.int (gI xs j)) := by
  rw [atI_map (atI_getD h0 h1), List.getD_eq_getElem?_getD]
  rfl
def sI (xs : List Int) (k v : Int) : List Int := xs.set k.toNat v
@[simp] theorem sI_len {xs : List Int} {k v : Int} : (sI xs k v).length = xs.length := List.length_set
theorem set_int {xs : List Int} {k v : Int} : (xs.map D.int).set k.toNat (.int v) = (sI xs k v).map D.int := List.map_set.symm
section
variable {α : Type} {a b c d e f : α} {l : List α}
@[simp] theorem atI_0 : atI (a :: l) 0 = some a := atI_at (j := 0) (by rfl) (by rfl)
@[simp] theorem atI_1 : atI (a :: b :: l) 1 = some b := atI_at (j := 1) (by rfl) (by rfl)
@[simp] theorem atI_2 : atI (a :: b :: c :: l) 2 = some c := atI_at (j := 2) (by rfl) (by rfl)
@[simp] theorem atI_3 : atI (a :: b :: c :: d :: l) 3 = some d := atI_at (j := 3) (by rfl) (by rfl)
@[simp] theorem atI_4 : atI (a :: b :: c :: d :: e :: l) 4 = some e := atI_at (j := 4) (by rfl) (by rfl)
end
theorem drawM_eq {ns : List Int} {k m : Int} (h0 : 0 ≤ k) (h1 : k < 10 ^ 30) (hm : 0 < m) (hl : ns.length ≤ 63) : drawM [scr ns, .int k, .int m] [] = .ok (.int (drawF ns k m)) [] := by
  refine fnS_of (P := fun r => r = .ok (.int (drawF ns k m)) []) rfl ?_
  have hkk : k * k < 10 ^ 61 := by
    have := Int.mul_le_mul (show k ≤ 10 ^ 30 by omega) (show k ≤ 10 ^ 30 by omega) h0 (by decide)
    have e : (10 : Int) ^ 30 * 10 ^ 30 < 10 ^ 61 := by decide
    exact Int.lt_of_le_of_lt this e
  have hk0 : 0 ≤ k * k := Int.mul_nonneg h0 h0
  unfold drawB drawF
  by_cases q : k < ns.length
  · simp [q, ix_ints h0 q, hm, gI]
  · by_cases q2 : 0 < ns.length
    · have e1 : 0 ≤ k % (ns.length : Int) := Int.emod_nonneg _ (by omega)
      have e2 : k % (ns.length : Int) < ns.length := Int.emod_lt_of_pos _ (by omega)
      simp (disch := omega) [q, q2, hm, ix_ints e1 e2, gI]
    · simp (disch := omega) [q, q2, hm]
/-- .. called -/
theorem callP_draw {ns : List Int} {k m : Int} {h : Hv} (h0 : 0 ≤ k) (h1 : k < 10 ^ 30) (hm : 0 < m) (hl : ns.length ≤ 63) : callP drawM [scr ns, .int k, .int m] h = .ok (.int (drawF ns k m)) h := by
  refine callP_ok ?_ (drawM_eq h0 h1 hm hl)
  simp
end
end VD

set_option Elab.async false
set_option linter.all false
set_option maxRecDepth 100000
set_option maxHeartbeats 4000000
namespace VD
open PySem PySem.Spec PyProof.Rows L2
noncomputable section
/-! ### what a def has built is still from here on -/
def sealO (n0 : Nat) (h : Hv) (o : Option D) : Option D := o.bind (frz n0 h 12)
def sSeal (n0 : Nat) (s : SS) : SS := fun σ h => match optAll (frzC n0 h) (h.take n0) with
  | some h' => if n0 ≤ h.length then s (σ.map (sealO n0 h)) h' else .stuck
  | none => .stuck
def sBlk (f : Nat → SS) : SS := fun σ h => f h.length σ h
structure SnP (K : PySem.W.Frag) (W : WX) (ts : TS) (ss : Nat → SS) : Prop where
  run : ∀ {φ0 φ : List Addr} {S0 H0 S H : Hp} {h : Hv} {σv : VS} {σ : L2.St} {D : Ends}, Step φ0 S0 H0 φ S H → Rel K φ S H h → RelS K φ S σv σ → PostS K φ0 S0 H0 (ss φ0.length σv h) D W → ts D σ H
def QP (X : Cx) (W : WX) (st : List Stmt) (ss : Nat → SS) : Prop := ∃ t, PSs X st t ∧ SnP X.K W t ss
section
variable {X : Cx} {W : WX} {st : Stmt} {rest : List Stmt} {s1 : SS} {s2 : Nat → SS}
theorem qp_cons (h1 : QS X W st s1) (h2 : QP X W rest s2) : QP X W (st :: rest) (fun n => sSeq s1 (s2 n)) := by
  obtain ⟨t1, a1, b1⟩ := h1
  obtain ⟨t2, a2, b2⟩ := h2
  refine ⟨_, pss_cons a1 a2, ⟨fun {φ0 φ S0 H0 S H h σv σ D} st0 rl rs post => b1.run rl rs ?_⟩⟩
  unfold sSeq at post
  cases q : s1 σv h with
  | next σ' h' =>
    rw [q] at post
    exact fun σ1 φ1 S1 H1 rl1 rs1 st1 => b2.run (st0.trans st1) rl1 rs1 post
  | _ => rw [q] at post; exact PostS.up st0 post
theorem qp_seal (h2 : QB X W rest s1) : QP X W rest (fun n => sSeal n s1) := by
  obtain ⟨t2, a2, b2⟩ := h2
  refine ⟨_, a2, ⟨fun {φ0 φ S0 H0 S H h σv σ D} st0 rl rs post => ?_⟩⟩
  unfold sSeal at post
  split at post
  · next h' q =>
    split at post
    · next hn =>
      obtain ⟨s3, e3⟩ := exit_step st0 rl
      refine b2.run (exit_rel rl hn q) ?_ (PostS.up s3 post)
      refine ⟨by rw [List.length_map]; exact rs.len, fun i d hd => ?_⟩
      rw [List.getElem?_map] at hd
      cases q1 : σv[i]? with
      | none => rw [q1] at hd; cases hd
      | some o =>
        rw [q1] at hd
        cases o with
        | none => simp [sealO] at hd
        | some d0 =>
          obtain ⟨v, hv, rv⟩ := rs.at_ i d0 q1
          refine ⟨v, hv, frz_ok rl 12 d0 v d rv ?_⟩
          simpa [sealO] using hd
    · exact post.elim
  · exact post.elim
theorem qb_blk (h2 : QP X W rest s2) : QB X W rest (sBlk s2) := by
  obtain ⟨t2, a2, b2⟩ := h2
  refine ⟨_, a2, ⟨fun {φ S H h σv σ D} rl rs post => b2.run (Step.refl _ _ _) rl rs ?_⟩⟩
  unfold sBlk at post
  rw [rl.len]
  exact post
end
@[simp] theorem sBlk_ap {f : Nat → SS} {σ : VS} {h : Hv} : sBlk f σ h = f h.length σ h := rfl
@[simp] theorem sSeal_ap {n : Nat} {s : SS} {σ : VS} {h : Hv} : sSeal n s σ h = match optAll (frzC n h) (h.take n) with
  | some h' => if n ≤ h.length then s (σ.map (sealO n h)) h' else .stuck
  | none => .stuck := rfl
@[simp] theorem sSeal_0 {s : SS} {σ : VS} {h : Hv} : sSeal 0 s σ h = s (σ.map (sealO 0 h)) [] := by
  rw [sSeal_ap, List.take_zero]
  simp
@[simp] theorem sealO_none {n : Nat} {h : Hv} : sealO n h none = none := rfl
@[simp] theorem sealO_some {n : Nat} {h : Hv} {d : D} : sealO n h (some d) = frz n h 12 d := rfl
/-! ### of a call's new objects those alone that its answer holds -/
def ownA (g : Nat → D → Option (D × List Cell × List Nat)) : Nat → List D → Option (List D × List Cell × List Nat)
  | _, [] => some ([], [], [])
  | b, d :: ds => match g b d with
    | some (d', cs, ns) => (match ownA g (b + cs.length) ds with
      | some (ds', cs', ns') => some (d' :: ds', cs ++ cs', ns ++ ns')
      | none => none)
    | none => none
def ownD (h : Hv) : Nat → Nat → D → Option (D × List Cell × List Nat)
  | 0, _, _ => none
  | f + 1, b, .cell n => (match h[n]? with
    | some (.lst ds) => (match ownA (ownD h f) (b + 1) ds with
      | some (ds', cs, ns) => some (.cell b, .lst ds' :: cs, n :: ns)
      | none => none)
    | _ => none)
  | f + 1, b, .tup ds => (match ownA (ownD h f) b ds with
    | some (ds', cs, ns) => some (.tup ds', cs, ns)
    | none => none)
  | f + 1, _, d => (frz 0 [] (f + 1) d).map fun d' => (d', [], [])
def gcR : R D → R D
  | .ok d h => (match ownD h 12 0 d with
    | some (d', cs, ns) => @ite _ ns.Nodup (Classical.propDecidable _) (.ok d' cs) .stuck
    | none => .stuck)
  | .exc x h => .exc x h
  | .stuck => .stuck
def gcS (sem : List D → Hv → R D) : List D → Hv → R D := fun ds h => match h with
  | [] => gcR (sem ds [])
  | _ => .stuck
def OwnOk (K : PySem.W.Frag) (φ ψ : List Addr) (S : Hp) (h : Hv) (cs : List Cell) (ns : List Nat) : Prop := cs.length = ns.length ∧ ∀ (i n : Nat), ns[i]? = some n → ∃ c c' : Cell, h[n]? = some c ∧ cs[i]? = some c' ∧ ∀ o, RpC K φ S c o → RpC K ψ S c' o
section
variable {K : PySem.W.Frag} {φ ψ : List Addr} {S H : Hp} {h : Hv}
theorem OwnOk.append {cs cs' : List Cell} {ns ns' : List Nat} (a : OwnOk K φ ψ S h cs ns) (b : OwnOk K φ ψ S h cs' ns') : OwnOk K φ ψ S h (cs ++ cs') (ns ++ ns') := by
  refine ⟨by rw [List.length_append, List.length_append, a.1, b.1], fun i n hi => ?_⟩
  by_cases q : i < ns.length
  · rw [List.getElem?_append_left q] at hi
    obtain ⟨c, c', h1, h2, h3⟩ := a.2 i n hi
    exact ⟨c, c', h1, by rw [List.getElem?_append_left (by rw [a.1]; exact q)]; exact h2, h3⟩
  · rw [List.getElem?_append_right (by omega)] at hi
    obtain ⟨c, c', h1, h2, h3⟩ := b.2 _ n hi
    exact ⟨c, c', h1, by rw [List.getElem?_append_right (by rw [a.1]; omega), a.1]; exact h2, h3⟩
theorem ownA_ok {g : Nat → D → Option (D × List Cell × List Nat)} (hg : ∀ b d d' cs ns, g b d = some (d', cs, ns) → (∀ i n, ns[i]? = some n → ψ[b + i]? = φ[n]?) → OwnOk K φ ψ S h cs ns ∧ ∀ v, Rp K φ S v d → Rp K ψ S v d')
    (hl : ∀ b d d' cs ns, g b d = some (d', cs, ns) → cs.length = ns.length) :
    ∀ (ds : List D) b ds' cs ns, ownA g b ds = some (ds', cs, ns) → (∀ i n, ns[i]? = some n → ψ[b + i]? = φ[n]?) → OwnOk K φ ψ S h cs ns ∧ ∀ vs, RpA K φ S vs ds → RpA K ψ S vs ds'
  | [], b, ds', cs, ns, e, _ => by
    cases e
    exact ⟨⟨rfl, fun i n z => by simp at z⟩, fun vs r => by cases r; exact .nil⟩
  | d :: ds, b, ds', cs, ns, e, hp => by
    simp only [ownA] at e
    cases q1 : g b d with
    | none => rw [q1] at e; cases e
    | some p1 =>
      obtain ⟨d1, c1, n1⟩ := p1
      rw [q1] at e
      simp only at e
      cases q2 : ownA g (b + c1.length) ds with
      | none => rw [q2] at e; cases e
      | some p2 =>
        obtain ⟨d2, c2, n2⟩ := p2
        rw [q2] at e
        cases e
        have l1 := hl b d d1 c1 n1 q1
        obtain ⟨o1, r1⟩ := hg b d d1 c1 n1 q1 fun i n hi => hp i n (by rw [List.getElem?_append_left (List.getElem?_eq_some_iff.mp hi).1]; exact hi)
        obtain ⟨o2, r2⟩ := ownA_ok hg hl ds (b + c1.length) d2 c2 n2 q2 fun i n hi => by
          have := hp (n1.length + i) n (by rw [List.getElem?_append_right (by omega), Nat.add_sub_cancel_left]; exact hi)
          rw [← this, l1, Nat.add_assoc]
        exact ⟨o1.append o2, fun vs r => by
          cases r with
          | cons ra rb => exact .cons (r1 _ ra) (r2 _ rb)⟩
theorem ownA_len {g : Nat → D → Option (D × List Cell × List Nat)} (hl : ∀ b d d' cs ns, g b d = some (d', cs, ns) → cs.length = ns.length) :
    ∀ (ds : List D) b ds' cs ns, ownA g b ds = some (ds', cs, ns) → cs.length = ns.length
  | [], b, ds', cs, ns, e => by cases e; rfl
  | d :: ds, b, ds', cs, ns, e => by
    simp only [ownA] at e
    cases q1 : g b d with
    | none => rw [q1] at e; cases e
    | some p1 =>
      obtain ⟨d1, c1, n1⟩ := p1
      rw [q1] at e
      simp only at e
      cases q2 : ownA g (b + c1.length) ds with
      | none => rw [q2] at e; cases e
      | some p2 =>
        obtain ⟨d2, c2, n2⟩ := p2
        rw [q2] at e
        cases e
        rw [List.length_append, List.length_append, hl _ _ _ _ _ q1, ownA_len hl ds _ _ _ _ q2]
theorem ownD_len : ∀ (f : Nat) b d d' cs ns, ownD h f b d = some (d', cs, ns) → cs.length = ns.length := by
  intro f
  induction f with
  | zero => intro b d d' cs ns e; simp [ownD] at e
  | succ f ih =>
    intro b d d' cs ns e
    have all := ownA_len ih
    have other : ∀ d0, (frz 0 [] (f + 1) d0).map (fun d' => (d', ([] : List Cell), ([] : List Nat))) = some (d', cs, ns) → cs.length = ns.length := fun d0 e => by
      obtain ⟨_, _, z⟩ := Option.map_eq_some_iff.mp e
      cases z; rfl
    cases d with
    | cell n =>
      simp only [ownD] at e
      split at e
      · split at e
        · next ds' cs' ns' q => cases e; rw [List.length_cons, List.length_cons, all _ _ _ _ _ q]
        · cases e
      · cases e
    | tup ds =>
      simp only [ownD] at e
      split at e
      · next ds' cs' ns' q => cases e; exact all _ _ _ _ _ q
      · cases e
    | _ => exact other _ e
theorem ownD_ok : ∀ (f : Nat) b d d' cs ns, ownD h f b d = some (d', cs, ns) → (∀ i n, ns[i]? = some n → ψ[b + i]? = φ[n]?) → OwnOk K φ ψ S h cs ns ∧ ∀ v, Rp K φ S v d → Rp K ψ S v d' := by
  intro f
  induction f with
  | zero => intro b d d' cs ns e; simp [ownD] at e
  | succ f ih =>
    intro b d d' cs ns e hp
    have all := ownA_ok ih (ownD_len f)
    have other : (frz 0 [] (f + 1) d).map (fun d' => (d', ([] : List Cell), ([] : List Nat))) = some (d', cs, ns) → OwnOk K φ ψ S h cs ns ∧ ∀ v, Rp K φ S v d → Rp K ψ S v d' := fun e => by
      obtain ⟨d1, e1, z⟩ := Option.map_eq_some_iff.mp e
      cases z
      exact ⟨⟨rfl, fun i n z => by simp at z⟩, fun v r => Rp.mono ⟨ψ, rfl⟩ (Ex.refl _) (frz0_ok _ _ _ _ r e1)⟩
    cases d with
    | cell n =>
      simp only [ownD] at e
      split at e
      · next ds q1 =>
        split at e
        · next ds' cs' ns' q =>
          cases e
          obtain ⟨o1, r1⟩ := all _ _ _ _ _ q fun i m hi => by
            have := hp (i + 1) m (by rw [List.getElem?_cons_succ]; exact hi)
            rw [← this, Nat.add_assoc, Nat.add_comm 1 i]
          have h0 := hp 0 n rfl
          rw [Nat.add_zero] at h0
          refine ⟨⟨by rw [List.length_cons, List.length_cons, o1.1], fun i m hi => ?_⟩, fun v r => ?_⟩
          · cases i with
            | zero =>
              rw [List.getElem?_cons_zero] at hi
              cases Option.some.inj hi
              exact ⟨_, _, q1, rfl, fun o ⟨vs, ho, ra⟩ => ⟨vs, ho, r1 vs ra⟩⟩
            | succ i =>
              rw [List.getElem?_cons_succ] at hi ⊢
              exact o1.2 i m hi
          · cases r with
            | cell hc => exact .cell (h0.trans hc)
        · cases e
      · cases e
    | tup ds =>
      simp only [ownD] at e
      split at e
      · next ds' cs' ns' q =>
        cases e
        obtain ⟨o1, r1⟩ := all _ _ _ _ _ q hp
        exact ⟨o1, fun v r => by
          cases r with
          | tup h1 h2 => exact .tup h1 (r1 _ h2)⟩
      · cases e
    | _ => exact other e
theorem Post.gc {S0 H0 : Hp} {r : R D} {Q : VK} {E : XK} (post : Post K (repV K) [] S0 H0 (gcR r) Q E) : Post K (repV K) [] S0 H0 r Q E := by
  cases r with
  | exc x h => exact post
  | stuck => exact post
  | ok d h =>
    intro v φ S H rl st rv
    simp only [gcR] at post
    split at post
    · next d' cs ns q =>
      split at post
      · next nd =>
        have ln := ownD_len _ _ _ _ _ _ q
        have o0 := (ownD_ok (K := K) (φ := φ) (S := S) (ψ := ns.map fun n => φ[n]?.getD 0) _ _ _ _ _ _ q)
        -- all of ns are there
        have lt : ∀ n ∈ ns, n < φ.length := by
          have : ∀ (f : Nat) b d d' cs ns, ownD h f b d = some (d', cs, ns) → ∀ n ∈ ns, n < h.length := by
            intro f
            induction f with
            | zero => intro b d d' cs ns e; simp [ownD] at e
            | succ f ih =>
              have all : ∀ (ds : List D) b ds' cs ns, ownA (ownD h f) b ds = some (ds', cs, ns) → ∀ n ∈ ns, n < h.length := by
                intro ds
                induction ds with
                | nil => intro b ds' cs ns e; cases e; intro n hn; cases hn
                | cons d ds ih2 =>
                  intro b ds' cs ns e
                  simp only [ownA] at e
                  split at e
                  · next q1 =>
                    split at e
                    · next q2 =>
                      cases e
                      intro n hn
                      rcases List.mem_append.mp hn with hn | hn
                      · exact ih _ _ _ _ _ q1 n hn
                      · exact ih2 _ _ _ _ q2 n hn
                    · cases e
                  · cases e
              intro b d d' cs ns e
              have other : ∀ d0, (frz 0 [] (f + 1) d0).map (fun d' => (d', ([] : List Cell), ([] : List Nat))) = some (d', cs, ns) → ∀ n ∈ ns, n < h.length := fun d0 e => by
                obtain ⟨_, _, z⟩ := Option.map_eq_some_iff.mp e
                cases z
                intro n hn; cases hn
              cases d with
              | cell n =>
                simp only [ownD] at e
                split at e
                · next ds q1 =>
                  split at e
                  · next q =>
                    cases e
                    intro m hm
                    cases hm with
                    | head => exact (List.getElem?_eq_some_iff.mp q1).1
                    | tail _ hm => exact all _ _ _ _ _ q m hm
                  · cases e
                · cases e
              | tup ds =>
                simp only [ownD] at e
                split at e
                · next q => cases e; exact all _ _ _ _ _ q
                · cases e
              | _ => exact other _ e
          intro n hn
          rw [rl.len]
          exact this _ _ _ _ _ _ q n hn
        have at_ : ∀ i n, ns[i]? = some n → (ns.map fun n => φ[n]?.getD 0)[0 + i]? = φ[n]? := fun i n hi => by
          rw [Nat.zero_add, List.getElem?_map, hi]
          have := lt n (List.mem_of_getElem? hi)
          rw [Option.map_some, List.getElem?_eq_getElem this]; rfl
        obtain ⟨o1, r1⟩ := o0 at_
        have mem : ∀ a ∈ (ns.map fun n => φ[n]?.getD 0), a ∈ φ := fun a ha => by
          obtain ⟨n, hn, rfl⟩ := List.mem_map.mp ha
          rw [List.getElem?_eq_getElem (lt n hn)]
          exact List.getElem_mem _
        refine post v _ S H ⟨?_, rl.sub, ?_, fun i a c e1 e2 => ?_⟩ ⟨⟨_, (List.nil_append _).symm, fun a ha => ?_⟩, st.sub, st.old, st.keep, st.there⟩ (r1 v rv)
        · rw [List.length_map, ln]
        · rw [List.nodup_iff_pairwise_ne, List.pairwise_map]
          rw [List.nodup_iff_pairwise_ne] at nd
          refine List.Pairwise.imp_of_mem (fun {x y} hx hy hne z => hne ?_) nd
          have hx2 := lt x hx
          have hy2 := lt y hy
          rw [List.getElem?_eq_getElem hx2, List.getElem?_eq_getElem hy2] at z
          exact nd_ix rl.nd (List.getElem?_eq_getElem hx2) (by rw [List.getElem?_eq_getElem hy2]; exact congrArg some z.symm)
        · have hi : i < ns.length := by
            have := (List.getElem?_eq_some_iff.mp e2).1
            omega
          have en := List.getElem?_eq_getElem hi
          obtain ⟨c0, c', h1, h2, h3⟩ := o1.2 i _ en
          rw [e2] at h2
          cases h2
          have e3 := at_ i _ en
          rw [Nat.zero_add, e1] at e3
          obtain ⟨k1, o, k2, k3⟩ := rl.cel _ a c0 e3.symm h1
          exact ⟨k1, o, k2, h3 o k3⟩
        · obtain ⟨ψ, e, hn⟩ := st.pre
          rw [List.nil_append] at e
          exact hn a (by rw [← e]; exact mem a ha)
      · exact post.elim
    · exact post.elim
end
theorem spOf_T {K : PySem.W.Frag} {sem : List D → Hv → R D} {φ : List Addr} {S H : Hp} {h : Hv} {ds : List D} {vs : List V} {Q : VK} {E : XK} (rl : Rel K φ S H h) (ra : RpA K φ S vs ds) (post : Post K (repV K) φ S H (callC (gcS sem) ds h) Q E) : spOf K sem vs H Q E := by
  unfold callC at post
  split at post
  · next ds' q =>
    refine ⟨[], S, [], ds', Rel.bare rl.sub, frzA_of (n0 := 0) (h := []) (fun d v d' r e => frz0_ok 12 d v d' r e) ds vs ds' ra q, ?_⟩
    refine Post.gc ?_
    have e : gcR (sem ds' []) = gcS sem ds' [] := rfl
    rw [e]
    split at post
    · next d h' hs =>
      rw [hs]
      intro v φ' S' H' r2 st rv
      obtain ⟨r3, s3⟩ := join_rel rl r2 st
      rw [← rl.len] at post r3
      exact post v _ _ _ r3 s3 rv.sh
    · next x hs =>
      rw [hs]
      intro cls dd φ' S' H' r2 st rx
      obtain ⟨r3, s3⟩ := join_rel rl r2 st
      have e : φ' = [] := List.length_eq_zero_iff.mp r2.len
      subst e
      rw [List.append_nil] at r3 s3
      rw [List.map_nil, List.append_nil] at r3
      refine post cls dd _ _ _ r3 s3 ⟨rx.1, ?_⟩
      have rx2 := rx.2
      cases hp : x.pay with
      | none => rw [hp] at rx2; exact rx2
      | some p =>
        rw [hp] at rx2
        obtain ⟨dx, v, e2, e3, rv⟩ := rx2
        exact ⟨dx, v, e2, e3, Rp.mono ⟨φ, rfl⟩ (Ex.refl _) rv⟩
    · exact post.elim
  · exact post.elim
theorem se_fnT {X : Cx} {W : WX} {k : Nat} {ps : List Str} {sem : List D → Hv → R D} {x : Str} {p pos : Pos} {e : Expr} {es : List Expr} {la : LS} (o : OkF X.prog X.w X.K X.mg X.base k x ps sem) (hr : Room k X.A) (tk : Takes X W) (ha : SA X W (e :: es) la)
    (hg : Gl X x := by rfl) (hdb : (x == ("__debug__" : Str)) = false := by decide) (he : starEach (e :: es) X.env = (false, eval e X.env) :: starEach es X.env := by rfl) (hpl : (backTo pos (starEach es X.env)).any (·.1) = false := by rfl) : SE X W (.Call (.Name x p) (e :: es) [] pos) (eCa (callC (gcS sem)) la) := by
  obtain ⟨fd, _, F, b, g, kp⟩ := o
  exact se_call spOf_T F hr tk g kp b ha hg hdb he hpl
/-- the end of a def that hands its objects on, with errors that bear values -/
def Rv (P : R D → Prop) (r : RS) : Prop := match r with
  | .ret d h => P (.ok d h)
  | .exc x _ h => (match x.pay with
    | none => P (.exc ⟨x.cls, none⟩ [])
    | some (f, d) => ∃ d', frz 0 h 12 d = some d' ∧ P (.exc ⟨x.cls, some (f, d')⟩ []))
  | _ => False
section
variable {P : R D → Prop} {σ : VS} {h : Hv} {d : D} {C f : Str}
@[simp] theorem Wp_rv_ret : Wp (Rv P) (.ret d h) = P (.ok d h) := Wp.eq _ _
@[simp] theorem Wp_rv_exc : Wp (Rv P) (.exc ⟨C, none⟩ σ h) = P (.exc ⟨C, none⟩ []) := by
  rw [Wp.eq, Rv]
@[simp] theorem Wp_rv_excP : Wp (Rv P) (.exc ⟨C, some (f, d)⟩ σ h) = ∃ d', frz 0 h 12 d = some d' ∧ P (.exc ⟨C, some (f, d')⟩ []) := by
  rw [Wp.eq, Rv]
@[simp] theorem Wp_rv_stuck : Wp (Rv P) .stuck = False := Wp.eq _ _
end
theorem fnU_ofX {P : R D → Prop} {np nl : Nat} {body : SS} {ds : List D} (hl : ds.length = np) (hw : Wp (Rv P) (body (ds.map some ++ List.replicate nl none) [])) : P (fnU np nl body ds []) := by
  replace hw := hw.run
  unfold fnU
  rw [if_pos hl]
  generalize body (ds.map some ++ List.replicate nl none) [] = r at hw ⊢
  cases r with
  | ret d h => exact hw
  | exc x σ h =>
    cases x with
    | mk c p =>
      cases p with
      | none =>
        show P (exitX 0 ⟨c, none⟩ h)
        unfold exitX
        rw [List.take_zero]
        simp only [optAll_nil, Nat.zero_le, if_true]
        exact hw
      | some q =>
        obtain ⟨f, d⟩ := q
        obtain ⟨d', e1, e2⟩ := hw
        show P (exitX 0 ⟨c, some (f, d)⟩ h)
        unfold exitX
        rw [List.take_zero]
        simp only [e1, optAll_nil, Nat.zero_le, if_true]
        exact e2
  | next σ h => exact hw.elim
  | brk σ h => exact hw.elim
  | cont σ h => exact hw.elim
  | stuck => exact hw.elim
end
end VD

set_option Elab.async false
set_option linter.all false
set_option maxRecDepth 100000
set_option maxHeartbeats 4000000
namespace VD
open PySem PySem.Spec PyProof.Rows L2 RT
noncomputable section
/-! ### list(reversed(a list)) -/
section
variable {prog : Program} {w : World} {A : Around} {E : Value → Shared → Prop} {s : Shared}
theorem init_rev {R : Result → Shared → Prop} {it l S : Addr} {items : Array Value} (hh : A.handled = none) (hit : s.heap.IsRevIter it l ((items.size : Int) - 1)) (hl : s.heap.IsList l items) (hne : l ≠ it) (hn : items.size ≤ sizeLine)
    (hSi : S ≠ it) (hSl : S ≠ l) (hS : s.heap.get? S = some { cls := .type "list", data := .seq #[] })
    (hR : ∀ h' tk acc' c', (∀ b o, b ≠ S → b ≠ it → s.heap.get? b = some o → h'.get? b = some o) → h'.get? S = some { cls := .type "list", dict := none, data := .seq acc' c', slots := #[] } →
      ItemsOf (fun i v => items[items.size - 1 - i]? = some v) acc' items.size → R (.ok (.ret .none)) { s with heap := h', toks := tk }) :
    wpAny (model prog w) A.in1 (Builtin.«list.__init__» ⟨[.ref S, .ref it], []⟩)
      (fun fin s' => match fin with | .done f => R (.ok f) s' | .again c' => c'.quiet = true ∧ codeAny (model prog w) A c' R s') (fun e s' => R (.error e) s') s := by
  show wpAny _ _ (do let old ← Builtin.List.listItems (.ref S); Builtin.List.listUpdate (.ref S) (fun _ => #[]); letGo old.toList.reverse; Builtin.List.listExtendWith (.ref S) (.ref it) .none) _ _ s
  refine wpAny_bind ?_
  unfold Builtin.List.listItems
  refine wpAny_bind (wpAny_seqItems hS rfl (wpAny_pure ?_))
  show wpAny _ _ (updateSeq S (fun _ => #[]) >>= fun _ => letGo (#[] : Array Value).toList.reverse >>= fun _ => Builtin.List.listExtendWith (.ref S) (.ref it) .none) _ _ s
  refine wpAny_bind (wpAny_updateSeq hS rfl ?_)
  have hS₂ := Heap.get?_update_self (Obj.mapSeq (fun _ => (#[] : Array Value))) hS rfl
  have oth : ∀ b o, b ≠ S → s.heap.get? b = some o → (s.heap.update S (Obj.mapSeq (fun _ => (#[] : Array Value)))).get? b = some o :=
    fun b o hb e => (Heap.get?_update_other _ _ (Ne.symm hb)).trans e
  refine wpAny_bind (wpAny_letGo ?_)
  have W := (Walks.listRev (prog := prog) (w := w) (A := A.in1) hh it l hne items).toS
  have hit1 : (s.heap.update S (Obj.mapSeq (fun _ => (#[] : Array Value)))).IsRevIter it l ((items.size : Int) - 1) := hit.at fun o e => oth _ _ (Ne.symm hSi) e
  have hl1 : (s.heap.update S (Obj.mapSeq (fun _ => (#[] : Array Value)))).IsList l items := by
    obtain ⟨ol, hol, r⟩ := hl
    exact ⟨ol, oth _ _ (Ne.symm hSl) hol, r⟩
  have hSf : S ∉ [it, l] := by simp only [List.mem_cons, List.not_mem_nil, or_false, not_or]; exact ⟨hSi, hSl⟩
  generalize hh2 : s.heap.update S (Obj.mapSeq (fun _ => (#[] : Array Value))) = h2 at *
  have hT : ({ s with heap := h2 } : Shared).TypeIs (.ref it) "list_reverseiterator" := Heap.IsRevIter.typeIs (s := { s with heap := h2 }) hit1
  have h1 : Builtin.List.listSameRef (.ref S) (.ref it) = false := by simp [Builtin.List.listSameRef, hSi]
  unfold Builtin.List.listExtendWith
  refine wpAny_bind (wpAny_typeOf hT ?_)
  rw [if_neg (by rw [h1]; decide)]
  refine wpAny_bind (wpAny_pyIter_revIter (s := { s with heap := h2 }) hit1 ?_)
  refine wpAny_bind (wpAny_holding ?_)
  unfold Builtin.List.listLengthHint
  refine wpAny_bind (wpAny_specialOf hT nolen_lri ?_)
  show wpAny _ A.in1 (specialOf (Value.ref it) (Str.ofString "__length_hint__") >>= _) _ _ _
  refine wpAny_bind (wpAny_specialOf hT hint_lri ?_)
  generalize hid : ("list_reverseiterator.__length_hint__" : String) = id0
  wp_delta
  rw [show splitId id0 = some ("list_reverseiterator", "__length_hint__") from by subst hid; decide +kernel]
  subst hid
  refine wpAny_bind (wpAny_isInstance (b := true) hT (by rw [isSubtype_type]; kernel_rfl) ?_)
  refine wpAny_pure ?_
  rw [if_neg (by decide)]
  have e0 : ((items.size : Nat) : Int) - 1 - ((0 : Nat) : Int) = (items.size : Int) - 1 := by omega
  refine wpAny_pure ⟨plainId_quiet F.plain_extend_loop _, codeAny_extend_loopS W hn _ hSf _ items.size 0 _ _ _ rfl (Nat.zero_le _) ⟨Nat.zero_le _, by rw [e0]; exact hit1, hl1⟩ hS₂ (ItemsOf.nil _) fun s' acc' c' hm hS' hacc => ?_⟩
  rw [Moved.eq_with hm]
  refine hR s'.heap s'.toks acc' c' (fun b o hb1 hb2 e => hm.heap b o (fun hmem => ?_) (oth b o hb1 e)) hS' hacc
  rcases List.mem_cons.mp hmem with e' | hmem
  · exact hb1 e'
  · exact hb2 (List.mem_singleton.mp hmem)
theorem call_list_rev {Q : Value → Shared → Prop} {it l : Addr} {items : Array Value} (hh : A.handled = none) (hit : s.heap.IsRevIter it l ((items.size : Int) - 1)) (hl : s.heap.IsList l items) (hne : l ≠ it) (hn : items.size ≤ sizeLine)
    (hQ : ∀ h' tk acc' c', (∀ b o, b ≠ it → s.heap.get? b = some o → h'.get? b = some o) → h'.get? s.heap.objs.size = some { cls := .type "list", dict := none, data := .seq acc' c', slots := #[] } →
      ItemsOf (fun i v => items[items.size - 1 - i]? = some v) acc' items.size → Q (.ref s.heap.objs.size) { s with heap := h', toks := tk }) :
    wpAny (model prog w) A (call (.type "list") [.ref it]) Q E s := by
  obtain ⟨oi, hoi, _⟩ := id hit
  obtain ⟨ol, hol, _⟩ := id hl
  refine callType_codes (Q₁ := fun obj s₁ => obj = .ref s.heap.objs.size ∧ s₁ = { s with heap := s.heap.push { cls := .type "list", data := .seq #[] } }) F.called_list (F.typeCall_list_1 _) F.entry_list_init
    (code_list_new _ ⟨rfl, rfl⟩) fun obj s₁ h₁ => ?_
  obtain ⟨rfl, rfl⟩ := h₁
  have hS : (s.heap.push { cls := .type "list", data := .seq #[] }).get? s.heap.objs.size = some { cls := .type "list", data := .seq #[] } := Heap.get?_push_size _ rfl
  refine ⟨⟨_, hS, rfl⟩, F.args_list_init_2 _ _, init_rev (A := A.in1) (s := { s with heap := s.heap.push { cls := .type "list", data := .seq #[] } }) hh (hit.at fun o e => Heap.get?_push_of_some _ e) (hl.push _) hne hn (Nat.ne_of_gt (Heap.lt_size hoi)) (Nat.ne_of_gt (Heap.lt_size hol)) hS fun h' tk acc' c' hk hS' hacc => ?_⟩
  exact ⟨rfl, hQ h' tk acc' c' (fun b o hb e => hk b o (Nat.ne_of_lt (Heap.lt_size e)) hb (Heap.get?_push_of_some _ e)) hS' hacc⟩
end
def tLstRev (K : PySem.W.Frag) (te : TE) : TE := fun σ H Q => te σ H fun v H1 => ∃ (a : Addr) (xs : List V), v = .ref a ∧ SqL K H1 a xs ∧ ∀ q, H1 q = none → Q (.ref q) (upd H1 q (.lst xs.reverse))
section
variable {X : Cx}
theorem pe_listRev {e : Expr} {te : TE} {p p2 pos pos2 : Pos} (hc : X.calm = true) (hg : Gl X "list") (hm : X.mg "list" = none) (hg2 : Gl X "reversed") (hm2 : X.mg "reversed" = none) (he : PE X e te)
    (hs : starEach [e] X.env = (false, eval e X.env) :: starEach [] X.env := by rfl)
    (hs2 : starEach [.Call (.Name "reversed" p2) [e] [] pos2] X.env = (false, eval (.Call (.Name "reversed" p2) [e] [] pos2) X.env) :: starEach [] X.env := by rfl) :
    PE X (.Call (.Name "list" p) [.Call (.Name "reversed" p2) [e] [] pos2] [] pos) (tLstRev X.K te) := by
  refine ⟨fun pins s σ H Q I h => ?_⟩
  refine Call_ (ld_blt I hg hm boot_list (PyProof.Rows.callWith_type1 (args_cons (Call_ (ld_blt I hg2 hm2 PyProof.Rows.boot_reversed (PyProof.Rows.callWith_type1 (args_cons (thn (he.run pins s σ H _ I h) fun u s1 ⟨v, H1, I1, r1, q1⟩ => args_nil ?_) hs) hs rfl))) hs2) hs2 rfl))
  obtain ⟨a, xs, ev, hq, q⟩ := q1
  subst ev
  obtain rfl : u = Value.ref a := r1
  obtain ⟨its, rv, p', hz⟩ := I1.list hq
  refine call_reversed_list p'.isList (args_nil ?_)
  have k0 : ∀ b o, s1.heap.get? b = some o → (s1.heap.push (revObj a ((its.toArray.size : Int) - 1))).get? b = some o := fun b o e => Heap.get?_push_of_some _ e
  have I2 : Inv X pins σ H1 { s1 with heap := s1.heap.push (revObj a ((its.toArray.size : Int) - 1)) } := I1.kept (t' := s1.toks) k0
  obtain ⟨f0, f1, f2, f3, f4, f5⟩ := I1.fpOk (H' := H1) (b := s1.heap.objs.size) (Nat.le_refl _) (I1.hok.fresh (Nat.le_refl _))
  have hl := p'.isList
  obtain ⟨ol, hol, _⟩ := id hl
  have hne : a ≠ s1.heap.objs.size := Nat.ne_of_lt (Heap.lt_size hol)
  have hn : its.toArray.size ≤ sizeLine := by rw [List.size_toArray, ← rv.length]; exact hz
  refine call_list_rev (s := { s1 with heap := s1.heap.push (revObj a ((its.toArray.size : Int) - 1)) }) (I1.ok.hd hc) ⟨_, Heap.get?_push_size _ rfl, rfl, rfl⟩ (hl.push _) hne hn fun h' tk acc c' hk e' hi => ?_
  have hS : s1.heap.objs.size ≤ (s1.heap.push (revObj a ((its.toArray.size : Int) - 1))).objs.size := by
    show s1.heap.objs.size ≤ (s1.heap.objs.push _).size
    rw [Array.size_push]
    exact Nat.le_succ _
  refine ⟨.ref (s1.heap.push (revObj a ((its.toArray.size : Int) - 1))).objs.size, upd H1 (s1.heap.push (revObj a ((its.toArray.size : Int) - 1))).objs.size (.lst xs.reverse), I1.laid (t' := tk) (fun b u e => hk b u (Nat.ne_of_lt (Heap.lt_size e)) (k0 b u e)) hS (show ObjOk X.prog X.w _ _ _ (.lst xs.reverse) from ⟨by rw [List.length_reverse]; exact hz, acc.toList, c', vals_rev rv hi, ?_⟩), rfl, q _ (I1.hok.fresh hS)⟩
  rw [Array.toArray_toList]
  exact e'
end
def lRev (f : ES) : LS := fun σ h => (f σ h).bind fun d h1 => match lOf h1 d with
  | some xs => .ok xs.reverse h1
  | none => .stuck
@[simp] theorem lRev_ap {f : ES} {σ : VS} {h : Hv} : lRev f σ h = (f σ h).bind fun d h1 => match lOf h1 d with
  | some xs => .ok xs.reverse h1
  | none => .stuck := rfl
theorem sl_listRev {X : Cx} {W : WX} {a : Expr} {fa : ES} {p p2 pos pos2 : Pos} (hml : X.mg "list" = none) (hmr : X.mg "reversed" = none) (ha : SE X W a fa) (hgl : Gl X "list" := by rfl) (hgr : Gl X "reversed" := by rfl) (hc : X.calm = true := by rfl)
    (na : starEach [a] X.env = (false, eval a X.env) :: starEach [] X.env := by rfl) (nb : starEach [Expr.Call (.Name "reversed" p2) [a] [] pos2] X.env = (false, eval (Expr.Call (.Name "reversed" p2) [a] [] pos2) X.env) :: starEach [] X.env := by rfl) :
    SL X W (.Call (.Name "list" p) [.Call (.Name "reversed" p2) [a] [] pos2] [] pos) (lRev fa) := by
  obtain ⟨ta, h1, h2⟩ := ha
  refine ⟨_, pe_listRev hc hgl hml hgr hmr h1 na nb, ⟨fun rl rs post => h2.bind rl rs post fun d h1 v φ1 S1 H1 rl1 rs1 st rp post => ?_⟩⟩
  split at post
  · next xs q =>
    obtain ⟨a0, vs, rfl, hs, ra⟩ := lOf_ok rl1 rp q
    refine ⟨a0, vs, rfl, hs, fun p hp => ?_⟩
    obtain ⟨r2, s2⟩ := rl1.hold (o := .lst vs.reverse) hp
    exact post (.ref p) φ1 _ _ r2 s2 ⟨p, vs.reverse, rfl, hp, upd_same, rl1.snone hp, rl1.notin hp, ra.reverse⟩
  · exact post.elim
end
end VD

set_option Elab.async false
set_option linter.all false
set_option maxRecDepth 100000
set_option maxHeartbeats 4000000
namespace VD
open PySem PySem.Spec PyProof.Rows L2
noncomputable section
/-! ### objects with methods -/
section
variable {X : Cx} {CX : CXT} {k : Nat} {f C : Addr} {fd : FuncData} {ps : List Str} {sp : Sp} {E : L2.St → XK} {x m : Str} {p pos apos : Pos} {e o : Expr} {es : List Expr} {ta : TE} {t : TA}
def tMethW (C : Addr) (m : Str) (sp : Sp) (E : L2.St → XK) (ta : TE) (t : TA) : TE := fun σ H Q => ta σ H fun x H1 => ∃ a dx fs, x = .ref a ∧ H1 a = some (.ins C dx fs) ∧ fs.lookup m = none ∧ t σ H1 fun vs H2 => sp (x :: vs) H2 Q (E σ)
theorem pe_methW {pl : Sem Bool} (he : PE X o ta) (c : Cls X.K C) (hm : Meth X.K C m f) (F : FnOk X.prog X.w X.K X.mg X.base CX k f fd ps sp) (hr : Room k X.A) (hb : Binds X.K fd ps []) (hx : ∀ σ, PassesAt CX X σ (E σ)) (ha : PA X (e :: es) t)
    (hst : starEach (e :: es) X.env = (false, eval e X.env) :: starEach es X.env := by rfl) (hpl : (backTo pos (starEach es X.env)).any (·.1) = false := by rfl)
    (ht : eval (.Call (.Attribute o m apos) (e :: es) [] pos) X.env = (do
      let ov ← eval o X.env
      standAt apos.atName
      let (f, first) ← holding [ov] (getMethod ov m pl)
      callWith pos f first (backTo pos (starEach (e :: es) X.env)) (backToKw pos (keywordEach [] X.env))) := by rfl) :
    PE X (.Call (.Attribute o m apos) (e :: es) [] pos) (tMethW C m sp E ta t) := by
  refine ⟨fun pins s σ H Q I h => ?_⟩
  refine PySem.W.methodCall_KW (pl := pl) (thn (he.run pins s σ H _ I h) fun u s1 ⟨x, H1, I1, rx, a, dx, fs, ex, ea, l, q⟩ => ?_) ht
  subst ex
  obtain rfl : u = Value.ref a := rx
  refine getmeth_ok I1 ea c hm l ?_
  refine PySem.W.callWith_K (first := [.ref a]) (h₀ := X.base) I.ok.mod.kin hm.kp (thn (ha.run pos pins s1 σ H1 _ I1 q) fun us s2 ⟨vs, H2, I2, r, q2⟩ => ⟨I2.kIn, ?_⟩) hst hpl
  exact run_fnS (us := .ref a :: us) (vs := .ref a :: vs) F hr hb (hx σ) I2 (.cons rfl r) q2
theorem pe_methW0 {pl : Sem Bool} (he : PE X o ta) (c : Cls X.K C) (hm : Meth X.K C m f) (F : FnOk X.prog X.w X.K X.mg X.base CX k f fd ps sp) (hr : Room k X.A) (hb : Binds X.K fd ps []) (hx : ∀ σ, PassesAt CX X σ (E σ))
    (ht : eval (.Call (.Attribute o m apos) [] [] pos) X.env = (do
      let ov ← eval o X.env
      standAt apos.atName
      let (f, first) ← holding [ov] (getMethod ov m pl)
      callWith pos f first (backTo pos (starEach [] X.env)) (backToKw pos (keywordEach [] X.env))) := by rfl) :
    PE X (.Call (.Attribute o m apos) [] [] pos) (tMethW C m sp E ta tNil) := by
  refine ⟨fun pins s σ H Q I h => ?_⟩
  refine PySem.W.methodCall_KW (pl := pl) (thn (he.run pins s σ H _ I h) fun u s1 ⟨x, H1, I1, rx, a, dx, fs, ex, ea, l, q⟩ => ?_) ht
  subst ex
  obtain rfl : u = Value.ref a := rx
  refine getmeth_ok I1 ea c hm l ?_
  exact PySem.W.callWith_K0 (first := [.ref a]) I1.kIn hm.kp (run_fnS (us := [.ref a]) (vs := [.ref a]) F hr hb (hx σ) I1 (.cons rfl .nil) q)
/-- what making asks -/
def spMk (C : Addr) (sp : Sp) : Sp := fun vs H Q E => ∀ x dx, H x = none → H dx = none → dx ≠ x → sp (.ref x :: vs) (upd (upd H dx (.own x)) x (.ins C dx [])) (fun v H2 => v = .non ∧ Q (.ref x) H2) E
theorem run_makeS {pins : List (Addr × Obj)} {σ : L2.St} {H : Hp} {s : Shared} {Q : VK} {us : List Value} {vs : List V} (M : Mk X.K C f) (F : FnOk X.prog X.w X.K X.mg X.base CX k f fd ps sp) (hr : Room (k + 1) X.A) (hb : Binds X.K fd ps []) (hx : PassesAt CX X σ (E σ))
    (I : Inv X pins σ H s) (r : Vals vs us) (h : spMk C sp vs H Q (E σ)) :
    wpAny (model X.prog X.w) X.A (call (.ref C) us) (EP X pins σ Q) X.xe s := by
  have hq := h (s.heap.objs.size + 1) s.heap.objs.size (I.hok.fresh (Nat.le_succ _)) (I.hok.fresh (Nat.le_refl _)) (Nat.ne_of_lt (Nat.lt_succ_self _))
  have I2 := Inv.made (C := C) I
  have r2 : Vals (V.ref (s.heap.objs.size + 1) :: vs) (Value.ref (s.heap.objs.size + 1) :: us) := .cons rfl r
  have hl : (Value.ref (s.heap.objs.size + 1) :: us).length = ps.length := by
    have e := r2.length
    rw [F.len _ _ _ _ hq] at e
    exact e.symm
  have b := hb _ (Value.ref (s.heap.objs.size + 1) :: us) I2.kIn (by rw [List.append_nil]; exact hl)
  rw [List.append_nil] at b
  refine wpAny_call (make_map (f := f) I.kIn M.makes M.init (beq_iff_eq.mp M.fn) (codeAny_mono (F.run _ X.stack _ _ ⟨Value.ref (s.heap.objs.size + 1) :: us, []⟩ (Value.ref (s.heap.objs.size + 1) :: us) _ _ (E σ) (hr.make C us [])
    (I2.env0.make C us []) b r2 hq) fun r s' hq' => ?_))
  cases r with
  | error e => exact hx pins _ _ e s' I2 hq'
  | ok fl =>
    cases fl with
    | ret u =>
      obtain ⟨v, H', I3, rv, ev, q3⟩ := I2.after hq'
      subst ev
      exact ⟨rv, ⟨V.ref (s.heap.objs.size + 1), H', I3, rfl, q3⟩⟩
    | next => exact False.elim hq'
    | brk => exact False.elim hq'
    | cont => exact False.elim hq'
theorem pe_makeW (M : Mk X.K C f) (F : FnOk X.prog X.w X.K X.mg X.base CX k f fd ps sp) (hr : Room (k + 1) X.A) (hg : Gl X x) (hm : X.mg x = some (.ref C)) (hb : Binds X.K fd ps []) (hx : ∀ σ, PassesAt CX X σ (E σ))
    (ha : PA X (e :: es) t) (hdb : (x == ("__debug__" : Str)) = false := by decide) (he : starEach (e :: es) X.env = (false, eval e X.env) :: starEach es X.env := by rfl) (hpl : (backTo pos (starEach es X.env)).any (·.1) = false := by rfl) :
    PE X (.Call (.Name x p) (e :: es) [] pos) (tCallS (spMk C sp) E t) := by
  refine ⟨fun pins s σ H Q I h => ?_⟩
  refine wpAny_Call_Name_kw (ld_glob I hg hm ?_ hdb)
  refine PySem.W.callWith_K (h₀ := X.base) I.ok.mod.kin M.kp (thn (ha.run pos pins s σ H _ I h) fun us s1 ⟨vs, H1, I1, r, q⟩ => ⟨I1.kIn, ?_⟩) he hpl
  exact run_makeS M F hr hb (hx σ) I1 r q
end
/-! ### fields -/
theorem lookup_ok {K : PySem.W.Frag} {φ : List Addr} {S : Hp} {f : Str} : ∀ {fv : List (Str × V)} {fs : List (Str × D)}, fv.map (·.1) = fs.map (·.1) → RpA K φ S (fv.map (·.2)) (fs.map (·.2)) →
    (∀ d, fs.lookup f = some d → ∃ v, fv.lookup f = some v ∧ Rp K φ S v d) ∧ (fs.lookup f = none → fv.lookup f = none)
  | [], [], _, _ => ⟨fun d h => (by cases h), fun _ => rfl⟩
  | (g, v) :: fv, (g', d) :: fs, ek, ra => by
    injection ek with e1 e2
    rw [List.map_cons, List.map_cons] at ra
    cases ra with
    | cons r t =>
      obtain ⟨h1, h2⟩ := lookup_ok (f := f) e2 t
      have e1' : g = g' := e1
      subst e1'
      rw [List.lookup_cons, List.lookup_cons]
      cases q : f == g with
      | true => exact ⟨fun d' e => by cases e; exact ⟨v, rfl, r⟩, fun e => by cases e⟩
      | false => exact ⟨h1, h2⟩
  | [], _ :: _, ek, _ => by cases ek
  | _ :: _, [], ek, _ => by cases ek
def putS (f : Str) (v : D) : List (Str × D) → List (Str × D)
  | [] => [(f, v)]
  | (g, x) :: r => if g = f then (g, v) :: r else (g, x) :: putS f v r
theorem putS_ok {K : PySem.W.Frag} {φ : List Addr} {S : Hp} {f : Str} {v : V} {d : D} (r : Rp K φ S v d) : ∀ {fv : List (Str × V)} {fs : List (Str × D)}, fv.map (·.1) = fs.map (·.1) → RpA K φ S (fv.map (·.2)) (fs.map (·.2)) →
    (putF f v fv).map (·.1) = (putS f d fs).map (·.1) ∧ RpA K φ S ((putF f v fv).map (·.2)) ((putS f d fs).map (·.2))
  | [], [], _, _ => ⟨rfl, .cons r .nil⟩
  | (g, v0) :: fv, (g', d0) :: fs, ek, ra => by
    injection ek with e1 e2
    rw [List.map_cons, List.map_cons] at ra
    cases ra with
    | cons r0 t =>
      have e1' : g = g' := e1
      subst e1'
      obtain ⟨h1, h2⟩ := putS_ok r e2 t
      unfold putF putS
      by_cases q : g = f
      · rw [if_pos q, if_pos q]
        exact ⟨by rw [List.map_cons, List.map_cons, e2], .cons r t⟩
      · rw [if_neg q, if_neg q]
        exact ⟨by rw [List.map_cons, List.map_cons, h1], .cons r0 h2⟩
  | [], _ :: _, ek, _ => by cases ek
  | _ :: _, [], ek, _ => by cases ek
/-- an object's fields -/
def fldsOf (h : Hv) (C : Str) : D → Option (List (Str × D))
  | .cell n => (match h[n]? with
    | some (.ins c fs) => if c = C then some fs else none
    | _ => none)
  | .obj c ks ds => if c = C then some (ks.zip ds) else none
  | _ => none
theorem RpA.zip {K : PySem.W.Frag} {φ : List Addr} {S : Hp} : ∀ {fv : List (Str × V)} {ks : List Str} {ds : List D}, fv.map (·.1) = ks → RpA K φ S (fv.map (·.2)) ds → fv.map (·.1) = (ks.zip ds).map (·.1) ∧ RpA K φ S (fv.map (·.2)) ((ks.zip ds).map (·.2))
  | [], ks, ds, ek, ra => by
    cases ek
    cases ra
    exact ⟨rfl, .nil⟩
  | (g, v) :: fv, ks, ds, ek, ra => by
    rw [List.map_cons] at ek ra
    cases ek
    cases ra with
    | cons r t =>
      obtain ⟨h1, h2⟩ := RpA.zip (fv := fv) rfl t
      exact ⟨congrArg (List.cons g) h1, .cons r h2⟩
theorem fldsOf_ok {K : PySem.W.Frag} {φ : List Addr} {S H : Hp} {h : Hv} {C : Str} {d : D} {v : V} {fs : List (Str × D)} (rl : Rel K φ S H h) (rp : Rp K φ S v d) (e : fldsOf h C d = some fs) :
    ∃ a dx fv, v = .ref a ∧ H a = some (.ins (He.ga K C) dx fv) ∧ fv.map (·.1) = fs.map (·.1) ∧ RpA K φ S (fv.map (·.2)) (fs.map (·.2)) := by
  cases rp with
  | @cell a n h1 =>
    simp only [fldsOf] at e
    obtain ⟨c, hc⟩ := rl.at h1
    obtain ⟨_, o, ho, rc⟩ := rl.cel _ _ _ h1 hc
    rw [hc] at e
    cases c with
    | ins c fs0 =>
      simp only at e
      split at e
      · next q =>
        cases e
        subst q
        obtain ⟨dx, fv, rfl, ek, ra⟩ := rc
        exact ⟨a, dx, fv, rfl, ho, ek, ra⟩
      · cases e
    | _ => cases e
  | @obj a dx fv c ks ds h1 h2 h3 =>
    simp only [fldsOf] at e
    split at e
    · next q =>
      cases e
      subst q
      obtain ⟨k1, k2⟩ := RpA.zip h2 h3
      exact ⟨a, dx, fv, rfl, rl.sub _ _ h1, k1, k2⟩
    · cases e
  | _ => cases e
section
variable {X : Cx} {W : WX} {e : Expr} {fa fv : ES} {f C : Str} {pos pos' : Pos}
def eFld (C f : Str) (fa : ES) : ES := fun σ h => (fa σ h).bind fun d h1 => match (fldsOf h1 C d).bind fun fs => fs.lookup f with
  | some x => .ok x h1
  | none => .stuck
theorem se_fld (c : Cls X.K (He.ga X.K C)) (n : NoAttr X.K (He.ga X.K C) f) (ha : SE X W e fa) (hb : attributeBase e f X.env (eval e X.env) = eval e X.env := by rfl) : SE X W (.Attribute e f pos) (eFld C f fa) := by
  obtain ⟨ta, k1, k2⟩ := ha
  refine ⟨_, pe_fld k1 hb, ⟨fun rl rs post => k2.bind rl rs post fun d h1 v φ1 S1 H1 rl1 rs1 st rp post2 => ?_⟩⟩
  split at post2
  · next x q =>
    obtain ⟨fs, q1, q2⟩ := Option.bind_eq_some_iff.mp q
    obtain ⟨a, dx, fv, rfl, h1, ek, ra⟩ := fldsOf_ok rl1 rp q1
    obtain ⟨u, hu, ru⟩ := (lookup_ok (f := f) ek ra).1 x q2
    exact ⟨a, _, dx, fv, u, rfl, h1, c, n, hu, post2 u φ1 S1 H1 rl1 (Step.refl _ _ _) ru⟩
  · exact post2.elim
/-- e.f = value -/
def sSetFld (C f : Str) (fa fv : ES) : SS := fun σ h => (fv σ h).then σ fun y h1 => (fa σ h1).then σ fun d h2 => match d with
  | .cell n => (match h2[n]? with
    | some (.ins c fs) => if c = C ∧ fs.length < 1000 then .next σ (h2.set n (.ins c (putS f y fs))) else .stuck
    | _ => .stuck)
  | _ => .stuck
theorem qs_setFld {value : Expr} (c : Cls X.K (He.ga X.K C)) (n : NoAttr X.K (He.ga X.K C) f) (hv : SE X W value fv) (ha : SE X W e fa) (hs : swapsWith value (some (.Attribute e f pos')) pos.line X.env = pure false := by rfl) : QS X W (.Assign [.Attribute e f pos'] value pos) (sSetFld C f fa fv) := by
  obtain ⟨ta, k1, k2⟩ := ha
  obtain ⟨tv, l1, l2⟩ := hv
  refine ⟨_, ps_fld k1 l1 hs, ⟨fun {φ S H h σv σ D} rl rs post => l2.thenS rl rs post fun y h1 u φ1 S1 H1 rl1 rs1 st rp post => k2.thenS rl1 rs1 post fun d h2 v φ2 S2 H2 rl2 rs2 st2 rp2 post3 => ?_⟩⟩
  cases d with
  | cell m =>
    simp only at post3
    cases (show Rp _ _ _ _ _ from rp2) with
    | @cell a _ hm =>
      obtain ⟨c0, hc0⟩ := rl2.at hm
      obtain ⟨_, o, ho, rc⟩ := rl2.cel _ _ _ hm hc0
      rw [hc0] at post3
      cases c0 with
      | ins c' fs =>
        simp only at post3
        split at post3
        · next q =>
          obtain ⟨q1, q2⟩ := q
          subst q1
          obtain ⟨dx, fv', rfl, ek, ra⟩ := rc
          have hl : fv'.length = fs.length := by
            have := congrArg List.length ek
            rw [List.length_map, List.length_map] at this
            exact this
          obtain ⟨p1, p2⟩ := putS_ok (f := f) (Rp.mono st2.prefix st2.sub rp) ek ra
          obtain ⟨r3, s3⟩ := rl2.put (o := .ins (He.ga X.K c') dx (putF f u fv')) (c := .ins c' (putS f y fs)) hm ⟨dx, _, rfl, p1, p2⟩
          exact ⟨a, _, dx, fv', rfl, ho, c, n, by omega, post3 σ φ2 S2 _ r3 (rs2.step s3) s3⟩
        · exact post3.elim
      | _ => exact post3.elim
  | _ => exact post3.elim
end
/-! ### the end of an __init__: its new objects live on -/
def fnI (np nl : Nat) (body : SS) : List D → Hv → R D := fun ds h => if ds.length = np then (match body (ds.map some ++ List.replicate nl none) h with
  | .ret d h' => .ok d h'
  | .next _ h' => .ok .non h'
  | .exc x _ h' => exitX h.length x h'
  | _ => .stuck) else .stuck
theorem fnI_len {np nl : Nat} {body : SS} {ds : List D} {h : Hv} (e : fnI np nl body ds h ≠ .stuck) : ds.length = np := by
  unfold fnI at e
  split at e
  · next q => exact q
  · exact absurd rfl e
section
variable {P : Program} {w : World} {K : PySem.W.Frag} {mg : Str → Option Value} {base : Heap}
theorem fnI_ok {x qual : Str} {st : Stmt} {f : Addr} {fd : FuncData} {N ps : List Str} {k np nl : Nat} {body : SS} (F : Fun K x qual st f fd) (Sc : FnScope N ps (defScope st)) (hps : ps.length = np) (hN : N.length = np + nl)
    (hbody : ∀ (cdv : Value) (A : Around) (outer : List Env) (s : Shared) (H : Hp) (E : XK), Room k (A.deeper (envOfC qual (defScope st) s.heap.objs.size f cdv)) →
      QB (cxOf (L2.CX P w) P w K mg base N qual (defScope st) f cdv A outer s H E) (fun cls d _ H' => E cls d H') (defBody st) body) : FnOk P w K mg base (L2.CX P w) (k + 1) f fd ps (spOf K (fnI np nl body)) := by
  refine F.okX Sc (fun vs H Q E h => ?_) (fun cdv A outer s H vs Q E hr h => ?_)
  · obtain ⟨φ, S, h, ds, rl, ra, post⟩ := h
    rw [ra.length, hps]
    refine fnI_len (nl := nl) (body := body) (h := h) fun z => ?_
    rw [z] at post
    exact post.elim
  · obtain ⟨φ, S, h, ds, rl, ra, post⟩ := h
    obtain ⟨t, h1, h2⟩ := hbody cdv A outer s H E hr
    refine ⟨t, h1, h2.run rl (relS_start ra nl N (by
      have hl : ds.length = np := fnI_len (nl := nl) (body := body) (h := h) fun z => by
        rw [z] at post
        exact post.elim
      rw [hl]
      exact hN)) ?_⟩
    unfold fnI at post
    have hl : ds.length = np := by
      refine Classical.byContradiction fun z => ?_
      rw [if_neg z] at post
      exact post.elim
    rw [if_pos hl] at post
    have en : h.length = φ.length := rl.len.symm
    cases hb : body (ds.map some ++ List.replicate nl none) h with
    | next σ' h' =>
      rw [hb] at post
      exact fun σ1 φ' S' H' r2 _ st => post .non φ' S' H' r2 st .non
    | ret d h' =>
      rw [hb] at post
      exact fun v φ' S' H' r2 st rv => post v φ' S' H' r2 st rv
    | brk σ' h' => rw [hb] at post; exact post.elim
    | cont σ' h' => rw [hb] at post; exact post.elim
    | stuck => rw [hb] at post; exact post.elim
    | exc x σ' h' =>
      rw [hb] at post
      intro σ1 cls dd φ' S' H' r2 _ st rx
      simp only [exitX] at post
      obtain ⟨s2, _⟩ := exit_step st r2
      obtain ⟨e1, rx⟩ := rx
      cases hp : x.pay with
      | none =>
        simp only [hp] at post rx
        split at post
        · next h'' q2 =>
          split at post
          · next hn =>
            rw [en] at q2 hn
            exact post cls dd _ _ H' (exit_rel r2 hn q2) s2 ⟨e1, by rw [hp]; exact rx⟩
          · exact post.elim
        · exact post.elim
      | some p =>
        obtain ⟨fl, d⟩ := p
        simp only [hp] at post rx
        obtain ⟨dx, v, e2, e3, rv⟩ := rx
        split at post
        · next d' h'' q1 q2 =>
          split at post
          · next hn =>
            rw [en] at q1 q2 hn
            exact post cls dd _ _ H' (exit_rel r2 hn q2) s2 ⟨e1, dx, v, e2, still_ex r2 _ _ e3, frz_ok r2 _ _ _ _ rv q1⟩
          · exact post.elim
        · exact post.elim
end
/-! ### methods called -/
def OkM (P : Program) (w : World) (K : PySem.W.Frag) (mg : Str → Option Value) (base : Heap) (k : Nat) (C m : Str) (ps : List Str) (sem : List D → Hv → R D) : Prop :=
  ∃ fd, FnOk P w K mg base (L2.CX P w) k (He.ma K (He.ga K C) m) fd ps (spOf K sem) ∧ Binds K fd ps [] ∧ Meth K (He.ga K C) m (He.ma K (He.ga K C) m)
section
variable {P : Program} {w : World} {K : PySem.W.Frag} {mg : Str → Option Value} {base : Heap}
theorem okM_mk {C m qual : Str} {st : Stmt} {fd : FuncData} {N ps : List Str} {k np nl : Nat} {body : SS} (F : Fun K m qual st (He.ma K (He.ga K C) m) fd) (Sc : FnScope N ps (defScope st)) (hps : ps.length = np) (hN : N.length = np + nl) (hm : Meth K (He.ga K C) m (He.ma K (He.ga K C) m)) (b : Binds K fd ps [])
    (hbody : ∀ (cdv : Value) (A : Around) (outer : List Env) (s : Shared) (H : Hp) (E : XK), Room k (A.deeper (envOfC qual (defScope st) s.heap.objs.size (He.ma K (He.ga K C) m) cdv)) →
      QB (cxOf (L2.CX P w) P w K mg base N qual (defScope st) (He.ma K (He.ga K C) m) cdv A outer s H E) (fun cls d _ H' => E cls d H') (defBody st) body) : OkM P w K mg base (k + 1) C m ps (fnS np nl body) := ⟨fd, fn_ok F Sc hps hN hbody, b, hm⟩
theorem okMI_mk {C m qual : Str} {st : Stmt} {fd : FuncData} {N ps : List Str} {k np nl : Nat} {body : SS} (F : Fun K m qual st (He.ma K (He.ga K C) m) fd) (Sc : FnScope N ps (defScope st)) (hps : ps.length = np) (hN : N.length = np + nl) (hm : Meth K (He.ga K C) m (He.ma K (He.ga K C) m)) (b : Binds K fd ps [])
    (hbody : ∀ (cdv : Value) (A : Around) (outer : List Env) (s : Shared) (H : Hp) (E : XK), Room k (A.deeper (envOfC qual (defScope st) s.heap.objs.size (He.ma K (He.ga K C) m) cdv)) →
      QB (cxOf (L2.CX P w) P w K mg base N qual (defScope st) (He.ma K (He.ga K C) m) cdv A outer s H E) (fun cls d _ H' => E cls d H') (defBody st) body) : OkM P w K mg base (k + 1) C m ps (fnI np nl body) := ⟨fd, fnI_ok F Sc hps hN hbody, b, hm⟩
theorem okMU_mk {C m qual : Str} {st : Stmt} {fd : FuncData} {N ps : List Str} {k np nl : Nat} {body : SS} (F : Fun K m qual st (He.ma K (He.ga K C) m) fd) (Sc : FnScope N ps (defScope st)) (hps : ps.length = np) (hN : N.length = np + nl) (hm : Meth K (He.ga K C) m (He.ma K (He.ga K C) m)) (b : Binds K fd ps [])
    (hbody : ∀ (cdv : Value) (A : Around) (outer : List Env) (s : Shared) (H : Hp) (E : XK), Room k (A.deeper (envOfC qual (defScope st) s.heap.objs.size (He.ma K (He.ga K C) m) cdv)) →
      QB (cxOf (L2.CX P w) P w K mg base N qual (defScope st) (He.ma K (He.ga K C) m) cdv A outer s H E) (fun cls d _ H' => E cls d H') (defBody st) body) : OkM P w K mg base (k + 1) C m ps (fnU np nl body) := ⟨fd, fnU_ok F Sc hps hN hbody, b, hm⟩
end
def eMeth (C m : Str) (sem' : List D → Hv → R D) (fa : ES) (la : LS) : ES := fun σ h => (fa σ h).bind fun d h1 => match fldsOf h1 C d with
  | some fs => if (fs.lookup m).isNone then ((la σ h1).bind fun ds h2 => sem' (d :: ds) h2) else .stuck
  | none => .stuck
section
variable {X : Cx} {W : WX} {k : Nat} {ps : List Str} {sem sem' : List D → Hv → R D} {C m : Str} {o e : Expr} {es : List Expr} {fa : ES} {la : LS} {p apos pos : Pos} {pl : Sem Bool}
theorem se_methG (hsem : ∀ {φ : List Addr} {S H : Hp} {h : Hv} {ds : List D} {vs : List V} {Q : VK} {E : XK}, Rel X.K φ S H h → RpA X.K φ S vs ds → Post X.K (repV X.K) φ S H (sem' ds h) Q E → spOf X.K sem vs H Q E)
    (F : OkM X.prog X.w X.K X.mg X.base k C m ps sem) (c : Cls X.K (He.ga X.K C)) (hr : Room k X.A) (tk : Takes X W) (ho : SE X W o fa) (ha : SA X W (e :: es) la)
    (hst : starEach (e :: es) X.env = (false, eval e X.env) :: starEach es X.env := by rfl) (hpl : (backTo pos (starEach es X.env)).any (·.1) = false := by rfl)
    (ht : eval (.Call (.Attribute o m apos) (e :: es) [] pos) X.env = (do
      let ov ← eval o X.env
      standAt apos.atName
      let (f, first) ← holding [ov] (getMethod ov m pl)
      callWith pos f first (backTo pos (starEach (e :: es) X.env)) (backToKw pos (keywordEach [] X.env))) := by rfl) :
    SE X W (.Call (.Attribute o m apos) (e :: es) [] pos) (eMeth C m sem' fa la) := by
  obtain ⟨fd, G, hb, hm⟩ := F
  obtain ⟨ta, k1, k2⟩ := ho
  obtain ⟨t, h1, h2⟩ := ha
  refine ⟨_, pe_methW k1 c hm G hr hb (fun σ => passAt tk σ) h1 hst hpl ht, ⟨fun rl rs post => k2.bind rl rs post fun d h1 v φ1 S1 H1 rl1 rs1 st rp post2 => ?_⟩⟩
  split at post2
  · next fs q =>
    split at post2
    · next ql =>
      obtain ⟨a, dx, fv, rfl, h1, ek, ra⟩ := fldsOf_ok rl1 rp q
      refine ⟨a, dx, fv, rfl, h1, (lookup_ok (f := m) ek ra).2 (Option.isNone_iff_eq_none.mp ql), h2.bind rl1 rs1 post2 fun ds h3 vs φ2 S2 H2 rl2 rs2 st2 rp2 post3 => ?_⟩
      exact hsem rl2 (.cons (Rp.mono st2.prefix st2.sub rp) rp2) post3
    · exact post2.elim
  · exact post2.elim
theorem se_methG0 (hsem : ∀ {φ : List Addr} {S H : Hp} {h : Hv} {ds : List D} {vs : List V} {Q : VK} {E : XK}, Rel X.K φ S H h → RpA X.K φ S vs ds → Post X.K (repV X.K) φ S H (sem' ds h) Q E → spOf X.K sem vs H Q E)
    (F : OkM X.prog X.w X.K X.mg X.base k C m ps sem) (c : Cls X.K (He.ga X.K C)) (hr : Room k X.A) (tk : Takes X W) (ho : SE X W o fa)
    (ht : eval (.Call (.Attribute o m apos) [] [] pos) X.env = (do
      let ov ← eval o X.env
      standAt apos.atName
      let (f, first) ← holding [ov] (getMethod ov m pl)
      callWith pos f first (backTo pos (starEach [] X.env)) (backToKw pos (keywordEach [] X.env))) := by rfl) :
    SE X W (.Call (.Attribute o m apos) [] [] pos) (eMeth C m sem' fa aNil) := by
  obtain ⟨fd, G, hb, hm⟩ := F
  obtain ⟨ta, k1, k2⟩ := ho
  refine ⟨_, pe_methW0 k1 c hm G hr hb (fun σ => passAt tk σ) ht, ⟨fun rl rs post => k2.bind rl rs post fun d h1 v φ1 S1 H1 rl1 rs1 st rp post2 => ?_⟩⟩
  split at post2
  · next fs q =>
    split at post2
    · next ql =>
      obtain ⟨a, dx, fv, rfl, h1, ek, ra⟩ := fldsOf_ok rl1 rp q
      exact ⟨a, dx, fv, rfl, h1, (lookup_ok (f := m) ek ra).2 (Option.isNone_iff_eq_none.mp ql), hsem rl1 (.cons rp .nil) post2⟩
    · exact post2.elim
  · exact post2.elim
end
/-! ### objects made -/
def mkR (C : Str) (sem : List D → Hv → R D) : List D → Hv → R D := fun ds h1 => match sem (.cell h1.length :: ds) (h1 ++ [.ins C []]) with
  | .ok .non h2 => .ok (.cell h1.length) h2
  | .exc x h2 => exitX h1.length x h2
  | _ => .stuck
/-- .. that stay as they are from then on -/
def fzS (sem : List D → Hv → R D) : List D → Hv → R D := fun ds h => match sem ds h with
  | .ok d h' => exitD h.length d h'
  | .exc x h' => .exc x h'
  | .stuck => .stuck
section
variable {K : PySem.W.Frag} {sem : List D → Hv → R D} {vs : List V} {H : Hp} {Q : VK} {E : XK} {C : Str}
theorem exitX_post {φ φ' : List Addr} {S S' H' : Hp} {h h' : Hv} {x : Xn} {cls : Value} {dd : Option Addr} (rl : Rel K φ S H h) (st : Step φ S H φ' S' H') (r2 : Rel K φ' S' H' h') (rx : RpX K φ' S' H' x cls dd) (post : Post K (repV K) φ S H (exitX h.length x h') Q E) : E cls dd H' := by
  have en : h.length = φ.length := rl.len.symm
  simp only [exitX] at post
  obtain ⟨s2, _⟩ := exit_step st r2
  obtain ⟨e1, rx⟩ := rx
  cases hp : x.pay with
  | none =>
    simp only [hp] at post rx
    split at post
    · next h'' q2 =>
      split at post
      · next hn =>
        rw [en] at q2 hn
        exact post cls dd _ _ H' (exit_rel r2 hn q2) s2 ⟨e1, by rw [hp]; exact rx⟩
      · exact post.elim
    · exact post.elim
  | some p =>
    obtain ⟨fl, d⟩ := p
    simp only [hp] at post rx
    obtain ⟨dx, v, e2, e3, rv⟩ := rx
    split at post
    · next d' h'' q1 q2 =>
      split at post
      · next hn =>
        rw [en] at q1 q2 hn
        exact post cls dd _ _ H' (exit_rel r2 hn q2) s2 ⟨e1, dx, v, e2, still_ex r2 _ _ e3, frz_ok r2 _ _ _ _ rv q1⟩
      · exact post.elim
    · exact post.elim
theorem spOf_mk (z : spOf K (mkR C sem) vs H Q E) : spMk (He.ga K C) (spOf K sem) vs H Q E := by
  obtain ⟨φ, S, h, ds, rl, ra, post⟩ := z
  intro x dx hx hdx ne
  obtain ⟨r1, s1⟩ := rl.hold (o := .own x) hdx
  have hx1 : upd H dx (.own x) x = none := by rw [upd_ne (fun z => ne z.symm)]; exact hx
  obtain ⟨r2, s2⟩ := r1.hold (o := .ins (He.ga K C) dx []) hx1
  have r3 := r2.celled (c := .ins C []) upd_same (rl.snone hx) (rl.notin hx) ⟨dx, [], rfl, rfl, .nil⟩
  have s3 : Step φ S H (φ ++ [x]) S (upd (upd H dx (.own x)) x (.ins (He.ga K C) dx [])) := (s1.trans s2).celled hx
  refine ⟨φ ++ [x], S, h ++ [.ins C []], .cell h.length :: ds, r3, .cons (.cell ?_) (ra.mono ⟨[x], rfl⟩ (Ex.refl _)), ?_⟩
  · rw [← rl.len, List.getElem?_append_right (Nat.le_refl _), Nat.sub_self]; rfl
  have at_ : ∀ φ', Pre (φ ++ [x]) φ' → φ'[h.length]? = some x := fun φ' p => p.at (by rw [← rl.len, List.getElem?_append_right (Nat.le_refl _), Nat.sub_self]; rfl)
  unfold mkR at post
  split at post
  · next h2 hs =>
    rw [hs]
    intro v φ2 S2 H2 r4 st4 rv
    cases (show Rp _ _ _ _ _ from rv)
    exact ⟨rfl, post (.ref x) φ2 S2 H2 r4 (s3.trans st4) (.cell (at_ φ2 st4.prefix))⟩
  · next x' h2 hs =>
    rw [hs]
    intro cls dd φ2 S2 H2 r4 st4 rx
    exact exitX_post rl (s3.trans st4) r4 rx post
  · exact post.elim
theorem spOf_fz (z : spOf K (fzS sem) vs H Q E) : spOf K sem vs H Q E := by
  obtain ⟨φ, S, h, ds, rl, ra, post⟩ := z
  refine ⟨φ, S, h, ds, rl, ra, ?_⟩
  have en : h.length = φ.length := rl.len.symm
  unfold fzS at post
  split at post
  · next d h' hs =>
    rw [hs]
    intro v φ2 S2 H2 r2 st2 rv
    unfold exitD at post
    split at post
    · next d' h'' q1 q2 =>
      split at post
      · next hn =>
        rw [en] at q1 q2 hn
        exact post v _ _ H2 (exit_rel r2 hn q2) (exit_step st2 r2).1 (frz_ok r2 _ _ _ _ rv q1)
      · exact post.elim
    · exact post.elim
  · next x h' hs => rw [hs]; exact post
  · exact post.elim
end
section
variable {X : Cx} {W : WX} {k : Nat} {ps : List Str} {sem sem' : List D → Hv → R D} {C : Str} {e : Expr} {es : List Expr} {la : LS} {p pos : Pos}
theorem se_mkG (hsem : ∀ {φ : List Addr} {S H : Hp} {h : Hv} {ds : List D} {vs : List V} {Q : VK} {E : XK}, Rel X.K φ S H h → RpA X.K φ S vs ds → Post X.K (repV X.K) φ S H (sem' ds h) Q E → spOf X.K (mkR C sem) vs H Q E)
    (M : Mk X.K (He.ga X.K C) (He.ma X.K (He.ga X.K C) "__init__")) (F : OkM X.prog X.w X.K X.mg X.base k C "__init__" ps sem) (hr : Room (k + 1) X.A) (tk : Takes X W) (hm : X.mg C = some (.ref (He.ga X.K C))) (ha : SA X W (e :: es) la)
    (hg : Gl X C := by rfl) (hdb : (C == ("__debug__" : Str)) = false := by decide) (he : starEach (e :: es) X.env = (false, eval e X.env) :: starEach es X.env := by rfl) (hpl : (backTo pos (starEach es X.env)).any (·.1) = false := by rfl) :
    SE X W (.Call (.Name C p) (e :: es) [] pos) (eCa sem' la) := by
  obtain ⟨fd, G, hb, _⟩ := F
  obtain ⟨t, h1, h2⟩ := ha
  exact ⟨_, pe_makeW M G hr hg hm hb (fun σ => passAt tk σ) h1 hdb he hpl, ⟨fun rl rs post => h2.bind rl rs post fun ds h1 vs φ1 S1 H1 rl1 rs1 st rp post => spOf_mk (hsem rl1 rp post)⟩⟩
/-- by the caller's heap, its cells among the arguments -/
theorem se_mkM (M : Mk X.K (He.ga X.K C) (He.ma X.K (He.ga X.K C) "__init__")) (F : OkM X.prog X.w X.K X.mg X.base k C "__init__" ps sem) (hr : Room (k + 1) X.A) (tk : Takes X W) (hm : X.mg C = some (.ref (He.ga X.K C))) (ha : SA X W (e :: es) la)
    (hg : Gl X C := by rfl) (hdb : (C == ("__debug__" : Str)) = false := by decide) (he : starEach (e :: es) X.env = (false, eval e X.env) :: starEach es X.env := by rfl) (hpl : (backTo pos (starEach es X.env)).any (·.1) = false := by rfl) :
    SE X W (.Call (.Name C p) (e :: es) [] pos) (eCa (callM (mkR C sem)) la) := se_mkG spOf_M M F hr tk hm ha hg hdb he hpl
/-- of plain things -/
theorem se_mkC (M : Mk X.K (He.ga X.K C) (He.ma X.K (He.ga X.K C) "__init__")) (F : OkM X.prog X.w X.K X.mg X.base k C "__init__" ps sem) (hr : Room (k + 1) X.A) (tk : Takes X W) (hm : X.mg C = some (.ref (He.ga X.K C))) (ha : SA X W (e :: es) la)
    (hg : Gl X C := by rfl) (hdb : (C == ("__debug__" : Str)) = false := by decide) (he : starEach (e :: es) X.env = (false, eval e X.env) :: starEach es X.env := by rfl) (hpl : (backTo pos (starEach es X.env)).any (·.1) = false := by rfl) :
    SE X W (.Call (.Name C p) (e :: es) [] pos) (eCa (callC (mkR C sem)) la) := se_mkG spOf_C M F hr tk hm ha hg hdb he hpl
/-- one that stays as it is -/
theorem se_mkF (M : Mk X.K (He.ga X.K C) (He.ma X.K (He.ga X.K C) "__init__")) (F : OkM X.prog X.w X.K X.mg X.base k C "__init__" ps sem) (hr : Room (k + 1) X.A) (tk : Takes X W) (hm : X.mg C = some (.ref (He.ga X.K C))) (ha : SA X W (e :: es) la)
    (hg : Gl X C := by rfl) (hdb : (C == ("__debug__" : Str)) = false := by decide) (he : starEach (e :: es) X.env = (false, eval e X.env) :: starEach es X.env := by rfl) (hpl : (backTo pos (starEach es X.env)).any (·.1) = false := by rfl) :
    SE X W (.Call (.Name C p) (e :: es) [] pos) (eCa (callP (fzS (mkR C sem))) la) := se_mkG (fun rl ra post => spOf_fz (spOf_P rl ra post)) M F hr tk hm ha hg hdb he hpl
end
section
variable {X : Cx} {W : WX} {k : Nat} {ps : List Str} {sem : List D → Hv → R D} {C m : Str} {o e : Expr} {es : List Expr} {fa : ES} {la : LS} {p apos pos : Pos} {pl : Sem Bool} (q : Cm)
theorem se_meth (F : OkM X.prog X.w X.K X.mg X.base k C m ps sem) (c : Cls X.K (He.ga X.K C)) (hr : Room k X.A) (tk : Takes X W) (ho : SE X W o fa) (ha : SA X W (e :: es) la)
    (hst : starEach (e :: es) X.env = (false, eval e X.env) :: starEach es X.env := by rfl) (hpl : (backTo pos (starEach es X.env)).any (·.1) = false := by rfl)
    (ht : eval (.Call (.Attribute o m apos) (e :: es) [] pos) X.env = (do
      let ov ← eval o X.env
      standAt apos.atName
      let (f, first) ← holding [ov] (getMethod ov m pl)
      callWith pos f first (backTo pos (starEach (e :: es) X.env)) (backToKw pos (keywordEach [] X.env))) := by rfl) :
    SE X W (.Call (.Attribute o m apos) (e :: es) [] pos) (eMeth C m (q.f sem) fa la) := se_methG (cm_ok q) F c hr tk ho ha hst hpl ht
theorem se_meth0 (F : OkM X.prog X.w X.K X.mg X.base k C m ps sem) (c : Cls X.K (He.ga X.K C)) (hr : Room k X.A) (tk : Takes X W) (ho : SE X W o fa)
    (ht : eval (.Call (.Attribute o m apos) [] [] pos) X.env = (do
      let ov ← eval o X.env
      standAt apos.atName
      let (f, first) ← holding [ov] (getMethod ov m pl)
      callWith pos f first (backTo pos (starEach [] X.env)) (backToKw pos (keywordEach [] X.env))) := by rfl) :
    SE X W (.Call (.Attribute o m apos) [] [] pos) (eMeth C m (q.f sem) fa aNil) := se_methG0 (cm_ok q) F c hr tk ho ht
end
end
end VD

set_option Elab.async false
set_option linter.all false
set_option maxRecDepth 100000
set_option maxHeartbeats 4000000
namespace VD
open PySem PySem.Spec PyProof.Rows L2
noncomputable section
/-! ### data without cells, of any depth -/
mutual
def noC : D → Bool
  | .non => true
  | .bl _ => true
  | .int _ => true
  | .str _ => true
  | .raw _ => true
  | .lst ds => noCL ds
  | .fz ds => noCL ds
  | .tup ds => noCL ds
  | .dct _ ds => noCL ds
  | .obj _ _ ds => noCL ds
  | .cell _ => false
  | .exv _ _ _ _ => false
def noCL : List D → Bool
  | [] => true
  | d :: ds => noC d && noCL ds
end
section
variable {K : PySem.W.Frag} {φ : List Addr} {S : Hp}
mutual
theorem noC_rp : ∀ {v : V} {d : D}, noC d = true → Rp K φ S v d → Rp K [] S v d
  | _, _, _, .non => .non
  | _, _, _, .bl b => .bl b
  | _, _, _, .int i => .int i
  | _, _, _, .str x => .str x
  | _, .lst ds, e, .lst h r => .lst h (noCL_rp (by rw [noC] at e; exact e) r)
  | _, .fz ds, e, .fz h r => .fz h (noCL_rp (by rw [noC] at e; exact e) r)
  | _, .tup ds, e, .tup h r => .tup h (noCL_rp (by rw [noC] at e; exact e) r)
  | _, _, e, .cell _ => by rw [noC] at e; cases e
  | _, _, _, .raw v => .raw v
  | _, .dct ks ds, e, .dct h k r => .dct h k (noCL_rp (by rw [noC] at e; exact e) r)
  | _, .obj c ks ds, e, .obj h k r => .obj h k (noCL_rp (by rw [noC] at e; exact e) r)
  | _, _, e, .exv _ _ => by rw [noC] at e; cases e
theorem noCL_rp : ∀ {vs : List V} {ds : List D}, noCL ds = true → RpA K φ S vs ds → RpA K [] S vs ds
  | _, _, _, .nil => .nil
  | _, d :: ds, e, .cons r t => by
    rw [noCL, Bool.and_eq_true] at e
    exact .cons (noC_rp e.1 r) (noCL_rp e.2 t)
end
end
theorem noCL_all {ds : List D} : noCL ds = ds.all noC := by
  induction ds with
  | nil => rfl
  | cons d ds ih => rw [noCL, ih, List.all_cons]
def frzQ (n0 : Nat) (h : Hv) (d : D) : Option D := if noC d = true then some d else frz n0 h 12 d
theorem frzQ_ok {K : PySem.W.Frag} {φ : List Addr} {S H : Hp} {h : Hv} {n0 : Nat} {v : V} {d d' : D} (rl : Rel K φ S H h) (rp : Rp K φ S v d) (e : frzQ n0 h d = some d') : Rp K (φ.take n0) (still φ n0 S H) v d' := by
  unfold frzQ at e
  split at e
  · next q =>
    cases e
    exact Rp.mono ⟨φ.take n0, rfl⟩ (still_ex rl) (noC_rp q rp)
  · exact frz_ok rl _ _ _ _ rp e
def exitQ (n0 : Nat) (d : D) (h : Hv) : R D := match frzQ n0 h d, optAll (frzC n0 h) (h.take n0) with
  | some d', some h' => if n0 ≤ h.length then .ok d' h' else .stuck
  | _, _ => .stuck
def fnQ (np nl : Nat) (body : SS) : List D → Hv → R D := fun ds h => if ds.length = np then (match body (ds.map some ++ List.replicate nl none) h with
  | .ret d h' => exitQ h.length d h'
  | .next _ h' => exitQ h.length .non h'
  | .exc x _ h' => exitX h.length x h'
  | _ => .stuck) else .stuck
theorem fnQ_len {np nl : Nat} {body : SS} {ds : List D} {h : Hv} (e : fnQ np nl body ds h ≠ .stuck) : ds.length = np := by
  unfold fnQ at e
  split at e
  · next q => exact q
  · exact absurd rfl e
section
variable {P : Program} {w : World} {K : PySem.W.Frag} {mg : Str → Option Value} {base : Heap}
theorem fnQ_ok {x qual : Str} {st : Stmt} {f : Addr} {fd : FuncData} {N ps : List Str} {k np nl : Nat} {body : SS} (F : Fun K x qual st f fd) (Sc : FnScope N ps (defScope st)) (hps : ps.length = np) (hN : N.length = np + nl)
    (hbody : ∀ (cdv : Value) (A : Around) (outer : List Env) (s : Shared) (H : Hp) (E : XK), Room k (A.deeper (envOfC qual (defScope st) s.heap.objs.size f cdv)) →
      QB (cxOf (L2.CX P w) P w K mg base N qual (defScope st) f cdv A outer s H E) (fun cls d _ H' => E cls d H') (defBody st) body) : FnOk P w K mg base (L2.CX P w) (k + 1) f fd ps (spOf K (fnQ np nl body)) := by
  refine F.okX Sc (fun vs H Q E h => ?_) (fun cdv A outer s H vs Q E hr h => ?_)
  · obtain ⟨φ, S, h, ds, rl, ra, post⟩ := h
    rw [ra.length, hps]
    refine fnQ_len (nl := nl) (body := body) (h := h) fun z => ?_
    rw [z] at post
    exact post.elim
  · obtain ⟨φ, S, h, ds, rl, ra, post⟩ := h
    obtain ⟨t, h1, h2⟩ := hbody cdv A outer s H E hr
    refine ⟨t, h1, h2.run rl (relS_start ra nl N (by
      have hl : ds.length = np := fnQ_len (nl := nl) (body := body) (h := h) fun z => by
        rw [z] at post
        exact post.elim
      rw [hl]
      exact hN)) ?_⟩
    unfold fnQ at post
    have hl : ds.length = np := by
      refine Classical.byContradiction fun z => ?_
      rw [if_neg z] at post
      exact post.elim
    rw [if_pos hl] at post
    have en : h.length = φ.length := rl.len.symm
    have out : ∀ {φ' S' H' h' d v}, Rel K φ' S' H' h' → Step φ S H φ' S' H' → Rp K φ' S' v d → Post K (repV K) φ S H (exitQ h.length d h') Q E → Q v H' := fun {φ' S' H' h' d v} r2 st rv post => by
      unfold exitQ at post
      split at post
      · next d' h'' q1 q2 =>
        split at post
        · next hn =>
          rw [en] at q1 q2 hn
          obtain ⟨s2, _⟩ := exit_step st r2
          exact post v _ _ H' (exit_rel r2 hn q2) s2 (frzQ_ok r2 rv q1)
        · exact post.elim
      · exact post.elim
    cases hb : body (ds.map some ++ List.replicate nl none) h with
    | next σ' h' =>
      rw [hb] at post
      exact fun σ1 φ' S' H' r2 _ st => out r2 st .non post
    | ret d h' =>
      rw [hb] at post
      exact fun v φ' S' H' r2 st rv => out r2 st rv post
    | brk σ' h' => rw [hb] at post; exact post.elim
    | cont σ' h' => rw [hb] at post; exact post.elim
    | stuck => rw [hb] at post; exact post.elim
    | exc x σ' h' =>
      rw [hb] at post
      intro σ1 cls dd φ' S' H' r2 _ st rx
      simp only [exitX] at post
      obtain ⟨s2, _⟩ := exit_step st r2
      obtain ⟨e1, rx⟩ := rx
      cases hp : x.pay with
      | none =>
        simp only [hp] at post rx
        split at post
        · next h'' q2 =>
          split at post
          · next hn =>
            rw [en] at q2 hn
            exact post cls dd _ _ H' (exit_rel r2 hn q2) s2 ⟨e1, by rw [hp]; exact rx⟩
          · exact post.elim
        · exact post.elim
      | some p =>
        obtain ⟨fl, d⟩ := p
        simp only [hp] at post rx
        obtain ⟨dx, v, e2, e3, rv⟩ := rx
        split at post
        · next d' h'' q1 q2 =>
          split at post
          · next hn =>
            rw [en] at q1 q2 hn
            exact post cls dd _ _ H' (exit_rel r2 hn q2) s2 ⟨e1, dx, v, e2, still_ex r2 _ _ e3, frz_ok r2 _ _ _ _ rv q1⟩
          · exact post.elim
        · exact post.elim
theorem okQ_mk {x : Str} {st : Stmt} {fd : FuncData} {N ps : List Str} {k np nl : Nat} {body : SS} (F : Fun K x x st (He.ga K x) fd) (Sc : FnScope N ps (defScope st)) (hps : ps.length = np) (hN : N.length = np + nl) (g : mg x = some (.ref (He.ga K x))) (b : Binds K fd ps [])
    (hbody : ∀ (cdv : Value) (A : Around) (outer : List Env) (s : Shared) (H : Hp) (E : XK), Room k (A.deeper (envOfC x (defScope st) s.heap.objs.size (He.ga K x) cdv)) →
      QB (cxOf (L2.CX P w) P w K mg base N x (defScope st) (He.ga K x) cdv A outer s H E) (fun cls d _ H' => E cls d H') (defBody st) body) : OkF P w K mg base (k + 1) x ps (fnQ np nl body) := ⟨fd, let ⟨oc, od, _, _, _, _, _, _, osl, _, lk, _⟩ := F.ex; ⟨oc, od, osl, lk⟩, fnQ_ok F Sc hps hN hbody, b, g, F.kp⟩
end
/-- a call of plain things, of any depth -/
def callQ (sem : List D → Hv → R D) (ds : List D) (h : Hv) : R D := if noCL ds = true then (match sem ds [] with
    | .ok d [] => .ok d h
    | .exc x [] => .exc x h
    | _ => .stuck) else .stuck
theorem spOf_Q {K : PySem.W.Frag} {sem : List D → Hv → R D} {φ : List Addr} {S H : Hp} {h : Hv} {ds : List D} {vs : List V} {Q : VK} {E : XK} (rl : Rel K φ S H h) (ra : RpA K φ S vs ds) (post : Post K (repV K) φ S H (callQ sem ds h) Q E) : spOf K sem vs H Q E := by
  unfold callQ at post
  split at post
  · next q =>
    refine ⟨[], S, [], ds, Rel.bare rl.sub, noCL_rp q ra, ?_⟩
    split at post
    · next d hs =>
      rw [hs]
      intro v φ' S' H' r2 st rv
      obtain ⟨rfl, r3, s3⟩ := rl.frame r2 st
      exact post v φ S' H' r3 s3 (Rp.mono ⟨φ, rfl⟩ (Ex.refl _) rv)
    · next x hs =>
      rw [hs]
      intro cls dd φ' S' H' r2 st rx
      obtain ⟨rfl, r3, s3⟩ := rl.frame r2 st
      refine post cls dd φ S' H' r3 s3 ⟨rx.1, ?_⟩
      have rx2 := rx.2
      cases hp : x.pay with
      | none => rw [hp] at rx2; exact rx2
      | some p =>
        rw [hp] at rx2
        obtain ⟨dx, v, e2, e3, rv⟩ := rx2
        exact ⟨dx, v, e2, e3, Rp.mono ⟨φ, rfl⟩ (Ex.refl _) rv⟩
    · exact post.elim
  · exact post.elim
theorem se_fnQ {X : Cx} {W : WX} {k : Nat} {ps : List Str} {sem : List D → Hv → R D} {x : Str} {p pos : Pos} {e : Expr} {es : List Expr} {la : LS}
    (o : OkF X.prog X.w X.K X.mg X.base k x ps sem) (hr : Room k X.A) (tk : Takes X W) (ha : SA X W (e :: es) la)
    (hg : Gl X x := by rfl) (hdb : (x == ("__debug__" : Str)) = false := by decide) (he : starEach (e :: es) X.env = (false, eval e X.env) :: starEach es X.env := by rfl) (hpl : (backTo pos (starEach es X.env)).any (·.1) = false := by rfl) :
    SE X W (.Call (.Name x p) (e :: es) [] pos) (eCa (callQ sem) la) := by
  obtain ⟨fd, _, F, b, g, kp⟩ := o
  exact se_call spOf_Q F hr tk g kp b ha hg hdb he hpl
/-! the end of such a def -/
def Rq (P : R D → Prop) (r : RS) : Prop := match r with
  | .ret d h => ∃ d', frzQ 0 h d = some d' ∧ P (.ok d' [])
  | .next _ _ => P (.ok .non [])
  | .exc x _ h => match x.pay with
    | none => P (.exc ⟨x.cls, none⟩ [])
    | some (f, d) => ∃ d', frz 0 h 12 d = some d' ∧ P (.exc ⟨x.cls, some (f, d')⟩ [])
  | _ => False
section
variable {P : R D → Prop} {σ : VS} {h : Hv} {d : D} {C f : Str} {n0 : Nat}
@[simp] theorem Wp_rq_ret : Wp (Rq P) (.ret d h) = ∃ d', frzQ 0 h d = some d' ∧ P (.ok d' []) := Wp.eq _ _
@[simp] theorem Wp_rq_next : Wp (Rq P) (.next σ h) = P (.ok .non []) := Wp.eq _ _
@[simp] theorem Wp_rq_exc : Wp (Rq P) (.exc ⟨C, none⟩ σ h) = P (.exc ⟨C, none⟩ []) := by
  rw [Wp.eq, Rq]
@[simp] theorem Wp_rq_excP : Wp (Rq P) (.exc ⟨C, some (f, d)⟩ σ h) = ∃ d', frz 0 h 12 d = some d' ∧ P (.exc ⟨C, some (f, d')⟩ []) := by
  rw [Wp.eq, Rq]
@[simp] theorem Wp_rq_stuck : Wp (Rq P) .stuck = False := Wp.eq _ _
theorem frzQ_y (e : noC d = true) : frzQ n0 h d = some d := by unfold frzQ; rw [if_pos e]
theorem frzQ_n (e : noC d = false) : frzQ n0 h d = frz n0 h 12 d := by unfold frzQ; rw [if_neg (by rw [e]; simp)]
@[simp] theorem frzQ_non : frzQ n0 h .non = some .non := rfl
@[simp] theorem frzQ_bl {b : Bool} : frzQ n0 h (.bl b) = some (.bl b) := rfl
@[simp] theorem frzQ_int {i : Int} : frzQ n0 h (.int i) = some (.int i) := rfl
@[simp] theorem frzQ_str {x : Str} : frzQ n0 h (.str x) = some (.str x) := rfl
@[simp] theorem frzQ_cell {n : Nat} : frzQ n0 h (.cell n) = frz n0 h 12 (.cell n) := rfl
end
theorem fnQ_of {P : R D → Prop} {np nl : Nat} {body : SS} {ds : List D} (hl : ds.length = np) (hw : Wp (Rq P) (body (ds.map some ++ List.replicate nl none) [])) : P (fnQ np nl body ds []) := by
  replace hw := hw.run
  unfold fnQ
  rw [if_pos hl]
  generalize body (ds.map some ++ List.replicate nl none) [] = r at hw ⊢
  cases r with
  | ret d h =>
    obtain ⟨d', e1, e2⟩ := hw
    show P (exitQ 0 d h)
    unfold exitQ
    rw [List.take_zero]
    simp only [e1, optAll_nil, Nat.zero_le, if_true]
    exact e2
  | next σ h =>
    show P (exitQ 0 .non h)
    unfold exitQ
    rw [List.take_zero]
    simp only [frzQ_non, optAll_nil, Nat.zero_le, if_true]
    exact hw
  | exc x σ h =>
    cases x with
    | mk c p =>
      cases p with
      | none =>
        show P (exitX 0 ⟨c, none⟩ h)
        unfold exitX
        rw [List.take_zero]
        simp only [optAll_nil, Nat.zero_le, if_true]
        exact hw
      | some q =>
        obtain ⟨f, d⟩ := q
        obtain ⟨d', e1, e2⟩ := hw
        show P (exitX 0 ⟨c, some (f, d)⟩ h)
        unfold exitX
        rw [List.take_zero]
        simp only [e1, optAll_nil, Nat.zero_le, if_true]
        exact e2
  | brk σ h => exact hw.elim
  | cont σ h => exact hw.elim
  | stuck => exact hw.elim
theorem cQ {sem : List D → Hv → R D} {ds : List D} {d : D} (e : sem ds [] = .ok d []) (hp : noCL ds = true) (h : Hv) : callQ sem ds h = .ok d h := by
  unfold callQ
  rw [if_pos hp, e]
theorem cQX {sem : List D → Hv → R D} {ds : List D} {x : Xn} (e : sem ds [] = .exc x []) (hp : noCL ds = true) (h : Hv) : callQ sem ds h = .exc x h := by
  unfold callQ
  rw [if_pos hp, e]
/-! xs.index(s), texts -/
def firstIxS (n : Str) : List Str → Option Nat
  | [] => none
  | x :: xs => if x = n then some 0 else (firstIxS n xs).map (· + 1)
theorem firstIxS_ok {n : Str} : ∀ {xs : List Str} {j : Nat}, firstIxS n xs = some j → xs[j]? = some n ∧ ∀ m z, m < j → xs[m]? = some z → z ≠ n
  | [], j, h => by cases h
  | x :: xs, j, h => by
    simp only [firstIxS] at h
    split at h
    · next q =>
      cases h
      subst q
      exact ⟨rfl, fun m z hm => by omega⟩
    · next q =>
      obtain ⟨k, hk, rfl⟩ := Option.map_eq_some_iff.mp h
      obtain ⟨h1, h2⟩ := firstIxS_ok hk
      refine ⟨by rw [List.getElem?_cons_succ]; exact h1, fun m z hm hz => ?_⟩
      cases m with
      | zero =>
        rw [List.getElem?_cons_zero] at hz
        cases hz
        exact q
      | succ m =>
        rw [List.getElem?_cons_succ] at hz
        exact h2 m z (by omega) hz
def mIndexS : D → List D → Hv → R D := fun x ds h => match ds with
  | [.str i] => (match (lOf h x).bind (optAll toS) with
    | some ns => (match firstIxS i ns with
      | some j => .ok (.int (j : Nat)) h
      | none => .stuck)
    | none => .stuck)
  | _ => .stuck
theorem ms_indexS {K : PySem.W.Frag} : MtS K (rIndex K) mIndexS := by
  intro φ S H h x v ds vs Q E rl rx ra post
  unfold mIndexS at post
  split at post
  · next i =>
    split at post
    · next ns hn =>
      split at post
      · next j hj =>
        obtain ⟨xs, q1, q2⟩ := Option.bind_eq_some_iff.mp hn
        obtain ⟨a, vs, rfl, h2, h3⟩ := lOf_ok rl rx q1
        rw [toSs_ok h3 q2] at h2
        obtain ⟨u, rfl, ru⟩ := ra.one
        cases ru
        obtain ⟨f1, f2⟩ := firstIxS_ok hj
        refine ⟨a, ns.map V.str, .str i, j, .str i, rfl, rfl, h2, rfl, List.all_eq_true.mpr fun z hz => ?_, by rw [List.getElem?_map, f1]; rfl, (by simp [eqV]), fun m z' hm hz' => ?_, post _ φ S H rl (Step.refl _ _ _) (.int _)⟩
        · obtain ⟨k, _, rfl⟩ := List.mem_map.mp hz
          rfl
        · rw [List.getElem?_map] at hz'
          obtain ⟨k, hk, rfl⟩ := Option.map_eq_some_iff.mp hz'
          have := f2 m k hm hk
          simp [eqV, this]
      · exact post.elim
    · exact post.elim
  · exact post.elim
end
end VD

set_option Elab.async false
set_option linter.all false
set_option maxRecDepth 100000
set_option maxHeartbeats 4000000
namespace VD
open PySem PySem.Spec PyProof.Rows L2
noncomputable section
/-! ### several except clauses, each with the caught error's name (slot i) -/
abbrev Cls := Addr → Value → Option Addr → TS
/-- behind a clause its name is forgotten -/
def gone (i : Nat) (D : Ends) : Ends := { nx := fun σ H => D.nx (σ.set i none) H, rt := D.rt, bk := fun σ H => D.bk (σ.set i none) H, ct := fun σ H => D.ct (σ.set i none) H }
/-- what the clauses wish of an error -/
def wMs (K : PySem.W.Frag) (i : Nat) (Wout : WX) (D : Ends) : List (Value × Cls) → WX
  | [] => Wout
  | (c, ts) :: r => fun cls d σ H => ∃ b, PySem.W.exmOne K cls c = some b ∧ (b = true → ∀ a, H a = none → ts a cls d (gone i D) (σ.set i (some (.ref a))) H) ∧ (b = false → wMs K i Wout D r cls d σ H)
inductive HdsM (X : Cx) (n : Str) : List ExceptHandler → List (Value × Cls) → Prop
  | nil : HdsM X n [] []
  | cons {x : Str} {c : Value} {ts : Cls} {b₀ : Stmt} {suite : List Stmt} {np pos' : Pos} {hds : List ExceptHandler} {l : List (Value × Cls)} (hc : Names X x c)
      (hsu : ∀ (a : Addr) (oe : Obj) (cls : Value) (d : Option Addr) (pn : List (Addr × Obj)), Zc cls d oe → (∃ vs, oe.data = .fields vs) → PSs (X.suite a ((a, oe) :: pn)) (b₀ :: suite) (ts a cls d)) (r : HdsM X n hds l) :
      HdsM X n (.ExceptHandler (some (.Name x np)) (some n) (b₀ :: suite) pos' :: hds) ((c, ts) :: l)
/-- an error in the air: what is known of it while the clauses are tried -/
structure Air (X : Cx) (pins : List (Addr × Obj)) (σ : L2.St) (H : Hp) (B : Heap) (sI s : Shared) (a : Addr) (cls : Value) (d : Option Addr) : Prop where
  I : Inv X pins σ H sI
  nb : ∀ b o, sI.heap.get? b = some o → b ∉ frs X.stack → B.get? b = some o
  up : sI.heap.UpToSlots s.heap
  fl : HandSPX.FlyingZ B (X.env :: X.outer) a (Zc cls d) s.heap
  na : H a = none
  os : sI.os = s.os
  ag : AllBare s.gens
section
variable {X : Cx} {n : Str} {i : Nat} {hds : List ExceptHandler} {l : List (Value × Cls)} {pos : Pos} {tb : WX → TS} {Wout : WX} {pins : List (Addr × Obj)} {σ : L2.St} {H : Hp} {B : Heap} {sI s : Shared} {a : Addr} {cls : Value} {d : Option Addr} {D : Ends}
theorem Air.inv (x : Air X pins σ H B sI s a cls d) : Inv X pins σ H s := by
  obtain ⟨hp, os, gs, ds, ts⟩ := s
  exact x.I.landed x.nb x.fl.1 x.up x.os.symm x.ag
/-- the error's object lies apart from the frames -/
theorem Air.apart (x : Air X pins σ H B sI s a cls d) (hs : X.stack = X.env :: X.outer) (hf : X.env.frame = some X.env.locals) : ∃ oe vs, s.heap.get? a = some oe ∧ Zc cls d oe ∧ oe.data = .fields vs ∧ a ≠ X.env.locals ∧ a ∉ X.fs := by
  obtain ⟨oe, vs, he, hz, hd⟩ := x.fl.there
  have nfr : a ∉ frs (X.env :: X.outer) := fun hm => by
    obtain ⟨_, o', e', hnf⟩ := x.fl.2.2.1.mem hm
    rw [he] at e'; cases e'
    exact hnf _ hd
  refine ⟨oe, vs, he, hz, hd, fun z => nfr (List.mem_filterMap.mpr ⟨X.env, List.mem_cons_self, by rw [hf, z]⟩), fun hm => ?_⟩
  obtain ⟨e, he, q⟩ := List.mem_filterMap.mp hm
  exact nfr (List.mem_filterMap.mpr ⟨e, List.mem_cons_of_mem _ he, q⟩)
/-- the suite of the clause that takes it -/
theorem Air.suite (x : Air X pins σ H B sI s a cls d) (hs : X.stack = X.env :: X.outer) (hf : X.env.frame = some X.env.locals) (hN : X.N.Nodup) (hi : X.N[i]? = some n) (hln : X.env.kindOf n = some .local)
    {ts : Cls} {b₀ : Stmt} {suite : List Stmt} {pos' : Pos} {E : Value → Shared → Prop} {R : Flow → Shared → Prop}
    (hsu : ∀ (oe : Obj) (pn : List (Addr × Obj)), Zc cls d oe → (∃ vs, oe.data = .fields vs) → PSs (X.suite a ((a, oe) :: pn)) (b₀ :: suite) (ts a cls d)) (w : ts a cls d (gone i D) (σ.set i (some (.ref a))) H)
    (hR : ∀ f s', wpAny (model X.prog X.w) X.A (do bindName X.env n .none; unbindBehindTheSuite X.env n pos') (fun _ s2 => L2.SP X pins D f s2) X.xe s' → R f s') :
    wpAny (model X.prog X.w) (X.A.mark (some (.ref a))) (storeName X.env n (.ref a)) (fun _ s2 => wpAny (model X.prog X.w) (X.A.mark (some (.ref a))) (execs (b₀ :: suite) X.env) R E s2) E s := by
  obtain ⟨oe, vs, he, hz, hd, nL, nF⟩ := x.apart hs hf
  have ok := x.I.ok
  refine store_ok (X := X.suite a ((a, oe) :: (X.pn ++ pins))) (v := .ref a) (x.inv.suite he hd x.na nL nF) hN hi (.inl hln) rfl (fun s5 S5 => ?_) (.inr hln)
  refine wpAny_mono ((hsu oe (X.pn ++ pins) hz ⟨_, hd⟩).run [] s5 _ H _ S5 w) (fun f s6 q => hR f s6 ?_) (fun _ _ z => False.elim z)
  cases f with
  | next =>
    obtain ⟨_, _, S6, q6⟩ := q
    exact gone_ok (S6.unsuite ok) hN hi hln fun s7 J7 => ⟨_, _, J7, q6⟩
  | brk =>
    obtain ⟨_, _, S6, q6⟩ := q
    exact gone_ok (S6.unsuite ok) hN hi hln fun s7 J7 => ⟨_, _, J7, q6⟩
  | cont =>
    obtain ⟨_, _, S6, q6⟩ := q
    exact gone_ok (S6.unsuite ok) hN hi hln fun s7 J7 => ⟨_, _, J7, q6⟩
  | ret u =>
    obtain ⟨_, _, _, S6, r6, q6⟩ := q
    exact gone_ok (S6.unsuite ok) hN hi hln fun s7 J7 => ⟨_, _, _, J7, r6, q6⟩
/-- no clause takes it -/
theorem Air.on (x : Air X pins σ H B sI s a cls d) (hs : X.stack = X.env :: X.outer) (hf : X.env.frame = some X.env.locals) (tk : Takes X Wout) (w : Wout cls d σ H) {Q : Flow → Shared → Prop} :
    wpAny (model X.prog X.w) X.A (handleBy (.ref a) X.env []) Q X.xe s := by
  refine wpAny_handleBy_nil ?_
  obtain ⟨_, _, _, oe, vs, T, oT, ts', he, hz, hd, h1, hr⟩ := id x.fl
  unfold PySem.passOn
  refine wpAny_bind (wpAny_field he hd h1 ?_)
  rw [if_neg (show ¬ ((Value.ref T == Value.none) = true) from by simp)]
  have fin : wpAny (model X.prog X.w) X.A (setFlight (.ref a) X.env.frame) (fun _ s4 => wpAny (model X.prog X.w) X.A (throw (.ref a) : Sem Flow) Q X.xe s4) X.xe s := by
    rw [hf]
    refine HandSPX.setFlight_upZ x.fl fun h4 hh4 up4 => wpAny_throw (tk _ _ ?_)
    exact ⟨a, B, sI, pins, σ, H, cls, d, rfl, x.I, x.nb, x.up.trans up4, .inr (.inr (by rw [hs]; exact hh4)), x.na, x.os.symm, x.ag, w⟩
  first
    | exact wpAny_bind (wpAny_pure (wpAny_bind fin))
    | exact wpAny_bind fin
theorem Air.hand (hs : X.stack = X.env :: X.outer) (hf : X.env.frame = some X.env.locals) (hN : X.N.Nodup) (hi : X.N[i]? = some n) (hln : X.env.kindOf n = some .local) (tk : Takes X Wout) (hk : HdsM X n hds l) :
    ∀ {s : Shared}, Air X pins σ H B sI s a cls d → wMs X.K i Wout D l cls d σ H → wpAny (model X.prog X.w) X.A (handleBy (.ref a) X.env hds) (L2.SP X pins D) X.xe s := by
  induction hk with
  | nil => exact fun {s} x w => x.on hs hf tk w
  | @cons x c ts b₀ suite np pos' hds2 l2 hc hsu r ih =>
    intro s y w
    obtain ⟨b, hb1, hyes, hno⟩ := w
    obtain ⟨oe, vs, he, hz, hd, nL, nF⟩ := y.apart hs hf
    refine wpAny_handleBy_cons (codeAny_handlers_test ?_) (by intro q; cases q)
    have LM := PySem.W.exm_one (M := model X.prog X.w) y.inv.kIn (fun A Q E s k q => wpAny_typeOf_ref (k _ _ he) (by rw [hz.1]; exact q)) hb1
    have S := y.inv.suite he hd y.na nL nF
    have test : ∀ {Q : Value → Shared → Prop} {E : Value → Shared → Prop}, Q c s → wpAny (model X.prog X.w) (X.A.mark (some (.ref a))) (eval (.Name x np) X.env) Q E s := fun {Q E} q => by
      obtain ⟨hg, hdbg, hm | ⟨hm, hv, hnn⟩⟩ := hc
      · exact ld_glob (X := X.suite a ((a, oe) :: (X.pn ++ pins))) S hg hm q hdbg
      · exact ld_blt (X := X.suite a ((a, oe) :: (X.pn ++ pins))) S hg hm hv q hnn hdbg
    refine test (LM.here ?_)
    cases b with
    | false =>
      show wpAny _ X.A (handleBy (.ref a) X.env hds2) _ _ _
      exact ih y (hno rfl)
    | true =>
      refine codeAny_handlers_suite_as ?_
      refine HandSPX.lands_againZ y.fl fun h4 fl4 up4 => ?_
      have y4 : Air X pins σ H B sI { s with heap := h4 } a cls d := ⟨y.I, y.nb, y.up.trans up4, fl4, y.na, y.os, y.ag⟩
      refine wpAny_mono (y4.suite (pos' := pos') (E := fun _ _ => False) hs hf hN hi hln (fun oe pn => hsu a oe cls d pn) (hyes rfl a y.na) (fun f s' z => z)) (fun _ s2 z => wpAny_mono z (fun f s3 q => ?_) fun _ _ z => z.elim) fun _ _ z => z.elim
      cases f <;> exact q
theorem ps_try_ms (hs : X.stack = X.env :: X.outer) (hf : X.env.frame = some X.env.locals) (hN : X.N.Nodup) (hi : X.N[i]? = some n) (hln : X.env.kindOf n = some .local) (tk : Takes X Wout) {h₀ : ExceptHandler} {body : List Stmt}
    (hb : ∀ (W : WX) (pn : List (Addr × Obj)) (xe : Value → Shared → Prop), Takes (X.tr pn xe) W → PassesOwn (model X.prog X.w) X.A X.env xe → PSs (X.tr pn xe) body (tb W))
    (hh : HdsM X n (h₀ :: hds) l) : PS X (.Try body (h₀ :: hds) [] [] pos) (fun D σ H => tb (wMs X.K i Wout D l) D σ H) := by
  refine ⟨fun pins s σ H D I h => ?_⟩
  have ok := I.ok
  refine wpAny_Try_except ?_
  have caught : ∀ u s', XE (X.tr (X.pn ++ pins) (fun e s₁ => wpAny (model X.prog X.w) X.A (noteFrame e X.env) (fun _ s₂ => wpAny (model X.prog X.w) X.A (setFlight e none) (fun _ s₃ =>
      wpAny (model X.prog X.w) X.A (handleBy e X.env (h₀ :: hds)) (L2.SP X pins D) X.xe s₃) X.xe s₂) X.xe s₁)) (wMs X.K i Wout D l) u s' → wpAny (model X.prog X.w) X.A (noteFrame u X.env) (fun _ s₂ => wpAny (model X.prog X.w) X.A (setFlight u none) (fun _ s₃ =>
      wpAny (model X.prog X.w) X.A (handleBy u X.env (h₀ :: hds)) (L2.SP X pins D) X.xe s₃) X.xe s₂) X.xe s' := fun u s' xx => by
    obtain ⟨a, B, sI, pins', σ', H', cls, d, rfl, J', nb, up, sky, na, os, ag, w⟩ := xx
    have sky' : Sky B (X.env :: X.outer) a (Zc cls d) X.env.locals s'.heap := by rw [← hs]; exact sky
    refine Sky.land Zc.steady (by rw [ok.frames, hs]) hf sky' fun h3 fl3 up3 => ?_
    exact Air.hand hs hf hN hi hln tk hh (s := { s' with heap := h3 }) ⟨J'.ofTry ok, nb, up.trans up3, fl3, na, os.symm, ag⟩ w
  refine wpAny_mono ((hb _ (X.pn ++ pins) _ (fun u s' xx => caught u s' xx) PassesOwn.looking).run [] s σ H D (I.toTry _) h) (fun f s1 q => ?_) (fun e s1 he => he)
  cases f with
  | next =>
    obtain ⟨_, _, J, q⟩ := q
    exact wpAny_execs_nil ⟨_, _, J.ofTry ok, q⟩
  | brk =>
    obtain ⟨_, _, J, q⟩ := q
    exact ⟨_, _, J.ofTry ok, q⟩
  | cont =>
    obtain ⟨_, _, J, q⟩ := q
    exact ⟨_, _, J.ofTry ok, q⟩
  | ret u =>
    obtain ⟨_, _, _, J, r, q⟩ := q
    exact ⟨_, _, _, J.ofTry ok, r, q⟩
end
/-- what the clauses make of an error -/
def hdsR (tb : Str → Str → Option Bool) (i : Nat) : List (Str × (Xn → Addr → Addr → SS)) → Xn → VS → Hv → RS
  | [], x, σ, h => .exc x σ h
  | (y, den) :: r, x, σ, h => match tb x.cls y with
    | some true => tryA i x.pay (den x) σ h
    | some false => hdsR tb i r x σ h
    | none => .stuck
def sTryMs (tb : Str → Str → Option Bool) (i : Nat) (l : List (Str × (Xn → Addr → Addr → SS))) (body : SS) : SS := fun σ h => match body σ h with
  | .exc x σ' h' => hdsR tb i l x σ' h'
  | r => r
def clsOf (K : PySem.W.Frag) (tb : Str → Str → Option Bool) (p : Str × (Xn → Addr → Addr → SS)) : Value × Cls :=
  (.ref (He.ga K p.1), fun a cls d D σ H => ∃ (x : Xn) (dd : Addr), tb x.cls p.1 = some true ∧ cls = .ref (He.ga K x.cls) ∧ d = exA dd x.pay ∧ TSof K W00 (p.2 x a dd) D σ H)
inductive HdsQ (X : Cx) (n : Str) (tb : Str → Str → Option Bool) : List ExceptHandler → List (Str × (Xn → Addr → Addr → SS)) → Prop
  | nil : HdsQ X n tb [] []
  | cons {y : Str} {den : Xn → Addr → Addr → SS} {b₀ : Stmt} {suite : List Stmt} {np pos' : Pos} {hds : List ExceptHandler} {l : List (Str × (Xn → Addr → Addr → SS))} (g : X.mg y = some (.ref (He.ga X.K y)))
      (hsu : ∀ (x : Xn) (a dd : Addr) (oe : Obj) (pn : List (Addr × Obj)), tb x.cls y = some true → Zc (.ref (He.ga X.K x.cls)) (exA dd x.pay) oe → (∃ vs, oe.data = .fields vs) → QB (X.suite a ((a, oe) :: pn)) W00 (b₀ :: suite) (den x a dd))
      (r : HdsQ X n tb hds l) (hg : Gl X y := by rfl) (hdb : (y == ("__debug__" : Str)) = false := by decide) :
      HdsQ X n tb (.ExceptHandler (some (.Name y np)) (some n) (b₀ :: suite) pos' :: hds) ((y, den) :: l)
theorem HdsQ.hm {X : Cx} {n : Str} {tb : Str → Str → Option Bool} {hds : List ExceptHandler} {l : List (Str × (Xn → Addr → Addr → SS))} (q : HdsQ X n tb hds l) : HdsM X n hds (l.map (clsOf X.K tb)) := by
  induction q with
  | nil => exact .nil
  | @cons y den b₀ suite np pos' hds l g hsu r hg hdb ih =>
    refine .cons ⟨hg, hdb, .inl g⟩ (fun a oe cls d pn z hfl => ⟨fun pins s σ H D I h => ?_⟩) ih
    obtain ⟨x, dd, hc, rfl, rfl, h⟩ := h
    exact (psof (hsu x a dd oe pn hc z hfl)).run pins s σ H D I h
theorem post_hds {K : PySem.W.Frag} {tb : Str → Str → Option Bool} (tok : TabOk K tb) {W : WX} {i : Nat} {D : Ends} {x : Xn} {cls : Value} {dd : Option Addr} {φ φ' : List Addr} {S S' H H' : Hp} {σ' : VS} {h' : Hv} {σ1 : L2.St}
    (r2 : Rel K φ' S' H' h') (rs2 : RelS K φ' S' σ' σ1) (st : Step φ S H φ' S' H') (rx : RpX K φ' S' H' x cls dd) : ∀ l : List (Str × (Xn → Addr → Addr → SS)), PostS K φ S H (hdsR tb i l x σ' h') D W → wMs K i W D (l.map (clsOf K tb)) cls dd σ1 H'
  | [], post => post σ1 cls dd φ' S' H' r2 rs2 st rx
  | (y, den) :: l, post => by
    have e1 := rx.1
    have rx2 := rx.2
    unfold hdsR at post
    cases qt : tb x.cls y with
    | none => simp only [qt] at post; exact post.elim
    | some b =>
      refine ⟨b, by rw [e1]; exact tok _ _ _ qt, fun hb1 a ha => ?_, fun hb1 => ?_⟩
      · subst hb1
        simp only [qt] at post
        have nst : tryA i x.pay (den x) σ' h' ≠ .stuck := fun z => by rw [z] at post; exact post.elim
        obtain ⟨d0, ed, rm⟩ : ∃ d0, dd = exA d0 x.pay ∧ Rp K φ' S' (.ref a) (exD a d0 x.pay) := by
          cases qp : x.pay with
          | none =>
            rw [qp] at rx2
            exact ⟨0, rx2, .raw _⟩
          | some p =>
            obtain ⟨f, d⟩ := p
            rw [qp] at rx2
            obtain ⟨dx, v, e1, e2, e3⟩ := rx2
            exact ⟨dx, e1, .exv e2 e3⟩
        refine ⟨x, d0, qt, e1, ed, φ', S', h', σ'.set i (exM a d0 x.pay), r2, rs2.set rm i, ?_⟩
        rw [← tryA_at nst a d0] at post
        show PostS K φ' S' H' (den x a d0 (σ'.set i (exM a d0 x.pay)) h') (gone i D) W00
        cases qd : den x a d0 (σ'.set i (exM a d0 x.pay)) h' with
        | next σ2 h2 =>
          simp only [qd, wipeR] at post
          exact fun σ3 φ3 S3 H3 r3 rs3 st3 => post _ φ3 S3 H3 r3 (rs3.unset i none) (st.trans st3)
        | brk σ2 h2 =>
          simp only [qd, wipeR] at post
          exact fun σ3 φ3 S3 H3 r3 rs3 st3 => post _ φ3 S3 H3 r3 (rs3.unset i none) (st.trans st3)
        | cont σ2 h2 =>
          simp only [qd, wipeR] at post
          exact fun σ3 φ3 S3 H3 r3 rs3 st3 => post _ φ3 S3 H3 r3 (rs3.unset i none) (st.trans st3)
        | ret d h2 =>
          simp only [qd, wipeR] at post
          exact fun v φ3 S3 H3 r3 st3 rv => post v φ3 S3 H3 r3 (st.trans st3) rv
        | exc x2 σ2 h2 => simp only [qd, wipeR] at post; exact post.elim
        | stuck => simp only [qd, wipeR] at post; exact post.elim
      · subst hb1
        simp only [qt] at post
        exact post_hds tok r2 rs2 st rx l post
theorem qs_try_ms {X : Cx} {W : WX} {n : Str} {i : Nat} {body : List Stmt} {h₀ : ExceptHandler} {hds : List ExceptHandler} {pos : Pos} {tb : Str → Str → Option Bool} {bs : SS} {l : List (Str × (Xn → Addr → Addr → SS))} (tk : Takes X W) (tok : TabOk X.K tb)
    (hb : ∀ (W : WX) (pn : List (Addr × Obj)) (xe : Value → Shared → Prop), Takes (X.tr pn xe) W → PassesOwn (model X.prog X.w) X.A X.env xe → QB (X.tr pn xe) W body bs)
    (hh : HdsQ X n tb (h₀ :: hds) l)
    (hN : X.N.Nodup) (hi : X.N[i]? = some n := by rfl) (hs : X.stack = X.env :: X.outer := by rfl) (hf : X.env.frame = some X.env.locals := by rfl) (hln : X.env.kindOf n = some .local := by rfl) :
    QS X W (.Try body (h₀ :: hds) [] [] pos) (sTryMs tb i l bs) := by
  refine ⟨_, ps_try_ms (tb := fun W => TSof X.K W bs) (Wout := W) hs hf hN hi hln tk (fun W pn xe t1 t2 => psof (hb W pn xe t1 t2)) hh.hm, ⟨fun {φ S H h σv σ D} rl rs post => ?_⟩⟩
  refine ⟨φ, S, h, σv, rl, rs, ?_⟩
  unfold sTryMs at post
  cases qb : bs σv h with
  | next σ' h' => simp only [qb] at post; exact post
  | brk σ' h' => simp only [qb] at post; exact post
  | cont σ' h' => simp only [qb] at post; exact post
  | ret d h' => simp only [qb] at post; exact post
  | stuck => simp only [qb] at post; exact post.elim
  | exc x σ' h' =>
    simp only [qb] at post
    exact fun σ1 cls dd φ' S' H' r2 rs2 st rx => post_hds tok r2 rs2 st rx l post
/-! Wp -/
def Tm (Q : RS → Prop) (tb : Str → Str → Option Bool) (i : Nat) (l : List (Str × (Xn → Addr → Addr → SS))) (r : RS) : Prop := match r with
  | .exc x σ h => Wp Q (hdsR tb i l x σ h)
  | r => Wp Q r
section
variable {Q : RS → Prop} {tb : Str → Str → Option Bool} {y : Str} {i : Nat} {l : List (Str × (Xn → Addr → Addr → SS))} {suite : Xn → Addr → Addr → SS} {body : SS} {σ : VS} {h : Hv} {x : Xn} {d : D} {r : RS}
@[simp] theorem Wp_tryms : Wp Q (sTryMs tb i l body σ h) = Wp (Tm Q tb i l) (body σ h) := by
  unfold sTryMs
  cases body σ h <;> (rw [Wp.eq (Tm Q tb i l)]; rfl)
@[simp] theorem Wp_tm_next : Wp (Tm Q tb i l) (.next σ h) = Wp Q (.next σ h) := Wp.eq _ _
@[simp] theorem Wp_tm_ret : Wp (Tm Q tb i l) (.ret d h) = Wp Q (.ret d h) := Wp.eq _ _
@[simp] theorem Wp_tm_brk : Wp (Tm Q tb i l) (.brk σ h) = Wp Q (.brk σ h) := Wp.eq _ _
@[simp] theorem Wp_tm_cont : Wp (Tm Q tb i l) (.cont σ h) = Wp Q (.cont σ h) := Wp.eq _ _
@[simp] theorem Wp_tm_stuck : Wp (Tm Q tb i l) .stuck = Wp Q .stuck := Wp.eq _ _
@[simp] theorem Wp_tm_exc : Wp (Tm Q tb i l) (.exc x σ h) = Wp Q (hdsR tb i l x σ h) := Wp.eq _ _
theorem hdsR_no {x : Xn} (e : tb x.cls y = some false) : hdsR tb i ((y, suite) :: l) x σ h = hdsR tb i l x σ h := by
  rw [hdsR]; simp only [e]
@[simp] theorem hdsR_nil {x : Xn} : hdsR tb i [] x σ h = .exc x σ h := rfl
theorem Wp_hdsR {x : Xn} (r : RS) (t : tb x.cls y = some true) (hr : ∀ a dd, Wp (Wy (Is r) i) (suite x a dd (σ.set i (exM a dd x.pay)) h)) (q : Wp Q r) : Wp Q (hdsR tb i ((y, suite) :: l) x σ h) := by
  have z := Wp_tryR (Q := Q) (tb := tb) (y := y) (suite := suite) r t hr q
  unfold tryR at z
  rw [t] at z
  rw [hdsR]; simp only [t]
  exact z
end
theorem lLc_pick {α β : Type} {is : IS} {gd : GD} {el : ES} {own : List Nat} {σ : VS} {h h0 : Hv} {chk : Hv → Bool} (enc : α → D) (e2 : β → D) (P : α → β → Prop) (xs : List α) (his : is σ h = .ok (xs.map enc, chk) h0) (hc : chk h0 = true) (hl : xs.length ≤ 16777216)
    (q : ∀ a ∈ xs, ∃ (σ1 : VS) (b : β), gd (enc a) (wipeV σ own) = some σ1 ∧ el σ1 h0 = .ok (e2 b) h0 ∧ P a b) : ∃ ys : List β, lLc is gd cYes el own σ h = .ok (ys.map e2) h0 ∧ ys.length = xs.length ∧ ∀ (i : Nat) a b, xs[i]? = some a → ys[i]? = some b → P a b := by
  obtain ⟨f, e, hf⟩ := lLc_ex enc (fun a d => ∃ b, d = e2 b ∧ P a b) xs his hc hl fun a ha => by
    obtain ⟨σ1, b, e1, e2', p⟩ := q a ha
    exact ⟨σ1, _, e1, e2', b, rfl, p⟩
  clear q his
  have key : ∃ ys : List β, xs.map f = ys.map e2 ∧ ys.length = xs.length ∧ ∀ (i : Nat) a b, xs[i]? = some a → ys[i]? = some b → P a b := by
    clear e hl
    induction xs with
    | nil => exact ⟨[], rfl, rfl, fun i a b h => by simp at h⟩
    | cons a xs ih =>
      obtain ⟨ys, y1, y2, y3⟩ := ih fun a ha => hf a (List.mem_cons_of_mem _ ha)
      obtain ⟨b, b1, b2⟩ := hf a List.mem_cons_self
      refine ⟨b :: ys, by rw [List.map_cons, List.map_cons, y1, b1], by rw [List.length_cons, List.length_cons, y2], fun i a' b' h1 h2 => ?_⟩
      cases i with
      | zero => cases h1; cases h2; exact b2
      | succ i => exact y3 i a' b' h1 h2
  obtain ⟨ys, y1, y2, y3⟩ := key
  exact ⟨ys, by rw [e, y1], y2, y3⟩
end
end VD

set_option Elab.async false
set_option linter.all false
set_option maxRecDepth 100000
set_option maxHeartbeats 4000000
namespace VD
open PySem PySem.Spec PyProof.Rows L2
noncomputable section
/-! ### len(set(xs)), xs a list of whole numbers and texts -/
section
variable {κ : Type} [DecidableEq κ]
def met1 (σ : List κ) (v : κ) : List κ := if v ∈ σ then σ else σ ++ [v]
/-- each thing once, as first met -/
def once (xs : List κ) : List κ := xs.foldl met1 []
def inK (σ : List κ) (k : κ) : Bool := decide (k ∈ σ)
theorem inK_iff {σ : List κ} {k : κ} : inK σ k = true ↔ k ∈ σ := decide_eq_true_iff
theorem once_snoc (xs : List κ) (v : κ) : once (xs ++ [v]) = met1 (once xs) v := by unfold once; rw [List.foldl_append]; rfl
theorem met1_mem {σ : List κ} {v k : κ} : k ∈ met1 σ v ↔ k ∈ σ ∨ k = v := by
  unfold met1
  split
  · next q => exact ⟨.inl, fun z => z.elim id fun z => by rw [z]; exact q⟩
  · simp
theorem met1_len {σ : List κ} {v : κ} : (met1 σ v).length = if v ∈ σ then σ.length else σ.length + 1 := by unfold met1; split <;> simp
theorem once_len (xs : List κ) : (once xs).length ≤ xs.length := by
  have key : ∀ n (xs : List κ), xs.length = n → (once xs).length ≤ xs.length := by
    intro n
    induction n with
    | zero => intro xs h; rw [List.length_eq_zero_iff.mp h]; exact Nat.le_refl _
    | succ n ih =>
      intro xs h
      rcases List.eq_nil_or_concat xs with z | ⟨ys, y, z⟩
      · rw [z]; exact Nat.le_refl _
      · subst z
        rw [List.concat_eq_append] at h ⊢
        rw [once_snoc, met1_len]
        have := ih ys (by simpa using h)
        simp
        split <;> omega
  exact key _ xs rfl
theorem once_mem {xs : List κ} {k : κ} : k ∈ once xs ↔ k ∈ xs := by
  have key : ∀ n (xs : List κ), xs.length = n → (k ∈ once xs ↔ k ∈ xs) := by
    intro n
    induction n with
    | zero => intro xs h; rw [List.length_eq_zero_iff.mp h]; exact Iff.rfl
    | succ n ih =>
      intro xs h
      rcases List.eq_nil_or_concat xs with z | ⟨ys, y, z⟩
      · rw [z]; exact Iff.rfl
      · subst z
        rw [List.concat_eq_append] at h ⊢
        rw [once_snoc, met1_mem, ih ys (by simpa using h)]
        simp
  exact key _ xs rfl
theorem once_nd (xs : List κ) : (once xs).Nodup := by
  have key : ∀ n (xs : List κ), xs.length = n → (once xs).Nodup := by
    intro n
    induction n with
    | zero => intro xs h; rw [List.length_eq_zero_iff.mp h]; exact List.nodup_nil
    | succ n ih =>
      intro xs h
      rcases List.eq_nil_or_concat xs with z | ⟨ys, y, z⟩
      · rw [z]; exact List.nodup_nil
      · subst z
        rw [List.concat_eq_append] at h ⊢
        rw [once_snoc]
        have := ih ys (by simpa using h)
        unfold met1
        split
        · exact this
        · next q =>
          rw [List.nodup_append]
          exact ⟨this, by simp, fun a ha b hb z => by rw [List.mem_singleton.mp hb] at z; exact q (z ▸ ha)⟩
  exact key _ xs rfl
end
section
variable {prog : Program} {w : World} {A : Around} {R : Result → Shared → Prop} {I : Addr} {fp wr : List Addr} {G : Array GenState → Array GenState → Prop} {n : Nat} {PV : Nat → Value → Prop} {St : Nat → Shared → Prop}
abbrev MSet (prog : Program) (w : World) (h : Heap) (a : Addr) (ks : List Key) : Prop := h.SetOf (mixKind prog w) a (fun k => inK (once ks) k) (once ks).length
theorem MSet.moved {prog : Program} {w : World} {h h' : Heap} {a : Addr} {ks : List Key} (m : MSet prog w h a ks) (k : ∀ o, h.get? a = some o → h'.get? a = some o) : MSet prog w h' a ks := setOf_at m k
theorem MSet.more {prog : Program} {w : World} {h : Heap} {a : Addr} {ks : List Key} {x : Key} (m : h.SetOf (mixKind prog w) a (fun k => inK (once ks) k || decide (k = x)) (if inK (once ks) x = true then (once ks).length else (once ks).length + 1)) : MSet prog w h a (ks ++ [x]) := by
  have e1 : (fun k => inK (once ks) k || decide (k = x)) = fun k => inK (once (ks ++ [x])) k := funext fun k => by
    rw [once_snoc]
    apply Bool.eq_iff_iff.mpr
    rw [Bool.or_eq_true, inK_iff, inK_iff, met1_mem, decide_eq_true_iff]
  have e2 : (if inK (once ks) x = true then (once ks).length else (once ks).length + 1) = (once (ks ++ [x])).length := by
    rw [once_snoc, met1_len]
    by_cases q : x ∈ once ks
    · rw [if_pos (inK_iff.mpr q), if_pos q]
    · rw [if_neg (fun z => q (inK_iff.mp z)), if_neg q]
  unfold MSet
  rw [← e1, ← e2]
  exact m
theorem upd_keys (W : WalksS prog w A.in1 I fp wr G n PV St) (b : Addr) (nb : b ∉ fp) (ks : List Key) (hl : ks.length = n) (hv : ∀ i v k, PV i v → ks[i]? = some k → (mixKind prog w).is k v = true ∧ v.scannable = true) (few : n + 1 < scanBound) :
    ∀ (m i : Nat) (z : Shared), n - i = m → i ≤ n → St i z → MSet prog w z.heap b (ks.take i) →
      (∀ z2, Moved (b :: wr) G z z2 → MSet prog w z2.heap b ks → R (.ok (.ret .none)) z2) → codeAny (model prog w) A (.builtin "set.update.loop" ⟨[.ref b, .ref I], []⟩) R z := by
  have nw : b ∉ wr := fun q => nb (W.sub _ q)
  have sb : ∀ c ∈ wr, c ∈ b :: wr := fun c hc => List.mem_cons_of_mem _ hc
  intro m
  induction m with
  | zero =>
    intro i z hm hi st hs hr
    have : i = n := by omega
    subst this
    refine codeAny_builtin PyProof.Rows.F.entry_set_update_loop ?_
    rw [Around.under_plainId PyProof.Rows.F.plain_set_update_loop _]
    show wpAny _ A.in1 (pyNext (.ref I) >>= _) _ _ z
    refine wpAny_bind (W.done z _ _ st fun z2 mv => ?_)
    show wpAny _ A.in1 (ret Value.none) _ _ z2
    rw [List.take_of_length_le (by omega)] at hs
    exact wpAny_pure (hr z2 (mv.mono sb) (hs.moved fun o e => mv.heap b o nw e))
  | succ m ih =>
    intro i z hm hi st hs hr
    have lt : i < n := by omega
    have lk : i < ks.length := by omega
    refine codeAny_builtin PyProof.Rows.F.entry_set_update_loop ?_
    rw [Around.under_plainId PyProof.Rows.F.plain_set_update_loop _]
    show wpAny _ A.in1 (pyNext (.ref I) >>= _) _ _ z
    refine wpAny_bind (W.item i z _ _ lt st fun v z1 pv st1 mv => ?_)
    obtain ⟨hk, hsc⟩ := hv i v ks[i] pv (List.getElem?_eq_getElem lk)
    have s1 : MSet prog w z1.heap b (ks.take i) := hs.moved fun o e => mv.heap b o nw e
    show wpAny _ A.in1 (holding [v] (setAdd b v) >>= _) _ _ z1
    refine wpAny_bind (wpAny_holding ?_)
    unfold setAdd
    refine wpAny_holding (wpAny_bind ((mixKind prog w).pyHash (k := ks[i]) hk ?_))
    have room : (once (ks.take i)).length + 1 < scanBound := by
      have := once_len (ks.take i)
      rw [List.length_take] at this
      omega
    refine wpAny_setAddHashed_of (knd := mixKind prog w) (s := { z1 with toks := z1.toks + 1 }) hk hsc s1 room fun h2 same s2 => ?_
    have s3 : MSet prog w h2 b (ks.take (i + 1)) := by
      rw [List.take_succ, List.getElem?_eq_getElem lk]
      exact MSet.more s2
    refine wpAny_pure ⟨plainId_quiet PyProof.Rows.F.plain_set_update_loop _, ih (i + 1) _ (by omega) lt (W.frame _ z1 _ _ st1 (Nat.le_succ _) fun c hc o e => ?_) s3 fun z3 mv3 s4 => ?_⟩
    · rw [same.2 c (fun q : c = b => nb (by rw [← q]; exact hc))]; exact e
    · refine hr z3 (Moved.trans W.gtrans ((mv.mono sb).then_heap (Nat.le_succ _) fun c o hc e => ?_) mv3) s4
      rw [same.2 c (fun q : c = b => hc (by rw [q]; exact List.mem_cons_self))]; exact e
end
section
variable {prog : Program} {w : World} {A : Around} {E : Value → Shared → Prop} {s : Shared}
abbrev o0 (z : Bool) : Obj := { cls := .type "set", dict := none, data := .set #[] 0 (.fresh 0 0 z) }
theorem items_get {P : Program} {w : World} : ∀ {ks : List Key} {vs : List Value} {i : Nat} {k : Key} {v : Value}, ItemsAre (mixKind P w) ks vs → ks[i]? = some k → vs[i]? = some v → (mixKind P w).is k v = true
  | _, _, i, _, _, .nil, h, _ => by simp at h
  | _, _, 0, _, _, .cons a t, h1, h2 => by cases h1; cases h2; exact a
  | _, _, i + 1, _, _, .cons a t, h1, h2 => items_get (i := i) t h1 h2
theorem call_setK {l : Addr} {items : Array Value} {ks : List Key} {Q : Value → Shared → Prop} (nh : A.handled = none) (il : s.heap.IsList l items) (ik : ItemsAre (mixKind prog w) ks items.toList) (sc : ∀ v ∈ items.toList, v.scannable = true) (few : items.size + 1 < scanBound)
    (q : ∀ (h2 : Heap) (tk : Nat), MSet prog w h2 s.heap.objs.size ks → (∀ b o, b < s.heap.objs.size → s.heap.get? b = some o → h2.get? b = some o) → Q (.ref s.heap.objs.size) { s with heap := h2, toks := tk }) :
    wpAny (model prog w) A (call (.type "set") [.ref l]) Q E s := by
  obtain ⟨c, tl, hmro⟩ := PySem.F.called_set.mro; have hmade := PySem.F.called_set.made
  have hsub := PySem.F.called_set.sub; refine wpAny_call (codeAny_of_tree ?_)
  show wpAny _ _ (callAny (.type "set") _) _ _ _; refine wpAny_pure ⟨Code.quiet_builtin _ (by decide +kernel), codeAny_builtin PySem.F.entry_type_call ?_⟩
  rw [Around.under_plain (weight_type_call_type "set" [.ref l] []) rfl]; have h1 := PySem.F.called_set.notType
  have h2 := PySem.F.called_set.canCreate; have hct := PySem.F.typeCall_set_1 (.ref l)
  repeat (any_goals (first | assumption | wp_step))
  refine codeAny_mono (code_set_new_1 (.ref l) (E := E) (Q₁ := fun v z => ∃ b : Bool, v = .ref s.heap.objs.size ∧ z = { s with heap := s.heap.push (o0 b) }) fun b => ⟨b, rfl, rfl⟩) fun r z hr => ?_
  cases r with
  | error e => exact hr
  | ok fl =>
    cases fl with
    | ret v =>
      obtain ⟨bb, rfl, rfl⟩ := hr
      have gs : (s.heap.push (o0 bb)).get? s.heap.objs.size = some (o0 bb) := Heap.get?_push_size _ rfl
      have ts : Shared.TypeIs { s with heap := s.heap.push (o0 bb) } (.ref s.heap.objs.size) "set" := ⟨_, gs, rfl⟩
      have hli := PySem.F.called_set.init.lookup; have hbi := PySem.F.called_set.init.bind (.ref s.heap.objs.size)
      repeat (any_goals (first | assumption | wp_step))
      refine codeAny_mono (codeAny_call_builtin (R := wants (fun r z2 => r = .none ∧ ∃ h2 tk, z2 = { s with heap := h2, toks := tk } ∧ MSet prog w h2 s.heap.objs.size ks ∧ (∀ b o, b < s.heap.objs.size → s.heap.get? b = some o → h2.get? b = some o)) E) PySem.F.called_set.init.plain PySem.F.entry_set_init (check_set_init_1 ts ?_)) fun r₂ z2 hr₂ => ?_
      · obtain ⟨ol, hol, hcl, nl, hdl⟩ := il
        obtain ⟨xcls, xdict, xdata, xslots⟩ := ol
        simp only at hcl hdl
        subst hcl; subst hdl
        have hol' : (s.heap.push (o0 bb)).get? l = some { cls := .type "list", dict := xdict, data := .seq items nl, slots := xslots } := Heap.get?_push_of_some _ hol
        have hsls := PySem.F.sub_list_set; have hslf := PySem.F.sub_list_frozenset
        have ndc : (Value.type "list" == Value.type "dict") = false := by decide
        have hl1 : (s.heap.push (o0 bb)).IsList l items := ⟨_, hol', rfl, nl, rfl⟩
        unfold Builtin.«set.__init__» noKeywords Builtin.Frozenset.updateFrom
        generalize hPI : pyIter = PI
        wp_walk
        subst hPI
        refine wpAny_pyIter_list hl1 ?_
        refine wpAny_bind (wpAny_runValue ?_)
        have ls : l < s.heap.objs.size := Heap.lt_size hol
        have nh3 : A.in1.in1.in1.handled = none := by simp [nh]
        have ni : l ≠ (s.heap.push (o0 bb)).objs.size := by rw [Heap.size_push]; exact Nat.ne_of_lt (Nat.lt_succ_of_lt ls)
        have nf : s.heap.objs.size ∉ [(s.heap.push (o0 bb)).objs.size, l] := by
          rw [Heap.size_push]; simp only [List.mem_cons, List.mem_singleton, List.not_mem_nil, or_false, not_or]; exact ⟨Nat.ne_of_lt (Nat.lt_succ_self _), Nat.ne_of_gt ls⟩
        have lk : ks.length = items.size := by rw [← Array.length_toList]; exact ItemsAre.length ik
        have vk : ∀ (i : Nat) (v : Value) (k : Key), items[i]? = some v → ks[i]? = some k → (mixKind prog w).is k v = true ∧ v.scannable = true := fun i v k hv hk => by
          rw [← Array.getElem?_toList] at hv
          exact ⟨items_get ik hk hv, sc v (List.mem_of_getElem? hv)⟩
        refine upd_keys ((Walks.list nh3 _ l ni items).toS) s.heap.objs.size nf ks lk vk few (items.size - 0) 0 _ (by omega) (Nat.zero_le _) ⟨⟨_, Heap.get?_push_size _ rfl, rfl, rfl⟩, (hl1.push _)⟩ ?s0 ?s1
        case s0 =>
          have e0 : (fun k : Key => inK (once (ks.take 0)) k) = fun _ => false := funext fun k => rfl
          show Heap.SetOf _ _ _ (fun k : Key => inK (once (ks.take 0)) k) _
          rw [e0]
          exact ⟨_, #[], 0, _, Heap.get?_push_of_some _ gs, ⟨rfl, rfl, rfl⟩, rfl, (fun e he => by simp at he), (fun k => by simp), (by decide), (by rfl), rfl⟩
        case s1 =>
          intro z3 mv s3
          obtain ⟨y1, y2, y3, y4, y5⟩ := z3
          have eg : y2 = s.gens := mv.gens
          have ed : y3 = s.drawn := mv.drawn
          have eo : y5 = s.os := mv.os
          subst eg; subst ed; subst eo
          show wpAny _ _ _ _ _ _
          refine wpAny_pure ?_
          show wpAny _ _ (ret Value.none) _ _ _
          refine wpAny_pure ⟨rfl, y1, y4, rfl, s3, fun b o hb e => ?_⟩
          have g1 : b ≠ s.heap.objs.size := Nat.ne_of_lt hb
          have g2 : b ≠ (s.heap.push (o0 bb)).objs.size := by rw [Heap.size_push]; exact Nat.ne_of_lt (Nat.lt_succ_of_lt hb)
          exact mv.heap b o (by simp only [List.mem_cons, List.mem_singleton, List.not_mem_nil, or_false, not_or]; exact ⟨g1, g2⟩) (Heap.get?_push_of_some _ (Heap.get?_push_of_some _ e))
      · cases r₂ with
        | error e => exact hr₂
        | ok fl₂ =>
          cases fl₂ with
          | ret r =>
            obtain ⟨rfl, y1, tk, rfl, s3, k3⟩ := hr₂
            repeat (any_goals (first | assumption | wp_step))
            exact q _ _ s3 k3
          | _ => exact hr₂.elim
    | _ => exact hr.elim
end
section
variable {X : Cx} {K : PySem.W.Frag}
def SetM (P : Program) (w : World) (a : Addr) (ks : List Key) : HO := SetK P w a (fun k => inK (once ks) k) (once ks).length
def rSetL (K : PySem.W.Frag) (P : Program) (w : World) : List V → Hp → VK → Prop := fun xs H Q => ∃ (l : Addr) (ks : List Key), xs = [V.ref l] ∧ SqL K H l (ks.map kV) ∧ ks.length < 4000 ∧ ∀ p, H p = none → Q (.ref p) (upd H p (SetM P w p ks))
theorem scan_of : ∀ {ks : List Key} {us : List Value}, Vals (ks.map kV) us → ∀ v ∈ us, v.scannable = true
  | [], _, .nil, v, h => nomatch h
  | k :: ks, _, .cons r t, v, h => by
    cases h with
    | head => exact key_scan r
    | tail _ h => exact scan_of t v h
theorem cr_setL (hc : X.calm = true) : CallR X (.type "set") (rSetL X.K X.prog X.w) := by
  intro pins s σ H xs us Q I r h
  obtain ⟨l, ks, rfl, hl, few, q⟩ := h
  rw [Vals.ref1 r]
  obtain ⟨its, rv, pl, hz⟩ := I.list hl
  have hn : H s.heap.objs.size = none := I.hok.fresh (Nat.le_refl _)
  have e1 : its.toArray.size = ks.length := by rw [List.size_toArray, ← rv.length, List.length_map]
  refine call_setK (prog := X.prog) (w := X.w) (ks := ks) (I.ok.hd hc) pl.isList (by simpa using items_are rv) (by simpa using scan_of rv) (by rw [e1]; unfold scanBound; omega) fun h' tk m k => ?_
  exact ⟨.ref s.heap.objs.size, upd H s.heap.objs.size (SetM X.prog X.w s.heap.objs.size ks), I.laid (t' := tk) (fun b u e => k b u (Heap.lt_size e) e) (Nat.le_refl _) (setK_new m), rfl, q _ hn⟩
def rLenM (P : Program) (w : World) : List V → Hp → VK → Prop := fun xs H Q => ∃ (a : Addr) (ks : List Key), xs = [V.ref a] ∧ H a = some (SetM P w a ks) ∧ Q (.int (once ks).length) H
theorem cr_lenM : CallR X (.builtin "len") (rLenM X.prog X.w) := by
  intro pins s σ H xs us Q I r h
  obtain ⟨a, ks, rfl, ha, q⟩ := h
  rw [Vals.ref1 r]
  obtain ⟨o, es, ep, t, ho, hex, hd, hel, hmem, hb, hf, hn⟩ := setK_get I ha
  refine call_len_set ho hex hd hf (by unfold scanBound at hb; omega) ?_
  exact ⟨.int (once ks).length, H, I.tok _, ⟨s.toks + 1, by rw [hn]⟩, q⟩
/-- the keys that some data are -/
def toKy : D → Option Key
  | .int i => some (.inl i)
  | .str x => some (.inr x)
  | _ => none
theorem toKys_ok {φ : List Addr} {S : Hp} : ∀ {vs : List V} {ds : List D} {ks : List Key}, RpA K φ S vs ds → optAll toKy ds = some ks → vs = ks.map kV
  | _, _, ks, .nil, e => by
    cases e; rfl
  | _, _, ks, .cons (d := d) (ds := ds) r t, e => by
    simp only [optAll] at e
    cases q : toKy d with
    | none => rw [q] at e; cases e
    | some k =>
      rw [q] at e
      cases q2 : optAll toKy ds with
      | none => simp only [q2] at e; cases e
      | some ks2 =>
      simp only [q2] at e
      cases e
      rw [toKys_ok t q2]
      cases r <;> first
        | (cases q; rfl)
        | cases q
def bLenSet : List D → Hv → R D := fun ds h => match ds with
  | [d] => (match (lOf h d).bind (optAll toKy) with
    | some ks => if ks.length < 4000 then .ok (.int ((once ks).length : Nat)) h else .stuck
    | none => .stuck)
  | _ => .stuck
/-- both calls as one -/
def rLS (K : PySem.W.Frag) (P : Program) (w : World) (t : TA) : TE := tCB (rLenM P w) (tCons (tCB (rSetL K P w) t) tNil)
theorem sn_lenset {P : Program} {w : World} {W : WX} {t : TA} {la : LS} (h2 : Sn K (repA K) W t la) : Sn K (repV K) W (rLS K P w t) (eCa bLenSet la) := ⟨fun rl rs post => h2.bind rl rs post fun ds h1 vs φ1 S1 H1 rl1 rs1 st rp post => by
  unfold bLenSet at post
  split at post
  · next d =>
    obtain ⟨v, rfl, r⟩ := rp.one
    split at post
    · next ks hk =>
      obtain ⟨xs, q1, q2⟩ := Option.bind_eq_some_iff.mp hk
      split at post
      · next few =>
        obtain ⟨a, us, rfl, h3, h4⟩ := lOf_ok rl1 r q1
        rw [toKys_ok h4 q2] at h3
        refine ⟨a, ks, rfl, h3, few, fun p hp => ?_⟩
        obtain ⟨r2, s2⟩ := rl1.lay (o := SetM P w p ks) hp
        exact ⟨p, ks, rfl, upd_same, post _ φ1 _ _ r2 s2 (.int _)⟩
      · exact post.elim
    · exact post.elim
  · exact post.elim⟩
end
section
variable {X : Cx} {W : WX} {e : Expr} {p pos p2 pos2 : Pos} {la : LS}
theorem se_lenset (hc : X.calm = true) (n1 : X.mg "len" = none) (n2 : X.mg "set" = none) (ha : SA X W [e] la) (hg : Gl X "len" := by rfl) (hg2 : Gl X "set" := by rfl)
    (he : starEach [.Call (.Name "set" p2) [e] [] pos2] X.env = (false, eval (.Call (.Name "set" p2) [e] [] pos2) X.env) :: starEach [] X.env := by rfl) (hpl : (backTo pos (starEach [] X.env)).any (·.1) = false := by rfl)
    (he2 : starEach [e] X.env = (false, eval e X.env) :: starEach [] X.env := by rfl) (hpl2 : (backTo pos2 (starEach [] X.env)).any (·.1) = false := by rfl) : SE X W (.Call (.Name "len" p) [.Call (.Name "set" p2) [e] [] pos2] [] pos) (eCa bLenSet la) := by
  obtain ⟨ta, h1, h2⟩ := ha
  exact ⟨_, pe_callB cr_lenM hg n1 rfl (pa_cons (pe_callTy (cr_setL hc) hg2 n2 rfl h1 (by decide) (by decide) he2 hpl2) pa_nil) (by decide) (by decide) he hpl, sn_lenset h2⟩
end
end
end VD

set_option Elab.async false
set_option linter.all false
set_option maxRecDepth 100000
set_option maxHeartbeats 4000000
namespace VD
open PySem PySem.Spec PyProof.Rows L2
noncomputable section
/-! ### dict(xs), xs a list of pairs -/
section
variable {X : Cx} {K : PySem.W.Frag}
/-- a pair with a key ahead -/
def pairD : D → Option (Key × D)
  | .tup [k, d] => (keyOf k).map fun k => (k, d)
  | _ => none
def bDictP : List D → Hv → R D := fun ds h => match ds with
  | [d] => (match (lOf h d).bind (optAll pairD) with
    | some kd => .ok (.cell h.length) (h ++ [.dK (mergeD [] kd)])
    | none => .stuck)
  | _ => .stuck
def rDictP (K : PySem.W.Frag) : List V → Hp → VK → Prop := fun xs H Q => ∃ (a : Addr) (ps : List Addr) (kvs : List (Key × V)), xs = [.ref a] ∧ SqL K H a (ps.map V.ref) ∧ Paired (fun p kv => SqT K H p [kV kv.1, kv.2]) ps kvs ∧
    ∀ p, H p = none → Q (.ref p) (upd H p (.dK (mergeK [] kvs)))
theorem cr_dictP (hc : X.calm = true) : CallR X (.type "dict") (rDictP X.K) := call_dictP hc
theorem pairs_ok {φ : List Addr} {S H : Hp} (sub : Ex S H) : ∀ {vs : List V} {ds : List D} {kd : List (Key × D)}, RpA K φ S vs ds → optAll pairD ds = some kd → ∃ (ps : List Addr) (kvs : List (Key × V)), vs = ps.map V.ref ∧ Paired (fun p kv => SqT K H p [kV kv.1, kv.2]) ps kvs ∧ RpK K φ S kvs kd
  | _, _, kd, .nil, e => by
    cases e
    exact ⟨[], [], rfl, .nil, .nil⟩
  | _, _, kd, .cons (d := d) (ds := ds) r t, e => by
    simp only [optAll] at e
    cases q : pairD d with
    | none => rw [q] at e; cases e
    | some p =>
      rw [q] at e
      cases q2 : optAll pairD ds with
      | none => simp only [q2] at e; cases e
      | some kd2 =>
        simp only [q2] at e
        cases e
        obtain ⟨ps, kvs, e1, e2, e3⟩ := pairs_ok sub t q2
        unfold pairD at q
        split at q
        · next k d' =>
          obtain ⟨key, hk, rfl⟩ := Option.map_eq_some_iff.mp q
          obtain ⟨a, us, rfl, g1, g2⟩ := tup_of r
          obtain ⟨u1, u2, rfl, r1, r2⟩ := g2.two
          have ek := keyOf_ok r1 hk
          subst ek
          exact ⟨a :: ps, (key, u2) :: kvs, by rw [e1]; rfl, .cons (sub.sqt g1) e2, .cons r2 e3⟩
        · cases q
theorem cs_dictP : CaS K (rDictP K) bDictP := by
  intro φ S H h ds vs Q E rl ra post
  unfold bDictP at post
  split at post
  · next d =>
    obtain ⟨v, rfl, r⟩ := ra.one
    split at post
    · next kd hk =>
      obtain ⟨xs, q1, q2⟩ := Option.bind_eq_some_iff.mp hk
      obtain ⟨a, us, rfl, h3, h4⟩ := lOf_ok rl r q1
      obtain ⟨ps, kvs, rfl, e2, e3⟩ := pairs_ok rl.sub h4 q2
      refine ⟨a, ps, kvs, rfl, h3, e2, fun p hp => ?_⟩
      obtain ⟨r2, s2⟩ := rl.hold (o := .dK (mergeK [] kvs)) hp
      obtain ⟨m1, m2⟩ := (RpK.merge e3 (kv := []) (kd := []) .nil).to
      have r3 := r2.celled (c := .dK (mergeD [] kd)) upd_same (rl.snone hp) (rl.notin hp) ⟨_, rfl, m1, m2⟩
      exact post (.ref p) _ _ _ r3 (s2.celled hp) (.cell (by rw [← rl.len, List.getElem?_append_right (Nat.le_refl _), Nat.sub_self]; rfl))
    · exact post.elim
  · exact post.elim
end
/-! ### xs[::-1] -/
theorem sl_revS {X : Cx} {W : WX} {a : Expr} {fa : ES} {k : Nat} {p1 p2 p3 pos : Pos} (ha : SE X W a fa) : SL X W (.Subscript a (.Slice none none (some (.UnaryOp .USub (.Constant (.int 1) k p1) p2)) p3) pos) (lRev fa) := by
  obtain ⟨ta, h1, h2⟩ := ha
  refine ⟨_, pe_revL h1, ⟨fun rl rs post => h2.bind rl rs post fun d h1 v φ1 S1 H1 rl1 rs1 st rp post => ?_⟩⟩
  split at post
  · next xs q =>
    obtain ⟨a0, vs, rfl, hs, ra⟩ := lOf_ok rl1 rp q
    refine ⟨a0, vs, rfl, hs, fun p hp => ?_⟩
    obtain ⟨r2, s2⟩ := rl1.hold (o := .lst vs.reverse) hp
    exact post (.ref p) φ1 _ _ r2 s2 ⟨p, vs.reverse, rfl, hp, upd_same, rl1.snone hp, rl1.notin hp, ra.reverse⟩
  · exact post.elim
end
end VD

set_option Elab.async false
set_option linter.all false
set_option maxRecDepth 100000
set_option maxHeartbeats 4000000
namespace VD
open PySem PySem.Spec PyProof.Rows L2
noncomputable section
/-! ### xs.pop(), xs.clear() -/
def mPop : D → List D → Hv → R D := fun x ds h => match x, ds with
  | .cell n, [] => (match h[n]? with
    | some (.lst xs) => (match xs[xs.length - 1]? with
      | some y => .ok y (h.set n (.lst xs.dropLast))
      | none => .stuck)
    | _ => .stuck)
  | _, _ => .stuck
theorem RpA.last {K : PySem.W.Frag} {φ : List Addr} {S : Hp} {vs : List V} {ds : List D} (r : RpA K φ S vs ds) : RpA K φ S vs.dropLast ds.dropLast := by
  rw [List.dropLast_eq_take, List.dropLast_eq_take, r.length]
  exact r.take _
theorem ms_pop {K : PySem.W.Frag} : MtS K rPop mPop := by
  intro φ S H h x v ds vs Q E rl rx ra post
  unfold mPop at post
  split at post
  · next n =>
    split at post
    · next xs hx =>
      split at post
      · next y hy =>
        obtain ⟨a, ws, rfl, hn, ho, rw_⟩ := rl.cell rx hx
        cases ra
        obtain ⟨u, h1, h2⟩ := rw_.at hy
        obtain ⟨r2, s2⟩ := rl.put hn (c := .lst xs.dropLast) (o := .lst ws.dropLast) ⟨_, rfl, rw_.last⟩
        exact ⟨a, ws, u, rfl, rfl, ho, by rw [rw_.length]; exact h1, post _ φ S _ r2 s2 h2⟩
      · exact post.elim
    · exact post.elim
  · exact post.elim
def mClear : D → List D → Hv → R D := fun x ds h => match x, ds with
  | .cell n, [] => (match h[n]? with
    | some (.lst xs) => .ok .non (h.set n (.lst []))
    | _ => .stuck)
  | _, _ => .stuck
theorem ms_clear {K : PySem.W.Frag} : MtS K rClear mClear := by
  intro φ S H h x v ds vs Q E rl rx ra post
  unfold mClear at post
  split at post
  · next n =>
    split at post
    · next xs hx =>
      obtain ⟨a, ws, rfl, hn, ho, rw_⟩ := rl.cell rx hx
      cases ra
      obtain ⟨r2, s2⟩ := rl.put hn (c := .lst []) (o := .lst []) ⟨_, rfl, .nil⟩
      exact ⟨a, ws, rfl, rfl, ho, post _ φ S _ r2 s2 .non⟩
    · exact post.elim
  · exact post.elim
@[simp] theorem mPop_ap {n : Nat} {h : Hv} : mPop (.cell n) [] h = (match h[n]? with
  | some (.lst xs) => (match xs[xs.length - 1]? with
    | some y => .ok y (h.set n (.lst xs.dropLast))
    | none => .stuck)
  | _ => .stuck) := rfl
@[simp] theorem mClear_ap {n : Nat} {h : Hv} : mClear (.cell n) [] h = (match h[n]? with
  | some (.lst xs) => .ok .non (h.set n (.lst []))
  | _ => .stuck) := rfl
/-! ### an __init__, a method: told from its end -/
def Ri (P : R D → Prop) (n0 : Nat) (r : RS) : Prop := match r with
  | .ret d h => P (.ok d h)
  | .next _ h => P (.ok .non h)
  | .exc x _ h => P (exitX n0 x h)
  | _ => False
def Rm (P : R D → Prop) (n0 : Nat) (r : RS) : Prop := match r with
  | .ret d h => P (.ok d h)
  | .exc x _ h => P (exitX n0 x h)
  | _ => False
section
variable {P : R D → Prop} {n0 : Nat} {σ : VS} {h : Hv} {d : D} {x : Xn}
@[simp] theorem Wp_ri_ret : Wp (Ri P n0) (.ret d h) = P (.ok d h) := Wp.eq _ _
@[simp] theorem Wp_ri_next : Wp (Ri P n0) (.next σ h) = P (.ok .non h) := Wp.eq _ _
@[simp] theorem Wp_ri_exc : Wp (Ri P n0) (.exc x σ h) = P (exitX n0 x h) := Wp.eq _ _
@[simp] theorem Wp_ri_stuck : Wp (Ri P n0) .stuck = False := Wp.eq _ _
@[simp] theorem Wp_rm_ret : Wp (Rm P n0) (.ret d h) = P (.ok d h) := Wp.eq _ _
@[simp] theorem Wp_rm_exc : Wp (Rm P n0) (.exc x σ h) = P (exitX n0 x h) := Wp.eq _ _
@[simp] theorem Wp_rm_stuck : Wp (Rm P n0) .stuck = False := Wp.eq _ _
end
theorem fnI_of {P : R D → Prop} {np nl : Nat} {body : SS} {ds : List D} {h : Hv} (hl : ds.length = np) (hw : Wp (Ri P h.length) (body (ds.map some ++ List.replicate nl none) h)) : P (fnI np nl body ds h) := by
  replace hw := hw.run
  unfold fnI
  rw [if_pos hl]
  generalize body (ds.map some ++ List.replicate nl none) h = r at hw ⊢
  cases r <;> first
    | exact hw
    | exact hw.elim
theorem fnU_at {P : R D → Prop} {np nl : Nat} {body : SS} {ds : List D} {h : Hv} (hl : ds.length = np) (hw : Wp (Rm P h.length) (body (ds.map some ++ List.replicate nl none) h)) : P (fnU np nl body ds h) := by
  replace hw := hw.run
  unfold fnU
  rw [if_pos hl]
  generalize body (ds.map some ++ List.replicate nl none) h = r at hw ⊢
  cases r <;> first
    | exact hw
    | exact hw.elim
@[simp] theorem callM_ap {sem : List D → Hv → R D} {ds : List D} {h : Hv} : callM sem ds h = sem ds h := rfl
@[simp] theorem eMeth_ap {C m : Str} {sem' : List D → Hv → R D} {fa : ES} {la : LS} {σ : VS} {h : Hv} : eMeth C m sem' fa la σ h = (fa σ h).bind fun d h1 => (match fldsOf h1 C d with
  | some fs => if (fs.lookup m).isNone then ((la σ h1).bind fun ds h2 => sem' (d :: ds) h2) else .stuck
  | none => .stuck) := rfl
@[simp] theorem eFld_ap {C f : Str} {fa : ES} {σ : VS} {h : Hv} : eFld C f fa σ h = (fa σ h).bind fun d h1 => (match (fldsOf h1 C d).bind fun fs => fs.lookup f with
  | some x => .ok x h1
  | none => .stuck) := rfl
def kSF (C f : Str) (fa : ES) (σ : VS) (y : D) (h1 : Hv) : RS := (fa σ h1).then σ fun d h2 => (match d with
  | .cell n => (match h2[n]? with
    | some (.ins c fs) => if c = C ∧ fs.length < 1000 then .next σ (h2.set n (.ins c (putS f y fs))) else .stuck
    | _ => .stuck)
  | _ => .stuck)
@[simp] theorem sSetFld_ap {C f : Str} {fa fv : ES} {σ : VS} {h : Hv} : sSetFld C f fa fv σ h = (fv σ h).then σ (kSF C f fa σ) := rfl
@[simp] theorem kSF_ap {C f : Str} {fa : ES} {σ : VS} {y : D} {h1 : Hv} : kSF C f fa σ y h1 = (fa σ h1).then σ fun d h2 => (match d with
  | .cell n => (match h2[n]? with
    | some (.ins c fs) => if c = C ∧ fs.length < 1000 then RS.next σ (h2.set n (.ins c (putS f y fs))) else .stuck
    | _ => .stuck)
  | _ => .stuck) := rfl
@[simp] theorem fldsOf_cell {h : Hv} {C : Str} {n : Nat} : fldsOf h C (.cell n) = (match h[n]? with
  | some (.ins c fs) => if c = C then some fs else none
  | _ => none) := rfl
theorem mkR_ok {C : Str} {sem : List D → Hv → R D} {ds : List D} {h h2 : Hv} (e : sem (.cell h.length :: ds) (h ++ [.ins C []]) = .ok .non h2) : mkR C sem ds h = .ok (.cell h.length) h2 := by
  unfold mkR
  rw [e]
theorem mkR_exc {C : Str} {sem : List D → Hv → R D} {ds : List D} {h h2 : Hv} {x : Xn} (e : sem (.cell h.length :: ds) (h ++ [.ins C []]) = .exc x h2) : mkR C sem ds h = exitX h.length x h2 := by
  unfold mkR
  rw [e]
theorem callC_exc {sem : List D → Hv → R D} {ds ds' : List D} {h : Hv} {x : Xn} (hp : pureD ds = some ds') (e : sem ds' [] = .exc x []) : callC sem ds h = .exc x h := by
  unfold callC
  rw [hp]
  simp only [e]
end
end VD

set_option Elab.async false
set_option linter.all false
set_option maxRecDepth 100000
set_option maxHeartbeats 4000000
namespace VD
open PySem PySem.Spec PyProof.Rows L2
noncomputable section
/-! ### a def that is handed what an except suite holds -/
theorem pss_noxS {X : Cx} {a : Addr} {oe : Obj} {E : Value → Shared → Prop} {st : List Stmt} {t : TS} (h : PSs (X.suite a [(a, oe)]) st t) : PSs ({ (X.suite a [(a, oe)]) with xe := E }) st t := PSs.nox (X := { (X.suite a [(a, oe)]) with xe := E }) h
/-- its promise, for the one object -/
structure FnP (P : Program) (w : World) (K : PySem.W.Frag) (mg : Str → Option Value) (base : Heap) (k : Nat) (f : Addr) (fd : FuncData) (ps : List Str) (sp : Sp) (a : Addr) (oe : Obj) : Prop where
  len : ∀ vs H Q E, sp vs H Q E → vs.length = ps.length
  run : ∀ (A : Around) (outer : List Env) (s : Shared) (H : Hp) (us : List Value) (vs : List V) (Q : VK) (E : XK), L2H.RoomH k (A.mark (some (.ref a))) → L2H.PinOk outer H s (a, oe) → Env0 P w K mg base (A.mark (some (.ref a))) outer s H →
    BindsTo s fd ⟨us, []⟩ (ps.zip us) → Vals vs us → sp vs H Q E → codeAny (model P w) (A.mark (some (.ref a))) (.call (.ref f) ⟨us, []⟩) (CR (L2.CX P w) outer P w H s Q E) s
theorem fnP_of {P : Program} {w : World} {K : PySem.W.Frag} {mg : Str → Option Value} {base : Heap} {k : Nat} {f a : Addr} {oe : Obj} {x qual : Str} {st : Stmt} {fd : FuncData} {N ps : List Str} {sp : Sp} (F : Fun K x qual st f fd) (Sc : FnScope N ps (defScope st))
    (len : ∀ vs H Q E, sp vs H Q E → vs.length = ps.length)
    (hb : ∀ (cdv : Value) (A : Around) (outer : List Env) (s : Shared) (H : Hp) (vs : List V) (Q : VK) (E : XK), sp vs H Q E →
      ∃ t, PSs ((cxOf (L2.CX P w) P w K mg base N qual (defScope st) f cdv A outer s H E).suite a [(a, oe)]) (defBody st) t ∧ t { nx := fun _ H' => Q .non H', rt := Q } (L2.start N vs) H) : FnP P w K mg base (k + 1) f fd ps sp a oe := by
  obtain ⟨oc, od, kV, doc, pm, an, cdv, ct, osl, rfl, lk, hcd⟩ := F.ex
  refine ⟨len, fun A outer s H us vs Q E room pin e0 bd rv want => ?_⟩
  have inK : K.In s.heap := e0.mod.kin.keeps fun b o e => (e0.bs b o e).1
  have nolim : s.heap.NoLimit := e0.mod.nolimit.keeps fun b o e => (e0.bs b o e).1
  have kinds : ∀ y ∈ ps.zip us, (defScope st).names.lookup y.1 = some .local ∨ ((defScope st).names.lookup y.1 = some .cell ∧ ((cellsFrom (s.heap.objs.size + 1) (defScope st).names []).lookup y.1).isSome = true) := by
    rintro ⟨n, v⟩ hy
    exact (Sc.par n (List.of_mem_zip hy).1).imp id fun q => ⟨q, PySem.W.cellsFrom_some _ _ _ (.inl q)⟩
  refine codeAny_call_function room.depth (inK _ _ lk) rfl Sc.co Sc.gen rfl (PySem.W.codeRec_of inK hcd) (bd _ _ _ _ (wpAny_newFunctionEnv_cells Sc.kind kinds fun env he s1 call => ?_))
  subst he
  refine ⟨nolim.keeps call.toInCall.keep, codeAny_func ?_⟩
  obtain ⟨t, ht, hq⟩ := hb cdv A outer s H vs Q E want
  have I := L2H.inv_startH (CX := L2.CX P w) (A := A.mark (some (.ref a))) (E := E) Sc pin e0 (len _ _ _ _ want) rv call
  refine wpAny_mono ((pss_noxS ht).run [] s1 (L2.start N vs) H _ I hq) (fun fl s' done => ?_) fun _ _ z => z
  cases fl with
  | ret u =>
    obtain ⟨v, σ', H', J, r, q⟩ := done
    exact ⟨v, H', J.os, J.bare, J.base, J.hok, r, q⟩
  | next =>
    obtain ⟨σ', H', J, q⟩ := done
    exact ⟨.non, H', J.os, J.bare, J.base, J.hok, rfl, q⟩
  | brk => exact done.choose_spec.choose_spec.2.elim
  | cont => exact done.choose_spec.choose_spec.2.elim
/-! its reading -/
def spN (K : PySem.W.Frag) (sem : List D → Hv → R D) : Sp := fun vs H Q E => ∃ S ds d, Ex S H ∧ RpA K [] S vs ds ∧ sem ds [] = .ok d [] ∧ Post K (repV K) [] S H (.ok d []) Q E
theorem fnS_ok {np nl : Nat} {body : SS} {ds : List D} {h h2 : Hv} {d : D} (e : fnS np nl body ds h = .ok d h2) : ds.length = np := fnS_len (nl := nl) (body := body) (h := h) fun z => by rw [z] at e; cases e
theorem fnP_ok {P : Program} {w : World} {K : PySem.W.Frag} {mg : Str → Option Value} {base : Heap} {k np nl : Nat} {f a : Addr} {oe : Obj} {x qual : Str} {st : Stmt} {fd : FuncData} {N ps : List Str} {body : SS} (F : Fun K x qual st f fd) (Sc : FnScope N ps (defScope st)) (hps : ps.length = np) (hN : N.length = np + nl)
    (hb : ∀ (cdv : Value) (A : Around) (outer : List Env) (s : Shared) (H : Hp) (E : XK), QB ((cxOf (L2.CX P w) P w K mg base N qual (defScope st) f cdv A outer s H E).suite a [(a, oe)]) W00 (defBody st) body) : FnP P w K mg base (k + 1) f fd ps (spN K (fnS np nl body)) a oe := by
  refine fnP_of F Sc (fun vs H Q E h => ?_) fun cdv A outer s H vs Q E h => ?_
  · obtain ⟨S, ds, d, _, ra, e, _⟩ := h
    rw [ra.length, hps, fnS_ok e]
  · obtain ⟨S, ds, d, sub, ra, e, post⟩ := h
    obtain ⟨t, h1, h2⟩ := hb cdv A outer s H E
    have hl := fnS_ok e
    refine ⟨t, h1, h2.run (Rel.bare sub) (relS_start ra nl N (by rw [hl]; exact hN)) ?_⟩
    unfold fnS at e
    rw [if_pos hl] at e
    have out : ∀ {φ' S' H' h' d0 v}, Rel K φ' S' H' h' → Step [] S H φ' S' H' → Rp K φ' S' v d0 → exitD 0 d0 h' = .ok d [] → Q v H' := fun {φ' S' H' h' d0 v} r2 st rv e => by
      unfold exitD at e
      split at e
      · next d' h'' q1 q2 =>
        split at e
        · next hn =>
          cases e
          obtain ⟨s2, _⟩ := exit_step st r2
          exact post v _ _ H' (exit_rel r2 hn q2) s2 (frz_ok r2 _ _ _ _ rv q1)
        · cases e
      · cases e
    cases hq : body (ds.map some ++ List.replicate nl none) [] with
    | next σ' h' =>
      simp only [hq] at e
      exact fun σ1 φ' S' H' r2 _ st => out r2 st .non e
    | ret d0 h' =>
      simp only [hq] at e
      exact fun v φ' S' H' r2 st rv => out r2 st rv e
    | brk σ' h' => simp only [hq] at e; cases e
    | cont σ' h' => simp only [hq] at e; cases e
    | stuck => simp only [hq] at e; cases e
    | exc x σ' h' =>
      simp only [hq] at e
      unfold exitX at e
      split at e
      · split at e
        · split at e <;> cases e
        · cases e
      · split at e
        · split at e <;> cases e
        · cases e
def OkX (P : Program) (w : World) (K : PySem.W.Frag) (mg : Str → Option Value) (base : Heap) (k : Nat) (f : Str) (ps : List Str) (sem : Xn → Addr → Addr → List D → Hv → R D) : Prop :=
  ∃ fd, (∀ (x : Xn) (a dd : Addr) (oe : Obj), Zc (.ref (He.ga K x.cls)) (exA dd x.pay) oe → (∃ vs, oe.data = .fields vs) → FnP P w K mg base k (He.ga K f) fd ps (spN K (sem x a dd)) a oe) ∧ Binds K fd ps [] ∧ mg f = some (.ref (He.ga K f)) ∧ PySem.W.keepIn K (.ref (He.ga K f)) = true
theorem okX_mk {P : Program} {w : World} {K : PySem.W.Frag} {mg : Str → Option Value} {base : Heap} {f : Str} {st : Stmt} {fd : FuncData} {N ps : List Str} {k np nl : Nat} {body : Xn → Addr → Addr → SS} (F : Fun K f f st (He.ga K f) fd) (Sc : FnScope N ps (defScope st)) (hps : ps.length = np) (hN : N.length = np + nl)
    (g : mg f = some (.ref (He.ga K f))) (b : Binds K fd ps [])
    (hb : ∀ (x : Xn) (a dd : Addr) (oe : Obj), Zc (.ref (He.ga K x.cls)) (exA dd x.pay) oe → (∃ vs, oe.data = .fields vs) → ∀ (cdv : Value) (A : Around) (outer : List Env) (s : Shared) (H : Hp) (E : XK),
      QB ((cxOf (L2.CX P w) P w K mg base N f (defScope st) (He.ga K f) cdv A outer s H E).suite a [(a, oe)]) W00 (defBody st) (body x a dd)) : OkX P w K mg base (k + 1) f ps (fun x a dd => fnS np nl (body x a dd)) :=
  ⟨fd, fun x a dd oe hz hf => fnP_ok F Sc hps hN (hb x a dd oe hz hf), b, g, F.kp⟩
/-! its call -/
def bareX : D → Option D
  | .raw v => some (.raw v)
  | .exv a dd f d => (frz 0 [] 12 d).map (.exv a dd f)
  | _ => none
theorem bareX_ok {K : PySem.W.Frag} {φ : List Addr} {S : Hp} {v : V} {d d' : D} (r : Rp K φ S v d) (e : bareX d = some d') : Rp K [] S v d' := by
  cases r with
  | raw v => cases e; exact .raw v
  | @exv a dd f v d h1 h2 =>
    obtain ⟨p, q, rfl⟩ := Option.map_eq_some_iff.mp (show (frz 0 [] 12 d).map (.exv _ dd f) = some d' from e)
    exact .exv h1 (frz0_ok _ _ _ _ h2 q)
  | _ => cases e
def callX (sem : List D → Hv → R D) (ds : List D) (h : Hv) : R D := match ds with
  | [d] => (match bareX d with
    | some d' => (match sem [d'] [] with
      | .ok r [] => .ok r h
      | _ => .stuck)
    | none => .stuck)
  | _ => .stuck
theorem spN_ok {K : PySem.W.Frag} {sem : List D → Hv → R D} {φ : List Addr} {S H : Hp} {h : Hv} {ds : List D} {vs : List V} {Q : VK} {E : XK} (rl : Rel K φ S H h) (ra : RpA K φ S vs ds) (post : Post K (repV K) φ S H (callX sem ds h) Q E) : spN K sem vs H Q (fun _ _ _ => False) := by
  unfold callX at post
  split at post
  · next d =>
    split at post
    · next d' q =>
      split at post
      · next r hs =>
        cases ra with
        | cons r1 r2 =>
          cases r2
          refine ⟨S, [d'], r, rl.sub, .cons (bareX_ok r1 q) .nil, hs, ?_⟩
          intro v φ' S' H' r2 st rv
          obtain ⟨rfl, r3, s3⟩ := rl.frame r2 st
          exact post v φ S' H' r3 s3 (Rp.mono ⟨φ, rfl⟩ (Ex.refl _) rv)
      · exact post.elim
    · exact post.elim
  · exact post.elim
section
variable {X : Cx} {W : WX} {k : Nat} {f : Str} {ps : List Str} {sem : Xn → Addr → Addr → List D → Hv → R D} {x : Xn} {a dd : Addr} {oe : Obj} {pn : List (Addr × Obj)} {p pos : Pos} {e : Expr} {es : List Expr} {la : LS}
theorem se_fnX (o : OkX X.prog X.w X.K X.mg X.base k f ps sem) (hr : Room k X.A) (hz : Zc (.ref (He.ga X.K x.cls)) (exA dd x.pay) oe) (hfl : ∃ vs, oe.data = .fields vs) (ha : SA (X.suite a ((a, oe) :: pn)) W (e :: es) la)
    (hg : Gl (X.suite a ((a, oe) :: pn)) f := by rfl) (hdb : (f == ("__debug__" : Str)) = false := by decide) (he : starEach (e :: es) (X.suite a ((a, oe) :: pn)).env = (false, eval e (X.suite a ((a, oe) :: pn)).env) :: starEach es (X.suite a ((a, oe) :: pn)).env := by rfl)
    (hpl : (backTo pos (starEach es (X.suite a ((a, oe) :: pn)).env)).any (·.1) = false := by rfl) :
    SE (X.suite a ((a, oe) :: pn)) W (.Call (.Name f p) (e :: es) [] pos) (eCa (callX (sem x a dd)) la) := by
  obtain ⟨fd, F, b, g, kp⟩ := o
  obtain ⟨t, h1, h2⟩ := ha
  have Fx := F x a dd oe hz hfl
  refine ⟨tCallS (fun vs H Q _ => spN X.K (sem x a dd) vs H Q (fun _ _ _ => False)) (fun _ _ _ _ => False) t, ⟨fun pins s σ H Q I h => ?_⟩, ⟨fun rl rs post => h2.bind rl rs post fun ds hh vs φ1 S1 H1 rl1 rs1 st rp post => spN_ok rl1 rp post⟩⟩
  refine wpAny_Call_Name_kw (ld_glob I hg g ?_ hdb)
  refine PySem.W.callWith_K (h₀ := X.base) I.ok.mod.kin kp (thn (h1.run pos pins s σ H _ I h) fun us s1 ⟨vs, H1, I1, r, q⟩ => ⟨I1.kIn, ?_⟩) he hpl
  have hl : us.length = ps.length := by rw [← r.length]; exact Fx.len _ _ _ _ q
  have bd := b s1 us I1.kIn (by rw [List.append_nil]; exact hl)
  rw [List.append_nil] at bd
  obtain ⟨p1, p2, p3, p4, p5⟩ := I1.pin (a, oe) (List.mem_append_left _ List.mem_cons_self)
  have pin : L2H.PinOk X.stack H1 s1 (a, oe) := ⟨p1, p2, fun hm => (List.mem_cons.mp (I1.stkSub a hm)).elim p3 p4, p5⟩
  refine wpAny_call (codeAny_mono (Fx.run X.A X.stack s1 H1 us vs Q _ ⟨hr.dp, hr.un⟩ pin I1.env0 bd r q) fun r s' hq => ?_)
  cases r with
  | error e => exact (cx_false hq).elim
  | ok fl =>
    cases fl with
    | ret u => exact I1.after hq
    | next => exact hq.elim
    | brk => exact hq.elim
    | cont => exact hq.elim
end
end
end VD

set_option Elab.async false
set_option linter.all false
set_option maxRecDepth 100000
set_option maxHeartbeats 4000000
namespace VD
open PySem PySem.Spec PyProof.Rows L2
noncomputable section
/-! ### zip of two tuples, to the end of the shorter one -/
theorem zipD_min : ∀ xs ys : List D, (zipD xs ys).length = min xs.length ys.length
  | [], [] => rfl
  | [], _ :: _ => by show 0 = _; simp
  | _ :: _, [] => by show 0 = _; simp
  | x :: xs, y :: ys => by
    show (zipD xs ys).length + 1 = min (xs.length + 1) (ys.length + 1)
    rw [zipD_min xs ys]; omega
def iZT (g : LS) : IS := fun σ h => (g σ h).bind fun ds h1 => match ds with
  | [.tup xs, .tup ys] => .ok (zipD xs ys, always) h1
  | _ => .stuck
@[simp] theorem iZT_ap {g : LS} {σ : VS} {h : Hv} : iZT g σ h = (g σ h).bind fun ds h1 => (match ds with
  | [.tup xs, .tup ys] => VD.R.ok (zipD xs ys, always) h1
  | _ => .stuck) := rfl
section
variable {X : Cx} {W : WX} {e e2 : Expr} {la : LS} {p pos : Pos}
theorem qi_zipT {elts : List Expr} {kk : Nat} {tpos : Pos} (hm : X.mg "zip" = none) (ha : SA X W [e, e2] la) (hg : Gl X "zip" := by rfl) (hs : starEach [e, e2] X.env = (false, eval e X.env) :: starEach [e2] X.env := by rfl) (hpl : (backTo pos (starEach [e2] X.env)).any (·.1) = false := by rfl) :
    QI X W (.Tuple elts kk tpos) (.Call (.Name "zip" p) [e, e2] [] pos) (iZT la) := by
  obtain ⟨ta, h1, h2⟩ := ha
  refine ⟨_, RZ.pi_zipA hg hm h1 hs hpl, ⟨fun rl rs post => h2.bind rl rs post fun ds h1 vs φ1 S1 H1 rl1 rs1 st rp post => ?_⟩⟩
  have ra : RpA X.K φ1 S1 vs ds := rp
  split at post
  · next xs ys =>
    obtain ⟨v, w, rfl, r, r2⟩ := ra.two
    obtain ⟨a, vs, rfl, a1, a2⟩ := tup_of r
    obtain ⟨b, ws, rfl, b1, b2⟩ := tup_of r2
    refine ⟨a, b, vs, ws, rfl, .inr ⟨rl1.sub.sqt a1, rl1.sub.sqt b1, post (RZ.ItzT X.K a b) φ1 S1 H1 rl1 (Step.refl _ _ _) ⟨fun {i φ S H h} r2 pr ex _ hi => ?_, fun {φ S H h} r2 pr ex _ => ?_⟩⟩⟩
    · rw [zipD_min] at hi
      have hi1 : i < xs.length := by omega
      have hi2 : i < ys.length := by omega
      have s1 : SqT X.K H a vs := r2.sub.sqt (ex.sqt a1)
      have s2 : SqT X.K H b ws := r2.sub.sqt (ex.sqt b1)
      obtain ⟨u1, hu1, ru1⟩ := a2.at (List.getElem?_eq_getElem hi1)
      obtain ⟨u2, hu2, ru2⟩ := b2.at (List.getElem?_eq_getElem hi2)
      refine ⟨⟨vs, ws, u1, u2, s1, s2, hu1, hu2⟩, fun z H' yl => ?_⟩
      obtain ⟨T, x1, x2, rfl, nT, rfl, f1, f2⟩ := yl
      have e1 := f1 vs s1
      rw [hu1] at e1
      cases e1
      have e2 := f2 ws s2
      rw [hu2] at e2
      cases e2
      obtain ⟨r3, s3⟩ := r2.lay (o := .tup [u1, u2]) nT
      exact ⟨upd S T (.tup [u1, u2]), _, zipD_at (List.getElem?_eq_getElem hi1) (List.getElem?_eq_getElem hi2), r3, s3, .tup (.inl (.inl upd_same)) (.cons (Rp.mono pr (ex.trans s3.sub) ru1) (.cons (Rp.mono pr (ex.trans s3.sub) ru2) .nil))⟩
    · refine ⟨vs, ws, r2.sub.sqt (ex.sqt a1), r2.sub.sqt (ex.sqt b1), ?_⟩
      rw [zipD_min, a2.length, b2.length]
      omega
  · exact post.elim
end
end
end VD

set_option Elab.async false
set_option linter.all false
set_option maxRecDepth 100000
set_option maxHeartbeats 4000000
namespace VD
open PySem PySem.Spec PyProof.Rows L2
noncomputable section
/-! ### dicts whose keys are tuples -/
/-- the world that the hashes of texts are of -/
class Wd where
  w : World
def nkOf : Nat → D → Option NestedKey
  | 0, _ => none
  | _ + 1, .non => some .none
  | _ + 1, .int i => some (.num i)
  | _ + 1, .str x => some (.text x)
  | n + 1, .tup ds => (optAll (nkOf n) ds).map .tup
  | _ + 1, _ => none
def tkOf : D → Option NestedKey
  | .tup ds => nkOf 8 (.tup ds)
  | _ => none
theorem nkOf_ok {K : PySem.W.Frag} {φ : List Addr} {S : Hp} : ∀ (n : Nat) (d : D) (v : V) (k : NestedKey), Rp K φ S v d → nkOf n d = some k → Rp K [] S v (nkD k) ∧ k.depth ≤ n := by
  intro n
  induction n with
  | zero => intro d v k _ e; cases e
  | succ n ih =>
    have all : ∀ (ds : List D) (vs : List V) (ks : List NestedKey), RpA K φ S vs ds → optAll (nkOf n) ds = some ks → RpA K [] S vs (nkDs ks) ∧ NestedKey.depthAll ks ≤ n := by
      intro ds
      induction ds with
      | nil => intro vs ks r e; cases r; cases e; exact ⟨.nil, Nat.zero_le _⟩
      | cons d ds ih2 =>
        intro vs ks r e
        cases r with
        | cons r t =>
          simp only [optAll] at e
          cases q : nkOf n d with
          | none => rw [q] at e; cases e
          | some k0 =>
            rw [q] at e
            cases q2 : optAll (nkOf n) ds with
            | none => simp only [q2] at e; cases e
            | some ks0 =>
              simp only [q2] at e
              cases e
              obtain ⟨a1, a2⟩ := ih d _ k0 r q
              obtain ⟨b1, b2⟩ := ih2 _ ks0 t q2
              exact ⟨.cons a1 b1, by show max k0.depth (NestedKey.depthAll ks0) ≤ n; omega⟩
    intro d v k r e
    cases r with
    | non => cases e; exact ⟨.non, Nat.zero_le _⟩
    | int i => cases e; exact ⟨.int i, Nat.zero_le _⟩
    | str x => cases e; exact ⟨.str x, Nat.zero_le _⟩
    | @tup a vs ds h1 h2 =>
      obtain ⟨ks, q, rfl⟩ := Option.map_eq_some_iff.mp (show (optAll (nkOf n) ds).map .tup = some k from e)
      obtain ⟨a1, a2⟩ := all ds vs ks h2 q
      exact ⟨.tup h1 a1, by show NestedKey.depthAll ks + 1 ≤ n + 1; omega⟩
    | _ => cases e
/-- the tuple at b is the key k -/
def NK (K : PySem.W.Frag) (H : Hp) (b : Addr) (k : NestedKey) : Prop := ∃ S, Ex S H ∧ Rp K [] S (.ref b) (nkD k)
theorem NK.up {K : PySem.W.Frag} {H H' : Hp} {b : Addr} {k : NestedKey} (n : NK K H b k) (e : Ex H H') : NK K H' b k := let ⟨S, a, r⟩ := n; ⟨S, a.trans e, r⟩
theorem tkOf_ok {K : PySem.W.Frag} {φ : List Addr} {S : Hp} {d : D} {v : V} {k : NestedKey} (r : Rp K φ S v d) (e : tkOf d = some k) : ∃ b, v = .ref b ∧ Rp K [] S (.ref b) (nkD k) ∧ k.depth ≤ 8 := by
  cases d with
  | tup ds =>
    have e' : nkOf 8 (.tup ds) = some k := e
    cases r with
    | @tup a vs _ h1 h2 =>
      obtain ⟨a1, a2⟩ := nkOf_ok 8 _ _ k (Rp.tup h1 h2) e'
      exact ⟨a, rfl, a1, a2⟩
  | _ => cases e
section
variable {X : Cx} {pins : List (Addr × Obj)} {σ : L2.St} {H S : Hp} {s : Shared}
mutual
theorem nk_is (I : Inv X pins σ H s) (ex : Ex S H) : ∀ (k : NestedKey) (v : V) (u : Value), Rp X.K [] S v (nkD k) → RelV v u → NestedIs s.heap k u
  | .none, v, u, r, q => by
    have r : Rp X.K [] S v .non := r
    cases r
    cases q
    exact .none
  | .num i, v, u, r, q => by
    have r : Rp X.K [] S v (.int i) := r
    cases r
    obtain ⟨t, rfl⟩ := q
    exact .int i t
  | .text x, v, u, r, q => by
    have r : Rp X.K [] S v (.str x) := r
    cases r
    obtain ⟨t, rfl⟩ := q
    exact .text x t
  | .tup ks, v, u, r, q => by
    have r : Rp X.K [] S v (.tup (nkDs ks)) := r
    cases r with
    | @tup a vs _ h1 h2 =>
      obtain ⟨its, r1, ⟨o, ho, hc, n, hd⟩, _⟩ := I.tuple (ex.sqt h1)
      cases (show u = Value.ref a from q)
      exact .tup ho hc hd (nks_is I ex ks vs its h2 r1)
theorem nks_is (I : Inv X pins σ H s) (ex : Ex S H) : ∀ (ks : List NestedKey) (vs : List V) (us : List Value), RpA X.K [] S vs (nkDs ks) → Vals vs us → NestedAll s.heap ks us
  | [], vs, us, r, q => by
    have r : RpA X.K [] S vs [] := r
    cases r
    cases q
    exact .nil
  | k :: ks, vs, us, r, q => by
    have r : RpA X.K [] S vs (nkD k :: nkDs ks) := r
    cases r with
    | cons r t =>
      cases q with
      | cons q1 q2 => exact .cons (nk_is I ex k _ _ r q1) (nks_is I ex ks _ _ t q2)
end
theorem NK.is (I : Inv X pins σ H s) {b : Addr} {k : NestedKey} (n : NK X.K H b k) (hd : k.depth ≤ 8) : (nestedKind X.prog X.w).is s.heap k b :=
  let ⟨_, ex, r⟩ := n; ⟨nk_is I ex k _ _ r rfl, hd⟩
end
/-! entries -/
abbrev Nx := List (NestedKey × Addr × V)
abbrev Pn : Nx → List (NestedKey × Addr × Value) → Prop := Paired fun p q => p.1 = q.1 ∧ p.2.1 = q.2.1 ∧ RelV p.2.2 q.2.2
def getX (xs : Nx) (k : NestedKey) : Option V := (xs.find? fun x => decide (x.1 = k)).map (·.2.2)
def repX (xs : Nx) (k : NestedKey) (v : V) : Nx := xs.map fun x => if x.1 = k then (x.1, x.2.1, v) else x
def putX (xs : Nx) (k : NestedKey) (b : Addr) (v : V) : Nx := if (getX xs k).isSome then repX xs k v else xs ++ [(k, b, v)]
def dropX (xs : Nx) (k : NestedKey) : Nx := xs.filter fun x => decide (x.1 ≠ k)
theorem getX_cons {x : NestedKey × Addr × V} {xs : Nx} {k : NestedKey} : getX (x :: xs) k = if x.1 = k then some x.2.2 else getX xs k := by
  unfold getX
  by_cases q : x.1 = k
  · rw [List.find?_cons_of_pos (by exact decide_eq_true q), if_pos q]; rfl
  · rw [List.find?_cons_of_neg (by exact fun z => q (of_decide_eq_true z)), if_neg q]
theorem Pn.get {xs : Nx} {ys : List (NestedKey × Addr × Value)} (r : Pn xs ys) (k : NestedKey) : RelO (getX xs k) ((atKey ys k).map (·.2)) := by
  induction r with
  | nil => exact trivial
  | @cons p q ps qs h t ih =>
    obtain ⟨h1, h2, h3⟩ := h
    rw [getX_cons]
    unfold atKey at ih ⊢
    by_cases e : p.1 = k
    · rw [if_pos e, List.find?_cons_of_pos (by exact decide_eq_true (h1 ▸ e))]
      exact h3
    · rw [if_neg e, List.find?_cons_of_neg (by exact fun z => e (h1.trans (of_decide_eq_true z)))]
      exact ih
theorem Pn.some {xs : Nx} {ys : List (NestedKey × Addr × Value)} (r : Pn xs ys) (k : NestedKey) : (getX xs k).isSome = (atKey ys k).isSome := by
  have := (r.get k).isSome_eq
  rw [Option.isSome_map] at this
  exact this
theorem Pn.len {xs : Nx} {ys : List (NestedKey × Addr × Value)} (r : Pn xs ys) : xs.length = ys.length := Paired.length r
theorem Pn.snoc {xs : Nx} {ys : List (NestedKey × Addr × Value)} (r : Pn xs ys) {k : NestedKey} {b : Addr} {v : V} {u : Value} (h : RelV v u) : Pn (xs ++ [(k, b, v)]) (ys ++ [(k, b, u)]) := by
  induction r with
  | nil => exact .cons ⟨rfl, rfl, h⟩ .nil
  | cons h0 _ ih => exact .cons h0 ih
theorem Pn.rep {xs : Nx} {ys : List (NestedKey × Addr × Value)} (r : Pn xs ys) (k : NestedKey) {v : V} {u : Value} (h : RelV v u) : Pn (repX xs k v) (ys.map (putAt k u)) := by
  induction r with
  | nil => exact .nil
  | @cons p q ps qs h0 _ ih =>
    obtain ⟨h1, h2, h3⟩ := h0
    unfold repX at ih ⊢
    rw [List.map_cons, List.map_cons]
    refine .cons ?_ ih
    unfold putAt
    by_cases e : p.1 = k
    · rw [if_pos e, if_pos (h1 ▸ e)]
      exact ⟨h1, h2, h⟩
    · rw [if_neg e, if_neg (fun z => e (h1.trans z))]
      exact ⟨h1, h2, h3⟩
theorem Pn.put {xs : Nx} {ys : List (NestedKey × Addr × Value)} (r : Pn xs ys) (k : NestedKey) {b : Addr} {v : V} {u : Value} (h : RelV v u) : Pn (putX xs k b v) (storedH ys k b u) := by
  unfold putX storedH
  rw [r.some k]
  split
  · exact r.rep k h
  · exact r.snoc h
theorem Pn.drop {xs : Nx} {ys : List (NestedKey × Addr × Value)} (r : Pn xs ys) (k : NestedKey) : Pn (dropX xs k) (withoutH ys k) := by
  unfold dropX withoutH
  induction r with
  | nil => exact .nil
  | @cons p q ps qs h0 _ ih =>
    obtain ⟨h1, h2, h3⟩ := h0
    by_cases e : p.1 = k
    · rw [List.filter_cons_of_neg (by simp [e]), List.filter_cons_of_neg (by simp [← h1, e])]
      exact ih
    · rw [List.filter_cons_of_pos (by simp [e]), List.filter_cons_of_pos (by simp [← h1, e])]
      exact .cons ⟨h1, h2, h3⟩ ih
theorem putX_len (xs : Nx) (k : NestedKey) (b : Addr) (v : V) : (putX xs k b v).length ≤ xs.length + 1 := by
  unfold putX repX
  split
  · rw [List.length_map]; omega
  · rw [List.length_append]; exact Nat.le_refl _
theorem repX_1 (xs : Nx) (k : NestedKey) (v : V) : (repX xs k v).map (·.1) = xs.map (·.1) := by
  unfold repX
  rw [List.map_map]
  refine List.map_congr_left fun x _ => ?_
  show (if x.1 = k then (x.1, x.2.1, v) else x).1 = x.1
  split <;> rfl
theorem getX_none {xs : Nx} {k : NestedKey} (e : (getX xs k).isSome = false) : k ∉ xs.map (·.1) := by
  intro z
  obtain ⟨x, hx, q⟩ := List.mem_map.mp z
  induction xs with
  | nil => cases hx
  | cons y xs ih =>
    rw [getX_cons] at e
    by_cases p : y.1 = k
    · rw [if_pos p] at e; cases e
    · rw [if_neg p] at e
      rcases List.mem_cons.mp hx with rfl | hx
      · exact p q
      · exact ih e (List.mem_map.mpr ⟨x, hx, q⟩) hx
theorem Pn.keys {xs : Nx} {ys : List (NestedKey × Addr × Value)} (r : Pn xs ys) : ys.map (·.1) = xs.map (·.1) := by
  induction r with
  | nil => rfl
  | cons h _ ih => rw [List.map_cons, List.map_cons, ih, h.1]
/-- what is asked of all entries' keys -/
def NKs (K : PySem.W.Frag) (H : Hp) (xs : Nx) : Prop := ∀ x ∈ xs, NK K H x.2.1 x.1
section
variable {X : Cx} {pins : List (Addr × Obj)} {σ : L2.St} {H : Hp} {s : Shared} {a a' b : Addr} {xs : Nx} {k : NestedKey} {A : Around} {E : Value → Shared → Prop} {v : V} {r : Value}
theorem nd_addr (I : Inv X pins σ H s) (e : H a = some (NDO X.w a' xs)) : a' = a := by
  obtain ⟨p, _, st⟩ := I.hok a _ e
  refine Classical.byContradiction fun ne => ?_
  have sb := Heap.SameBut.update s.heap a' (fun _ => seqObj "list" #[] 0)
  have p2 := st s.heap (s.heap.update a' (fun _ => seqObj "list" #[] 0)) p fun o q => (sb.2 a (fun z => ne z.symm)).trans q
  obtain ⟨_, _, _, _, ys, _, o, es, ep, h1, _, h3, _⟩ := p2
  obtain ⟨_, _, _, _, ys', _, o', es', ep', k1, _, _, _⟩ := p
  have h2 := Heap.get?_update_self (fun _ => seqObj "list" #[] 0) k1 rfl
  rw [h1] at h2
  cases h2
  cases h3
theorem nd_dict (I : Inv X pins σ H s) (e : H a = some (NDO X.w a xs)) (ks : NKs X.K H xs) : (a == sysModules) = false ∧ xs.length ≤ sizeLine ∧ ∃ ys, Pn xs ys ∧ s.heap.DictOfH (nestedKind X.prog X.w) a ys := by
  obtain ⟨p, _, _⟩ := I.hok a _ e
  obtain ⟨h1, h2, h3, h4, ys, h5, o, es, ep, g1, g2, g3, g4⟩ := p
  refine ⟨h1, h2, ys, h5, o, es, ep, g1, g2, g3, g4, ?_, ?_⟩
  · have all : ∀ {xs : Nx} {ys : List (NestedKey × Addr × Value)}, Pn xs ys → NKs X.K H xs → (∀ x ∈ xs, x.1.depth ≤ 8) → ∀ y ∈ ys, (nestedKind X.prog X.w).is s.heap y.1 y.2.1 := by
      intro xs ys r
      induction r with
      | nil => intro _ _ y hy; cases hy
      | @cons p q ps qs h _ ih =>
        intro ks ds y hy
        rcases List.mem_cons.mp hy with rfl | hy
        · rw [← h.1, ← h.2.1]
          exact (ks p List.mem_cons_self).is I (ds p List.mem_cons_self)
        · exact ih (fun x hx => ks x (List.mem_cons_of_mem _ hx)) (fun x hx => ds x (List.mem_cons_of_mem _ hx)) y hy
    exact all h5 ks h3
  · rw [Pn.keys h5]
    exact h4
theorem nd_new {H' : Hp} {h' : Heap} {ys : List (NestedKey × Addr × Value)} (hd : (a == sysModules) = false) (hl : xs.length ≤ sizeLine) (dp : ∀ x ∈ xs, x.1.depth ≤ 8) (nd : (xs.map (·.1)).Nodup) (rel : Pn xs ys) (dd : h'.DictOfH (nestedKind X.prog X.w) a ys) : ObjOk X.prog X.w H' h' a (NDO X.w a xs) := by
  obtain ⟨o, es, ep, h1, h2, h3, h4, _, _⟩ := dd
  refine ⟨⟨hd, hl, dp, nd, ys, rel, o, es, ep, h1, h2, h3, h4⟩, ⟨o, h1⟩, fun g g' p q => ?_⟩
  obtain ⟨p1, p2, p3, p4, zs, p5, o', es', ep', q1, q2⟩ := p
  exact ⟨p1, p2, p3, p4, zs, p5, o', es', ep', q _ q1, q2⟩
theorem nd_of (I : Inv X pins σ H s) (e : H a = some (NDO X.w a xs)) : (∀ x ∈ xs, x.1.depth ≤ 8) ∧ (xs.map (·.1)).Nodup := by
  obtain ⟨p, _, _⟩ := I.hok a _ e
  exact ⟨p.2.2.1, p.2.2.2.1⟩
theorem put_nodup (nd : (xs.map (·.1)).Nodup) : ((putX xs k b v).map (·.1)).Nodup := by
  unfold putX
  cases q : (getX xs k).isSome with
  | true => rw [if_pos rfl, repX_1]; exact nd
  | false =>
    rw [if_neg (by simp), List.map_append]
    exact List.nodup_append.mpr ⟨nd, by simp, fun x hx y hy z => by
      rw [List.map_cons, List.map_nil, List.mem_singleton] at hy
      subst hy; subst z
      exact getX_none q hx⟩
theorem put_depth (dp : ∀ x ∈ xs, x.1.depth ≤ 8) (hk : k.depth ≤ 8) : ∀ x ∈ putX xs k b v, x.1.depth ≤ 8 := by
  intro x hx
  have m : x.1 ∈ (putX xs k b v).map (·.1) := List.mem_map.mpr ⟨x, hx, rfl⟩
  unfold putX at m
  split at m
  · rw [repX_1] at m
    obtain ⟨y, hy, e⟩ := List.mem_map.mp m
    rw [← e]; exact dp y hy
  · rw [List.map_append] at m
    rcases List.mem_append.mp m with m | m
    · obtain ⟨y, hy, e⟩ := List.mem_map.mp m
      rw [← e]; exact dp y hy
    · rw [List.map_cons, List.map_nil, List.mem_singleton] at m
      rw [m]; exact hk
/-- y in d -/
theorem n_in {Q : Value → Shared → Prop} (hu : A.units + 9 < cLine) (I : Inv X pins σ H s) (e : H a = some (NDO X.w a xs)) (ks : NKs X.K H xs) (nk : NK X.K H b k) (hk : k.depth ≤ 8) (h : ∀ s', Inv X pins σ H s' → Q (.bool (getX xs k).isSome) s') :
    wpAny (model X.prog X.w) A (compareOp .In (.ref b) (.ref a)) Q E s := by
  obtain ⟨hd, hl, ys, rel, dd⟩ := nd_dict I e ks
  refine wpAny_in_heap (knd := nestedKind X.prog X.w) (show A.in1.units + 8 < cLine by rw [Around.in1_units]; omega) (nk.is I hk) hd dd ?_
  rw [← rel.some k]
  exact h _ (I.tok _)
theorem n_notIn {Q : Value → Shared → Prop} (hu : A.units + 9 < cLine) (I : Inv X pins σ H s) (e : H a = some (NDO X.w a xs)) (ks : NKs X.K H xs) (nk : NK X.K H b k) (hk : k.depth ≤ 8) (h : ∀ s', Inv X pins σ H s' → Q (.bool (!(getX xs k).isSome)) s') :
    wpAny (model X.prog X.w) A (compareOp .NotIn (.ref b) (.ref a)) Q E s := by
  obtain ⟨hd, hl, ys, rel, dd⟩ := nd_dict I e ks
  refine wpAny_notIn_heap (knd := nestedKind X.prog X.w) (show A.in1.units + 8 < cLine by rw [Around.in1_units]; omega) (nk.is I hk) hd dd ?_
  rw [← rel.some k]
  exact h _ (I.tok _)
/-- d[y] = v -/
theorem n_set {Q : Unit → Shared → Prop} (hu : A.units + 9 < cLine) (I : Inv X pins σ H s) (e : H a = some (NDO X.w a xs)) (ks : NKs X.K H xs) (nk : NK X.K H b k) (hk : k.depth ≤ 8) (l : xs.length < sizeLine) (rv : RelV v r)
    (h : ∀ s', Inv X pins σ (upd H a (NDO X.w a (putX xs k b v))) s' → Q () s') : wpAny (model X.prog X.w) A (setItem (.ref a) (.ref b) r) Q E s := by
  obtain ⟨hd, hl, ys, rel, dd⟩ := nd_dict I e ks
  obtain ⟨dp, nd⟩ := nd_of I e
  refine wpAny_setItem_heap (knd := nestedKind X.prog X.w) (hsz := by rw [← rel.len]; exact hl) (show A.in1.units + 8 < cLine by rw [Around.in1_units]; omega) (nk.is I hk) dd fun h' dd' hs => h _ ?_
  have he : ∃ q, h'.get? a = some q := let ⟨q, _, _, hq, _⟩ := dd'; ⟨q, hq⟩
  exact d_write I (by rw [e]; exact True.intro) hs he (nd_new hd (by have := putX_len xs k b v; omega) (put_depth dp hk) (put_nodup nd) (rel.put k rv) dd')
/-- d.pop(k), there -/
theorem n_pop {Q : Value → Shared → Prop} (hu : A.units + 9 < cLine) (I : Inv X pins σ H s) (e : H a = some (NDO X.w a xs)) (ks : NKs X.K H xs) (nk : NK X.K H b k) (hk : k.depth ≤ 8) (l : getX xs k = some v)
    (h : ∀ w' s', Inv X pins σ (upd H a (NDO X.w a (dropX xs k))) s' → RelV v w' → Q w' s') : wpAny (model X.prog X.w) A (call (.builtin "dict.pop") [.ref a, .ref b]) Q E s := by
  obtain ⟨hd, hl, ys, rel, dd⟩ := nd_dict I e ks
  obtain ⟨dp, nd⟩ := nd_of I e
  obtain ⟨w', hw, rw'⟩ := RelO.some_of (v := v) (o := (atKey ys k).map (·.2)) (by rw [← l]; exact rel.get k)
  obtain ⟨p, hp, hp2⟩ := Option.map_eq_some_iff.mp hw
  refine call_pop_heap (knd := nestedKind X.prog X.w) (more := []) (.inl rfl) (PySem.F.args_dict_pop_2 _ _) (show A.in1.units + 8 < cLine by rw [Around.in1_units]; omega) (nk.is I hk) hd dd hp (fun h' dd' hs => ?_) (by rw [← rel.len]; exact hl)
  rw [hp2]
  refine h w' _ ?_ rw'
  have he : ∃ q, h'.get? a = some q := let ⟨q, _, _, hq, _⟩ := dd'; ⟨q, hq⟩
  refine d_write I (by rw [e]; exact True.intro) hs he (nd_new hd (Nat.le_trans (List.length_filter_le _ _) hl) (fun x hx => dp x (List.mem_filter.mp hx).1) ?_ (rel.drop k) dd')
  exact List.Nodup.sublist (List.Sublist.map _ List.filter_sublist) nd
theorem nd_typeIs (I : Inv X pins σ H s) (e : H a = some (NDO X.w a xs)) : s.TypeIs (.ref a) "dict" ∧ (∀ b, Value.ref a = .ref b → ∃ ob, s.heap.get? b = some ob ∧ ob.dict = none) := by
  obtain ⟨p, _, _⟩ := I.hok a _ e
  obtain ⟨_, _, _, _, ys, _, o, es, ep, g1, g2, _⟩ := p
  exact ⟨⟨o, g1, g2.1⟩, fun b q => by cases q; exact ⟨o, g1, g2.2.1⟩⟩
theorem nd_empty {P : Program} {w : World} {H : Hp} (h : Heap) (hb : sysModules < h.objs.size) : ObjOk P w H (h.push { cls := .type "dict", data := .dict #[] }) h.objs.size (NDO w h.objs.size []) :=
  ⟨⟨beq_eq_false_iff_ne.mpr (Ne.symm (Nat.ne_of_lt hb)), Nat.zero_le _, (fun x hx => by cases hx), List.nodup_nil, [], .nil, _, #[], 0, Heap.get?_push_size _ rfl, ⟨rfl, rfl, rfl⟩, rfl, rfl⟩, ⟨_, Heap.get?_push_size _ rfl⟩, fun g g' p q => by
    obtain ⟨p1, p2, p3, p4, zs, p5, o', es', ep', q1, q2⟩ := p
    exact ⟨p1, p2, p3, p4, zs, p5, o', es', ep', q _ q1, q2⟩⟩
end
/-! ### readings -/
def tNIn (w : World) (K : PySem.W.Frag) (neg : Bool) (ty td : TE) : TE := fun σ H Q => ty σ H fun y H1 => td σ H1 fun x H2 => ∃ a a' xs b k, x = .ref a ∧ y = .ref b ∧ H2 a = some (NDO w a' xs) ∧ NKs K H2 xs ∧ NK K H2 b k ∧ k.depth ≤ 8 ∧ Q (.bl (if neg then !(getX xs k).isSome else (getX xs k).isSome)) H2
def sNPut (w : World) (K : PySem.W.Frag) (td ty tv : TE) : TS := fun D σ H => tv σ H fun v H1 => td σ H1 fun x H2 => ty σ H2 fun y H3 => ∃ a a' xs b k, x = .ref a ∧ y = .ref b ∧ H3 a = some (NDO w a' xs) ∧ NKs K H3 xs ∧ NK K H3 b k ∧ k.depth ≤ 8 ∧ xs.length < sizeLine ∧
  D.nx σ (upd H3 a (NDO w a' (putX xs k b v)))
def tNPop (w : World) (K : PySem.W.Frag) (td ty : TE) : TE := fun σ H Q => td σ H fun x H1 => ∃ a, x = .ref a ∧ (∃ a' xs, H1 a = some (NDO w a' xs)) ∧ ty σ H1 fun y H2 => ∃ a' xs b k v, y = .ref b ∧ H2 a = some (NDO w a' xs) ∧ NKs K H2 xs ∧ NK K H2 b k ∧ k.depth ≤ 8 ∧ getX xs k = some v ∧
  Q v (upd H2 a (NDO w a' (dropX xs k)))
def tNDisp (w : World) (K : PySem.W.Frag) (tk tv : TE) : TE := fun σ H Q => ∀ p, H p = none → tk σ (upd H p (NDO w p [])) fun x H1 => tv σ H1 fun y H2 => H2 p = some (NDO w p []) ∧ ∃ b k, x = .ref b ∧ NK K H2 b k ∧ k.depth ≤ 8 ∧ Q (.ref p) (upd H2 p (NDO w p [(k, b, y)]))
def tNNew (w : World) : TE := fun _ H Q => ∀ p, H p = none → Q (.ref p) (upd H p (NDO w p []))
section
variable {X : Cx} {o i value : Expr} {pos pos' apos cpos : Pos} {td ty tv : TE}
theorem pc_nin (hu : X.A.units + 9 < cLine) (hi : PE X i ty) (ho : PE X o td) : PC X .In i o (tNIn X.w X.K false ty td) := by
  refine ⟨fun pins s σ H Q I h => ?_⟩
  refine thn (hi.run pins s σ H _ I h) fun iv s1 ⟨y, H1, I1, ry, q1⟩ => thn (ho.run pins s1 σ H1 _ I1 q1) fun u s2 ⟨x, H2, I2, rx, a, a', xs, b, k, ex, ey, e, ks, nk, hk, q2⟩ => ?_
  subst ex ey
  obtain rfl : u = Value.ref a := rx
  obtain rfl : iv = Value.ref b := ry
  obtain rfl := nd_addr I2 e
  exact n_in hu I2 e ks nk hk fun s3 I3 => ⟨.bl (getX xs k).isSome, H2, I3, rfl, q2⟩
theorem pc_nnotin (hu : X.A.units + 9 < cLine) (hi : PE X i ty) (ho : PE X o td) : PC X .NotIn i o (tNIn X.w X.K true ty td) := by
  refine ⟨fun pins s σ H Q I h => ?_⟩
  refine thn (hi.run pins s σ H _ I h) fun iv s1 ⟨y, H1, I1, ry, q1⟩ => thn (ho.run pins s1 σ H1 _ I1 q1) fun u s2 ⟨x, H2, I2, rx, a, a', xs, b, k, ex, ey, e, ks, nk, hk, q2⟩ => ?_
  subst ex ey
  obtain rfl : u = Value.ref a := rx
  obtain rfl : iv = Value.ref b := ry
  obtain rfl := nd_addr I2 e
  exact n_notIn hu I2 e ks nk hk fun s3 I3 => ⟨.bl (!(getX xs k).isSome), H2, I3, rfl, q2⟩
theorem ps_nput (hu : X.A.units + 9 < cLine) (ho : PE X o td) (hi : PE X i ty) (hv : PE X value tv) (hs : swapsWith value (some (.Subscript o i pos')) pos.line X.env = pure false) :
    PS X (.Assign [.Subscript o i pos'] value pos) (sNPut X.w X.K td ty tv) := by
  refine ⟨fun pins s σ H D I h => ?_⟩
  refine wpAny_Assign_Subscript (thn (hv.run pins s σ H _ I h) fun r s1 ⟨v, H1, I1, rv, q1⟩ => thn (ho.run pins s1 σ H1 _ I1 q1) fun u s2 ⟨x, H2, I2, rx, q2⟩ => thn (hi.run pins s2 σ H2 _ I2 q2) fun iv s3 ⟨y, H3, I3, ry, a, a', xs, b, k, ex, ey, e, ks, nk, hk, l, q3⟩ => ?_) hs
  subst ex ey
  obtain rfl : u = Value.ref a := rx
  obtain rfl : iv = Value.ref b := ry
  obtain rfl := nd_addr I3 e
  exact n_set hu I3 e ks nk hk l rv fun s4 I4 => ⟨σ, _, I4, q3⟩
theorem pe_npop (hu : X.A.units + 9 < cLine) (ho : PE X o td) (he : PE X i ty) (m : M1 X o "pop" apos i cpos) : PE X (.Call (.Attribute o "pop" apos) [i] [] cpos) (tNPop X.w X.K td ty) := by
  refine ⟨fun pins s σ H Q I h => ?_⟩
  refine wpAny_Call_method m.base m.few m.line PySem.F.plainAttrs_dict PySem.F.slot_dict_pop PySem.F.type_dict_pop (thn (ho.run pins s σ H _ I h) fun u s1 ⟨x, H1, I1, rx, a, ex, ⟨a0, xs0, e0⟩, q1⟩ => ?_)
  subst ex
  obtain rfl : u = Value.ref a := rx
  obtain rfl := nd_addr I1 e0
  obtain ⟨t1, t2⟩ := nd_typeIs I1 e0
  refine ⟨t1, t2, ?_⟩
  rw [m.trees]
  refine Calls.callWith_builtin rfl (Calls.evalArgs_plain (Calls.spliced_cons (thn (he.run pins s1 σ H1 _ I1 q1) fun iv s2 ⟨y, H2, I2, ry, a', xs, b, k, v, ey, e, ks, nk, hk, l, q2⟩ => Calls.spliced_nil ?_)))
  subst ey
  obtain rfl : iv = Value.ref b := ry
  obtain rfl := nd_addr I2 e
  exact n_pop hu I2 e ks nk hk l fun w' s3 I3 rw' => ⟨v, _, I3, rw', q2⟩
theorem pe_nnew : PE X (.Dict [] [] pos) (tNNew X.w) := ⟨fun pins s σ H Q I h =>
  wpAny_Dict_empty ⟨.ref s.heap.objs.size, _, I.laid (a := s.heap.objs.size) (o := NDO X.w s.heap.objs.size []) (t' := s.toks) (fun _ _ q => Heap.get?_push_of_some _ q) (Nat.le_refl _) (nd_empty s.heap I.big), rfl, h _ (I.hok.fresh (Nat.le_refl _))⟩⟩
theorem pe_ndisp (hu : X.A.units + 9 < cLine) (hi : PE X i ty) (hv : PE X value tv) : PE X (.Dict [some i] [value] pos) (tNDisp X.w X.K ty tv) := by
  refine ⟨fun pins s σ H Q I q => ?_⟩
  have hn := I.hok.fresh (Nat.le_refl s.heap.objs.size)
  have I1 := I.laid (a := s.heap.objs.size) (o := NDO X.w s.heap.objs.size []) (h' := s.heap.push { cls := .type "dict", data := .dict #[] }) (t' := s.toks) (fun _ _ q => Heap.get?_push_of_some _ q) (Nat.le_refl _) (nd_empty s.heap I.big)
  have hlen := pairTrees_length [some i] [value] X.env pos rfl rfl
  rw [arm_eval_Dict, zip_pairTrees [some i] [value] X.env pos rfl rfl, dictDisplay_pairs (pairTrees [some i] [value] X.env pos) (by
    intro z
    rw [z] at hlen
    cases hlen) (by rw [hlen]; show 1 < 17; decide)]
  refine wpAny_bind (wpAny_standAt (wpAny_bind (wpAny_subDictH (knd := nestedKind X.prog X.w) (show X.A.units + 8 < cLine by omega) (by rw [hlen]; show 1 ≤ 15; decide) ?_)))
  refine pairTrees_cons_walk (thn (hi.run pins _ σ _ _ I1 (q _ hn)) fun u s1 ⟨x, H1, I2, rx, q1⟩ => thn (hv.run pins s1 σ H1 _ I2 q1) fun w2 s2 ⟨y, H2, I3, ry, e, b, k, ex, nk, hk, q2⟩ => ?_)
  subst ex
  obtain rfl : u = Value.ref b := rx
  refine pairTrees_nil_walk ?_
  obtain ⟨hd, _, ys, rel, dd⟩ := nd_dict I3 e (fun z hz => by cases hz)
  cases rel
  refine ⟨[(k, b, w2)], ⟨rfl, rfl, nk.is I3 hk, trivial⟩, dd, fun h' tk dd' hs => ?_⟩
  have he : ∃ q, h'.get? s.heap.objs.size = some q := let ⟨q, _, _, hq, _⟩ := dd'; ⟨q, hq⟩
  refine wpAny_pure ⟨.ref s.heap.objs.size, _, d_write (t' := tk) I3 (by rw [e]; exact True.intro) hs he (nd_new hd (by rw [sizeLine_eq]; show 1 ≤ 16777216; decide) (fun x hx => by rw [List.mem_singleton.mp hx]; exact hk) (by simp) (ys := [(k, b, w2)]) (.cons ⟨rfl, rfl, ry⟩ .nil) dd'), rfl, q2⟩
end
/-! ### what is computed -/
abbrev Nd := List (NestedKey × D)
def getN (kd : Nd) (k : NestedKey) : Option D := (kd.find? fun p => decide (p.1 = k)).map (·.2)
def putN (kd : Nd) (k : NestedKey) (d : D) : Nd := if (getN kd k).isSome then kd.map (fun p => if p.1 = k then (p.1, d) else p) else kd ++ [(k, d)]
def dropN (kd : Nd) (k : NestedKey) : Nd := kd.filter fun p => decide (p.1 ≠ k)
@[simp] theorem getN_nil {k : NestedKey} : getN [] k = none := rfl
theorem getN_cons {j k : NestedKey} {d : D} {kd : Nd} : getN ((j, d) :: kd) k = if j = k then some d else getN kd k := by
  unfold getN
  by_cases q : j = k
  · rw [List.find?_cons_of_pos (by exact decide_eq_true q), if_pos q]; rfl
  · rw [List.find?_cons_of_neg (by exact fun z => q (of_decide_eq_true z)), if_neg q]
inductive RpN (K : PySem.W.Frag) (φ : List Addr) (S : Hp) : Nx → Nd → Prop where
  | nil : RpN K φ S [] []
  | cons {k : NestedKey} {b : Addr} {v : V} {d : D} {xs : Nx} {kd : Nd} : Rp K [] S (.ref b) (nkD k) → Rp K φ S v d → RpN K φ S xs kd → RpN K φ S ((k, b, v) :: xs) ((k, d) :: kd)
section
variable {K : PySem.W.Frag} {φ : List Addr} {S H : Hp} {h : Hv} {xs : Nx} {kd : Nd}
theorem RpN.of : ∀ {xs : Nx} {kd : Nd}, xs.map (·.1) = kd.map (·.1) → (∀ x ∈ xs, Rp K [] S (.ref x.2.1) (nkD x.1)) → RpA K φ S (xs.map (·.2.2)) (kd.map (·.2)) → RpN K φ S xs kd
  | [], [], _, _, _ => .nil
  | [], _ :: _, e, _, _ => nomatch e
  | _ :: _, [], e, _, _ => nomatch e
  | (k, b, v) :: xs, (j, d) :: kd, e, ks, r => by
    rw [List.map_cons, List.map_cons] at e r
    injection e with e1 e2
    have e1 : k = j := e1
    subst e1
    cases r with
    | cons r t => exact .cons (ks _ List.mem_cons_self) r (RpN.of e2 (fun x hx => ks x (List.mem_cons_of_mem _ hx)) t)
theorem RpN.to (r : RpN K φ S xs kd) : xs.map (·.1) = kd.map (·.1) ∧ (∀ x ∈ xs, Rp K [] S (.ref x.2.1) (nkD x.1)) ∧ RpA K φ S (xs.map (·.2.2)) (kd.map (·.2)) := by
  induction r with
  | nil => exact ⟨rfl, (fun x hx => by cases hx), .nil⟩
  | cons r0 r _ ih =>
    obtain ⟨a1, a2, a3⟩ := ih
    refine ⟨by rw [List.map_cons, List.map_cons, a1], fun x hx => ?_, .cons r a3⟩
    rcases List.mem_cons.mp hx with rfl | hx
    · exact r0
    · exact a2 x hx
theorem RpN.nks (r : RpN K φ S xs kd) (e : Ex S H) : NKs K H xs := fun x hx => ⟨S, e, r.to.2.1 x hx⟩
theorem RpN.len (r : RpN K φ S xs kd) : xs.length = kd.length := by
  have := congrArg List.length r.to.1
  rw [List.length_map, List.length_map] at this
  exact this
theorem RpN.get (r : RpN K φ S xs kd) (k : NestedKey) : (getN kd k = none ∧ getX xs k = none) ∨ ∃ d v, getN kd k = some d ∧ getX xs k = some v ∧ Rp K φ S v d := by
  induction r with
  | nil => exact .inl ⟨rfl, rfl⟩
  | @cons j b v d xs kd r0 r _ ih =>
    rw [getN_cons, getX_cons]
    by_cases q : j = k
    · rw [if_pos q, if_pos q]
      exact .inr ⟨d, v, rfl, rfl, r⟩
    · rw [if_neg q, if_neg q]
      exact ih
theorem RpN.is (r : RpN K φ S xs kd) (k : NestedKey) : (getX xs k).isSome = (getN kd k).isSome := by
  rcases r.get k with ⟨g1, g2⟩ | ⟨d, v, g1, g2, _⟩
  · rw [g1, g2]; rfl
  · rw [g1, g2]; rfl
theorem RpN.put (r : RpN K φ S xs kd) (k : NestedKey) {b : Addr} {v : V} {d : D} (r0 : Rp K [] S (.ref b) (nkD k)) (rv : Rp K φ S v d) : RpN K φ S (putX xs k b v) (putN kd k d) := by
  unfold putX putN
  rw [r.is k]
  by_cases z : (getN kd k).isSome = true
  · rw [if_pos z, if_pos z]
    clear r0 z
    unfold repX
    induction r with
    | nil => exact .nil
    | @cons j c w e xs kd r0 r _ ih =>
      rw [List.map_cons, List.map_cons]
      by_cases q : j = k
      · rw [if_pos q, if_pos q]
        exact .cons r0 rv ih
      · rw [if_neg q, if_neg q]
        exact .cons r0 r ih
  · rw [if_neg z, if_neg z]
    clear z
    induction r with
    | nil => exact .cons r0 rv .nil
    | cons r1 r _ ih => exact .cons r1 r ih
theorem RpN.drop (r : RpN K φ S xs kd) (k : NestedKey) : RpN K φ S (dropX xs k) (dropN kd k) := by
  unfold dropX dropN
  induction r with
  | nil => exact .nil
  | @cons j c w e xs kd r0 r _ ih =>
    by_cases q : j = k
    · rw [List.filter_cons_of_neg (by simp [q]), List.filter_cons_of_neg (by simp [q])]
      exact ih
    · rw [List.filter_cons_of_pos (by simp [q]), List.filter_cons_of_pos (by simp [q])]
      exact .cons r0 r ih
/-- a dict to be read -/
def kvN [Wd] (h : Hv) : D → Option Nd
  | .cell n => match h[n]? with
    | some (.dN w kd) => @ite _ (w = Wd.w) (Classical.propDecidable _) (some kd) none
    | _ => none
  | _ => none
theorem kvN_ok [Wd] (rl : Rel K φ S H h) {d : D} {v : V} (r : Rp K φ S v d) (e : kvN h d = some kd) : ∃ n a a' xs, d = .cell n ∧ φ[n]? = some a ∧ h[n]? = some (.dN Wd.w kd) ∧ v = .ref a ∧ H a = some (NDO Wd.w a' xs) ∧ RpN K φ S xs kd := by
  cases r with
  | @cell a n h1 =>
    obtain ⟨c, hc⟩ := rl.at h1
    obtain ⟨_, o, ho, rc⟩ := rl.cel _ _ _ h1 hc
    simp only [kvN] at e
    rw [hc] at e
    cases c with
    | dN w kd0 =>
      obtain ⟨a', xs, rfl, k1, k2, k3⟩ := rc
      simp only at e
      split at e
      · next q =>
        subst q
        cases e
        exact ⟨n, a, a', xs, rfl, h1, hc, rfl, ho, .of k1 k2 k3⟩
      · cases e
    | _ => cases e
  | _ => cases e
def oNin [Wd] : D → D → Hv → R D := fun y x h => match kvN h x, tkOf y with
  | some kd, some k => .ok (.bl (getN kd k).isSome) h
  | _, _ => .stuck
def oNnin [Wd] : D → D → Hv → R D := fun y x h => match kvN h x, tkOf y with
  | some kd, some k => .ok (.bl (!(getN kd k).isSome)) h
  | _, _ => .stuck
end
section
variable {X : Cx} {W : WX} {o i value : Expr} {fo fi fv : ES} {pos pos' apos cpos : Pos}
theorem sn_nin [Wd] (hw : X.w = Wd.w) {ty td : TE} {neg : Bool} (h2 : Sn X.K (repV X.K) W ty fi) (k2 : Sn X.K (repV X.K) W td fo) : Sn X.K (repV X.K) W (tNIn X.w X.K neg ty td) (eOp (if neg then oNnin else oNin) fi fo) := ⟨fun rl rs post =>
  h2.bind rl rs post fun y h1 v φ1 S1 H1 rl1 rs1 st rp post =>
  k2.bind rl1 rs1 post fun x h2 u φ2 S2 H2 rl2 rs2 st2 rp2 post => by
    have rv : Rp X.K φ2 S2 v y := Rp.mono st2.prefix st2.sub rp
    cases qx : kvN h2 x with
    | none => cases neg <;> simp only [Bool.false_eq_true, if_false, if_true, oNin, oNnin, qx] at post <;> exact post.elim
    | some kd =>
      cases qk : tkOf y with
      | none => cases neg <;> simp only [Bool.false_eq_true, if_false, if_true, oNin, oNnin, qx, qk] at post <;> exact post.elim
      | some k =>
        obtain ⟨n, a, a', xs, rfl, hn, hc, rfl, ha, rn⟩ := kvN_ok rl2 rp2 qx
        obtain ⟨b, rfl, rb, hk⟩ := tkOf_ok rv qk
        refine ⟨a, a', xs, b, k, rfl, rfl, by rw [hw]; exact ha, rn.nks rl2.sub, ⟨S2, rl2.sub, rb⟩, hk, ?_⟩
        rw [rn.is k]
        cases neg with
        | false =>
          simp only [oNin, qx, qk, Bool.false_eq_true, if_false] at post ⊢
          exact post _ φ2 S2 H2 rl2 (Step.refl _ _ _) (.bl _)
        | true =>
          simp only [oNnin, qx, qk, if_true] at post ⊢
          exact post _ φ2 S2 H2 rl2 (Step.refl _ _ _) (.bl _)⟩
theorem se_nin [Wd] (hu : X.A.units + 9 < cLine) (hi : SE X W i fi) (ho : SE X W o fo) (hw : X.w = Wd.w := by rfl) (hm : behindInMarks .In o = false := by rfl) : SE X W (.Compare i [.In] [o] pos) (eOp oNin fi fo) := by
  obtain ⟨ti, h1, h2⟩ := hi
  obtain ⟨to, k1, k2⟩ := ho
  exact ⟨_, pe_cmp (pc_nin hu h1 k1) hm, sn_nin (neg := false) hw h2 k2⟩
theorem se_nnin [Wd] (hu : X.A.units + 9 < cLine) (hi : SE X W i fi) (ho : SE X W o fo) (hw : X.w = Wd.w := by rfl) (hm : behindInMarks .NotIn o = false := by rfl) : SE X W (.Compare i [.NotIn] [o] pos) (eOp oNnin fi fo) := by
  obtain ⟨ti, h1, h2⟩ := hi
  obtain ⟨to, k1, k2⟩ := ho
  exact ⟨_, pe_cmp (pc_nnotin hu h1 k1) hm, sn_nin (neg := true) hw h2 k2⟩
theorem st_nin [Wd] (hu : X.A.units + 9 < cLine) (hi : SE X W i fi) (ho : SE X W o fo) (hw : X.w = Wd.w := by rfl) (hm : behindInMarks .In o = false := by rfl) : ST X W (.Compare i [.In] [o] pos) (toB (eOp oNin fi fo)) := by
  obtain ⟨ti, h1, h2⟩ := hi
  obtain ⟨to, k1, k2⟩ := ho
  exact ⟨_, pt_cmp (pc_nin hu h1 k1) hm, sn_B (sn_nin (neg := false) hw h2 k2)⟩
theorem st_nnin [Wd] (hu : X.A.units + 9 < cLine) (hi : SE X W i fi) (ho : SE X W o fo) (hw : X.w = Wd.w := by rfl) (hm : behindInMarks .NotIn o = false := by rfl) : ST X W (.Compare i [.NotIn] [o] pos) (toB (eOp oNnin fi fo)) := by
  obtain ⟨ti, h1, h2⟩ := hi
  obtain ⟨to, k1, k2⟩ := ho
  exact ⟨_, pt_cmp (pc_nnotin hu h1 k1) hm, sn_B (sn_nin (neg := true) hw h2 k2)⟩
/-- d[i] = v -/
def kNp3 [Wd] (d x y : D) (σ : VS) (h : Hv) : RS := match x, tkOf y with
  | .cell n, some k => (match h[n]? with
    | some (.dN w kd) => @ite _ (w = Wd.w ∧ kd.length < 16777216) (Classical.propDecidable _) (.next σ (h.set n (.dN w (putN kd k d)))) .stuck
    | _ => .stuck)
  | _, _ => .stuck
def kNp2 [Wd] (fi : ES) (σ : VS) (d x : D) (h : Hv) : RS := (fi σ h).then σ fun y h3 => kNp3 d x y σ h3
def kNp1 [Wd] (fo fi : ES) (σ : VS) (d : D) (h : Hv) : RS := (fo σ h).then σ (kNp2 fi σ d)
def sNput [Wd] (fv fo fi : ES) : SS := fun σ h => (fv σ h).then σ (kNp1 fo fi σ)
theorem qs_nput [Wd] (hu : X.A.units + 9 < cLine) (hv : SE X W value fv) (ho : SE X W o fo) (hi : SE X W i fi) (hw : X.w = Wd.w := by rfl) (hs : swapsWith value (some (.Subscript o i pos')) pos.line X.env = pure false := by rfl) : QS X W (.Assign [.Subscript o i pos'] value pos) (sNput fv fo fi) := by
  obtain ⟨tv, h1, h2⟩ := hv
  obtain ⟨to, k1, k2⟩ := ho
  obtain ⟨ti, l1, l2⟩ := hi
  refine ⟨_, ps_nput hu k1 l1 h1 hs, ⟨fun rl rs post =>
    h2.thenS rl rs post fun d h1 v φ1 S1 H1 rl1 rs1 st1 rp1 post =>
    k2.thenS rl1 rs1 post fun x h2 u φ2 S2 H2 rl2 rs2 st2 rp2 post =>
    l2.thenS rl2 rs2 post fun y h3 w φ3 S3 H3 rl3 rs3 st3 rp3 post => ?_⟩⟩
  unfold kNp3 at post
  cases qk : tkOf y with
  | none => cases x <;> (simp only [qk] at post; exact post.elim)
  | some k =>
    cases x with
    | cell n =>
      cases hx : h3[n]? with
      | none => simp only [qk, hx] at post; exact post.elim
      | some c =>
        cases c with
        | dN w0 kd =>
          simp only [qk, hx] at post
          split at post
          · next q =>
            obtain ⟨rfl, hl⟩ := q
            cases (show Rp X.K φ2 S2 u (.cell n) from rp2) with
            | @cell a _ ha =>
              have ha3 := st3.prefix.at ha
              obtain ⟨_, o', ho', rc⟩ := rl3.cel n a _ ha3 hx
              obtain ⟨a', xs, rfl, g1, g2, g3⟩ := rc
              have rn : RpN X.K φ3 S3 xs kd := .of g1 g2 g3
              obtain ⟨b, rfl, rb, hk⟩ := tkOf_ok rp3 qk
              have rv : Rp X.K φ3 S3 v d := Rp.mono st3.prefix st3.sub (Rp.mono st2.prefix st2.sub rp1)
              have rk2 := (rn.put k rb rv).to
              obtain ⟨r4, s4⟩ := rl3.put (o := NDO Wd.w a' (putX xs k b v)) (c := .dN Wd.w (putN kd k d)) ha3 ⟨a', _, rfl, rk2.1, rk2.2.1, rk2.2.2⟩
              refine ⟨a, a', xs, b, k, rfl, rfl, by rw [hw]; exact ho', rn.nks rl3.sub, ⟨S3, rl3.sub, rb⟩, hk, by rw [rn.len, line_eq]; exact hl, ?_⟩
              rw [hw]
              exact post _ φ3 S3 _ r4 (rs3.step s4) s4
          · exact post.elim
        | _ => simp only [qk, hx] at post; exact post.elim
    | _ => simp only [qk] at post; exact post.elim
/-- {} -/
def eNnew [Wd] : ES := fun _ h => .ok (.cell h.length) (h ++ [.dN Wd.w []])
theorem se_nnew [Wd] (hw : X.w = Wd.w := by rfl) : SE X W (.Dict [] [] pos) eNnew := ⟨_, pe_nnew, ⟨fun {φ S H h σv σ Q} rl rs post => fun p hp => by
  rw [hw]
  obtain ⟨r2, s2⟩ := rl.hold (o := NDO Wd.w p []) hp
  have r3 := r2.celled (c := .dN Wd.w []) upd_same (rl.snone hp) (rl.notin hp) ⟨p, [], rfl, rfl, (fun x hx => by cases hx), .nil⟩
  exact post (.ref p) _ _ _ r3 (s2.celled hp) (.cell (by rw [← rl.len, List.getElem?_append_right (Nat.le_refl _), Nat.sub_self]; rfl))⟩⟩
/-- {k: v} -/
def kNd2 [Wd] (y d : D) (h : Hv) : R D := match tkOf y with
  | some k => .ok (.cell h.length) (h ++ [.dN Wd.w [(k, d)]])
  | none => .stuck
def kNd1 [Wd] (fv : ES) (σ : VS) (y : D) (h : Hv) : R D := (fv σ h).bind (kNd2 y)
def eNdisp [Wd] (fi fv : ES) : ES := fun σ h => (fi σ h).bind (kNd1 fv σ)
theorem Sn.from {α β γ δ : Type} {K : PySem.W.Frag} {rep : Rep α β} {rep2 : Rep γ δ} {t : L2.St → Hp → (β → Hp → Prop) → Prop} {ea : VS → Hv → R α} {f : α → Hv → R γ}
    {φ φ0 : List Addr} {S H S0 H0 : Hp} {h : Hv} {σv : VS} {σ : L2.St} {Q : δ → Hp → Prop} {Q1 : β → Hp → Prop}
    (ha : Sn K rep W t ea) (s0 : Step φ S H φ0 S0 H0) (rl : Rel K φ0 S0 H0 h) (rs : RelS K φ0 S0 σv σ) (post : Post K rep2 φ S H ((ea σv h).bind f) Q (fun c d H' => W c d σ H'))
    (k : ∀ a h1 b φ1 S1 H1, Rel K φ1 S1 H1 h1 → RelS K φ1 S1 σv σ → Step φ0 S0 H0 φ1 S1 H1 → rep H0 φ1 S1 H1 b a → Post K rep2 φ S H (f a h1) Q (fun c d H' => W c d σ H') → Q1 b H1) : t σ H0 Q1 := by
  refine ha.run rl rs ?_
  cases q : ea σv h with
  | ok a h1 =>
    rw [q] at post
    exact fun b φ1 S1 H1 rl1 st rp => k a h1 b φ1 S1 H1 rl1 (rs.step st) st rp post
  | exc x h1 =>
    rw [q] at post
    exact fun cls dd φ' S' H' r st rx => post cls dd φ' S' H' r (s0.trans st) rx
  | stuck =>
    rw [q] at post
    exact post
theorem step_out {φ φ' : List Addr} {S H S' H' : Hp} (st : Step φ S H φ' S' H') {p : Addr} (hp : H p ≠ none) (np : p ∉ φ) : p ∉ φ' := by
  obtain ⟨ψ, e, hn⟩ := st.pre
  rw [e]
  intro z
  rcases List.mem_append.mp z with z | z
  · exact np z
  · exact hp (hn p z)
theorem se_ndisp [Wd] (hu : X.A.units + 9 < cLine) (hi : SE X W i fi) (hv : SE X W value fv) (hw : X.w = Wd.w := by rfl) : SE X W (.Dict [some i] [value] pos) (eNdisp fi fv) := by
  obtain ⟨ti, k1, k2⟩ := hi
  obtain ⟨tv, l1, l2⟩ := hv
  refine ⟨_, pe_ndisp hu k1 l1, ⟨fun {φ S H h σv σ Q} rl rs post p hp => ?_⟩⟩
  obtain ⟨r0, s0⟩ := rl.hold (o := NDO X.w p []) hp
  have sp := rl.snone hp
  have np := rl.notin hp
  refine k2.from s0 r0 (rs.step s0) post fun y h1 u φ1 S1 H1 rl1 rs1 st1 rp1 post1 => ?_
  refine l2.from (s0.trans st1) rl1 rs1 post1 fun d h2 v φ2 S2 H2 rl2 rs2 st2 rp2 post2 => ?_
  unfold kNd2 at post2
  have sa := st1.trans st2
  have h0 : upd H p (NDO X.w p []) p ≠ none := by rw [upd_same]; exact fun z => nomatch z
  have np2 := step_out sa h0 np
  have hp2 : H2 p = some (NDO X.w p []) := sa.keep p _ upd_same np
  have sp2 : S2 p = none := (sa.old p h0).trans sp
  cases qk : tkOf y with
  | none => simp only [qk] at post2; exact post2.elim
  | some k =>
    simp only [qk] at post2
    obtain ⟨b, rfl, rb, hk⟩ := tkOf_ok (Rp.mono st2.prefix st2.sub rp1) qk
    refine ⟨hp2, b, k, rfl, ⟨S2, rl2.sub, rb⟩, hk, ?_⟩
    have r4 := (upd_rel (o := NDO X.w p [(k, b, v)]) rl2 sp2 np2).celled (c := .dN Wd.w [(k, d)]) upd_same sp2 np2 ⟨p, [(k, b, v)], by rw [hw], rfl, (fun x hx => by rw [List.mem_singleton.mp hx]; exact rb), .cons rp2 .nil⟩
    exact post2 (.ref p) _ _ _ r4 ((upd_step (s0.trans sa) hp).celled hp) (.cell (by rw [← rl2.len, List.getElem?_append_right (Nat.le_refl _), Nat.sub_self]; rfl))
/-! d.pop(k) -/
def kNq2 [Wd] (x y : D) (h : Hv) : R D := match kvN h x, x, tkOf y with
  | some kd, .cell n, some k => (match getN kd k with
    | some d => .ok d (h.set n (.dN Wd.w (dropN kd k)))
    | none => .stuck)
  | _, _, _ => .stuck
def kNq1 [Wd] (fi : ES) (σ : VS) (x : D) (h : Hv) : R D := match kvN h x with
  | some _ => (fi σ h).bind (kNq2 x)
  | none => .stuck
def eNpop [Wd] (fo fi : ES) : ES := fun σ h => (fo σ h).bind (kNq1 fi σ)
theorem se_npop [Wd] (hu : X.A.units + 9 < cLine) (ho : SE X W o fo) (hi : SE X W i fi) (hw : X.w = Wd.w := by rfl) (hbase : attributeBase o "pop" X.env (eval o X.env) = eval o X.env := by rfl)
    (hfew : ((backTo cpos (starEach [i] X.env)).all (fun x => !x.1) && (backToKw cpos (keywordEach [] X.env)).all (fun x => x.1.isSome) && decide (([i] : List Expr).length + ([] : List Keyword).length + (if ([] : List Keyword).isEmpty then 0 else 1) < 30)) = true := by rfl)
    (hline : (apos.endLine == cpos.line) = true := by rfl) (htr : backTo cpos (starEach [i] X.env) = [(false, eval i X.env)] := by rfl) : SE X W (.Call (.Attribute o "pop" apos) [i] [] cpos) (eNpop fo fi) := by
  obtain ⟨to, h1, h2⟩ := ho
  obtain ⟨ti, k1, k2⟩ := hi
  refine ⟨_, pe_npop hu h1 k1 ⟨hbase, hfew, hline, htr⟩, ⟨fun rl rs post => h2.bind rl rs post fun x h1 v φ1 S1 H1 rl1 rs1 st rp post => ?_⟩⟩
  unfold kNq1 at post
  cases qx : kvN h1 x with
  | none => simp only [qx] at post; exact post.elim
  | some kd0 =>
    simp only [qx] at post
    obtain ⟨n, a, a', xs0, rfl, hn, hc, rfl, ha, rn0⟩ := kvN_ok rl1 rp qx
    refine ⟨a, rfl, ⟨a', xs0, by rw [hw]; exact ha⟩, k2.bind rl1 rs1 post fun y h2 u φ2 S2 H2 rl2 rs2 st2 rp2 post => ?_⟩
    unfold kNq2 at post
    cases qx2 : kvN h2 (.cell n) with
    | none => simp only [qx2] at post; exact post.elim
    | some kd =>
      cases qk : tkOf y with
      | none => simp only [qx2, qk] at post; exact post.elim
      | some k =>
        simp only [qx2, qk] at post
        have hn2 := st2.prefix.at hn
        obtain ⟨n', a2, a'', xs, en, hn', hc2, ea, ha2, rn⟩ := kvN_ok rl2 (Rp.mono st2.prefix st2.sub rp) qx2
        cases en
        cases ea
        cases qg : getN kd k with
        | none => simp only [qg] at post; exact post.elim
        | some d =>
          simp only [qg] at post
          obtain ⟨b, rfl, rb, hk⟩ := tkOf_ok rp2 qk
          rcases rn.get k with ⟨g1, _⟩ | ⟨d', w, g1, g2, rd⟩
          · rw [qg] at g1; cases g1
          · rw [qg] at g1
            cases g1
            have rk2 := (rn.drop k).to
            obtain ⟨r4, s4⟩ := rl2.put (o := NDO Wd.w a'' (dropX xs k)) (c := .dN Wd.w (dropN kd k)) hn2 ⟨a'', _, rfl, rk2.1, rk2.2.1, rk2.2.2⟩
            refine ⟨a'', xs, b, k, w, rfl, by rw [hw]; exact ha2, rn.nks rl2.sub, ⟨S2, rl2.sub, rb⟩, hk, g2, ?_⟩
            rw [hw]
            exact post w φ2 S2 _ r4 s4 rd
end
/-! ### by rewriting -/
section
variable [Wd] {σ : VS} {h : Hv} {f g k : ES} {d x y : D}
@[simp] theorem kvN_cell {n : Nat} : kvN h (.cell n) = (match h[n]? with
    | some (.dN w kd) => @ite _ (w = Wd.w) (Classical.propDecidable _) (some kd) none
    | _ => none) := rfl
@[simp] theorem oNin_ap : oNin y x h = (match kvN h x, tkOf y with
  | some kd, some k => .ok (.bl (getN kd k).isSome) h
  | _, _ => .stuck) := rfl
@[simp] theorem oNnin_ap : oNnin y x h = (match kvN h x, tkOf y with
  | some kd, some k => .ok (.bl (!(getN kd k).isSome)) h
  | _, _ => .stuck) := rfl
@[simp] theorem sNput_ap : sNput f g k σ h = (f σ h).then σ (kNp1 g k σ) := rfl
@[simp] theorem kNp1_ap : kNp1 g k σ d h = (g σ h).then σ (kNp2 k σ d) := rfl
@[simp] theorem kNp2_ap : kNp2 k σ d x h = (k σ h).then σ fun y h3 => kNp3 d x y σ h3 := rfl
@[simp] theorem kNp3_ap {n : Nat} : kNp3 d (.cell n) y σ h = (match tkOf y with
  | some k => (match h[n]? with
    | some (.dN w kd) => @ite _ (w = Wd.w ∧ kd.length < 16777216) (Classical.propDecidable _) (.next σ (h.set n (.dN w (putN kd k d)))) .stuck
    | _ => .stuck)
  | none => .stuck) := by
  unfold kNp3
  cases tkOf y <;> rfl
@[simp] theorem eNnew_ap : eNnew σ h = .ok (.cell h.length) (h ++ [.dN Wd.w []]) := rfl
@[simp] theorem eNdisp_ap : eNdisp f g σ h = (f σ h).bind (kNd1 g σ) := rfl
@[simp] theorem kNd1_ap : kNd1 g σ y h = (g σ h).bind (kNd2 y) := rfl
@[simp] theorem kNd2_ap : kNd2 y d h = (match tkOf y with
  | some k => .ok (.cell h.length) (h ++ [.dN Wd.w [(k, d)]])
  | none => .stuck) := rfl
@[simp] theorem eNpop_ap : eNpop f g σ h = (f σ h).bind (kNq1 g σ) := rfl
@[simp] theorem kNq1_ap : kNq1 g σ x h = (match kvN h x with
  | some _ => (g σ h).bind (kNq2 x)
  | none => .stuck) := rfl
end
end
end VD

set_option Elab.async false
set_option linter.all false
set_option maxRecDepth 100000
set_option maxHeartbeats 4000000
namespace VD
open PySem PySem.Spec PyProof.Rows L2
open PySem.SeqAt (RcLt EqAt firstLt firstLt_yes firstLt_no)
open PySem.W (KatTups KatLex kat_nil kat_cons kat_yes kat_no kat_lt kat_kind kas_kind)
noncomputable section
/-! ### what sorting compares: numbers, texts, ranks, pairs of ranks -/
inductive At where
  | i (n : Int) | t (x : Str)
  deriving DecidableEq
/-- a place of a rank: (0, value), or (1, 0) for what lacks -/
abbrev RkE := Option At
inductive SK where
  | one (a : At) | rk (r : List RkE) | pr (r u : List RkE)
  deriving DecidableEq
abbrev It := Int ⊕ List Nat
def At.p : At → PyData
  | .i n => .int n
  | .t x => .str x
def rkeP : RkE → PyData
  | none => .tuple [.int 1, .int 0]
  | some a => .tuple [.int 0, a.p]
def rkP (r : List RkE) : PyData := .list (r.map rkeP)
def SK.p : SK → PyData
  | .one a => a.p
  | .rk r => rkP r
  | .pr r u => .tuple [rkP r, rkP u]
def At.k : At → It
  | .i n => .inl n
  | .t x => .inr x.cps.toList
def rkeT : RkE → List It
  | none => [.inl 1]
  | some a => [.inl 0, a.k]
def rkT : List RkE → List It
  | [] => []
  | e :: r => rkeT e ++ rkT r
def SK.k : SK → List It
  | .one a => [a.k]
  | .rk r => rkT r
  | .pr r u => rkT r ++ .inl (-1) :: rkT u
def At.same : At → At → Bool
  | .i _, .i _ => true
  | .t _, .t _ => true
  | _, _ => false
def rkeS : RkE → RkE → Bool
  | some a, some b => a.same b
  | _, _ => true
def rkS : List RkE → List RkE → Bool
  | a :: r, b :: u => rkeS a b && rkS r u
  | _, _ => true
def SK.same : SK → SK → Bool
  | .one a, .one b => a.same b
  | .rk r, .rk u => rkS r u
  | .pr r u, .pr r' u' => rkS r r' && rkS u u'
  | _, _ => false
abbrev lx (a b : List It) : Bool := PyProof.Rows.lexLt itemOrd a b
/-! the rows of signs -/
theorem lx_self (x : It) (l m : List It) : lx (x :: l) (x :: m) = lx l m := lex_self (O := itemOrd) x l m
theorem lx_diff {x y : It} (h : x ≠ y) (l m : List It) : lx (x :: l) (y :: m) = itemLt x y := lex_diff (O := itemOrd) h
theorem lx_refl (l : List It) : lx l l = false := lex_irrefl (O := itemOrd) l
theorem lx_pre : ∀ (p a b : List It), lx (p ++ a) (p ++ b) = lx a b
  | [], _, _ => rfl
  | x :: p, a, b => (lx_self x (p ++ a) (p ++ b)).trans (lx_pre p a b)
theorem lx_one {x y : It} : lx [x] [y] = itemLt x y := by
  by_cases e : x = y
  · subst e
    rw [lx_refl]
    exact (itemOrd.irrefl x).symm
  · exact lx_diff e _ _
theorem At.k_inj {a b : At} (h : a.k = b.k) : a = b := by
  cases a with
  | i n =>
    cases b with
    | i m => exact congrArg At.i (Sum.inl.inj h)
    | t y => cases h
  | t x =>
    cases b with
    | i m => cases h
    | t y => exact congrArg At.t (PySem.W.str_of_cps (Sum.inr.inj h))
theorem rkeT_diff {a b : RkE} (h : a ≠ b) (l m : List It) : lx (rkeT a ++ l) (rkeT b ++ m) = lx (rkeT a) (rkeT b) := by
  cases a with
  | none =>
    cases b with
    | none => exact absurd rfl h
    | some y =>
      show lx (.inl 1 :: l) (.inl 0 :: (y.k :: m)) = lx [.inl 1] (.inl 0 :: [y.k])
      rw [lx_diff (by decide), lx_diff (by decide)]
  | some x =>
    cases b with
    | none =>
      show lx (.inl 0 :: (x.k :: l)) (.inl 1 :: m) = lx (.inl 0 :: [x.k]) [.inl 1]
      rw [lx_diff (by decide), lx_diff (by decide)]
    | some y =>
      have hk : x.k ≠ y.k := fun z => h (congrArg some (At.k_inj z))
      show lx (.inl 0 :: (x.k :: l)) (.inl 0 :: (y.k :: m)) = lx (.inl 0 :: [x.k]) (.inl 0 :: [y.k])
      rw [lx_self, lx_self, lx_diff hk, lx_diff hk]
theorem rkeT_ne (a : RkE) : ∃ x l, rkeT a = x :: l := by cases a <;> exact ⟨_, _, rfl⟩
theorem firstLt_up (e r : Nat → Bool) (z : Bool) : ∀ l : List Nat, firstLt e r z (l.map (· + 1)) = firstLt (fun j => e (j + 1)) (fun j => r (j + 1)) z l
  | [] => rfl
  | j :: l => by
    rw [List.map_cons]
    show (if e (j + 1) = true then firstLt e r z (l.map (· + 1)) else r (j + 1)) = (if e (j + 1) = true then firstLt (fun j => e (j + 1)) (fun j => r (j + 1)) z l else r (j + 1))
    rw [firstLt_up e r z l]
def eAt (r u : List RkE) (j : Nat) : Bool := decide (r.getD j none = u.getD j none)
def lAt (r u : List RkE) (j : Nat) : Bool := lx (rkeT (r.getD j none)) (rkeT (u.getD j none))
theorem first_rk : ∀ r u : List RkE, firstLt (eAt r u) (lAt r u) (decide (r.length < u.length)) (List.range (min r.length u.length)) = lx (rkT r) (rkT u)
  | [], [] => rfl
  | [], b :: u => by
    obtain ⟨x, l, e⟩ := rkeT_ne b
    show decide (0 < u.length + 1) = lx [] (rkeT b ++ rkT u)
    rw [e, decide_eq_true (Nat.succ_pos _)]; rfl
  | a :: r, [] => by
    obtain ⟨x, l, e⟩ := rkeT_ne a
    show decide (r.length + 1 < 0) = lx (rkeT a ++ rkT r) []
    rw [e, decide_eq_false (Nat.not_lt_zero _)]; rfl
  | a :: r, b :: u => by
    have e1 : min (a :: r).length (b :: u).length = min r.length u.length + 1 := by rw [List.length_cons, List.length_cons]; omega
    rw [e1, List.range_succ_eq_map]
    have ih := first_rk r u
    have e2 : decide ((a :: r).length < (b :: u).length) = decide (r.length < u.length) := by rw [List.length_cons, List.length_cons]; exact decide_eq_decide.mpr (by omega)
    rw [e2]
    by_cases h : a = b
    · subst h
      rw [firstLt_yes (show eAt (a :: r) (a :: u) 0 = true from decide_eq_true rfl)]
      show firstLt _ _ _ ((List.range _).map (· + 1)) = _
      rw [firstLt_up]
      show firstLt (eAt r u) (lAt r u) _ _ = _
      rw [ih]
      exact (lx_pre (rkeT a) (rkT r) (rkT u)).symm
    · rw [firstLt_no (show eAt (a :: r) (b :: u) 0 = false from decide_eq_false h)]
      exact (rkeT_diff h (rkT r) (rkT u)).symm
/-! values that read as such data -/
theorem At.plain (a : At) : a.p.plain = true := by cases a <;> rfl
theorem rke_plain (e : RkE) : (rkeP e).plain = true := by
  cases e with
  | none => rfl
  | some a => cases a <;> rfl
theorem rkes_plain : ∀ r : List RkE, PyData.plainAll (r.map rkeP) = true
  | [] => rfl
  | e :: r => by
    rw [List.map_cons]
    show ((rkeP e).plain && PyData.plainAll (r.map rkeP)) = true
    rw [rke_plain, rkes_plain r]; rfl
theorem rk_plain (r : List RkE) : (rkP r).plain = true := rkes_plain r
theorem SK.plain (k : SK) : k.p.plain = true := by
  cases k with
  | one a => exact a.plain
  | rk r => exact rk_plain r
  | pr r u =>
    show ((rkP r).plain && ((rkP u).plain && true)) = true
    rw [rk_plain, rk_plain]; rfl
theorem At.p_inj {a b : At} (h : a.p = b.p) : a = b := by
  cases a <;> cases b <;> first | (injection h with h; subst h; rfl) | cases h
theorem rke_inj {a b : RkE} (h : rkeP a = rkeP b) : a = b := by
  cases a with
  | none =>
    cases b with
    | none => rfl
    | some y => injection h with h; injection h with h _; injection h with h; cases h
  | some x =>
    cases b with
    | none => injection h with h; injection h with h _; injection h with h; cases h
    | some y =>
      injection h with h
      injection h with _ h
      injection h with h _
      exact congrArg some (At.p_inj h)
theorem rkes_inj : ∀ {r u : List RkE}, r.map rkeP = u.map rkeP → r = u
  | [], [], _ => rfl
  | [], _ :: _, h => by cases h
  | _ :: _, [], h => by cases h
  | a :: r, b :: u, h => by
    rw [List.map_cons, List.map_cons] at h
    injection h with h1 h2
    rw [rke_inj h1, rkes_inj h2]
theorem rk_inj {r u : List RkE} (h : rkP r = rkP u) : r = u := by
  injection h with h
  exact rkes_inj h
theorem SK.p_inj {a b : SK} (h : a.p = b.p) : a = b := by
  cases a with
  | one x =>
    cases b with
    | one y => exact congrArg SK.one (At.p_inj h)
    | rk u => cases x <;> cases h
    | pr u v => cases x <;> cases h
  | rk r =>
    cases b with
    | one y => cases y <;> cases h
    | rk u => exact congrArg SK.rk (rk_inj h)
    | pr u v => cases h
  | pr r v =>
    cases b with
    | one y => cases y <;> cases h
    | rk u => cases h
    | pr u w =>
      injection h with h
      injection h with h1 h2
      injection h2 with h2 _
      rw [rk_inj h1, rk_inj h2]
theorem eqv_at (a b : At) : PyData.eqv a.p b.p = decide (a = b) := by
  cases a with
  | i n =>
    cases b with
    | i m => simp [At.p, PyData.eqv]; exact Bool.beq_eq_decide_eq _ _
    | t y => simp [At.p, PyData.eqv]
  | t x =>
    cases b with
    | i m => simp [At.p, PyData.eqv]
    | t y => simp [At.p, PyData.eqv]; rw [Bool.eq_iff_iff, beq_iff_eq, decide_eq_true_eq]
theorem eqv_rke (a b : RkE) : PyData.eqv (rkeP a) (rkeP b) = decide (a = b) := by
  cases a with
  | none =>
    cases b with
    | none => simp [rkeP, PyData.eqv, PyData.eqvAll]
    | some y => cases y <;> simp [rkeP, At.p, PyData.eqv, PyData.eqvAll]
  | some x =>
    cases b with
    | none => cases x <;> simp [rkeP, At.p, PyData.eqv, PyData.eqvAll]
    | some y =>
      have := eqv_at x y
      have e : PyData.eqv (rkeP (some x)) (rkeP (some y)) = (PyData.eqv (.int 0) (.int 0) && (PyData.eqv x.p y.p && true)) := by cases x <;> cases y <;> (simp [rkeP, At.p, PyData.eqv, PyData.eqvAll])
      rw [e, this]
      simp [PyData.eqv]
theorem rke_depth (e : RkE) : (rkeP e).depth ≤ 1 := by
  cases e with
  | none => decide
  | some a => cases a <;> (simp [rkeP, At.p, PyData.depth, PyData.depthAll])
theorem rkes_depth : ∀ r : List RkE, PyData.depthAll (r.map rkeP) ≤ 1
  | [] => Nat.zero_le _
  | e :: r => by
    rw [List.map_cons]
    show max (rkeP e).depth (PyData.depthAll (r.map rkeP)) ≤ 1
    have := rke_depth e
    have := rkes_depth r
    omega
theorem rk_depth (r : List RkE) : (rkP r).depth ≤ 2 := by
  show PyData.depthAll (r.map rkeP) + 1 ≤ 2
  have := rkes_depth r
  omega
theorem SK.depth (k : SK) : k.p.depth ≤ 3 := by
  cases k with
  | one a => cases a <;> exact Nat.zero_le _
  | rk r => exact Nat.le_trans (rk_depth r) (by decide)
  | pr r u =>
    show max (rkP r).depth (max (rkP u).depth 0) + 1 ≤ 3
    have := rk_depth r
    have := rk_depth u
    omega
/-! the first of two unlike firsts decides -/
section
open PySem.SeqAt
open PySem.AutoSeq1 (wpAny_loadPart')
open PySem.MeetsSeq PySem.MeetsSeq2 PySem.MeetsSeq3
theorem two_head (l b : Addr) (n n2 : Nat) (dd dd2 : Option Addr) (sl sl2 : Array (Option Value)) (x0 x1 y0 y1 : Value) (r : Bool) :
    Meets (Builtin.«tuple.__lt__» ⟨[.ref l, .ref b], []⟩) (fun A R s => s.heap.get? l = some { cls := .type "tuple", dict := dd, data := .seq #[x0, x1] n, slots := sl } ∧
      s.heap.get? b = some { cls := .type "tuple", dict := dd2, data := .seq #[y0, y1] n2, slots := sl2 } ∧ EqAt A.in1 s x0 y0 false ∧ RcLt A.in1 s x0 y0 r ∧ R (.ok (.ret (.bool r))) s) :=
  .of_wp fun prog w A R s hall => by
    obtain ⟨hp, g, d, tk, os⟩ := s
    obtain ⟨gl, gb, ge, gr, gR⟩ := hall
    have two := AutoSeq1.sub_tuple_tuple
    wp_walk using wpAny_loadPart' gl, wpAny_loadPart' gb, wpAny_forIn_list _ (fun rest b s' => b.1 = none ∧ s' = ⟨hp, g, d, tk, os⟩ ∧ rest = [(x0, y0), (x1, y1)]) _
    case turn =>
      rintro ⟨p, q⟩ rest b s' ⟨b0, rfl, e0⟩
      injection e0 with e1 e2
      injection e1 with e3 e4
      subst e3 e4 e2
      refine wpAny_bind (ge prog w _ _ ?_)
      have lt0 := gr prog w
      wp_walk using lt0
      exact ⟨_, rfl, by simpa using gR⟩
    case fin =>
      rintro ⟨b1, b2⟩ s' ⟨b0, rfl, e0⟩
      cases e0
    case h => exact ⟨rfl, rfl, rfl⟩
end
theorem lt_head {A : Around} {s : Shared} {l b : Addr} {x0 x1 y0 y1 : Value} {r : Bool} (hl : s.heap.IsTuple l #[x0, x1]) (hb : s.heap.IsTuple b #[y0, y1]) (hu : A.units < cLine) (he : EqAt A.in1 s x0 y0 false) (hr : RcLt A.in1 s x0 y0 r) : RcLt A s (.ref l) (.ref b) r := fun prog w E Q hq => by
  obtain ⟨⟨c1, d1, t1, s1⟩, o1, rfl, n1, rfl⟩ := hl
  obtain ⟨⟨c2, d2, t2, s2⟩, o2, rfl, n2, rfl⟩ := hb
  exact richCompare_meets_room (op := .Lt) ⟨_, o1, rfl⟩ ⟨_, o2, rfl⟩ F.slot_tuple_lt F.entry_tuple_lt (F.args_tuple_lt_2 _ _) (two_head l b n1 n2 d1 d2 s1 s2 x0 x1 y0 y1 r) ⟨o1, o2, he, hr, ⟨(fun z => nomatch z), hq⟩⟩ hu
section
variable {A : Around} {s : Shared}
theorem lt_at {a b : At} {u v : Value} {as bs : List Addr} (ra : Reads s.heap u a.p as) (rb : Reads s.heap v b.p bs) (h : a.same b = true) : RcLt A s u v (itemLt a.k b.k) := by
  cases a with
  | i n =>
    cases b with
    | i m =>
      cases ra
      cases rb
      exact fun prog w E Q hq => PyProof.Rows.lt_int hq
    | t y => cases h
  | t x =>
    cases b with
    | i m => cases h
    | t y =>
      cases ra
      cases rb
      exact fun prog w E Q hq => PyProof.Rows.lt_str hq
theorem reads2 {h : Heap} {u : Value} {x y : PyData} {as : List Addr} (r : Reads h u (.tuple [x, y]) as) : ∃ l v0 v1 bs cs, u = .ref l ∧ h.IsTuple l #[v0, v1] ∧ Reads h v0 x bs ∧ Reads h v1 y cs := by
  cases r with
  | @tuple a o vs n xs as h1 h2 h3 h4 =>
    obtain ⟨l⟩ := vs
    cases h4 with
    | cons r0 t =>
      cases t with
      | cons r1 t =>
        cases t
        exact ⟨a, _, _, _, _, rfl, ⟨o, h1, h2, n, h3⟩, r0, r1⟩
theorem eq_plain {x y : PyData} {u v : Value} {as bs : List Addr} {r : Bool} (ra : Reads s.heap u x as) (rb : Reads s.heap v y bs) (px : x.plain = true) (py : y.plain = true) (hu : A.units + x.depth < cLine) (e : PyData.eqv x y = r) : EqAt A s u v r := by
  subst e
  exact PySem.SeqAt.eqAt_plain x y A s u v as bs ra rb px py (by have := Nat.min_le_left x.depth y.depth; omega)
theorem lt_rke {a b : RkE} {u v : Value} {as bs : List Addr} (ra : Reads s.heap u (rkeP a) as) (rb : Reads s.heap v (rkeP b) bs) (h : rkeS a b = true) (hn : a ≠ b) (hu : A.units + 3 < cLine) : RcLt A s u v (lx (rkeT a) (rkeT b)) := by
  have hu1 : A.in1.units + 0 < cLine := by rw [Around.in1_units]; omega
  cases a with
  | none =>
    cases b with
    | none => exact absurd rfl hn
    | some y =>
      obtain ⟨l, v0, v1, c1, c2, rfl, t1, r0, r1⟩ := reads2 ra
      obtain ⟨l', w0, w1, d1, d2, rfl, t2, q0, q1⟩ := reads2 rb
      have e : lx (rkeT none) (rkeT (some y)) = itemLt (At.i 1).k (At.i 0).k := lx_diff (by decide) _ _
      rw [e]
      exact lt_head t1 t2 (by omega) (eq_plain r0 q0 rfl rfl hu1 (by simp [PyData.eqv])) (lt_at (a := .i 1) (b := .i 0) r0 q0 rfl)
  | some x =>
    cases b with
    | none =>
      obtain ⟨l, v0, v1, c1, c2, rfl, t1, r0, r1⟩ := reads2 ra
      obtain ⟨l', w0, w1, d1, d2, rfl, t2, q0, q1⟩ := reads2 rb
      have e : lx (rkeT (some x)) (rkeT none) = itemLt (At.i 0).k (At.i 1).k := lx_diff (by decide) _ _
      rw [e]
      exact lt_head t1 t2 (by omega) (eq_plain r0 q0 rfl rfl hu1 (by simp [PyData.eqv])) (lt_at (a := .i 0) (b := .i 1) r0 q0 rfl)
    | some y =>
      have hxy : x ≠ y := fun z => hn (congrArg some z)
      obtain ⟨l, v0, v1, c1, c2, rfl, t1, r0, r1⟩ := reads2 ra
      obtain ⟨l', w0, w1, d1, d2, rfl, t2, q0, q1⟩ := reads2 rb
      have hk : x.k ≠ y.k := fun z => hxy (At.k_inj z)
      have e : lx (rkeT (some x)) (rkeT (some y)) = itemLt x.k y.k := by
        show lx (.inl 0 :: [x.k]) (.inl 0 :: [y.k]) = _
        rw [lx_self, lx_diff hk]
      rw [e]
      have z : firstLt (fun j => decide (j = 0)) (fun _ => itemLt x.k y.k) (decide ((#[v0, v1] : Array Value).size < (#[w0, w1] : Array Value).size)) (List.range (min (#[v0, v1] : Array Value).size (#[w0, w1] : Array Value).size)) = itemLt x.k y.k := by
        show firstLt _ _ _ [0, 1] = _
        rw [firstLt_yes rfl, firstLt_no rfl]
      rw [← z]
      refine PySem.SeqAt.RcLt.tuples t1 t2 (by omega) (fun j j1 j2 => ?_) (fun j j1 j2 hj => ?_)
      · match j, j1, j2 with
        | 0, _, _ => exact eq_plain r0 q0 rfl rfl hu1 (by simp [PyData.eqv])
        | 1, _, _ =>
          have d0 : x.p.depth = 0 := by cases x <;> rfl
          exact eq_plain r1 q1 x.plain y.plain (by rw [d0]; exact hu1) (by rw [eqv_at]; exact decide_eq_false hxy)
      · match j, j1, j2 with
        | 0, _, _ => cases hj
        | 1, _, _ => exact lt_at r1 q1 h
theorem readsA_at {h : Heap} : ∀ {r : List RkE} {vs : List Value} {as : List Addr}, ReadsAll h vs (r.map rkeP) as → vs.length = r.length ∧ ∀ j (hj : j < vs.length), ∃ bs, Reads h vs[j] (rkeP (r.getD j none)) bs
  | [], _, _, x => by cases x; exact ⟨rfl, fun j hj => absurd hj (Nat.not_lt_zero _)⟩
  | e :: r, _, _, x => by
    rw [List.map_cons] at x
    cases x with
    | cons x1 x2 =>
      obtain ⟨h1, h2⟩ := readsA_at x2
      refine ⟨by rw [List.length_cons, List.length_cons, h1], fun j hj => ?_⟩
      cases j with
      | zero => exact ⟨_, x1⟩
      | succ j => exact h2 j (Nat.lt_of_succ_lt_succ hj)
theorem rkS_at : ∀ {r u : List RkE}, rkS r u = true → ∀ j, j < r.length → j < u.length → rkeS (r.getD j none) (u.getD j none) = true
  | [], _, _, j, h, _ => absurd h (Nat.not_lt_zero _)
  | _ :: _, [], _, j, _, h => absurd h (Nat.not_lt_zero _)
  | a :: r, b :: u, q, j, h1, h2 => by
    have q : (rkeS a b && rkS r u) = true := q
    rw [Bool.and_eq_true] at q
    cases j with
    | zero => exact q.1
    | succ j => exact rkS_at q.2 j (Nat.lt_of_succ_lt_succ h1) (Nat.lt_of_succ_lt_succ h2)
/-- the facts that two lists' order wants -/
theorem lists_rk {r u : List RkE} {a b : Value} {as bs : List Addr} (ra : Reads s.heap a (rkP r) as) (rb : Reads s.heap b (rkP u) bs) (h : rkS r u = true) (hu : A.units + 5 < cLine) :
    ∃ (l l' : Addr) (vs ws : Array Value), a = .ref l ∧ b = .ref l' ∧ s.heap.IsList l vs ∧ s.heap.IsList l' ws ∧ vs.size = r.length ∧ ws.size = u.length ∧
      (∀ j (h1 : j < vs.size) (h2 : j < ws.size), EqAt A.in1 s vs[j] ws[j] (eAt r u j)) ∧ (∀ j (h1 : j < vs.size) (h2 : j < ws.size), eAt r u j = false → RcLt A.in1 s vs[j] ws[j] (lAt r u j)) := by
  cases ra with
  | @list l o vs n _ as1 h1 h2 h3 h4 =>
    cases rb with
    | @list l' o' ws m _ bs1 k1 k2 k3 k4 =>
      obtain ⟨n1, g1⟩ := readsA_at h4
      obtain ⟨n2, g2⟩ := readsA_at k4
      have n1' : vs.size = r.length := by rw [← n1, Array.length_toList]
      have n2' : ws.size = u.length := by rw [← n2, Array.length_toList]
      refine ⟨l, l', vs, ws, rfl, rfl, ⟨o, h1, h2, n, h3⟩, ⟨o', k1, k2, m, k3⟩, n1', n2', fun j j1 j2 => ?_, fun j j1 j2 hj => ?_⟩
      · obtain ⟨c1, q1⟩ := g1 j (by rw [Array.length_toList]; exact j1)
        obtain ⟨c2, q2⟩ := g2 j (by rw [Array.length_toList]; exact j2)
        have d1 := rke_depth (r.getD j none)
        refine eq_plain (A := A.in1) (by simpa only [Array.getElem_toList] using q1) (by simpa only [Array.getElem_toList] using q2) (rke_plain _) (rke_plain _) (by rw [Around.in1_units]; omega) (by rw [eqv_rke]; rfl)
      · obtain ⟨c1, q1⟩ := g1 j (by rw [Array.length_toList]; exact j1)
        obtain ⟨c2, q2⟩ := g2 j (by rw [Array.length_toList]; exact j2)
        exact lt_rke (A := A.in1) (by simpa only [Array.getElem_toList] using q1) (by simpa only [Array.getElem_toList] using q2) (rkS_at h j (by rw [← n1']; exact j1) (by rw [← n2']; exact j2)) (of_decide_eq_false hj) (by rw [Around.in1_units]; omega)
theorem lt_rk {r u : List RkE} {a b : Value} {as bs : List Addr} (ra : Reads s.heap a (rkP r) as) (rb : Reads s.heap b (rkP u) bs) (h : rkS r u = true) (hu : A.units + 5 < cLine) : RcLt A s a b (lx (rkT r) (rkT u)) := by
  obtain ⟨l, l', vs, ws, rfl, rfl, t1, t2, n1, n2, e, q⟩ := lists_rk ra rb h hu
  rw [← first_rk r u, ← n1, ← n2]
  exact PySem.SeqAt.RcLt.lists t1 t2 (by omega) e q
/-! as sorting compares -/
variable {prog : Program} {w : World} {E : Value → Shared → Prop}
theorem oneLt_rk {r u : List RkE} {a b : Value} {as bs : List Addr} {Q : Bool → Shared → Prop} (ra : Reads s.heap a (rkP r) as) (rb : Reads s.heap b (rkP u) bs) (h : rkS r u = true) (hu : A.units + 5 < cLine) (hq : Q (lx (rkT r) (rkT u)) s) : wpAny (model prog w) A (oneLt' true a b) Q E s := by
  obtain ⟨l, l', vs, ws, rfl, rfl, t1, t2, n1, n2, e, q⟩ := lists_rk ra rb h hu
  rw [← first_rk r u, ← n1, ← n2] at hq
  rw [oneLt'_eq]
  simp only [if_true]
  have ty : s.TypeIs (.ref l) "list" := let ⟨o, h1, h2, _⟩ := t1; ⟨o, h1, h2⟩
  refine wpAny_bind (wpAny_cRoomFor (show A.units < cLine by omega) ?_)
  exact wpAny_bind (wpAny_callSpecialIfBound?_slot (T := "list") ty F.slot_list_lt (PySem.SeqAt.call_list_lt t1 t2 e q (wpAny_truthy_bool hq)))
theorem oneLt_one {x y : At} {a b : Value} {as bs : List Addr} {Q : Bool → Shared → Prop} (ra : Reads s.heap a x.p as) (rb : Reads s.heap b y.p bs) (h : x.same y = true) (hq : Q (itemLt x.k y.k) s) : wpAny (model prog w) A (oneLt' true a b) Q E s := by
  cases x with
  | i n =>
    cases y with
    | i m =>
      cases ra
      cases rb
      exact oneLt_int hq
    | t _ => cases h
  | t n =>
    cases y with
    | i _ => cases h
    | t m =>
      cases ra
      cases rb
      exact oneLt_str hq
theorem oneLt_no {a b : Value} {r : Bool} {Q : Bool → Shared → Prop} (h : RcLt A s a b r) (hq : Q r s) : wpAny (model prog w) A (oneLt' false a b) Q E s := by
  rw [oneLt'_eq]
  simp only [Bool.false_eq_true, if_false]
  exact wpAny_bind (h prog w E _ (wpAny_truthy_bool hq))
theorem eqv_rk : ∀ r u : List RkE, PyData.eqvAll (r.map rkeP) (u.map rkeP) = decide (r = u)
  | [], [] => by simp [PyData.eqvAll]
  | [], b :: u => by simp [PyData.eqvAll]
  | a :: r, [] => by simp [PyData.eqvAll]
  | a :: r, b :: u => by
    have e : PyData.eqvAll ((a :: r).map rkeP) ((b :: u).map rkeP) = (PyData.eqv (rkeP a) (rkeP b) && PyData.eqvAll (r.map rkeP) (u.map rkeP)) := by
      rw [List.map_cons, List.map_cons, PyData.eqvAll]
    rw [e, eqv_rke, eqv_rk r u]
    by_cases h : a = b
    · by_cases k : r = u
      · simp [h, k]
      · simp [h, k]
    · simp [h]
theorem eqv_rkP (r u : List RkE) : PyData.eqv (rkP r) (rkP u) = decide (r = u) := by
  have e : PyData.eqv (rkP r) (rkP u) = PyData.eqvAll (r.map rkeP) (u.map rkeP) := by unfold rkP; rw [PyData.eqv]
  rw [e, eqv_rk]
theorem eq_rk {r u : List RkE} {a b : Value} {as bs : List Addr} (ra : Reads s.heap a (rkP r) as) (rb : Reads s.heap b (rkP u) bs) (hu : A.units + 5 < cLine) : EqAt A s a b (decide (r = u)) :=
  eq_plain ra rb (rk_plain r) (rk_plain u) (by have := rk_depth r; omega) (eqv_rkP r u)
/-- two ranks, the one behind the other -/
theorem lx_pair {r u : List RkE} (h : r ≠ u) (l' m' : List It) : lx (rkT r ++ .inl (-1) :: l') (rkT u ++ .inl (-1) :: m') = lx (rkT r) (rkT u) := by
  induction r generalizing u with
  | nil =>
    cases u with
    | nil => exact absurd rfl h
    | cons b u =>
      have nb : ∀ y t, rkeT b = y :: t → lx ([.inl (-1)] ++ l') (y :: t ++ rkT u ++ .inl (-1) :: m') = true := fun y t e => by
        have hy : (Sum.inl (-1) : It) ≠ y ∧ itemLt (.inl (-1)) y = true := by
          cases b with
          | none => injection e with e _; subst e; exact ⟨by decide, rfl⟩
          | some a => injection e with e _; subst e; exact ⟨by decide, rfl⟩
        show lx (.inl (-1) :: l') (y :: (t ++ rkT u ++ .inl (-1) :: m')) = true
        rw [lx_diff hy.1]
        exact hy.2
      obtain ⟨y, t, e⟩ := rkeT_ne b
      show lx (.inl (-1) :: l') (rkeT b ++ rkT u ++ .inl (-1) :: m') = lx [] (rkeT b ++ rkT u)
      rw [e]
      exact (nb y t e).trans rfl
  | cons a r ih =>
    cases u with
    | nil =>
      obtain ⟨y, t, e⟩ := rkeT_ne a
      have hy : y ≠ (Sum.inl (-1) : It) ∧ itemLt y (.inl (-1)) = false := by
        cases a with
        | none => injection e with e _; subst e; exact ⟨by decide, rfl⟩
        | some a => injection e with e _; subst e; exact ⟨by decide, rfl⟩
      show lx (rkeT a ++ rkT r ++ .inl (-1) :: l') (.inl (-1) :: m') = lx (rkeT a ++ rkT r) []
      rw [e]
      show lx (y :: (t ++ rkT r ++ .inl (-1) :: l')) (.inl (-1) :: m') = lx (y :: (t ++ rkT r)) []
      rw [lx_diff hy.1]
      exact hy.2
    | cons b u =>
      show lx (rkeT a ++ rkT r ++ .inl (-1) :: l') (rkeT b ++ rkT u ++ .inl (-1) :: m') = lx (rkeT a ++ rkT r) (rkeT b ++ rkT u)
      by_cases q : a = b
      · subst q
        rw [List.append_assoc, List.append_assoc, lx_pre, lx_pre]
        exact ih (fun z => h (congrArg _ z))
      · rw [List.append_assoc, List.append_assoc, rkeT_diff q, rkeT_diff q]
/-- the keys of some kinds, in a heap -/
def skKind (h : Heap) (ks : List SK) : PyProof.Rows.KeyKind where
  toKeyOrd := listOrd itemOrd
  keyOf v := open Classical in if q : ∃ k, k ∈ ks ∧ ∃ as, Reads h v k.p as then some q.choose.k else none
  dflt := ([] : List It)
theorem skKind_some {h : Heap} {ks : List SK} {v : Value} {k : SK} {as : List Addr} (hk : k ∈ ks) (r : Reads h v k.p as) : (skKind h ks).keyOf v = some k.k := by
  have q : ∃ k, k ∈ ks ∧ ∃ as, Reads h v k.p as := ⟨k, hk, as, r⟩
  have e : (skKind h ks).keyOf v = some q.choose.k := by
    show (open Classical in if q : ∃ k, k ∈ ks ∧ ∃ as, Reads h v k.p as then some q.choose.k else none) = _
    exact dif_pos q
  obtain ⟨_, as', h2⟩ := q.choose_spec
  rw [e, SK.p_inj (PySem.SeqAt.plain_unique _ _ _ _ _ (SK.plain _) h2 r)]
theorem skKind_inv {h : Heap} {ks : List SK} {v : Value} {x : List It} (e : (skKind h ks).keyOf v = some x) : ∃ k as, k ∈ ks ∧ Reads h v k.p as ∧ x = k.k := by
  by_cases q : ∃ k, k ∈ ks ∧ ∃ as, Reads h v k.p as
  · have e' : (skKind h ks).keyOf v = some q.choose.k := by
      show (open Classical in if q : ∃ k, k ∈ ks ∧ ∃ as, Reads h v k.p as then some q.choose.k else none) = _
      exact dif_pos q
    obtain ⟨h1, as', h2⟩ := q.choose_spec
    rw [e'] at e
    exact ⟨_, as', h1, h2, (Option.some.inj e).symm⟩
  · have e' : (skKind h ks).keyOf v = none := by
      show (open Classical in if q : ∃ k, k ∈ ks ∧ ∃ as, Reads h v k.p as then some q.choose.k else none) = _
      exact dif_neg q
    rw [e'] at e
    cases e
def skT : SK → Value
  | .one (.i _) => .type "int"
  | .one (.t _) => .type "str"
  | .rk _ => .type "list"
  | .pr _ _ => .type "tuple"
theorem skT_same {a b : SK} (h : a.same b = true) : skT a = skT b := by
  cases a with
  | one x =>
    cases b with
    | one y => cases x <;> cases y <;> first | rfl | cases h
    | rk u => cases h
    | pr u v => cases h
  | rk r => cases b <;> first | rfl | cases h
  | pr r v => cases b <;> first | rfl | cases h
theorem sk_looks {M : Model} {h : Heap} {v : Value} {k : SK} {as : List Addr} (r : Reads h v k.p as) : PySem.W.Looks M h (typeOf v) (skT k) := by
  have e : skT k = PySem.W.dataType k.p := by
    cases k with
    | one a => cases a <;> rfl
    | rk r => rfl
    | pr r u => rfl
  rw [e]
  exact PySem.W.looks_reads r
theorem katT {h : Heap} : ∀ {vs : List Value} {ks : List SK}, PySem.W.EachIs (fun v (k : SK) => ∃ as, Reads h v k.p as) vs ks → (∀ k ∈ ks, ∃ r u, k = .pr r u) → ∃ fs, KatTups h vs fs ∧ fs.length = vs.length ∧ ∀ f ∈ fs, ∃ r as, Reads h f (rkP r) as
  | _, _, .nil, _ => ⟨[], KatTups.nil, rfl, fun f hf => by cases hf⟩
  | _, _, .cons (b := k) ⟨as, x⟩ t, hp => by
    obtain ⟨fs, h1, h2, h3⟩ := katT t fun k hk => hp k (List.mem_cons_of_mem _ hk)
    obtain ⟨r, u, rfl⟩ := hp k List.mem_cons_self
    obtain ⟨l, v0, v1, bs, cs, rfl, ⟨o, o1, o2, n, o3⟩, r0, r1⟩ := reads2 x
    refine ⟨v0 :: fs, KatTups.cons o1 o2 o3 rfl h1, by rw [List.length_cons, List.length_cons, h2], fun f hf => ?_⟩
    rcases List.mem_cons.mp hf with rfl | hf
    · exact ⟨r, _, r0⟩
    · exact h3 f hf
/-- every two are of one kind -/
def AllSame (ks : List SK) : Prop := ∀ a ∈ ks, ∀ b ∈ ks, a.same b = true
theorem sk_sorts {vs : List Value} {ks : List SK} (e : PySem.W.EachIs (fun v (k : SK) => ∃ as, Reads s.heap v k.p as) vs ks) (al : AllSame ks) (hu : A.units + 9 < cLine) : PySem.W.SortsAt prog w A s (skKind s.heap ks) vs := by
  refine ⟨fun v hv => ?_, ?_⟩
  · obtain ⟨k, hk, as, r⟩ := e.left v hv
    exact ⟨_, skKind_some hk r⟩
  · by_cases tu : ∃ k ∈ ks, ∃ r u, k = SK.pr r u
    · obtain ⟨k0, hk0, r0, u0, rfl⟩ := tu
      have all : ∀ k ∈ ks, ∃ r u, k = SK.pr r u := fun k hk => by
        have := al _ hk0 _ hk
        cases k with
        | one a => cases this
        | rk r => cases this
        | pr r u => exact ⟨r, u, rfl⟩
      refine ⟨tuples' true, ?_, fun h2 E Q hq => ?_⟩
      · intro E x y a b Q ha hb hq
        obtain ⟨k, as, hk, ra, rfl⟩ := skKind_inv ha
        obtain ⟨k', as', hk', rb, rfl⟩ := skKind_inv hb
        have sm := al k hk k' hk'
        obtain ⟨r, u, rfl⟩ := all k hk
        obtain ⟨r', u', rfl⟩ := all k' hk'
        have sm : (rkS r r' && rkS u u') = true := sm
        rw [Bool.and_eq_true] at sm
        obtain ⟨l, v0, v1, b0, b1, rfl, ⟨o1, g1, g2, n1, g3⟩, p0, p1⟩ := reads2 ra
        obtain ⟨l', w0, w1, c0, c1, rfl, ⟨o2, f1, f2, n2, f3⟩, q0, q1⟩ := reads2 rb
        have hq : Q (lx (rkT r ++ .inl (-1) :: rkT u) (rkT r' ++ .inl (-1) :: rkT u')) s := hq
        refine kat_lt g1 g3 f1 f3 ?_
        show KatLex prog w A true _ Q [(v0, w0), (v1, w1)] 0 s
        refine kat_cons (eq_rk p0 q0 (by omega) prog w _ _ ?_)
        by_cases h1 : r = r'
        · subst h1
          rw [lx_pre, lx_self] at hq
          rw [decide_eq_true rfl]
          refine kat_yes (kat_cons (eq_rk p1 q1 (by omega) prog w _ _ ?_))
          by_cases h2 : u = u'
          · subst h2
            rw [lx_refl] at hq
            rw [decide_eq_true rfl]
            exact kat_yes (kat_nil hq)
          · rw [decide_eq_false h2]
            exact kat_no (oneLt_no (lt_rk p1 q1 sm.2 (by omega)) hq)
        · rw [lx_pair h1] at hq
          rw [decide_eq_false h1]
          exact kat_no (oneLt_rk p0 q0 sm.1 (by omega) hq)
      · obtain ⟨fs, t1, t2, t3⟩ := katT e all
        refine kat_kind (T := .type "list") t1 (by omega) (fun f hf => ?_) (by decide) hq
        obtain ⟨r, as, x⟩ := t3 f hf
        exact PySem.W.looks_reads x
    · refine ⟨oneType', ?_, fun h2 E Q hq => ?_⟩
      · intro E x y a b Q ha hb hq
        obtain ⟨k, as, hk, ra, rfl⟩ := skKind_inv ha
        obtain ⟨k', as', hk', rb, rfl⟩ := skKind_inv hb
        have sm := al k hk k' hk'
        rw [keyLt'_oneType]
        cases k with
        | one p =>
          cases k' with
          | one q =>
            have hq : Q (lx [p.k] [q.k]) s := hq
            rw [lx_one] at hq
            exact oneLt_one ra rb sm hq
          | rk u => cases sm
          | pr u v => cases sm
        | rk r =>
          cases k' with
          | one q => cases sm
          | rk u => exact oneLt_rk ra rb sm (by omega) hq
          | pr u v => cases sm
        | pr r u => exact absurd ⟨_, hk, r, u, rfl⟩ tu
      · cases ks with
        | nil => cases e; cases h2
        | cons k0 ks0 =>
          have nt : (skT k0 != Value.type "tuple") = true := by
            cases k0 with
            | one a => cases a <;> rfl
            | rk r => rfl
            | pr r u => exact absurd ⟨_, List.mem_cons_self, r, u, rfl⟩ tu
          refine kas_kind (T := skT k0) h2 (fun v hv => ?_) nt (beq_self_eq_true _) hq
          obtain ⟨k, hk, as, r⟩ := e.left v hv
          rw [← skT_same (al k hk k0 List.mem_cons_self)]
          exact sk_looks r
end
end
end VD

set_option Elab.async false
set_option linter.all false
set_option maxRecDepth 100000
set_option maxHeartbeats 4000000
namespace VD
open PySem PySem.Spec PyProof.Rows L2
open PySem.W (EachIs KeepsBut keyH_end sortVals sortVals_each sortVals_length sortLe)
noncomputable section
/-! ### sorted(.., key=f): the keys are ranks -/
def At.d : At → D
  | .i n => .int n
  | .t x => .str x
def rkeD : RkE → D
  | none => .tup [.int 1, .int 0]
  | some a => .tup [.int 0, a.d]
def rkD (r : List RkE) : D := .lst (r.map rkeD)
def SK.d : SK → D
  | .one a => a.d
  | .rk r => rkD r
  | .pr r u => .tup [rkD r, rkD u]
def RK (K : PySem.W.Frag) (H : Hp) (x : V) (k : SK) : Prop := ∃ S, Ex S H ∧ Rp K [] S x k.d
theorem RK.up {K : PySem.W.Frag} {H H' : Hp} {x : V} {k : SK} (r : RK K H x k) (e : Ex H H') : RK K H' x k := let ⟨S, a, b⟩ := r; ⟨S, a.trans e, b⟩
section
variable {X : Cx} {pins : List (Addr × Obj)} {σ : L2.St} {H S : Hp} {s : Shared}
theorem at_reads {K : PySem.W.Frag} {a : At} {x : V} {u : Value} {h : Heap} (r : Rp K [] S x a.d) (q : RelV x u) : Reads h u a.p [] := by
  cases a with
  | i n =>
    have r : Rp K [] S x (.int n) := r
    cases r
    obtain ⟨t, rfl⟩ := q
    exact .int n t
  | t y =>
    have r : Rp K [] S x (.str y) := r
    cases r
    obtain ⟨t, rfl⟩ := q
    exact .str y t
theorem two_reads (I : Inv X pins σ H s) (ex : Ex S H) {d0 d1 : D} {p0 p1 : PyData} {x : V} {u : Value} (r : Rp X.K [] S x (.tup [d0, d1])) (q : RelV x u)
    (h0 : ∀ (x : V) (u : Value), Rp X.K [] S x d0 → RelV x u → ∃ as, Reads s.heap u p0 as) (h1 : ∀ (x : V) (u : Value), Rp X.K [] S x d1 → RelV x u → ∃ as, Reads s.heap u p1 as) : ∃ as, Reads s.heap u (.tuple [p0, p1]) as := by
  cases r with
  | @tup a vs _ g ra =>
    obtain ⟨its, rv, ⟨o, ho, hc, n, hd⟩, _⟩ := I.tuple (ex.sqt g)
    cases (show u = Value.ref a from q)
    cases ra with
    | cons r0 ra =>
      cases ra with
      | cons r1 ra =>
        cases ra
        cases rv with
        | cons v0 rv =>
          cases rv with
          | cons v1 rv =>
            cases rv
            obtain ⟨as, a0⟩ := h0 _ _ r0 v0
            obtain ⟨bs, a1⟩ := h1 _ _ r1 v1
            exact ⟨_, .tuple ho hc hd (.cons a0 (.cons a1 .nil))⟩
theorem rke_reads (I : Inv X pins σ H s) (ex : Ex S H) {e : RkE} {x : V} {u : Value} (r : Rp X.K [] S x (rkeD e)) (q : RelV x u) : ∃ as, Reads s.heap u (rkeP e) as := by
  cases e with
  | none => exact two_reads I ex r q (fun x u r q => ⟨_, at_reads (a := .i 1) r q⟩) (fun x u r q => ⟨_, at_reads (a := .i 0) r q⟩)
  | some a => exact two_reads I ex r q (fun x u r q => ⟨_, at_reads (a := .i 0) r q⟩) (fun x u r q => ⟨_, at_reads r q⟩)
theorem rkes_reads (I : Inv X pins σ H s) (ex : Ex S H) : ∀ {r : List RkE} {xs : List V} {us : List Value}, RpA X.K [] S xs (r.map rkeD) → Vals xs us → ∃ as, ReadsAll s.heap us (r.map rkeP) as
  | [], xs, us, ra, q => by
    cases ra
    cases q
    exact ⟨_, .nil⟩
  | e :: r, xs, us, ra, q => by
    rw [List.map_cons] at ra
    cases ra with
    | cons r0 ra =>
      cases q with
      | cons q0 q =>
        obtain ⟨as, a0⟩ := rke_reads I ex r0 q0
        obtain ⟨bs, a1⟩ := rkes_reads I ex ra q
        exact ⟨_, .cons a0 a1⟩
theorem rk_reads (I : Inv X pins σ H s) (ex : Ex S H) {r : List RkE} {x : V} {u : Value} (ra : Rp X.K [] S x (rkD r)) (q : RelV x u) : ∃ as, Reads s.heap u (rkP r) as := by
  have ra : Rp X.K [] S x (.lst (r.map rkeD)) := ra
  cases ra with
  | @lst a vs _ g ra =>
    obtain ⟨_, its, n, rv, e⟩ := I.hok a _ (ex a _ g)
    cases (show u = Value.ref a from q)
    obtain ⟨as, h⟩ := rkes_reads I ex ra rv
    exact ⟨_, .list e rfl rfl h⟩
theorem RK.reads (I : Inv X pins σ H s) {x : V} {k : SK} {u : Value} (r : RK X.K H x k) (q : RelV x u) : ∃ as, Reads s.heap u k.p as := by
  obtain ⟨S, ex, r⟩ := r
  cases k with
  | one a => exact ⟨_, at_reads r q⟩
  | rk r' => exact rk_reads I ex r q
  | pr r' u' => exact two_reads I ex r q (fun x u r q => rk_reads I ex r q) (fun x u r q => rk_reads I ex r q)
/-! an object of ours that is set aside is written -/
theorem repin {p : Addr × Obj} {o : Obj} {h' : Heap} {t' : Nat} (I : Inv X (p :: pins) σ H s) (hx : X.s_0.heap.objs.size ≤ p.1) (k : ∀ b ob, b ≠ p.1 → s.heap.get? b = some ob → h'.get? b = some ob) (ho : h'.get? p.1 = some o)
    (hc : ∀ v, o.data ≠ .cell v) (hp : ∀ q ∈ X.pn ++ pins, q.1 ≠ p.1) : Inv X ((p.1, o) :: pins) σ H { s with heap := h', toks := t' } := by
  obtain ⟨e, n, ne, nf, d⟩ := I.pin p (List.mem_append_right _ List.mem_cons_self)
  have I2 : Inv X pins σ H { s with heap := h', toks := t' } := (ClX.unpin I).turned k n ne (.inr hx) (fun x c hc z => by
    obtain ⟨v, o', ho', hd'⟩ := I.cell x c hc
    rw [z, e] at ho'
    cases ho'
    exact d v hd') hp
  refine I2.pins_of fun q hq => ?_
  rcases List.mem_cons.mp hq with rfl | hq
  · exact ⟨ho, n, ne, nf, hc⟩
  · exact I2.pin q (List.mem_append_right _ hq)
theorem pins_swap {p q : Addr × Obj} (I : Inv X (p :: q :: pins) σ H s) : Inv X (q :: p :: pins) σ H s := I.pins_of fun r hr => I.pin r (List.mem_append_right _ (by
  rcases List.mem_cons.mp hr with e | hr
  · exact List.mem_cons.mpr (.inr (List.mem_cons.mpr (.inl e)))
  · rcases List.mem_cons.mp hr with e | hr
    · exact List.mem_cons.mpr (.inl e)
    · exact List.mem_cons.mpr (.inr (List.mem_cons.mpr (.inr hr)))))
end
/-- the values in order, as the keys tell -/
def SkOut (b : Bool) (ks : List SK) (vs out : List Value) : Prop := ∃ h us, out = sortVals (skKind h ks) b us vs ∧ EachIs (fun v (k : SK) => ∃ as, Reads h v k.p as) us ks
def skLe {α : Type} (b : Bool) (p q : α × SK) : Bool := cond b (!lx p.2.k q.2.k) (!lx q.2.k p.2.k)
theorem eachMem {α β : Type} {R : α → β → Prop} : ∀ {as : List α} {bs : List β}, EachIs R as bs → EachIs (fun a b => R a b ∧ b ∈ bs) as bs
  | _, _, .nil => .nil
  | _, _, .cons h t => .cons ⟨h, List.mem_cons_self⟩ ((eachMem t).mono fun _ _ q => ⟨q.1, List.mem_cons_of_mem _ q.2⟩)
theorem eachSnoc {α β : Type} {R : α → β → Prop} {a : α} {b : β} : ∀ {as : List α} {bs : List β}, EachIs R as bs → R a b → EachIs R (as ++ [a]) (bs ++ [b])
  | _, _, .nil, h => .cons h .nil
  | _, _, .cons h0 t, h => .cons h0 (eachSnoc t h)
theorem eachFst {α β γ : Type} {R : α → γ → Prop} : ∀ {as : List α} {bs : List β} {cs : List γ}, bs.length = cs.length → EachIs R as cs → EachIs (fun a (p : β × γ) => R a p.2) as (bs.zip cs)
  | _, [], [], _, .nil => .nil
  | _, b :: bs, c :: cs, e, .cons h t => .cons h (eachFst (Nat.succ.inj e) t)
  | _, [], _ :: _, e, _ => nomatch e
theorem eachSnd {α β γ : Type} {R : α → β → Prop} : ∀ {as : List α} {bs : List β} {cs : List γ}, bs.length = cs.length → EachIs R as bs → EachIs (fun a (p : β × γ) => R a p.1) as (bs.zip cs)
  | _, [], [], _, .nil => .nil
  | _, b :: bs, c :: cs, e, .cons h t => .cons h (eachSnd (Nat.succ.inj e) t)
  | _, _ :: _, [], e, _ => nomatch e
/-- the same order of what the values stand for -/
theorem SkOut.each {β : Type} {R : Value → β → Prop} {b : Bool} {ks : List SK} {vs out : List Value} {bs : List β} (o : SkOut b ks vs out) (hl : bs.length = ks.length) (r : EachIs R vs bs) : EachIs R out (((bs.zip ks).mergeSort (skLe b)).map (·.1)) := by
  obtain ⟨h, us, rfl, e⟩ := o
  have k1 : EachIs (fun v (p : β × SK) => (skKind h ks).keyOf v = some p.2.k) us (bs.zip ks) := by
    have e2 : EachIs (fun v (k : SK) => (skKind h ks).keyOf v = some k.k) us ks := (eachMem e).mono fun v k ⟨⟨as, r⟩, hk⟩ => skKind_some hk r
    exact eachFst (R := fun v (k : SK) => (skKind h ks).keyOf v = some k.k) hl e2
  have k2 := eachSnd (R := R) hl r
  have := sortVals_each (κ := skKind h ks) (rev := b) (fun p : β × SK => p.2.k) k2 k1
  have this : EachIs (fun v (p : β × SK) => R v p.1) (sortVals (skKind h ks) b us vs) ((bs.zip ks).mergeSort (skLe b)) := this
  generalize (bs.zip ks).mergeSort (skLe b) = l at this ⊢
  generalize sortVals (skKind h ks) b us vs = m at this ⊢
  induction this with
  | nil => exact .nil
  | cons h _ ih => exact .cons h ih
theorem SkOut.len {b : Bool} {ks : List SK} {vs out : List Value} (o : SkOut b ks vs out) (hl : ks.length = vs.length) : out.length = vs.length := by
  obtain ⟨h, us, rfl, e⟩ := o
  exact sortVals_length b (e.length.trans hl)
section
variable {X : Cx} {pins : List (Addr × Obj)} {σ : L2.St} {H : Hp} {s : Shared} {A : Around} {E : Value → Shared → Prop} {a kS : Addr} {e1 : Nat} {b : Bool} {vs : List Value} {ks : List SK} {f : Value} {P : PySem.Fin → Shared → Prop}
/-- what a call of f gives: an item's key -/
def Turn (X : Cx) (A : Around) (σ : L2.St) (H : Hp) (f v : Value) (k : SK) : Prop := ∀ (pn : List (Addr × Obj)) (H1 : Hp) (s1 : Shared), Ex H H1 → Inv X pn σ H1 s1 →
  wpAny (model X.prog X.w) A (call f [v]) (fun u s2 => ∃ x H2, Inv X pn σ H2 s2 ∧ Ex H1 H2 ∧ RelV x u ∧ RK X.K H2 x k) (fun _ _ => False) s1
theorem sk_rest (I : Inv X ((kS, seqObj "list" #[] 0) :: (a, seqObj "list" #[] e1) :: pins) σ H s) (hxa : X.s_0.heap.objs.size ≤ a) (hxk : X.s_0.heap.objs.size ≤ kS) (hak : kS ≠ a) (hpa : ∀ q ∈ X.pn ++ pins, q.1 ≠ a) (hpk : ∀ q ∈ X.pn ++ pins, q.1 ≠ kS)
    (hl : ks.length = vs.length) (hz : vs.length ≤ sizeLine) (al : AllSame ks) (hu : A.units + 9 < cLine) (turn : ∀ (i : Nat) (v : Value) (k : SK), vs[i]? = some v → ks[i]? = some k → Turn X A σ H f v k)
    (fin : ∀ (H' : Hp) (s' : Shared) (out : List Value) (c : Nat), Ex H H' → Inv X ((a, seqObj "list" out.toArray c) :: pins) σ H' s' → SkOut b ks vs out → P (.done (.ret .none)) s') :
    wpAny (model X.prog X.w) A (ksk_rest a f b vs.toArray e1 (.ref kS)) P E s := by
  unfold ksk_rest
  refine wpAny_bind (wpAny_rule ?_)
  first
    | rw [List.forIn_toArray]
    | (rw [← Array.forIn_toList]; simp only [List.toList_toArray])
  obtain ⟨J, hJ⟩ : ∃ J : Nat → Shared → Prop, J = fun i s' => ∃ (H' : Hp) (kA : Array Value) (c : Nat) (xs : List V), Ex H H' ∧ Inv X ((kS, seqObj "list" kA c) :: (a, seqObj "list" #[] e1) :: pins) σ H' s' ∧ Vals xs kA.toList ∧ EachIs (fun x k => RK X.K H' x k) xs (ks.take i) := ⟨_, rfl⟩
  have J0 : J 0 s := by rw [hJ]; exact ⟨H, #[], 0, [], Ex.refl H, I, .nil, by rw [List.take_zero]; exact .nil⟩
  refine wpAny_bind (ksk_fold J vs 0 s J0 ?_ ?_)
  · rintro j x s1 hx hj
    rw [hJ] at hj
    obtain ⟨H1, kA, c, xs, ex, I1, rv, ek⟩ := hj
    simp only [Nat.zero_add] at ek ⊢
    have hj' : j < vs.length := (List.getElem?_eq_some_iff.mp hx).1
    obtain ⟨k, hk⟩ : ∃ k, ks[j]? = some k := ⟨_, List.getElem?_eq_getElem (by omega)⟩
    have lk : kA.size ≤ vs.length := by
      have q1 := ek.length
      have q2 := rv.length
      have q3 : kA.toList.length = kA.size := Array.length_toList
      rw [List.length_take] at q1
      omega
    refine wpAny_bind (wpAny_attempt (wpAny_mono (turn j x k hx hk _ H1 s1 ex I1) (fun u s2 he => ?_) fun _ _ z => z.elim))
    obtain ⟨y, H2, I2, ex2, ry, kk⟩ := he
    try dsimp only
    have g1 := ClX.pin_at I2
    have sb := Heap.SameBut.update s2.heap kS (Obj.mapSeq (·.push u))
    obtain ⟨c2, hc2⟩ : ∃ c2, (s2.heap.update kS (Obj.mapSeq (·.push u))).get? kS = some (seqObj "list" (kA.push u) c2) := ⟨_, get?_update_seq g1 (·.push u)⟩
    refine wpAny_bind (listUpdate_at g1 rfl ?_ (Nat.le_trans lk hz) (by rw [Array.size_push]; omega))
    have I3 := repin (p := (kS, seqObj "list" kA c)) (o := seqObj "list" (kA.push u) c2) (h' := s2.heap.update kS (Obj.mapSeq (·.push u))) (t' := s2.toks) I2 hxk (fun d ob hd q => (sb.2 d hd).trans q) hc2 (fun v z => nomatch z) (fun q hq => by
      rcases List.mem_append.mp hq with z | z
      · exact hpk q (List.mem_append_left _ z)
      · rcases List.mem_cons.mp z with rfl | z
        · exact fun z => hak z.symm
        · exact hpk q (List.mem_append_right _ z))
    refine wpAny_pure ⟨rfl, ?_⟩
    rw [hJ]
    refine ⟨H2, kA.push u, c2, xs ++ [y], ex.trans ex2, I3, ?_, ?_⟩
    · rw [Array.toList_push]
      exact rv.append (.cons ry .nil)
    · rw [List.take_add_one, hk]
      have ek2 : EachIs (fun x k => RK X.K H2 x k) xs (ks.take j) := ek.mono fun x k r => r.up ex2
      exact eachSnoc ek2 kk
  · rintro s1 hj
    rw [hJ] at hj
    obtain ⟨H1, kA, c, xs, ex, I1, rv, ek⟩ := hj
    have e3 : ks.take (0 + vs.length) = ks := List.take_of_length_le (by omega)
    rw [e3] at ek
    have hs : kA.size = vs.length := by
      have q1 := ek.length
      have q2 := rv.length
      have q3 : kA.toList.length = kA.size := Array.length_toList
      omega
    try dsimp only
    have g1 := ClX.pin_at I1
    refine wpAny_bind (listItems_at g1 rfl ?_)
    have ea : EachIs (fun v (k : SK) => ∃ as, Reads s1.heap v k.p as) kA.toList ks := by
      clear hs hl turn fin e3 I g1 al J0 hJ
      generalize kA.toList = us at rv
      induction rv generalizing ks with
      | nil => cases ek; exact .nil
      | cons r0 _ ih =>
        cases ek with
        | cons k0 ek => exact .cons (k0.reads I1 r0) (ih ek)
    have S0 : PySem.W.SortsAt X.prog X.w A s1 (skKind s1.heap ks) kA.toList := sk_sorts ea al hu
    have ga := ClX.pin_at (ClX.unpin I1)
    -- the heap in which the keys' own list is not yet
    have gone : (s1.heap.update kS (fun _ => ⟨.none, none, .freed, #[]⟩)).get? kS = none := by
      cases q : (s1.heap.update kS (fun _ => ⟨.none, none, .freed, #[]⟩)).get? kS with
      | none => rfl
      | some o =>
        obtain ⟨q1, q2⟩ := Heap.get?_some_iff.mp q
        obtain ⟨q3, _⟩ := Heap.get?_some_iff.mp g1
        simp [Heap.update, Array.getElem?_modify, q3] at q1
        subst q1
        cases q2
    have sb := Heap.SameBut.update s1.heap kS (fun _ => ⟨.none, none, .freed, #[]⟩)
    have kp : KeepsBut a (s1.heap.update kS (fun _ => ⟨.none, none, .freed, #[]⟩)) s1.heap := fun d o hd q => by
      have hdk : d ≠ kS := fun z => by rw [z, gone] at q; cases q
      exact (sb.2 d hdk).symm.trans q
    refine keyH_end (κ := skKind s1.heap ks) (h₁ := s1.heap.update kS (fun _ => ⟨.none, none, .freed, #[]⟩)) kp gone g1 ga hak S0 hs hz fun h3 tk3 c3 k3 n3 => ?_
    refine fin H1 _ (sortVals (skKind s1.heap ks) b kA.toList vs) c3 ex ?_ ⟨s1.heap, kA.toList, rfl, ea⟩
    have keep : ∀ d o, d ≠ a → d ≠ kS → s1.heap.get? d = some o → h3.get? d = some o := fun d o h1 h2 q => k3 d o h1 ((sb.2 d h2).trans q)
    obtain ⟨pk1, pk2, pk3, pk4, pk5⟩ := I1.pin (kS, seqObj "list" kA c) (List.mem_append_right _ List.mem_cons_self)
    obtain ⟨pa1, pa2, pa3, pa4, pa5⟩ := I1.pin (a, seqObj "list" #[] e1) (List.mem_append_right _ (List.mem_cons_of_mem _ List.mem_cons_self))
    have I0 := ClX.unpin (ClX.unpin I1)
    have nt : ∀ d u, H1 d = some u → d ≠ a ∧ d ≠ kS := fun d u q => ⟨(fun z => by rw [z, pa2] at q; cases q), (fun z => by rw [z, pk2] at q; cases q)⟩
    have nc : ∀ d, d ∉ [a, kS] → d ≠ a ∧ d ≠ kS := fun d hd => ⟨fun z => hd (by simp [z]), fun z => hd (by simp [z])⟩
    have I4 : Inv X pins σ H1 { s1 with heap := h3, toks := tk3 } := by
      refine I0.step (g' := s1.gens) (d' := s1.drawn) (ch := [a, kS]) (fun d hd => ?_) (fun d o _ _ hc q _ => keep d o (nc d hc).1 (nc d hc).2 q) (fun d o _ _ hc q _ => ⟨o.slots, keep d o (nc d hc).1 (nc d hc).2 q⟩) (fun _ _ _ _ n => n)
        (fun d o hc q => ⟨o, keep d o (nc d hc).1 (nc d hc).2 q⟩) (fun _ _ e => e) (fun _ _ _ e => e) (fun d ps e => ⟨#[], by rw [e]; simp⟩) (fun m hm => ?_) (fun d u e => ?_) I1.bare
      · have cn : ∀ x c' p, X.env.cells.lookup x = some c' → s1.heap.get? p = some (seqObj "list" kA c) ∨ s1.heap.get? p = some (seqObj "list" #[] e1) → c' ≠ p := fun x c' p hc' hp z => by
          obtain ⟨v, o', ho', hd'⟩ := I1.cell x c' hc'
          rw [z] at ho'
          rcases hp with hp | hp
          · rw [hp] at ho'; cases ho'; cases hd'
          · rw [hp] at ho'; cases ho'; cases hd'
        rcases List.mem_cons.mp hd with rfl | hd
        · exact ⟨.inr hxa, pa3, fun x c' hc' => cn x c' _ hc' (.inr pa1), hpa⟩
        · rw [List.mem_singleton.mp hd]
          exact ⟨.inr hxk, pk3, fun x c' hc' => cn x c' _ hc' (.inl pk1), hpk⟩
      · obtain ⟨o, es, ep, ho, r⟩ := hm
        exact ⟨o, es, ep, keep _ o (Ne.symm pa3) (Ne.symm pk3) ho, r⟩
      · refine (I1.hok d u e).stay (fun c' v hc' q => keep c' v ?_ ?_ q) (fun _ q => q) fun _ _ q => q
        · rcases hc' with z | z
          · rw [z]; exact (nt d u e).1
          · exact (nt c' _ z).1
        · rcases hc' with z | z
          · rw [z]; exact (nt d u e).2
          · exact (nt c' _ z).2
    refine I4.pins_of fun q hq => ?_
    rcases List.mem_cons.mp hq with rfl | hq
    · exact ⟨n3, pa2, pa3, pa4, fun v z => nomatch z⟩
    · exact I4.pin q (List.mem_append_right _ hq)
end
end
end VD

set_option Elab.async false
set_option linter.all false
set_option maxRecDepth 100000
set_option maxHeartbeats 4000000
namespace VD
open PySem PySem.Spec PyProof.Rows L2
open PySem.W (EachIs KeepsBut)
noncomputable section
/-! ### sorted(.., key=f), the call -/
theorem vals_each : ∀ {xs : List V} {vs : List Value}, Vals xs vs → EachIs (fun u x => RelV x u) vs xs
  | _, _, .nil => .nil
  | _, _, .cons h t => .cons h (vals_each t)
theorem each_vals : ∀ {xs : List V} {vs : List Value}, EachIs (fun u x => RelV x u) vs xs → Vals xs vs
  | _, _, .nil => .nil
  | _, _, .cons h t => .cons h (each_vals t)
theorem pn_refs : ∀ {nx : Nx} {ys : List (NestedKey × Addr × Value)}, Pn nx ys → Vals (nx.map fun x => V.ref x.2.1) (ys.map fun y => Value.ref y.2.1)
  | _, _, .nil => .nil
  | _, _, .cons h t => by
    rw [List.map_cons, List.map_cons]
    exact .cons (by show Value.ref _ = Value.ref _; rw [h.2.1]) (pn_refs t)
section
variable {X : Cx} {pins : List (Addr × Obj)} {σ : L2.St} {H : Hp} {s : Shared} {A : Around} {E : Value → Shared → Prop} {a : Addr} {n : Nat} {b : Bool} {vs : List Value} {ks : List SK} {f : Value} {P : PySem.Fin → Shared → Prop}
theorem sk_tree (I : Inv X ((a, seqObj "list" vs.toArray n) :: pins) σ H s) (hxa : X.s_0.heap.objs.size ≤ a) (hpa : ∀ q ∈ X.pn ++ pins, q.1 ≠ a)
    (hl : ks.length = vs.length) (hz : vs.length ≤ sizeLine) (al : AllSame ks) (hu : A.units + 9 < cLine) (turn : ∀ (i : Nat) (v : Value) (k : SK), vs[i]? = some v → ks[i]? = some k → Turn X A σ H f v k)
    (fin : ∀ (H' : Hp) (s' : Shared) (out : List Value) (c : Nat), Ex H H' → Inv X ((a, seqObj "list" out.toArray c) :: pins) σ H' s' → SkOut b ks vs out → P (.done (.ret .none)) s') :
    wpAny (model X.prog X.w) A (ksk_tree a f b) P E s := by
  unfold ksk_tree
  have g0 := ClX.pin_at I
  have sz : vs.toArray.size = vs.length := by simp
  refine wpAny_bind (listItems_at g0 rfl ?_)
  obtain ⟨e1, he1⟩ : ∃ e1, (s.heap.update a (Obj.mapSeq fun _ => (#[] : Array Value))).get? a = some (seqObj "list" #[] e1) := ⟨_, get?_update_seq g0 fun _ => #[]⟩
  have sb := Heap.SameBut.update s.heap a (Obj.mapSeq fun _ => (#[] : Array Value))
  have I1 := repin (p := (a, seqObj "list" vs.toArray n)) (o := seqObj "list" #[] e1) (h' := s.heap.update a (Obj.mapSeq fun _ => (#[] : Array Value))) (t' := s.toks) I hxa (fun d ob hd q => (sb.2 d hd).trans q) he1 (fun v z => nomatch z) hpa
  refine wpAny_bind (listUpdate_at g0 rfl ?_ (by rw [sz]; exact hz) (Nat.zero_le _))
  refine wpAny_bind (seqEpoch_at he1 rfl ?_)
  refine wpAny_bind (wpAny_newTuple ?_ (by show vs.length ≤ _; exact hz))
  refine wpAny_bind (wpAny_newList ?_ (Nat.zero_le _))
  refine wpAny_holding ?_
  have I2 := I1.kept (h' := (s.heap.update a (Obj.mapSeq fun _ => (#[] : Array Value))).push (seqObj "tuple" vs.toArray 0)) (t' := s.toks) (fun _ _ q => Heap.get?_push_of_some _ q)
  have I3 := ClX.pin_new (o := seqObj "list" #[] 0) (h' := ((s.heap.update a (Obj.mapSeq fun _ => (#[] : Array Value))).push (seqObj "tuple" vs.toArray 0)).push (seqObj "list" #[] 0)) (t' := s.toks) I2 (fun _ _ q => Heap.get?_push_of_some _ q) (Nat.le_refl _) (Heap.get?_push_size _ rfl) (fun v z => nomatch z)
  have lo : X.s_0.heap.objs.size ≤ ((s.heap.update a (Obj.mapSeq fun _ => (#[] : Array Value))).push (seqObj "tuple" vs.toArray 0)).objs.size := I2.sz
  have above : ∀ q ∈ X.pn ++ ((a, seqObj "list" #[] e1) :: pins), q.1 < ((s.heap.update a (Obj.mapSeq fun _ => (#[] : Array Value))).push (seqObj "tuple" vs.toArray 0)).objs.size := fun q hq => Heap.lt_size (I2.pin q hq).1
  refine sk_rest (kS := ((s.heap.update a (Obj.mapSeq fun _ => (#[] : Array Value))).push (seqObj "tuple" vs.toArray 0)).objs.size) I3 hxa lo (Nat.ne_of_gt (above _ (List.mem_append_right _ List.mem_cons_self))) hpa (fun q hq => Nat.ne_of_lt (above q ?_)) hl hz al hu turn fin
  rcases List.mem_append.mp hq with z | z
  · exact List.mem_append_left _ z
  · exact List.mem_append_right _ (List.mem_cons_of_mem _ z)
/-- what sorted collects of its argument -/
def Coll (X : Cx) (A : Around) (s : Shared) (l : Addr) (vs : List Value) : Prop := ∀ (R : List Value → Shared → Prop) (E : Value → Shared → Prop), (∀ h' tk, (∀ b o, s.heap.get? b = some o → h'.get? b = some o) → R vs { s with heap := h', toks := tk }) → wpAny (model X.prog X.w) A (collect (.ref l)) R E s
theorem sk_sorted {l : Addr} {kw : List (Str × Value)} {xs : List V} {Q : VK} (I : Inv X pins σ H s) (co : Coll X X.A.in1 s l vs) (rv : Vals xs vs) (hl : ks.length = vs.length) (hz : vs.length ≤ sizeLine) (al : AllSame ks) (hu : X.A.units + 12 < cLine)
    (ha1 : argsOk "sorted" ⟨[.ref l], kw⟩) (ha2 : ∀ x, argsOk "list.sort" ⟨[.ref x], kw⟩) (ht : ∀ x, Builtin.«list.sort» ⟨[.ref x], kw⟩ = ksk_tree x f b)
    (turn : ∀ (i : Nat) (v : Value) (k : SK), vs[i]? = some v → ks[i]? = some k → Turn X X.A.in1.in1 σ H f v k)
    (q : ∀ (p : Addr) (H' : Hp), H p = none → H' p = none → Ex H H' → Q (.ref p) (upd H' p (.lst (((xs.zip ks).mergeSort (skLe b)).map (·.1))))) :
    wpAny (model X.prog X.w) X.A (call (.builtin "sorted") [.ref l] kw) (EP X pins σ Q) X.xe s := by
  refine call_function_entry_kw kind_sorted plain_sorted entry_sorted ha1 ?_
  unfold Builtin.«sorted»
  refine wpAny_bind (m := checkCount "sorted" 1 1 _) (wpAny_pure ?_)
  refine wpAny_bind (co _ _ fun h' tk hk => ?_)
  refine wpAny_bind (wpAny_newList ?_ hz)
  have I1 : Inv X pins σ H { s with heap := h', toks := tk } := I.kept hk
  have np : H h'.objs.size = none := I1.hok.fresh (Nat.le_refl _)
  have I2 := ClX.pin_new (o := seqObj "list" vs.toArray 0) (h' := h'.push (seqObj "list" vs.toArray 0)) (t' := tk) I1 (fun _ _ q => Heap.get?_push_of_some _ q) (Nat.le_refl _) (Heap.get?_push_size _ rfl) (fun v z => nomatch z)
  have lo : X.s_0.heap.objs.size ≤ h'.objs.size := I1.sz
  have hpa : ∀ q ∈ X.pn ++ pins, q.1 ≠ h'.objs.size := fun q hq => Nat.ne_of_lt (Heap.lt_size (I1.pin q hq).1)
  show wpAny _ _ _ _ _ { s with heap := h'.push (seqObj "list" vs.toArray 0), toks := tk }
  refine wpAny_bind (wpAny_holding (wpAny_call_entry_kw slot_list_sort ⟨_, Heap.get?_push_size _ rfl, rfl⟩ entry_list_sort ?_ (ha2 _)))
  show wpAny (model X.prog X.w) X.A.in1.in1 (Builtin.«list.sort» ⟨[.ref h'.objs.size], kw⟩) _ _ _
  rw [ht]
  refine sk_tree I2 lo hpa hl hz al (by rw [Around.in1_units, Around.in1_units]; omega) turn fun H' s' out c ex I3 so => ?_
  have hol := so.len hl
  have eo : EachIs (fun u x => RelV x u) out (((xs.zip ks).mergeSort (skLe b)).map (·.1)) := so.each (R := fun u x => RelV x u) (by rw [rv.length, hl]) (vals_each rv)
  generalize eys : ((xs.zip ks).mergeSort (skLe b)).map (·.1) = ys at eo q
  have rv2 : Vals ys out := each_vals eo
  obtain ⟨pa1, pa2, pa3, pa4, pa5⟩ := I3.pin (h'.objs.size, seqObj "list" out.toArray c) (List.mem_append_right _ List.mem_cons_self)
  have I4 : Inv X pins σ (upd H' h'.objs.size (.lst ys)) s' := Inv.take (h' := s'.heap) (t' := s'.toks) (ClX.unpin I3) (fun _ _ _ q => q) ⟨pa2, pa3, pa4, .inr lo, (fun x c' hc z => by
    obtain ⟨v, o', ho', hd'⟩ := I3.cell x c' hc
    rw [z, pa1] at ho'
    cases ho'
    cases hd'), hpa⟩ ⟨by rw [rv2.length, hol]; exact hz, out, c, rv2, pa1⟩
  exact ⟨_, rfl, wpAny_pure ⟨_, rfl, .ref h'.objs.size, _, I4, rfl, q _ _ np pa2 ex⟩⟩
theorem coll_list {l : Addr} (hl : s.heap.IsList l vs.toArray) (hz : vs.length ≤ sizeLine) : Coll X A s l vs := fun R E h => collect_list hl (h _ _ (fun d o q => by
  rw [Heap.get?_update_ne _ _ _ _ (Nat.ne_of_lt (Heap.lt_size q))]
  exact Heap.get?_push_of_some _ q)) hz
theorem coll_keyed {l : Addr} {nx : Nx} (hh : A.handled = none) (I : Inv X pins σ H s) (e : H l = some (NDO X.w l nx)) (hz : nx.length ≤ sizeLine) : ∃ vs, Vals (nx.map fun x => V.ref x.2.1) vs ∧ Coll X A s l vs := by
  obtain ⟨p, _, _⟩ := I.hok l _ e
  obtain ⟨h1, h2, h3, h4, ys, h5, o, es, ep, g1, g2, g3, g4⟩ := p
  have hn : es.size = ys.length := by rw [← Array.length_toList, g4, List.length_map]
  have hln : nx.length = ys.length := Pn.len h5
  refine ⟨ys.map fun y => Value.ref y.2.1, ?_, fun R E h => ?_⟩
  · exact pn_refs h5
  · refine PySem.W.kdu_collect (KdlSrc.rawDict (es := es) (ep := ep) h1) hh ⟨o, g1, g2, g3⟩ (by rw [hn, ← hln]; exact hz) fun h' tk acc hk hacc => ?_
    have ea : acc.toList = ys.map fun y => Value.ref y.2.1 := by
      refine List.ext_getElem? fun j => ?_
      by_cases hj : j < es.size
      · have hj2 : j < acc.size := by rw [hacc.1]; exact hj
        obtain ⟨hi, ev⟩ := hacc.2 j acc[j] (Array.getElem?_eq_getElem hj2)
        have hj3 : j < ys.length := by rw [← hn]; exact hj
        have : es.toList[j]? = some ⟨ys[j].1.hash X.w, .ref ys[j].2.1, ys[j].2.2⟩ := by rw [g4, List.getElem?_map, List.getElem?_eq_getElem hj3]; rfl
        rw [Array.getElem?_toList, Array.getElem?_eq_getElem hi] at this
        have ke : es[j].key = .ref ys[j].2.1 := by rw [Option.some.inj this]
        rw [Array.getElem?_toList, Array.getElem?_eq_getElem hj2, ev, ke, List.getElem?_map, List.getElem?_eq_getElem hj3]
        rfl
      · rw [List.getElem?_eq_none (by rw [Array.length_toList, hacc.1]; omega), List.getElem?_eq_none (by rw [List.length_map, ← hn]; omega)]
    rw [ea]
    exact h h' tk hk
/-- a def's promise, called while sorting -/
theorem turn_of {k : Nat} {g : Addr} {fd : FuncData} {ps : List Str} {sp : Sp} {v : Value} {x : V} {kk : SK} (F : FnOk X.prog X.w X.K X.mg X.base (L2.CX X.prog X.w) k g fd ps sp) (hr : Room (k + 2) X.A) (hb : Binds X.K fd ps []) (rv : RelV x v)
    (h : ∀ H1, Ex H H1 → sp [x] H1 (fun y H2 => Ex H1 H2 ∧ RK X.K H2 y kk) (fun _ _ _ => False)) : Turn X X.A.in1.in1 σ H (.ref g) v kk := fun pn H1 s1 ex I1 => by
  have hq := h H1 ex
  have ha := hb s1 [v] I1.kIn (by rw [List.append_nil]; exact F.len _ _ _ _ hq)
  rw [List.append_nil] at ha
  refine wpAny_call (codeAny_mono (F.run X.A.in1.in1 X.stack s1 H1 ⟨[v], []⟩ [v] [x] _ _ ((hr : Room (k + 1 + 1) X.A).in1.in1) I1.env0.in1.in1 ha (.cons rv .nil) hq) fun r s' hr' => ?_)
  cases r with
  | error e => exact (cx_false hr').elim
  | ok fl =>
    cases fl with
    | ret u =>
      obtain ⟨y, H2, I2, ry, ex2, rk⟩ := I1.after hr'
      exact ⟨y, H2, I2, ex2, ry, rk⟩
    | next => exact False.elim hr'
    | brk => exact False.elim hr'
    | cont => exact False.elim hr'
/-- what may be sorted: a list, a dict -/
def Src (X : Cx) (H : Hp) (l : Addr) (xs : List V) : Prop := SqL X.K H l xs ∨ ∃ a nx, H l = some (NDO X.w a nx) ∧ xs = nx.map fun x => V.ref x.2.1
theorem src_coll {l : Addr} {xs : List V} (hh : A.handled = none) (I : Inv X pins σ H s) (sr : Src X H l xs) (hz : xs.length ≤ sizeLine) : ∃ vs, Vals xs vs ∧ Coll X A s l vs := by
  rcases sr with sr | ⟨a, nx, e, rfl⟩
  · obtain ⟨its, rv, pl, hl⟩ := I.list sr
    exact ⟨its, rv, coll_list pl.isList (by rw [← rv.length]; exact hz)⟩
  · obtain rfl := nd_addr I e
    exact coll_keyed hh I e (by rw [List.length_map] at hz; exact hz)
def rSortK (X : Cx) (g : Addr) (sp : Sp) (zs0 : List V) (b : Bool) : List V → List V → Hp → VK → Prop := fun vs zs H Q => ∃ (l : Addr) (xs : List V) (ks : List SK), vs = [.ref l] ∧ zs = .ref g :: zs0 ∧ Src X H l xs ∧ xs.length ≤ sizeLine ∧ ks.length = xs.length ∧ AllSame ks ∧
  (∀ (i : Nat) (x : V) (k : SK), xs[i]? = some x → ks[i]? = some k → ∀ H1, Ex H H1 → sp [x] H1 (fun y H2 => Ex H1 H2 ∧ RK X.K H2 y k) (fun _ _ _ => False)) ∧
  ∀ (p : Addr) (H' : Hp), H p = none → H' p = none → Ex H H' → Q (.ref p) (upd H' p (.lst (((xs.zip ks).mergeSort (skLe b)).map (·.1))))
theorem cr_sortK {k : Nat} {g : Addr} {fd : FuncData} {ps : List Str} {sp : Sp} (F : FnOk X.prog X.w X.K X.mg X.base (L2.CX X.prog X.w) k g fd ps sp) (hr : Room (k + 2) X.A) (hb : Binds X.K fd ps []) (hc : X.calm = true) :
    CallRK X (.builtin "sorted") [Str.ofString "key"] (rSortK X g sp [] false) := by
  intro pins s σ H vs zs us ws Q I rv rz h
  obtain ⟨l, xs, ks, rfl, rfl, sr, hz, hl, al, tu, q⟩ := h
  cases rv with
  | cons r0 rv =>
    cases rv
    cases rz with
    | cons r1 rz =>
      cases rz
      cases r0
      cases r1
      obtain ⟨vs, rx, co⟩ := src_coll (A := X.A.in1) (I.ok.hd hc) I sr hz
      have hlv := rx.length
      have un := hr.units
      exact sk_sorted (ks := ks) (kw := [(Str.ofString "key", .ref g)]) I co rx (hl.trans hlv) (by rw [← hlv]; exact hz) al (by omega) (ksk_s1 _ _) (fun x => ksk_l1 _ _) (fun x => ksk_t1 _ _) (fun i v k hv hk => by
        have hi : i < xs.length := by rw [hlv]; exact (List.getElem?_eq_some_iff.mp hv).1
        obtain ⟨u, e1, e2⟩ := rx.get (List.getElem?_eq_getElem hi)
        rw [hv] at e1
        cases e1
        exact turn_of F hr hb e2 (tu i _ k (List.getElem?_eq_getElem hi) hk)) q
end
end
end VD

set_option Elab.async false
set_option linter.all false
set_option maxRecDepth 100000
set_option maxHeartbeats 4000000
namespace VD
open PySem PySem.Spec PyProof.Rows L2
open PySem.W (EachIs KeepsBut sort_each)
noncomputable section
/-! ### what sorted(.., key=f) computes -/
def atOf : D → Option At
  | .int i => some (.i i)
  | .str x => some (.t x)
  | _ => none
def rkeOf : D → Option RkE
  | .tup [.int i, d] => if i = 0 then (atOf d).map some else if i = 1 then (match d with
    | .int j => if j = 0 then some none else none
    | _ => none) else none
  | _ => none
def rkOf : D → Option (List RkE)
  | .lst ds => optAll rkeOf ds
  | _ => none
def skOf : D → Option SK
  | .tup [a, b] => (match rkOf a, rkOf b with
    | some r, some u => some (.pr r u)
    | _, _ => none)
  | .lst ds => (optAll rkeOf ds).map .rk
  | d => (atOf d).map .one
theorem atOf_ok {d : D} {a : At} (e : atOf d = some a) : d = a.d := by
  cases d <;> cases e <;> rfl
theorem rkeOf_ok {d : D} {a : RkE} (e : rkeOf d = some a) : d = rkeD a := by
  unfold rkeOf at e
  split at e
  · next i x =>
    split at e
    · next h =>
      subst h
      obtain ⟨y, hy, rfl⟩ := Option.map_eq_some_iff.mp e
      rw [atOf_ok hy]; rfl
    · split at e
      · next h =>
        subst h
        split at e
        · next j =>
          split at e
          · next h => subst h; cases e; rfl
          · cases e
        · cases e
      · cases e
  · cases e
theorem rkesOf_ok : ∀ {ds : List D} {r : List RkE}, optAll rkeOf ds = some r → ds = r.map rkeD
  | [], r, e => by cases e; rfl
  | d :: ds, r, e => by
    simp only [optAll] at e
    cases q : rkeOf d with
    | none => rw [q] at e; cases e
    | some a =>
      rw [q] at e
      cases q2 : optAll rkeOf ds with
      | none => simp only [q2] at e; cases e
      | some r' =>
        simp only [q2] at e
        cases e
        rw [List.map_cons, rkeOf_ok q, rkesOf_ok q2]
theorem rkOf_ok {d : D} {r : List RkE} (e : rkOf d = some r) : d = rkD r := by
  cases d with
  | lst ds => exact congrArg D.lst (rkesOf_ok e)
  | _ => cases e
theorem skOf_ok {d : D} {k : SK} (e : skOf d = some k) : d = k.d := by
  unfold skOf at e
  split at e
  · next a b =>
    split at e
    · next r u h1 h2 =>
      cases e
      rw [rkOf_ok h1, rkOf_ok h2]; rfl
    · cases e
  · next ds =>
    obtain ⟨r, hr, rfl⟩ := Option.map_eq_some_iff.mp e
    rw [rkesOf_ok hr]; rfl
  · obtain ⟨a, ha, rfl⟩ := Option.map_eq_some_iff.mp e
    rw [atOf_ok ha]; rfl
/-- an item's key, by a def -/
def keyN (sem : List D → Hv → R D) (d : D) : Option SK := match pureD [d] with
  | some ds => (match sem ds [] with
    | .ok r [] => skOf r
    | _ => none)
  | none => none
def itemsN [Wd] (h : Hv) (x : D) : Option (List D) := match kvN h x with
  | some kd => some (kd.map fun p => nkD p.1)
  | none => lOf h x
def sortN [Wd] (b : Bool) (sem : List D → Hv → R D) (x : D) (h : Hv) : R (List D) := match itemsN h x with
  | some its => (match optAll (keyN sem) its with
    | some ks => @ite _ (AllSame ks ∧ its.length ≤ 16777216) (Classical.propDecidable _) (.ok (((its.zip ks).mergeSort (skLe b)).map (·.1)) h) .stuck
    | none => .stuck)
  | none => .stuck
def bSortK [Wd] (b : Bool) (sem : List D → Hv → R D) : List D → Hv → R (List D) := fun ds h => match ds with
  | [x] => sortN b sem x h
  | _ => .stuck
section
variable {K : PySem.W.Frag} {φ : List Addr} {S H : Hp} {h : Hv}
theorem rp_sorted {b : Bool} : ∀ {xs : List V} {ds : List D} {ks : List SK}, RpA K φ S xs ds → ks.length = ds.length → RpA K φ S (((xs.zip ks).mergeSort (skLe b)).map (·.1)) (((ds.zip ks).mergeSort (skLe b)).map (·.1)) := by
  intro xs ds ks ra hl
  have e : EachIs (fun (p : V × SK) (q : D × SK) => Rp K φ S p.1 q.1 ∧ p.2 = q.2) (xs.zip ks) (ds.zip ks) := by
    induction ds generalizing xs ks with
    | nil => cases ra; exact .nil
    | cons d ds ih =>
      cases ra with
      | cons r ra =>
        cases ks with
        | nil => cases hl
        | cons k ks => exact .cons ⟨r, rfl⟩ (ih ra (Nat.succ.inj hl))
  have z : ∀ p, p ∈ (xs.zip ks).zip (ds.zip ks) → p.1.2 = p.2.2 := fun p hp => (e.zip p hp).2
  have s := sort_each (r := skLe b) (s := skLe b) e (fun p hp q hq => by
    unfold skLe
    rw [z p hp, z q hq])
  generalize (xs.zip ks).mergeSort (skLe b) = l at s ⊢
  generalize (ds.zip ks).mergeSort (skLe b) = m at s ⊢
  induction s with
  | nil => exact .nil
  | cons h _ ih => exact .cons h.1 ih
theorem rel_new {p : Addr} {o : HO} {H' : Hp} (rl : Rel K φ S H h) (ex : Ex H H') (hp : H p = none) : Rel K φ S (upd H' p o) h ∧ Step φ S H φ S (upd H' p o) := by
  have ne : ∀ a u, H a = some u → a ≠ p := fun a u e z => by rw [z, hp] at e; cases e
  refine ⟨⟨rl.len, fun a u e => ?_, rl.nd, fun n a c e1 e2 => ?_⟩, ⟨⟨[], (List.append_nil _).symm, fun _ z => nomatch z⟩, Ex.refl S, fun a _ => rfl, fun a u e _ => ?_, fun a ha => ?_⟩⟩
  · have := rl.sub a u e
    rw [upd_ne (ne a u this)]
    exact ex a u this
  · obtain ⟨h1, u, h2, h3⟩ := rl.cel n a c e1 e2
    exact ⟨h1, u, by rw [upd_ne (ne a u h2)]; exact ex a u h2, h3⟩
  · rw [upd_ne (ne a u e)]
    exact ex a u e
  · by_cases q : a = p
    · rw [q, upd_same]; exact fun z => nomatch z
    · rw [upd_ne q]
      cases e : H a with
      | none => exact absurd e ha
      | some u => rw [ex a u e]; exact fun z => nomatch z
end
section
variable {X : Cx} {W : WX} {e : Expr} {la : LS} {k : Nat} {ps : List Str} {sem : List D → Hv → R D} {x : Str} {p pos q kp : Pos}
theorem src_of [Wd] (hw : X.w = Wd.w) {φ : List Addr} {S H : Hp} {h : Hv} (rl : Rel X.K φ S H h) {d : D} {v : V} (r : Rp X.K φ S v d) {its : List D} (e : itemsN h d = some its) : ∃ l xs, v = .ref l ∧ Src X H l xs ∧ RpA X.K φ S xs its := by
  unfold itemsN at e
  cases qk : kvN h d with
  | some kd =>
    simp only [qk] at e
    cases e
    obtain ⟨n, a, a', nx, rfl, hn, hc, rfl, ha, rn⟩ := kvN_ok rl r qk
    refine ⟨a, nx.map fun x => V.ref x.2.1, rfl, .inr ⟨a', nx, by rw [hw]; exact ha, rfl⟩, ?_⟩
    clear ha hc qk hn r
    induction rn with
    | nil => exact .nil
    | cons h1 h2 _ ih => exact .cons (Rp.mono ⟨φ, rfl⟩ (Ex.refl _) h1) ih
  | none =>
    simp only [qk] at e
    obtain ⟨a, vs, rfl, h1, h2⟩ := lOf_ok rl r e
    exact ⟨a, vs, rfl, .inl h1, h2⟩
theorem sort_turn {φ : List Addr} {S H : Hp} {h : Hv} (rl : Rel X.K φ S H h) {d : D} {v : V} {kk : SK} (r : Rp X.K φ S v d) (e : keyN sem d = some kk) {H1 : Hp} (ex : Ex H H1) : spOf X.K sem [v] H1 (fun y H2 => Ex H1 H2 ∧ RK X.K H2 y kk) (fun _ _ _ => False) := by
  unfold keyN at e
  cases qp : pureD [d] with
  | none => rw [qp] at e; cases e
  | some ds =>
    simp only [qp] at e
    have ra : RpA X.K [] S [v] ds := frzA_of (n0 := 0) (h := []) (fun d v d' r e => frz0_ok 12 d v d' r e) [d] [v] ds (.cons r .nil) qp
    refine ⟨[], S, [], ds, Rel.bare (rl.sub.trans ex), ra, ?_⟩
    split at e
    · next r0 hs =>
      rw [hs]
      intro y φ' S' H' r2 st rv
      have e0 : φ' = [] := List.length_eq_zero_iff.mp r2.len
      subst e0
      have rv : Rp X.K [] S' y r0 := rv
      rw [skOf_ok e] at rv
      exact ⟨fun a o z => st.keep a o z (fun z => nomatch z), S', r2.sub, rv⟩
    · cases e
theorem sl_sortK [Wd] (n1 : X.mg "sorted" = none) (o : OkF X.prog X.w X.K X.mg X.base k x ps sem) (hr : Room (k + 2) X.A) (ha : SA X W [e] la) (hw : X.w = Wd.w := by rfl) (hc : X.calm = true := by rfl) (hg : Gl X "sorted" := by rfl) (hg2 : Gl X x := by rfl)
    (hdb : (x == ("__debug__" : Str)) = false := by decide) (he : backTo pos (starEach [e] X.env) = (false, eval e X.env) :: backTo pos (starEach [] X.env) := by rfl) (hpl : (backTo pos (starEach [e] X.env)).any (·.1) = false := by rfl)
    (hall : (backToKw pos (keywordEach [⟨some "key", .Name x q, kp⟩] X.env)).all (·.1.isSome) = true := by rfl) (hnone : (backToKw pos (keywordEach [⟨some "key", .Name x q, kp⟩] X.env)).any (·.1.isNone) = false := by rfl) (hks : (backToKw pos (keywordEach [⟨some "key", .Name x q, kp⟩] X.env)).filterMap (·.1) = [Str.ofString "key"] := by rfl) :
    SL X W (.Call (.Name "sorted" p) [e] [⟨some "key", .Name x q, kp⟩] pos) (eCa (bSortK false sem) la) := by
  obtain ⟨fd, _, F, b, g, kp'⟩ := o
  obtain ⟨t, h1, h2⟩ := ha
  refine ⟨_, pe_callBK (cr_sortK F hr b hc) hg n1 (by decide +kernel) h1 (pk_cons (pe_glob (v := .ref (He.ga X.K x)) hg2 g rfl hdb) pk_nil) (by decide) (by decide) he hpl hall hnone hks, ⟨fun {φ S H h σv σ Q} rl rs post => h2.bind rl rs post fun ds h1 vs φ1 S1 H1 rl1 rs1 st rp post => ?_⟩⟩
  show rSortK X (He.ga X.K x) (spOf X.K sem) [] false vs [.ref (He.ga X.K x)] H1 Q
  unfold bSortK at post
  split at post
  · next d =>
    have rp : RpA X.K φ1 S1 vs [d] := rp
    cases rp with
    | cons r0 rp =>
      cases rp
      unfold sortN at post
      cases qi : itemsN h1 d with
      | none => simp only [qi] at post; exact post.elim
      | some its =>
        simp only [qi] at post
        cases qo : optAll (keyN sem) its with
        | none => simp only [qo] at post; exact post.elim
        | some ks =>
          simp only [qo] at post
          split at post
          · next hal =>
            obtain ⟨al, hz⟩ := hal
            obtain ⟨l, xs, rfl, sr, ra⟩ := src_of hw rl1 r0 qi
            obtain ⟨hl, hat⟩ := optAll_at qo
            have hlx := ra.length
            refine ⟨l, xs, ks, rfl, rfl, sr, by rw [hlx, line_eq]; exact hz, by rw [← hl, hlx], al, fun i x kk hx hk H2 ex => ?_, fun p H' hp hp' ex => ?_⟩
            · obtain ⟨d', hd', hkk⟩ := hat i kk hk
              obtain ⟨v', hv', rv'⟩ := ra.at hd'
              rw [hx] at hv'
              cases hv'
              exact sort_turn rl1 rv' hkk ex
            · obtain ⟨r3, s3⟩ := rel_new (o := .lst (((xs.zip ks).mergeSort (skLe false)).map (·.1))) rl1 ex hp
              exact post _ φ1 S1 _ r3 s3 ⟨p, _, rfl, hp, upd_same, rl1.snone hp, rl1.notin hp, rp_sorted ra hl.symm⟩
          · exact post.elim
  · exact post.elim
end
end
end VD

set_option Elab.async false
set_option linter.all false
set_option maxRecDepth 100000
set_option maxHeartbeats 4000000
namespace VD
open PySem PySem.Spec PyProof.Rows L2
noncomputable section
/-! ### texts as lists of signs; cells mixed -/
abbrev sx (cs : List Nat) : Str := ⟨cs.toArray⟩
abbrev tx (cs : List Nat) : D := .str (sx cs)
theorem sx_len (cs : List Nat) : (sx cs).length = cs.length := by
  show (cs.toArray).size = _
  simp
theorem sx_inj {a b : List Nat} : sx a = sx b ↔ a = b := by
  constructor
  · intro e
    have := congrArg (fun z : Str => z.cps.toList) e
    simpa using this
  · intro e; rw [e]
theorem sx_app (a b : List Nat) : (sx a ++ sx b : Str) = sx (a ++ b) := by
  show Str.mk _ = Str.mk _
  simp
@[simp] theorem oAdd_tx {a b : List Nat} {h : Hv} (hl : a.length + b.length ≤ 16777216) : oAdd (tx a) (tx b) h = .ok (tx (a ++ b)) h := by
  rw [oAdd_str, sx_len, sx_len, if_pos hl, sx_app]
@[simp] theorem signsD_tx (cs : List Nat) : signsD (sx cs) = cs.map fun c => tx [c] := by
  unfold signsD
  simp
@[simp] theorem ixD_tx {cs : List Nat} {h : Hv} {k : Int} (hl : cs.length ≤ 16777216) (h0 : 0 ≤ k) (h1 : k < cs.length) : ixD h (tx cs) k = some (tx [cs[k.toNat]?.getD 0]) := by
  rw [ixD_str, sx_len, if_pos hl]
  have e : (sx cs).cps.toList = cs := by simp
  rw [e]
  obtain ⟨a, _, h3, h4⟩ := atI_get (xs := cs) h0 h1
  rw [h4, h3]
  rfl
theorem slD_tx_to {cs : List Nat} {n : Int} (hl : cs.length ≤ 16777216) (h0 : 0 ≤ n) : slD (tx cs) none (some n) = some (tx (cs.take n.toNat)) := by
  show (if (sx cs).length ≤ 16777216 then some (D.str (cutS (sx cs) none (some n))) else none) = _
  rw [sx_len, if_pos hl]
  have e : cutS (sx cs) none (some n) = sx (cs.take n.toNat) := by
    unfold cutS
    have e1 : HT.sIx (sx cs).length (sx cs).length (some n) = min n.toNat cs.length := by
      show (if n < 0 then _ else min n.toNat (sx cs).length) = _
      rw [if_neg (by omega), sx_len]
    rw [e1, HT.sIx_none]
    have e2 : (sx cs).cps.toList = cs := by simp
    rw [e2, List.drop_zero, Nat.sub_zero]
    show Str.mk _ = Str.mk _
    congr 2
    rw [List.take_eq_take_iff]
    omega
  rw [e]
theorem slD_tx_from {cs : List Nat} {n : Int} (hl : cs.length ≤ 16777216) (h0 : 0 ≤ n) : slD (tx cs) (some n) none = some (tx (cs.drop n.toNat)) := by
  show (if (sx cs).length ≤ 16777216 then some (D.str (cutS (sx cs) (some n) none)) else none) = _
  rw [sx_len, if_pos hl]
  have e : cutS (sx cs) (some n) none = sx (cs.drop n.toNat) := by
    unfold cutS
    have e1 : HT.sIx (sx cs).length 0 (some n) = min n.toNat cs.length := by
      show (if n < 0 then _ else min n.toNat (sx cs).length) = _
      rw [if_neg (by omega), sx_len]
    have e2 : (sx cs).cps.toList = cs := by simp
    rw [e1, HT.sIx_none, e2, sx_len]
    show Str.mk _ = Str.mk _
    congr 1
    rw [List.take_of_length_le (by rw [List.length_drop]; exact Nat.le_refl _)]
    by_cases q : n.toNat ≤ cs.length
    · rw [Nat.min_eq_left q]
    · rw [Nat.min_eq_right (by omega), List.drop_of_length_le (Nat.le_refl _), List.drop_of_length_le (by omega)]
  rw [e]
@[simp] theorem lenD_tx {cs : List Nat} {h : Hv} (hl : cs.length ≤ 16777216) : lenD h (tx cs) = some (cs.length : Int) := by rw [lenD_str, sx_len, if_pos hl]
@[simp] theorem oLt_tx {a b : List Nat} {h : Hv} : oLt (tx a) (tx b) h = .ok (.bl (decide (a < b))) h := by
  rw [oLt_str]
theorem eqD_tx {a b : List Nat} {h : Hv} : eqD h (tx a) (tx b) = some (decide (a = b)) := by
  rw [eqD_str]
  congr 1
  rw [decide_eq_decide, sx_inj]
/-- signs of words -/
def alnum : List Nat := [48, 49, 50, 51, 52, 53, 54, 55, 56, 57, 97, 98, 99, 100, 101, 102, 103, 104, 105, 106, 107, 108, 109, 110, 111, 112, 113, 114, 115, 116, 117, 118, 119, 120, 121, 122]

def AN : Str := sx [48, 49, 50, 51, 52, 53, 54, 55, 56, 57, 97, 98, 99, 100, 101, 102, 103, 104, 105, 106, 107, 108, 109, 110, 111, 112, 113, 114, 115, 116, 117, 118, 119, 120, 121, 122]
def plc (c : Nat) : Int := if c < 58 then (c : Int) - 48 else (c : Int) - 87
theorem find_an : ∀ c ∈ alnum, Txt.find "0123456789abcdefghijklmnopqrstuvwxyz" (sx [c]) = plc c := by decide +kernel
theorem an_cases {c : Nat} (h : c ∈ alnum) : (48 ≤ c ∧ c ≤ 57) ∨ (97 ≤ c ∧ c ≤ 122) := by
  have key : ∀ c ∈ alnum, (48 ≤ c ∧ c ≤ 57) ∨ (97 ≤ c ∧ c ≤ 122) := by decide
  exact key c h
theorem plc_lt {c d : Nat} (h : c ∈ alnum) (k : d ∈ alnum) : (plc c < plc d ↔ c < d) ∧ (plc c = plc d ↔ c = d) := by
  have := an_cases h
  have := an_cases k
  unfold plc
  split <;> split <;> omega
theorem lit_ix {s : Str} {cs : List Nat} {P : Nat → Prop} (es : s = sx cs) (hl : cs.length ≤ 16777216) (hp : ∀ c ∈ cs, P c) {k : Int} {h : Hv} (h0 : 0 ≤ k) (h1 : k < cs.length) : ∃ c, ixD h (.str s) k = some (tx [c]) ∧ P c := by
  rw [es, ixD_tx hl h0 h1]
  refine ⟨_, rfl, hp _ ?_⟩
  have h2 : k.toNat < cs.length := by omega
  rw [List.getElem?_eq_getElem h2]
  exact List.getElem_mem h2
theorem alph_eq : ("abcdefghijklmnopqrstuvwxyz0123456789" : Str) = sx [97, 98, 99, 100, 101, 102, 103, 104, 105, 106, 107, 108, 109, 110, 111, 112, 113, 114, 115, 116, 117, 118, 119, 120, 121, 122, 48, 49, 50, 51, 52, 53, 54, 55, 56, 57] := by decide +kernel
/-! cells -/
def cellF (ns : List Int) (k : Int) : Int := if k < ns.length then gI ns k else 0
def cellB : SS := sSeq (sIf (toB (eOp oLt (eVar 1) (eCa bLen (aCons (eVar 0) (aNil))))) (sRet (eOp oIx (eVar 0) (eVar 1))) (sNext)) (sRet (eK (.int 0)))
def cellM : List D → Hv → R D := fnS 2 0 cellB
theorem cellM_eq {ns : List Int} {k : Int} (h0 : 0 ≤ k) : cellM [scr ns, .int k] [] = .ok (.int (cellF ns k)) [] := by
  refine fnS_of (P := fun r => r = .ok (.int (cellF ns k)) []) rfl ?_
  unfold cellB cellF
  by_cases q : k < ns.length
  · simp [q, ix_ints h0 q]
  · simp [q]
theorem callP_cell {ns : List Int} {k : Int} {h : Hv} (h0 : 0 ≤ k) : callP cellM [scr ns, .int k] h = .ok (.int (cellF ns k)) h := callP_ok (by simp) (cellM_eq h0)
def mixT (s k : Int) : Int := (s % 2147483647 * 48271 + k * 7919 + 11) % 2147483647
def mixF (s k : Int) : Int := mixT s k * mixT s k % 2147483629 * 69621 % 2147483647
theorem mixF_bd (s k : Int) : 0 ≤ mixF s k ∧ mixF s k < 2147483647 := ⟨Int.emod_nonneg _ (by decide), Int.emod_lt_of_pos _ (by decide)⟩
def mixB : SS := sSeq (sSet 2 (eOp oMod (eOp oAdd (eOp oAdd (eOp oMul (eOp oMod (eVar 0) (eK (.int 2147483647))) (eK (.int 48271))) (eOp oMul (eVar 1) (eK (.int 7919)))) (eK (.int 11))) (eK (.int 2147483647)))) (sRet (eOp oMod (eOp oMul (eOp oMod (eOp oMul (eVar 2) (eVar 2)) (eK (.int 2147483629))) (eK (.int 69621))) (eK (.int 2147483647))))
def mixM : List D → Hv → R D := fnS 2 1 mixB
theorem mixM_eq {s k : Int} (h0 : 0 ≤ k) (h1 : k < 10 ^ 30) : mixM [.int s, .int k] [] = .ok (.int (mixF s k)) [] := by
  refine fnS_of (P := fun r => r = .ok (.int (mixF s k)) []) rfl ?_
  unfold mixB
  have b1 : 0 ≤ s % 2147483647 := Int.emod_nonneg _ (by decide)
  have b2 : s % 2147483647 < 2147483647 := Int.emod_lt_of_pos _ (by decide)
  have b3 : 0 ≤ mixT s k := Int.emod_nonneg _ (by decide)
  have b4 : mixT s k < 2147483647 := Int.emod_lt_of_pos _ (by decide)
  have e1 : (s % 2147483647 * 48271 + k * 7919 + 11) % 2147483647 = mixT s k := rfl
  have b5 : 0 ≤ mixT s k * mixT s k % 2147483629 := Int.emod_nonneg _ (by decide)
  have b6 : mixT s k * mixT s k % 2147483629 < 2147483629 := Int.emod_lt_of_pos _ (by decide)
  simp (disch := omega) [e1, mixF]
theorem callP_mix {s k : Int} {h : Hv} (h0 : 0 ≤ k) (h1 : k < 10 ^ 30) : callP mixM [.int s, .int k] h = .ok (.int (mixF s k)) h := callP_ok (by simp) (mixM_eq h0 h1)
/-! more of texts -/
@[simp] theorem oIn_sign {c : Nat} {ss : List Nat} {h : Hv} : oIn (tx [c]) (tx ss) h = .ok (.bl (decide (c ∈ ss))) h := by
  show (match inD h (tx [c]) (tx ss) with | some b => R.ok (D.bl b) h | none => .stuck) = _
  have e : inD h (tx [c]) (tx ss) = some (decide (c ∈ (sx ss).cps.toList)) := rfl
  rw [e]
@[simp] theorem oNotIn_sign {c : Nat} {ss : List Nat} {h : Hv} : oNotIn (tx [c]) (tx ss) h = .ok (.bl (!decide (c ∈ ss))) h := by
  show (match inD h (tx [c]) (tx ss) with | some b => R.ok (D.bl (!b)) h | none => .stuck) = _
  have e : inD h (tx [c]) (tx ss) = some (decide (c ∈ (sx ss).cps.toList)) := rfl
  rw [e]
theorem join_sx (s : List Nat) (ps : List (List Nat)) : Txt.join (sx s) (ps.map sx) = sx (TL.joinL s ps) := by
  show Builtin.Str.glued _ _ = _
  rw [StrLaws.glued_eq_join]
  have e := TL.tl_join (sx s) (ps.map sx)
  rw [List.map_map] at e
  have e2 : (TL.tl ∘ sx) = fun p : List Nat => p := by funext p; show (sx p).cps.toList = p; simp
  rw [e2, List.map_id'] at e
  have e3 : TL.tl (sx s) = s := by show (sx s).cps.toList = s; simp
  rw [e3] at e
  show Str.join (sx s) (ps.map sx) = sx (TL.joinL s ps)
  have key : ∀ z : Str, z = sx (TL.tl z) := fun z => by
    cases z with
    | mk a => show Str.mk a = Str.mk (a.toList).toArray; simp
  rw [key (Str.join (sx s) (ps.map sx)), e]
theorem joinL_signs : ∀ cs : List Nat, TL.joinL [] (cs.map fun c => [c]) = cs
  | [] => rfl
  | [_] => rfl
  | c :: d :: r => by
    have ih := joinL_signs (d :: r)
    show [c] ++ ([] ++ TL.joinL [] ((d :: r).map fun c => [c])) = _
    rw [ih]; rfl
theorem toS_tx (ps : List (List Nat)) : optAll toS (ps.map tx) = some (ps.map sx) := by
  have := optAll_map (g := toS) (e := tx) (e' := sx) (xs := ps) fun _ _ => rfl
  exact this
theorem oJoin_ap {s : List Nat} {ps : List (List Nat)} {y : D} {h : Hv} (e : sqOf h y = some (ps.map tx)) (hl : (ps.map (·.length)).sum + ps.length * s.length ≤ 16777216) : oJoin (tx s) y h = .ok (tx (TL.joinL s ps)) h := by
  unfold oJoin
  rw [e]
  simp only [Option.bind_some, toS_tx]
  rw [if_pos, join_sx]
  have e2 : (ps.map sx).map (·.length) = ps.map (·.length) := by
    rw [List.map_map]
    exact List.map_congr_left fun p _ => sx_len p
  rw [e2, List.length_map, sx_len]
  exact hl
theorem frz_txs {n0 n : Nat} {h : Hv} {ps : List (List Nat)} : optAll (frz n0 h (n + 1)) (ps.map tx) = some (ps.map tx) := optAll_map fun _ _ => rfl
def smL : List Nat := [97, 98, 99, 100, 101, 102, 103, 104, 105, 106, 107, 108, 109, 110, 111, 112, 113, 114, 115, 116, 117, 118, 119, 120, 121, 122]
def fgL : List Nat := [48, 49, 50, 51, 52, 53, 54, 55, 56, 57]
theorem sm_eq : ("abcdefghijklmnopqrstuvwxyz" : Str) = sx smL := by decide +kernel
theorem fg_eq : ("0123456789" : Str) = sx fgL := by decide +kernel
theorem smfg_eq : ("abcdefghijklmnopqrstuvwxyz0123456789" : Str) = sx (smL ++ fgL) := by decide +kernel
theorem nil_eq : ("" : Str) = sx [] := by decide +kernel
@[simp] theorem lenD_tx0 {h : Hv} : lenD h (tx []) = some 0 := lenD_tx (cs := []) (by decide)
theorem toPy_signs {h : Hv} {n : Nat} (xs : List Nat) : optAll (toPy h (n + 1)) (xs.map fun c => tx [c]) = some (xs.map fun c => PyData.str (sx [c])) := optAll_map (g := toPy h (n + 1)) (e := fun c => tx [c]) (e' := fun c => PyData.str (sx [c])) fun _ _ => rfl
theorem nw_ne : ¬ (("number" : Str) = "word") := by decide
end
end VD

set_option Elab.async false
set_option linter.all false
set_option maxRecDepth 100000
set_option maxHeartbeats 4000000
/-! Values, fields, rows, sieves: as data of their own, and as the layer's data. -/
namespace WT
open PySem PySem.Spec PyProof.Rows L2 VD
noncomputable section
abbrev Tx := List Nat
inductive Val where
  | no | wd (cs : Tx) | nm (i : Int)
deriving DecidableEq
def valD : Val → D
  | .no => .non
  | .wd cs => tx cs
  | .nm i => .int i
abbrev Fd := Tx × Bool
def kindS (b : Bool) : Str := if b = true then "word" else "number"
def fdD (f : Fd) : D := .tup [tx f.1, .str (kindS f.2)]
def fdsD (fs : List Fd) : D := .lst (fs.map fdD)
def rowD (r : List Val) : D := .tup (r.map valD)
inductive Sv where
  | lacks (n : Tx) | is (n : Tx) (v : Val) | under (n : Tx) (v : Val) | over (n : Tx) (v : Val) | not (s : Sv) | all (l : List Sv) | some (l : List Sv)
mutual
def svD : Sv → D
  | .lacks n => .tup [.str "lacks", tx n]
  | .is n v => .tup [.str "is", tx n, valD v]
  | .under n v => .tup [.str "under", tx n, valD v]
  | .over n v => .tup [.str "over", tx n, valD v]
  | .not s => .tup [.str "not", svD s]
  | .all l => .tup [.str "all", .tup (svL l)]
  | .some l => .tup [.str "some", .tup (svL l)]
def svL : List Sv → List D
  | [] => []
  | s :: l => svD s :: svL l
end
theorem svL_map : ∀ l : List Sv, svL l = l.map svD
  | [] => rfl
  | s :: l => by rw [svL, svL_map l]; rfl
mutual
def dep : Sv → Nat
  | .not s => dep s + 1
  | .all l => depL l + 1
  | .some l => depL l + 1
  | _ => 0
def depL : List Sv → Nat
  | [] => 0
  | s :: l => max (dep s) (depL l)
end
theorem dep_mem : ∀ {l : List Sv} {s : Sv}, s ∈ l → dep s ≤ depL l
  | t :: l, s, h => by
    rw [depL]
    cases h with
    | head => omega
    | tail _ h => have := dep_mem h; omega
mutual
theorem noC_sv : ∀ s : Sv, noC (svD s) = true
  | .lacks n => rfl
  | .is n v => by cases v <;> rfl
  | .under n v => by cases v <;> rfl
  | .over n v => by cases v <;> rfl
  | .not s => by simp [svD, noC, noCL, noC_sv s]
  | .all l => by simp [svD, noC, noCL, noC_svL l]
  | .some l => by simp [svD, noC, noCL, noC_svL l]
theorem noC_svL : ∀ l : List Sv, noCL (svL l) = true
  | [] => rfl
  | s :: l => by rw [svL, noCL, noC_sv s, noC_svL l]; rfl
end
theorem noC_val (v : Val) : noC (valD v) = true := by cases v <;> rfl
theorem noC_row (r : List Val) : noC (rowD r) = true := by
  unfold rowD
  rw [noC, noCL_all, List.all_map]
  exact List.all_eq_true.mpr fun v _ => noC_val v
theorem noC_fds (fs : List Fd) : noC (fdsD fs) = true := by
  unfold fdsD
  rw [noC, noCL_all, List.all_map]
  exact List.all_eq_true.mpr fun v _ => rfl
theorem frz_val {n0 n : Nat} {h : Hv} (v : Val) : frz n0 h (n + 1) (valD v) = some (valD v) := by cases v <;> rfl
theorem frz_row {n0 n : Nat} {h : Hv} (r : List Val) : frz n0 h (n + 2) (rowD r) = some (rowD r) := by
  show (optAll (frz n0 h (n + 1)) (r.map valD)).map D.tup = _
  rw [optAll_map (g := frz n0 h (n + 1)) (e := valD) (e' := valD) fun v _ => frz_val v]; rfl
theorem frz_fd {n0 n : Nat} {h : Hv} (f : Fd) : frz n0 h (n + 2) (fdD f) = some (fdD f) := rfl
theorem frz_fds {n0 n : Nat} {h : Hv} (fs : List Fd) : frz n0 h (n + 3) (fdsD fs) = some (fdsD fs) := by
  show (optAll (frz n0 h (n + 2)) (fs.map fdD)).map D.lst = _
  rw [optAll_map (g := frz n0 h (n + 2)) (e := fdD) (e' := fdD) fun v _ => frz_fd v]; rfl
/-! what is right -/
def okName (w : Tx) : Prop := 1 ≤ w.length ∧ w.length ≤ 12 ∧ ∀ c ∈ w, c ∈ smL
def okWord (w : Tx) : Prop := 1 ≤ w.length ∧ w.length ≤ 12 ∧ ∀ c ∈ w, c ∈ smL ++ fgL
theorem okName.word {w : Tx} (h : okName w) : okWord w := ⟨h.1, h.2.1, fun c hc => List.mem_append_left _ (h.2.2 c hc)⟩
def ValOk (b : Bool) : Val → Prop
  | .no => True
  | .wd cs => b = true ∧ okWord cs
  | .nm i => b = false ∧ -(10 ^ 60) < i ∧ i < 10 ^ 60
structure FdsOk (fs : List Fd) : Prop where
  lo : 1 ≤ fs.length
  hi : fs.length ≤ 8
  nd : (fs.map (·.1)).Nodup
  nm : ∀ f ∈ fs, okName f.1
structure RowOk (fs : List Fd) (r : List Val) : Prop where
  len : r.length = fs.length
  at_ : ∀ (i : Nat) (f : Fd) (v : Val), fs[i]? = some f → r[i]? = some v → ValOk f.2 v
theorem RowOk.get {fs : List Fd} {r : List Val} (h : RowOk fs r) {i : Nat} {f : Fd} (hi : fs[i]? = some f) : ∃ v, r[i]? = some v ∧ ValOk f.2 v := by
  have hl : i < r.length := by rw [h.len]; exact (List.getElem?_eq_some_iff.mp hi).1
  exact ⟨r[i], List.getElem?_eq_getElem hl, h.at_ i f _ hi (List.getElem?_eq_getElem hl)⟩
/-- the place of a name -/
def plN (fs : List Fd) (n : Tx) : Option Nat := match fs with
  | [] => none
  | f :: r => if f.1 = n then some 0 else (plN r n).map (· + 1)
theorem plN_some {n : Tx} : ∀ {fs : List Fd} {i : Nat}, plN fs n = some i → ∃ b, fs[i]? = some (n, b)
  | [], i, h => by cases h
  | f :: r, i, h => by
    unfold plN at h
    split at h
    · next q => cases h; exact ⟨f.2, by rw [List.getElem?_cons_zero, ← q]⟩
    · obtain ⟨j, hj, rfl⟩ := Option.map_eq_some_iff.mp h
      obtain ⟨b, hb⟩ := plN_some hj
      exact ⟨b, by rw [List.getElem?_cons_succ]; exact hb⟩
theorem plN_first {n : Tx} : ∀ {fs : List Fd} {i : Nat}, plN fs n = some i → ∀ (j : Nat) (f : Fd), j < i → fs[j]? = some f → f.1 ≠ n
  | [], i, h => by cases h
  | f :: r, i, h => by
    unfold plN at h
    split at h
    · next q => cases h; intro j g hj; omega
    · next q =>
      obtain ⟨k, hk, rfl⟩ := Option.map_eq_some_iff.mp h
      intro j g hj hg
      cases j with
      | zero => rw [List.getElem?_cons_zero] at hg; cases hg; exact q
      | succ j => rw [List.getElem?_cons_succ] at hg; exact plN_first hk j g (by omega) hg
theorem plN_none {n : Tx} : ∀ {fs : List Fd}, plN fs n = none ↔ ∀ f ∈ fs, f.1 ≠ n
  | [] => ⟨fun _ f h => (by cases h), fun _ => rfl⟩
  | f :: r => by
    unfold plN
    split
    · next q => exact ⟨fun h => (by cases h), fun h => absurd q (h f List.mem_cons_self)⟩
    · next q =>
      rw [Option.map_eq_none_iff, plN_none]
      constructor
      · intro h g hg
        cases hg with
        | head => exact q
        | tail _ hg => exact h g hg
      · exact fun h g hg => h g (List.mem_cons_of_mem _ hg)
theorem plN_at {fs : List Fd} (nd : (fs.map (·.1)).Nodup) {i : Nat} {f : Fd} (h : fs[i]? = some f) : plN fs f.1 = some i := by
  cases q : plN fs f.1 with
  | none => exact absurd rfl (plN_none.mp q f (List.mem_of_getElem? h))
  | some j =>
    obtain ⟨b, hb⟩ := plN_some q
    have e1 : (fs.map (·.1))[i]? = some f.1 := by rw [List.getElem?_map, h]; rfl
    have e2 : (fs.map (·.1))[j]? = some f.1 := by rw [List.getElem?_map, hb]; rfl
    have := (List.getElem?_inj (List.getElem?_eq_some_iff.mp e1).1 nd).mp (e1.trans e2.symm)
    rw [this]
theorem firstIxS_names {n : Tx} : ∀ {fs : List Fd}, firstIxS (sx n) (fs.map fun f => sx f.1) = plN fs n
  | [] => rfl
  | f :: r => by
    rw [List.map_cons]
    unfold firstIxS plN
    rw [firstIxS_names]
    by_cases q : f.1 = n
    · rw [if_pos q, if_pos (by rw [q])]
    · rw [if_neg q, if_neg (fun z => q (sx_inj.mp z))]
/-! a sieve's own reading -/
def rowAt (fs : List Fd) (r : List Val) (n : Tx) : Val := ((plN fs n).bind fun i => r[i]?).getD .no
def letV : Sv → Val → Bool
  | .lacks _, v => decide (v = .no)
  | .is _ u, v => decide (v ≠ .no ∧ v = u)
  | .under _ u, v => match v, u with
    | .nm a, .nm b => decide (a < b)
    | .wd a, .wd b => decide (a < b)
    | _, _ => false
  | .over _ u, v => match v, u with
    | .nm a, .nm b => decide (b < a)
    | .wd a, .wd b => decide (b < a)
    | _, _ => false
  | _, _ => false
mutual
def lets (fs : List Fd) (r : List Val) : Sv → Bool
  | .not s => !lets fs r s
  | .all l => letsAll fs r l
  | .some l => letsSome fs r l
  | .lacks n => letV (.lacks n) (rowAt fs r n)
  | .is n u => letV (.is n u) (rowAt fs r n)
  | .under n u => letV (.under n u) (rowAt fs r n)
  | .over n u => letV (.over n u) (rowAt fs r n)
def letsAll (fs : List Fd) (r : List Val) : List Sv → Bool
  | [] => true
  | s :: l => lets fs r s && letsAll fs r l
def letsSome (fs : List Fd) (r : List Val) : List Sv → Bool
  | [] => false
  | s :: l => lets fs r s || letsSome fs r l
end
section
variable {fs : List Fd} {r : List Val}
theorem letsAll_all : ∀ l : List Sv, letsAll fs r l = l.all (lets fs r)
  | [] => rfl
  | s :: l => by rw [letsAll, letsAll_all l]; rfl
theorem letsSome_any : ∀ l : List Sv, letsSome fs r l = l.any (lets fs r)
  | [] => rfl
  | s :: l => by rw [letsSome, letsSome_any l]; rfl
end
/-! sieves that fit some fields -/
mutual
def SvOk (fs : List Fd) : Sv → Prop
  | .lacks n => ∃ (i : Nat) (b : Bool), fs[i]? = some (n, b)
  | .is n v => ∃ (i : Nat) (b : Bool), fs[i]? = some (n, b) ∧ v ≠ .no ∧ ValOk b v
  | .under n v => ∃ (i : Nat) (j : Int), fs[i]? = some (n, false) ∧ v = .nm j ∧ ValOk false v
  | .over n v => ∃ (i : Nat) (j : Int), fs[i]? = some (n, false) ∧ v = .nm j ∧ ValOk false v
  | .not s => SvOk fs s
  | .all l => SvOkL fs l
  | .some l => SvOkL fs l
def SvOkL (fs : List Fd) : List Sv → Prop
  | [] => True
  | s :: l => SvOk fs s ∧ SvOkL fs l
end
mutual
/-- no more than so many parts in any of it -/
def wid (k : Nat) : Sv → Prop
  | .not s => wid k s
  | .all l => l.length ≤ k ∧ widL k l
  | .some l => l.length ≤ k ∧ widL k l
  | _ => True
def widL (k : Nat) : List Sv → Prop
  | [] => True
  | s :: l => wid k s ∧ widL k l
end
theorem SvOkL_mem {fs : List Fd} : ∀ {l : List Sv}, SvOkL fs l ↔ ∀ s ∈ l, SvOk fs s
  | [] => ⟨fun _ s h => (by cases h), fun _ => by simp only [SvOkL]⟩
  | s :: l => by
    rw [SvOkL, SvOkL_mem]
    constructor
    · rintro ⟨h1, h2⟩ t ht
      cases ht with
      | head => exact h1
      | tail _ ht => exact h2 t ht
    · exact fun h => ⟨h s List.mem_cons_self, fun t ht => h t (List.mem_cons_of_mem _ ht)⟩
theorem widL_mem {k : Nat} : ∀ {l : List Sv}, widL k l ↔ ∀ s ∈ l, wid k s
  | [] => ⟨fun _ s h => (by cases h), fun _ => by simp only [widL]⟩
  | s :: l => by
    rw [widL, widL_mem]
    constructor
    · rintro ⟨h1, h2⟩ t ht
      cases ht with
      | head => exact h1
      | tail _ ht => exact h2 t ht
    · exact fun h => ⟨h s List.mem_cons_self, fun t ht => h t (List.mem_cons_of_mem _ ht)⟩
/-! slices that may reach beyond the end -/
theorem cutD_tk {xs : List D} {c : Int} (h0 : 0 ≤ c) : VD.cutD xs none (some c) = xs.take c.toNat := by
  unfold VD.cutD
  have e : HT.sIx xs.length xs.length (some c) = min c.toNat xs.length := by
    show (if c < 0 then _ else min c.toNat xs.length) = _
    rw [if_neg (by omega)]
  rw [e, HT.sIx_none, List.drop_zero, Nat.sub_zero, ← List.take_eq_take_min]
theorem cutD_dr {xs : List D} {c : Int} (h0 : 0 ≤ c) : VD.cutD xs (some c) none = xs.drop c.toNat := by
  unfold VD.cutD
  have e : HT.sIx xs.length 0 (some c) = min c.toNat xs.length := by
    show (if c < 0 then _ else min c.toNat xs.length) = _
    rw [if_neg (by omega)]
  rw [e, HT.sIx_none, List.take_of_length_le (by rw [List.length_drop]; omega)]
  by_cases q : c.toNat ≤ xs.length
  · rw [Nat.min_eq_left q]
  · rw [Nat.min_eq_right (by omega), List.drop_of_length_le (Nat.le_refl _), List.drop_of_length_le (by omega)]
@[simp] theorem bTuple_lst {xs : List D} {h : Hv} : bTuple [.lst xs] h = .ok (.tup xs) h := rfl
@[simp] theorem bTuple_fz {xs : List D} {h : Hv} : bTuple [.fz xs] h = .ok (.tup xs) h := rfl
@[simp] theorem bTuple_tup {xs : List D} {h : Hv} : bTuple [.tup xs] h = .ok (.tup xs) h := rfl
theorem bTuple_cell {xs : List D} {n : Nat} {h : Hv} (e : h[n]? = some (.lst xs)) : bTuple [.cell n] h = .ok (.tup xs) h := by
  show (match lOf h (.cell n) with
    | some xs => VD.R.ok (D.tup xs) h
    | none => (match tOf (.cell n) with
      | some xs => .ok (.tup xs) h
      | none => .stuck)) = _
  rw [lOf_cell, e]
end
end WT

set_option Elab.async false
set_option linter.all false
set_option maxRecDepth 100000
set_option maxHeartbeats 4000000
namespace PS
open PySem PySem.Spec PyProof.Rows L2 VD
noncomputable section
def l_field_at_1 : SS := sFor (iR1 (aCons (eCa bLen (aCons (eVar 0) (aNil))) (aNil))) (gN 2) (sIf (toB (eOp oEq (eOp oIx (eOp oIx (eVar 0) (eVar 2)) (eK (.int 0))) (eVar 1))) (sRet (eVar 2)) (sNext))
def b_field_at : SS := sSeq (l_field_at_1) (sRaiseP "NoField" "name" (eVar 1))
def m_field_at : List D → Hv → R D := fnS 2 1 b_field_at
def b_lets_value_by : SS := sSeq (sIf (cOr (toB (eOp oEq (eOp oIx (eVar 0) (eK (.int 0))) (eK (.str "lacks")))) (toB (eOp oIs (eVar 1) (eK .non)))) (sRet (eAndV (eOp oEq (eOp oIx (eVar 0) (eK (.int 0))) (eK (.str "lacks"))) (eOp oIs (eVar 1) (eK .non)))) (sNext)) (sSeq (sIf (toB (eOp oEq (eOp oIx (eVar 0) (eK (.int 0))) (eK (.str "is")))) (sRet (eOp oEq (eVar 1) (eOp oIx (eVar 0) (eK (.int 2))))) (sNext)) (sSeq (sIf (toB (eOp oEq (eOp oIx (eVar 0) (eK (.int 0))) (eK (.str "under")))) (sRet (eOp oLt (eVar 1) (eOp oIx (eVar 0) (eK (.int 2))))) (sNext)) (sRet (eOp oGt (eVar 1) (eOp oIx (eVar 0) (eK (.int 2)))))))
def m_lets_value_by : List D → Hv → R D := fnQ 2 0 b_lets_value_by
def c_lets_by_1 (rc : List D → Hv → R D) : LS := lLc (iT (eOp oIx (eVar 1) (eK (.int 1)))) (gN 3) (cYes) (eCa (callQ rc) (aCons (eVar 0) (aCons (eVar 3) (aCons (eVar 2) (aNil))))) [3]
def c_lets_by_2 (rc : List D → Hv → R D) : LS := lLc (iT (eOp oIx (eVar 1) (eK (.int 1)))) (gN 3) (cYes) (eCa (callQ rc) (aCons (eVar 0) (aCons (eVar 3) (aCons (eVar 2) (aNil))))) [3]
def b_lets_by (rc : List D → Hv → R D) : SS := sSeq (sIf (toB (eOp oEq (eOp oIx (eVar 1) (eK (.int 0))) (eK (.str "not")))) (sRet (eNotV (eCa (callQ rc) (aCons (eVar 0) (aCons (eOp oIx (eVar 1) (eK (.int 1))) (aCons (eVar 2) (aNil))))))) (sNext)) (sSeq (sIf (toB (eOp oEq (eOp oIx (eVar 1) (eK (.int 0))) (eK (.str "all")))) (sRet (eCa bAll (aCons (eV ((c_lets_by_1 rc))) (aNil)))) (sNext)) (sSeq (sIf (toB (eOp oEq (eOp oIx (eVar 1) (eK (.int 0))) (eK (.str "some")))) (sRet (eCa bAny (aCons (eV ((c_lets_by_2 rc))) (aNil)))) (sNext)) (sRet (eCa (callQ m_lets_value_by) (aCons (eVar 1) (aCons (eOp oIx (eVar 2) (eCa (Cm.f .P m_field_at) (aCons (eVar 0) (aCons (eOp oIx (eVar 1) (eK (.int 1))) (aNil))))) (aNil)))))))
def m_lets_by : Nat → List D → Hv → R D
  | 0 => fnQ 3 1 sNever
  | n + 1 => fnQ 3 1 (b_lets_by (m_lets_by n))
open WT
theorem field_eq {fs : List Fd} {n : Tx} (hl : fs.length ≤ 100) : (∀ i, plN fs n = some i → m_field_at [fdsD fs, tx n] [] = .ok (.int (i : Nat)) []) ∧ (plN fs n = none → m_field_at [fdsD fs, tx n] [] = .exc ⟨"NoField", some ("name", tx n)⟩ []) := by
  have key : ∀ Q : VD.R D → Prop, (∀ i, plN fs n = some i → Q (.ok (.int (i : Nat)) [])) → (plN fs n = none → Q (.exc ⟨"NoField", some ("name", tx n)⟩ [])) → Q (m_field_at [fdsD fs, tx n] []) := by
    intro Q h1 h2
    refine fnS_of (P := Q) rfl ?_
    unfold b_field_at
    simp only [Wp_seq]
    unfold l_field_at_1
    have lf : ∀ h, lenD h (fdsD fs) = some (fs.length : Int) := fun h => by unfold fdsD; rw [lenD_lst, List.length_map]
    obtain ⟨I, hI⟩ : ∃ I : Nat → VS → Hv → Prop, I = fun i σ h => ∃ x2 : Option D, σ = [some (fdsD fs), some (tx n), x2] ∧ h = [] ∧ ∀ (j : Nat) f, j < i → fs[j]? = some f → f.1 ≠ n := ⟨_, rfl⟩
    refine Wp.range 0 fs.length I (h0 := []) (by simp (disch := omega) [lf]) (by rw [hI]; exact ⟨_, rfl, rfl, fun j f hj => by omega⟩) ?_ ?_
    · intro i σ h hi hh
      rw [hI] at hh
      obtain ⟨x2, rfl, rfl, al⟩ := hh
      refine ⟨_, rfl, ?_⟩
      have e1 : ixD [] (fdsD fs) (i : Int) = some (fdD fs[i]) := atI_map (atI_at rfl (List.getElem?_eq_getElem hi))
      have e2 : ∀ h, ixD h (fdD fs[i]) 0 = some (tx fs[i].1) := fun _ => rfl
      by_cases q : fs[i].1 = n
      · have e3 : plN fs n = some i := by
          cases z : plN fs n with
          | none => exact absurd q (plN_none.mp z _ (List.getElem_mem hi))
          | some j =>
            obtain ⟨b, hb⟩ := plN_some z
            by_cases q1 : j < i
            · exact absurd rfl (al j _ q1 hb)
            · by_cases q2 : i < j
              · exact absurd q (plN_first z i _ q2 (List.getElem?_eq_getElem hi))
              · rw [show j = i by omega]
        simp [e1, e2, eqD_tx, q]
        exact h1 i e3
      · simp [e1, e2, eqD_tx, q]
        rw [hI]
        refine ⟨_, rfl, rfl, fun j f hj hf => ?_⟩
        by_cases q1 : j = i
        · subst q1
          rw [List.getElem?_eq_getElem hi] at hf
          cases hf; exact q
        · exact al j f (by omega) hf
    · intro σ h hh
      rw [hI] at hh
      obtain ⟨x2, rfl, rfl, al⟩ := hh
      simp
      refine h2 (plN_none.mpr fun f hf => ?_)
      obtain ⟨j, hj⟩ := List.getElem?_of_mem hf
      exact al j f (List.getElem?_eq_some_iff.mp hj).1 hj
  refine ⟨fun i e => key (fun x => x = .ok (.int (i : Nat)) []) (fun j e2 => ?_) (fun e2 => ?_), fun e => key (fun x => x = .exc ⟨"NoField", some ("name", tx n)⟩ []) (fun j e2 => ?_) (fun _ => rfl)⟩
  · rw [e] at e2; cases e2; rfl
  · rw [e] at e2; cases e2
  · rw [e] at e2; cases e2
theorem frz_tx {n0 n : Nat} {h : Hv} {cs : Tx} : frz n0 h (n + 1) (tx cs) = some (tx cs) := rfl
theorem field_call {fs : List Fd} {n : Tx} {i : Nat} (hl : fs.length ≤ 100) (e : plN fs n = some i) (h : Hv) : callP m_field_at [fdsD fs, tx n] h = .ok (.int (i : Nat)) h := cP ((field_eq hl).1 i e) (by simp [frz_fds]) h
theorem eqD_val {h : Hv} (a b : Val) : eqD h (valD a) (valD b) = some (decide (a = b)) := by
  cases a with
  | no => cases b <;> rfl
  | wd x =>
    cases b with
    | no => rfl
    | wd y => show eqD h (tx x) (tx y) = _; rw [eqD_tx]; congr 1; rw [decide_eq_decide]; exact ⟨fun e => by rw [e], fun e => by cases e; rfl⟩
    | nm j => rfl
  | nm i =>
    cases b with
    | no => rfl
    | wd y => rfl
    | nm j => show eqD h (.int i) (.int j) = _; simp
theorem isD_val {v : Val} : isD (valD v) .non = some (decide (v = .no)) := by cases v <;> rfl
theorem s_il : ¬ (("is" : Str) = "lacks") := by decide
theorem s_ul : ¬ (("under" : Str) = "lacks") := by decide
theorem s_ol : ¬ (("over" : Str) = "lacks") := by decide
theorem s_ui : ¬ (("under" : Str) = "is") := by decide
theorem s_oi : ¬ (("over" : Str) = "is") := by decide
theorem s_ou : ¬ (("over" : Str) = "under") := by decide
/-- a plain sieve fits a value -/
def fits (s : Sv) (v : Val) : Prop := match s with
  | .lacks _ => True
  | .is _ _ => True
  | .under _ u => (v = .no ∨ ∃ i, v = .nm i) ∧ ∃ j, u = .nm j
  | .over _ u => (v = .no ∨ ∃ i, v = .nm i) ∧ ∃ j, u = .nm j
  | _ => False
theorem value_eq {s : Sv} {v : Val} (f : fits s v) : m_lets_value_by [svD s, valD v] [] = .ok (.bl (letV s v)) [] := by
  refine fnQ_of (P := fun x => x = .ok (.bl (letV s v)) []) rfl ?_
  unfold b_lets_value_by
  cases s with
  | lacks n =>
    simp [svD, isD_val, letV]
  | is n u =>
    by_cases q : v = .no
    · subst q
      simp [svD, isD_val, letV, s_il]
    · simp [svD, isD_val, letV, s_il, q, eqD_val]
  | under n u =>
    obtain ⟨f1, j, rfl⟩ := f
    rcases f1 with rfl | ⟨i, rfl⟩
    · simp [svD, isD_val, letV, s_ul]
    · simp [svD, isD_val, letV, s_ul, s_ui, valD]
  | over n u =>
    obtain ⟨f1, j, rfl⟩ := f
    rcases f1 with rfl | ⟨i, rfl⟩
    · simp [svD, isD_val, letV, s_ol]
    · simp [svD, isD_val, letV, s_ol, s_oi, s_ou, valD]
  | not s => exact f.elim
  | all l => exact f.elim
  | some l => exact f.elim
theorem s_an : ¬ (("all" : Str) = "not") := by decide
theorem s_sn : ¬ (("some" : Str) = "not") := by decide
theorem s_sa : ¬ (("some" : Str) = "all") := by decide
theorem s_ln : ¬ (("lacks" : Str) = "not") := by decide
theorem s_la : ¬ (("lacks" : Str) = "all") := by decide
theorem s_ls : ¬ (("lacks" : Str) = "some") := by decide
theorem s_in : ¬ (("is" : Str) = "not") := by decide
theorem s_ia : ¬ (("is" : Str) = "all") := by decide
theorem s_is : ¬ (("is" : Str) = "some") := by decide
theorem s_un : ¬ (("under" : Str) = "not") := by decide
theorem s_ua : ¬ (("under" : Str) = "all") := by decide
theorem s_us : ¬ (("under" : Str) = "some") := by decide
theorem s_on : ¬ (("over" : Str) = "not") := by decide
theorem s_oa : ¬ (("over" : Str) = "all") := by decide
theorem s_os : ¬ (("over" : Str) = "some") := by decide
theorem row_ix {r : List Val} {i : Nat} {v : Val} {h : Hv} (e : r[i]? = some v) : ixD h (rowD r) (i : Int) = some (valD v) := atI_map (atI_at rfl e)
theorem row_at {fs : List Fd} {r : List Val} (ro : RowOk fs r) (nd : (fs.map (·.1)).Nodup) {n : Tx} {i : Nat} {b : Bool} (e : fs[i]? = some (n, b)) : plN fs n = some i ∧ r[i]? = some (rowAt fs r n) ∧ ValOk b (rowAt fs r n) := by
  have k := plN_at nd e
  obtain ⟨v, hv, ok⟩ := ro.get e
  have : rowAt fs r n = v := by
    unfold rowAt
    simp only at k
    rw [k, Option.bind_some, hv]; rfl
  rw [this]
  exact ⟨k, hv, ok⟩
theorem val_num {v : Val} (h : ValOk false v) : v = .no ∨ ∃ i, v = .nm i := by
  cases v with
  | no => exact .inl rfl
  | wd cs => exact absurd h.1 (by decide)
  | nm i => exact .inr ⟨i, rfl⟩
/-- the name of a plain sieve, where it stands, and that it fits the row's value there -/
theorem plain_at {fs : List Fd} {r : List Val} (fo : FdsOk fs) (ro : RowOk fs r) : ∀ {s : Sv}, SvOk fs s → (∃ t, s = .not t) ∨ (∃ l, s = .all l) ∨ (∃ l, s = .some l) ∨
    (∃ n i, plN fs n = some i ∧ r[i]? = some (rowAt fs r n) ∧ fits s (rowAt fs r n) ∧ lets fs r s = letV s (rowAt fs r n) ∧ (∃ rest, (svD s = .tup (.str "lacks" :: tx n :: rest) ∨ svD s = .tup (.str "is" :: tx n :: rest) ∨ svD s = .tup (.str "under" :: tx n :: rest) ∨ svD s = .tup (.str "over" :: tx n :: rest))))
  | .not t, _ => .inl ⟨t, rfl⟩
  | .all l, _ => .inr (.inl ⟨l, rfl⟩)
  | .some l, _ => .inr (.inr (.inl ⟨l, rfl⟩))
  | .lacks n, h => by
    rw [SvOk] at h
    obtain ⟨i, b, h⟩ := h
    obtain ⟨k1, k2, k3⟩ := row_at ro fo.nd h
    exact .inr (.inr (.inr ⟨n, i, k1, k2, trivial, by rw [lets], [], .inl (by rw [svD])⟩))
  | .is n u, h => by
    rw [SvOk] at h
    obtain ⟨i, b, h, _⟩ := h
    obtain ⟨k1, k2, k3⟩ := row_at ro fo.nd h
    exact .inr (.inr (.inr ⟨n, i, k1, k2, trivial, by rw [lets], [valD u], .inr (.inl (by rw [svD]))⟩))
  | .under n u, h => by
    rw [SvOk] at h
    obtain ⟨i, j, h, hu, _⟩ := h
    obtain ⟨k1, k2, k3⟩ := row_at ro fo.nd h
    exact .inr (.inr (.inr ⟨n, i, k1, k2, ⟨val_num k3, j, hu⟩, by rw [lets], [valD u], .inr (.inr (.inl (by rw [svD])))⟩))
  | .over n u, h => by
    rw [SvOk] at h
    obtain ⟨i, j, h, hu, _⟩ := h
    obtain ⟨k1, k2, k3⟩ := row_at ro fo.nd h
    exact .inr (.inr (.inr ⟨n, i, k1, k2, ⟨val_num k3, j, hu⟩, by rw [lets], [valD u], .inr (.inr (.inr (by rw [svD])))⟩))
theorem lets_eq {fs : List Fd} {r : List Val} (fo : FdsOk fs) (ro : RowOk fs r) : ∀ (k : Nat) (s : Sv), dep s < k → SvOk fs s → wid 1000 s → m_lets_by k [fdsD fs, svD s, rowD r] [] = .ok (.bl (lets fs r s)) [] := by
  intro k
  induction k with
  | zero => intro s h; exact absurd h (Nat.not_lt_zero _)
  | succ k ih =>
    intro s hd ok hw
    refine fnQ_of (P := fun x => x = .ok (.bl (lets fs r s)) []) rfl ?_
    unfold b_lets_by
    have nc : ∀ t : Sv, noCL [fdsD fs, svD t, rowD r] = true := fun t => by simp [noCL, noC_fds, noC_sv, noC_row]
    have fl : fs.length ≤ 100 := by have := fo.hi; omega
    rcases plain_at fo ro ok with ⟨t, rfl⟩ | ⟨l, rfl⟩ | ⟨l, rfl⟩ | ⟨n, i, k1, k2, k3, k4, rest, k5⟩
    · rw [dep] at hd
      rw [SvOk] at ok
      rw [wid] at hw
      have e := cQ (ih t (by omega) ok hw) (nc t)
      simp [svD, e, lets]
    · rw [dep] at hd
      rw [SvOk, SvOkL_mem] at ok
      rw [wid, widL_mem] at hw
      have e1 : c_lets_by_1 (m_lets_by k) [some (fdsD fs), some (.tup [.str "all", .tup (svL l)]), some (rowD r), none] [] = .ok ((l.map (lets fs r)).map .bl) [] := by
        unfold c_lets_by_1
        rw [List.map_map]
        refine lLc_map svD _ l (chk := always) (h0 := []) (by simp [svL_map]) rfl (by have := hw.1; omega) fun t ht => ⟨_, rfl, ?_⟩
        have e := cQ (ih t (by have := dep_mem ht; omega) (ok t ht) (hw.2 t ht)) (nc t)
        simp [e]
      have e2 : bAll [.lst ((l.map (lets fs r)).map .bl)] [] = .ok (.bl (letsAll fs r l)) [] := by rw [bAll_lst, letsAll_all, List.all_map]; rfl
      simp [svD, s_an, e1, e2, lets, -List.map_map]
    · rw [dep] at hd
      rw [SvOk, SvOkL_mem] at ok
      rw [wid, widL_mem] at hw
      have e1 : c_lets_by_2 (m_lets_by k) [some (fdsD fs), some (.tup [.str "some", .tup (svL l)]), some (rowD r), none] [] = .ok ((l.map (lets fs r)).map .bl) [] := by
        unfold c_lets_by_2
        rw [List.map_map]
        refine lLc_map svD _ l (chk := always) (h0 := []) (by simp [svL_map]) rfl (by have := hw.1; omega) fun t ht => ⟨_, rfl, ?_⟩
        have e := cQ (ih t (by have := dep_mem ht; omega) (ok t ht) (hw.2 t ht)) (nc t)
        simp [e]
      have e2 : bAny [.lst ((l.map (lets fs r)).map .bl)] [] = .ok (.bl (letsSome fs r l)) [] := by rw [bAny_lst, letsSome_any, List.any_map]; rfl
      simp [svD, s_sn, s_sa, e1, e2, lets, -List.map_map]
    · have fc := field_call fl k1
      have rx := fun h => row_ix (h := h) k2
      have ve := cQ (value_eq k3) (by simp [noCL, noC_sv, noC_val])
      rw [k4]
      rcases k5 with k5 | k5 | k5 | k5
      · rw [k5] at ve ⊢
        simp [s_ln, s_la, s_ls, fc, rx, ve]
      · rw [k5] at ve ⊢
        simp [s_in, s_ia, s_is, fc, rx, ve]
      · rw [k5] at ve ⊢
        simp [s_un, s_ua, s_us, fc, rx, ve]
      · rw [k5] at ve ⊢
        simp [s_on, s_oa, s_os, fc, rx, ve]
end
end PS

set_option Elab.async false
set_option linter.all false
set_option maxRecDepth 100000
set_option maxHeartbeats 4000000
namespace WD
open PySem PySem.Spec PyProof.Rows L2 VD
noncomputable section
def c__law_heads_1 : LS := lLc (iR1 (aCons (eVar 3) (aNil))) (gN 8) (cYes) (eOp oIx (eVar 1) (eOp oMod (eOp oAdd (eOp oFdiv (eVar 0) (eK (.int 1664))) (eOp oMul (eOp oMul (eK (.int 5)) (eVar 8)) (eVar 8))) (eCa bLen (aCons (eVar 1) (aNil))))) [8]
def c__law_heads_2 : LS := lLc (iR1 (aCons (eVar 2) (aNil))) (gN 8) (cYes) (eSl (eVar 9) (pNo) (pAt (eOp oAdd (eVar 8) (eK (.int 1))))) [8]
def l__law_heads_1 : SS := sFor (iR1 (aCons (eVar 2) (aNil))) (gN 8) (sSeq (sSet 10 (eOp oIx (eVar 1) (eOp oMod (eOp oAdd (eOp oFdiv (eVar 0) (eK (.int 1664))) (eOp oMul (eK (.int 5)) (eVar 8))) (eCa bLen (aCons (eVar 1) (aNil)))))) (sDrop (eBM mAppend (eVar 7) (aCons (eOp oAdd (eOp oAdd (eOp oMulS (eVar 6) (eVar 5)) (eVar 10)) (eOp oMulS (eVar 6) (eOp oSub (eOp oSub (eVar 4) (eVar 5)) (eK (.int 1))))) (aNil)))))
def b__law_heads : SS := sSeq (sIf (cAnd (toB (eOp oEq (eOp oMod (eOp oFdiv (eVar 0) (eK (.int 43264))) (eK (.int 4))) (eK (.int 3)))) (toB (eOp oLe (eVar 2) (eVar 3)))) (sSeq (sSet 9 (eStr1 oJoin (eK (.str "")) (eV (c__law_heads_1)))) (sRet (eV (c__law_heads_2)))) (sNext)) (sSeq (sSet 4 (eOp oAdd (eK (.int 1)) (eOp oMod (eVar 0) (eVar 3)))) (sSeq (sSet 5 (eOp oMod (eOp oFdiv (eVar 0) (eK (.int 12))) (eVar 4))) (sSeq (sSet 6 (eOp oIx (eVar 1) (eOp oMod (eOp oFdiv (eVar 0) (eK (.int 64))) (eCa bLen (aCons (eVar 1) (aNil)))))) (sSeq (sSet 7 (eC (lLst (aNil)))) (sSeq (l__law_heads_1) (sRet (eVar 7)))))))
def m__law_heads : List D → Hv → R D := fnS 4 7 b__law_heads
def c__law_world_1 : LS := lLc (iR1 (aCons (eVar 2) (aNil))) (gN 7) (cYes) (eTup (aCons (eOp oIx (eVar 3) (eVar 7)) (aCons (eOp oIx (eV (lLst (aCons (eK (.str "word")) (aCons (eK (.str "number")) (aNil))))) (eOp oMod (eCa (Cm.f .P mixM) (aCons (eVar 1) (aCons (eOp oAdd (eVar 7) (eK (.int 30))) (aNil)))) (eK (.int 2)))) (aNil)))) [7]
def b__law_world : SS := sSeq (sSet 1 (eCa (Cm.f .P mixM) (aCons (eCa (Cm.f .P cellM) (aCons (eVar 0) (aCons (eK (.int 0)) (aNil)))) (aCons (eK (.int 1)) (aNil))))) (sSeq (sSet 2 (eOp oAdd (eK (.int 1)) (eOp oMod (eVar 1) (eK (.int 8))))) (sSeq (sSet 3 (eCa (Cm.f .P m__law_heads) (aCons (eCa (Cm.f .P mixM) (aCons (eVar 1) (aCons (eK (.int 2)) (aNil)))) (aCons (eK (.str "abcdefghijklmnopqrstuvwxyz")) (aCons (eVar 2) (aCons (eK (.int 12)) (aNil))))))) (sSeq (sSet 4 (eV (c__law_world_1))) (sSeq (sSet 5 (eCa (Cm.f .P m__law_heads) (aCons (eCa (Cm.f .P mixM) (aCons (eVar 1) (aCons (eK (.int 3)) (aNil)))) (aCons (eK (.str "abcdefghijklmnopqrstuvwxyz0123456789")) (aCons (eK (.int 4)) (aCons (eK (.int 12)) (aNil))))))) (sSeq (sIf (toB (eOp oEq (eOp oMod (eOp oFdiv (eVar 1) (eK (.int 8))) (eK (.int 3))) (eK (.int 1)))) (sSet 5 (eV (eOp oCat (eV (lSl (eVar 3) (pNo) (pAt (eK (.int 3))))) (eV (lSl (eVar 5) (pNo) (pAt (eK (.int 1)))))))) (sNext)) (sSeq (sSet 6 (eOp oIx (eV (lLst (aCons (eK (.int 0)) (aCons (eOp oMul (eK (.int 9)) (eOp oPow (eK (.int 10)) (eK (.int 59)))) (aCons (eOp oSub (eK (.int 0)) (eOp oMul (eK (.int 9)) (eOp oPow (eK (.int 10)) (eK (.int 59))))) (aCons (eK (.int 98)) (aNil))))))) (eOp oMod (eOp oFdiv (eVar 1) (eK (.int 24))) (eK (.int 4))))) (sRet (eDispF (pCons (eK (.str "fields")) (eVar 4) (pCons (eK (.str "words")) (eVar 5) (pCons (eK (.str "base")) (eVar 6) (pNil))))))))))))
def m__law_world : List D → Hv → R D := fnS 1 7 b__law_world
def b__law_sure_value : SS := sSeq (sIf (toB (eOp oEq (eVar 1) (eK (.str "word")))) (sRet (eOp oIx (eOp oDget (eVar 2) (eK (.str "words"))) (eOp oMod (eVar 0) (eCa bLen (aCons (eOp oDget (eVar 2) (eK (.str "words"))) (aNil)))))) (sNext)) (sRet (eOp oSub (eOp oAdd (eOp oDget (eVar 2) (eK (.str "base"))) (eOp oMod (eVar 0) (eK (.int 6)))) (eK (.int 2))))
def m__law_sure_value : List D → Hv → R D := fnS 3 0 b__law_sure_value
def b__law_value : SS := sSeq (sIf (toB (eOp oEq (eOp oMod (eVar 0) (eK (.int 6))) (eK (.int 0)))) (sRet (eK .non)) (sNext)) (sRet (eCa (Cm.f .P m__law_sure_value) (aCons (eOp oFdiv (eVar 0) (eK (.int 6))) (aCons (eVar 1) (aCons (eVar 2) (aNil))))))
def m__law_value : List D → Hv → R D := fnS 3 0 b__law_value
def c__law_row_1 : LS := lLc (iR1 (aCons (eCa bLen (aCons (eVar 2) (aNil))) (aNil))) (gN 3) (cYes) (eCa (Cm.f .P m__law_value) (aCons (eCa (Cm.f .P mixM) (aCons (eVar 0) (aCons (eOp oAdd (eVar 3) (eK (.int 60))) (aNil)))) (aCons (eOp oIx (eOp oIx (eVar 2) (eVar 3)) (eK (.int 1))) (aCons (eVar 1) (aNil))))) [3]
def b__law_row : SS := sSeq (sSet 2 (eOp oDget (eVar 1) (eK (.str "fields")))) (sRet (eCa bTuple (aCons (eV (c__law_row_1)) (aNil))))
def m__law_row : List D → Hv → R D := fnS 2 2 b__law_row
def b__law_plain : SS := sSeq (sAsg (eOp oIx (eOp oDget (eVar 1) (eK (.str "fields"))) (eOp oMod (eVar 0) (eCa bLen (aCons (eOp oDget (eVar 1) (eK (.str "fields"))) (aNil))))) (gT 2 (gsCons (gN 3) (gsCons (gN 4) (gsNil))))) (sSeq (sSet 2 (eOp oMod (eOp oFdiv (eVar 0) (eK (.int 8))) (eK (.int 4)))) (sSeq (sIf (toB (eOp oEq (eVar 2) (eK (.int 0)))) (sRet (eTup (aCons (eK (.str "lacks")) (aCons (eVar 3) (aNil))))) (sNext)) (sSeq (sIf (cOr (toB (eOp oEq (eVar 2) (eK (.int 1)))) (toB (eOp oEq (eVar 4) (eK (.str "word"))))) (sRet (eTup (aCons (eK (.str "is")) (aCons (eVar 3) (aCons (eCa (Cm.f .P m__law_sure_value) (aCons (eOp oFdiv (eVar 0) (eK (.int 32))) (aCons (eVar 4) (aCons (eVar 1) (aNil))))) (aNil)))))) (sNext)) (sRet (eTup (aCons (eOp oIx (eV (lLst (aCons (eK (.str "under")) (aCons (eK (.str "over")) (aNil))))) (eOp oSub (eVar 2) (eK (.int 2)))) (aCons (eVar 3) (aCons (eCa (Cm.f .P m__law_sure_value) (aCons (eOp oFdiv (eVar 0) (eK (.int 32))) (aCons (eVar 4) (aCons (eVar 1) (aNil))))) (aNil)))))))))
def m__law_plain : List D → Hv → R D := fnQ 2 3 b__law_plain
def l__law_sieve_1 (rc : List D → Hv → R D) : SS := sFor (iR1 (aCons (eOp oMod (eOp oFdiv (eVar 0) (eK (.int 8))) (eK (.int 4))) (aNil))) (gN 5) (sDrop (eBM mAppend (eVar 4) (aCons (eCa (callQ rc) (aCons (eCa (Cm.f .P mixM) (aCons (eVar 0) (aCons (eOp oAdd (eVar 5) (eK (.int 3))) (aNil)))) (aCons (eVar 1) (aCons (eOp oSub (eVar 2) (eK (.int 1))) (aNil))))) (aNil))))
def b__law_sieve (rc : List D → Hv → R D) : SS := sSeq (sSet 3 (eOp oMod (eVar 0) (eK (.int 8)))) (sSeq (sIf (cOr (toB (eOp oLt (eVar 3) (eK (.int 4)))) (toB (eOp oEq (eVar 2) (eK (.int 0))))) (sRet (eCa (callQ m__law_plain) (aCons (eCa (Cm.f .P mixM) (aCons (eVar 0) (aCons (eK (.int 1)) (aNil)))) (aCons (eVar 1) (aNil))))) (sNext)) (sSeq (sIf (toB (eOp oEq (eVar 3) (eK (.int 4)))) (sRet (eTup (aCons (eK (.str "not")) (aCons (eCa (callQ rc) (aCons (eCa (Cm.f .P mixM) (aCons (eVar 0) (aCons (eK (.int 2)) (aNil)))) (aCons (eVar 1) (aCons (eOp oSub (eVar 2) (eK (.int 1))) (aNil))))) (aNil))))) (sNext)) (sBlk (fun n => sSeq (sSet 4 (eC (lLst (aNil)))) (sSeq ((l__law_sieve_1 rc)) (sSeal n (sRet (eTup (aCons (eOp oIx (eV (lLst (aCons (eK (.str "all")) (aCons (eK (.str "some")) (aNil))))) (eOp oMod (eOp oFdiv (eVar 0) (eK (.int 32))) (eK (.int 2)))) (aCons (eCa bTuple (aCons (eVar 4) (aNil))) (aNil)))))))))))
def m__law_sieve : Nat → List D → Hv → R D
  | 0 => fnQ 3 3 sNever
  | n + 1 => fnQ 3 3 (b__law_sieve (m__law_sieve n))
open WT PS
/-! names and words that are alike but at one place, or begin one another -/
theorem rep_sx {c : Nat} {n : Int} : repS (sx [c]) n = sx (List.replicate n.toNat c) := by
  unfold repS
  have e : (sx [c]).cps.toList = [c] := by simp
  rw [e]
  show Str.mk _ = Str.mk _
  congr 2
  induction n.toNat with
  | zero => rfl
  | succ m ih => rw [List.replicate_succ, List.flatten_cons, ih]; rfl
def sg (ss : List Nat) (k : Int) : Nat := ss[k.toNat]?.getD 0
theorem sg_mem {ss : List Nat} {k : Int} (h0 : 0 ≤ k) (h1 : k < ss.length) : sg ss k ∈ ss := by
  have h2 : k.toNat < ss.length := by omega
  unfold sg
  rw [List.getElem?_eq_getElem h2]
  exact List.getElem_mem h2
theorem sg_inj {ss : List Nat} (nd : ss.Nodup) {i j : Int} (h0 : 0 ≤ i) (h1 : i < ss.length) (k0 : 0 ≤ j) (k1 : j < ss.length) (h : sg ss i = sg ss j) : i = j := by
  have h2 : i.toNat < ss.length := by omega
  have k2 : j.toNat < ss.length := by omega
  unfold sg at h
  rw [List.getElem?_eq_getElem h2, List.getElem?_eq_getElem k2] at h
  have := (List.getElem_inj nd).mp h
  omega
theorem ix_sg {ss : List Nat} {k : Int} {h : Hv} (hl : ss.length ≤ 100) (h0 : 0 ≤ k) (h1 : k < ss.length) : ixD h (tx ss) k = some (tx [sg ss k]) := ixD_tx (by omega) h0 h1
structure Heads (ss : List Nat) (many most : Nat) (ws : List Tx) : Prop where
  len : ws.length = many
  nd : ws.Nodup
  ok : ∀ w ∈ ws, 1 ≤ w.length ∧ w.length ≤ most ∧ ∀ c ∈ w, c ∈ ss
def headW (ss : List Nat) (seed : Int) (most : Nat) : Tx := (List.range most).map fun k : Nat => sg ss ((seed / 1664 + 5 * (k : Int) * (k : Int)) % ss.length)
def headV (ss : List Nat) (seed few at_ : Int) (k : Nat) : Tx := List.replicate at_.toNat (sg ss (seed / 64 % ss.length)) ++ [sg ss ((seed / 1664 + 5 * (k : Int)) % ss.length)] ++ List.replicate (few - at_ - 1).toNat (sg ss (seed / 64 % ss.length))
theorem joinS {ws : List Nat} {h : Hv} (hl : ws.length ≤ 1000) : oJoin (tx []) (.lst (ws.map fun c => tx [c])) h = .ok (tx ws) h := by
  have e := oJoin_ap (s := []) (ps := ws.map fun c => [c]) (y := .lst (ws.map fun c => tx [c])) (h := h) (by rw [List.map_map]; rfl) (by
    rw [List.map_map]
    have : ((ws.map ((fun x => x.length) ∘ fun c => [c]))).sum = ws.length := by
      clear hl
      induction ws with
      | nil => rfl
      | cons a ws ih => rw [List.map_cons, List.sum_cons, ih]; simp; omega
    rw [this]; simp; omega)
  rw [e, joinL_signs]
theorem mid {a b n : Nat} {c : List Nat} : (List.replicate n a ++ [b] ++ c)[n]? = some b := by
  rw [List.append_assoc, List.getElem?_append_right (by simp)]
  simp
theorem heads_eq {ss : List Nat} {seed : Int} {many most : Nat} (nd : ss.Nodup) (l1 : 1 ≤ ss.length) (l2 : ss.length ≤ 100) (s0 : 0 ≤ seed) (s1 : seed < 10 ^ 20) (hm : many ≤ 10) (h1 : 1 ≤ most) (h2 : most ≤ 12)
    (h5 : ∀ a i j : Int, 0 ≤ i → i < 10 → 0 ≤ j → j < 10 → (a + 5 * i) % ss.length = (a + 5 * j) % ss.length → i = j) :
    ∃ ws, m__law_heads [.int seed, tx ss, .int many, .int most] [] = .ok (.lst (ws.map tx)) [] ∧ Heads ss many most ws := by
  refine fnS_of (P := fun x => ∃ ws, x = .ok (.lst (ws.map tx)) [] ∧ Heads ss many most ws) rfl ?_
  unfold b__law_heads
  have hL : (0 : Int) < (ss.length : Int) := by omega
  have lss : ∀ h, lenD h (tx ss) = some (ss.length : Int) := fun h => lenD_tx (by omega)
  have md : ∀ x : Int, 0 ≤ x % (ss.length : Int) ∧ x % (ss.length : Int) < ss.length := fun x => ⟨Int.emod_nonneg _ (by omega), Int.emod_lt_of_pos _ hL⟩
  have big : (10 : Int) ^ 20 < 10 ^ 77 := by decide
  have second : Wp (Rt fun x => ∃ ws, x = .ok (.lst (ws.map tx)) [] ∧ Heads ss many most ws) ((sSeq (sSet 4 (eOp oAdd (eK (.int 1)) (eOp oMod (eVar 0) (eVar 3)))) (sSeq (sSet 5 (eOp oMod (eOp oFdiv (eVar 0) (eK (.int 12))) (eVar 4))) (sSeq (sSet 6 (eOp oIx (eVar 1) (eOp oMod (eOp oFdiv (eVar 0) (eK (.int 64))) (eCa bLen (aCons (eVar 1) (aNil)))))) (sSeq (sSet 7 (eC (lLst (aNil)))) (sSeq (l__law_heads_1) (sRet (eVar 7))))))) [some (.int seed), some (tx ss), some (.int (many : Int)), some (.int (most : Int)), none, none, none, none, none, none, none] []) := by
    have hp : (0 : Int) < (most : Int) := by omega
    have m1 := Int.emod_nonneg seed (show (most : Int) ≠ 0 by omega)
    have m2 := Int.emod_lt_of_pos seed hp
    obtain ⟨few, hf⟩ : ∃ few : Int, 1 + seed % (most : Int) = few := ⟨_, rfl⟩
    have fp : (0 : Int) < few := by omega
    have a1 := Int.emod_nonneg (seed / 12) (show few ≠ 0 by omega)
    have a2 := Int.emod_lt_of_pos (seed / 12) fp
    obtain ⟨at_, ha⟩ : ∃ at_ : Int, seed / 12 % few = at_ := ⟨_, rfl⟩
    rw [ha] at a1 a2
    have r1 := fun h => ix_sg (h := h) l2 (md (seed / 64)).1 (md (seed / 64)).2
    obtain ⟨rest, hr⟩ : ∃ rest, sg ss (seed / 64 % ss.length) = rest := ⟨_, rfl⟩
    simp (disch := omega) [hf, ha, lss, r1, hr, if_pos]
    unfold l__law_heads_1
    obtain ⟨I, hI⟩ : ∃ I : Nat → VS → Hv → Prop, I = fun i σ h => ∃ (x8 x10 : Option D), σ = [some (.int seed), some (tx ss), some (.int (many : Int)), some (.int (most : Int)), some (.int few), some (.int at_), some (tx [rest]), some (.cell 0), x8, none, x10] ∧ h = [.lst (((List.range i).map (headV ss seed few at_)).map tx)] := ⟨_, rfl⟩
    refine Wp.range 0 many I (h0 := [.lst []]) (by simp (disch := omega)) (by rw [hI]; exact ⟨_, _, rfl, rfl⟩) ?_ ?_
    · intro i σ h hi hh
      rw [hI] at hh
      obtain ⟨x8, x10, rfl, rfl⟩ := hh
      refine ⟨_, rfl, ?_⟩
      have r2 := fun h => ix_sg (h := h) l2 (md (seed / 1664 + 5 * (i : Int))).1 (md (seed / 1664 + 5 * (i : Int))).2
      have m3 : ∀ h, oMulS (tx [rest]) (.int at_) h = .ok (tx (List.replicate at_.toNat rest)) h := fun h => by rw [oMulS_ap (by omega) (by omega) (by rw [sx_len]; simp), rep_sx]
      obtain ⟨n2, hn2⟩ : ∃ n2 : Nat, (few - at_ - 1).toNat = n2 := ⟨_, rfl⟩
      have m4 : ∀ h, oMulS (tx [rest]) (.int (few - at_ - 1)) h = .ok (tx (List.replicate n2 rest)) h := fun h => by rw [oMulS_ap (by omega) (by omega) (by rw [sx_len]; simp), rep_sx, hn2]
      have m5 := fun h => oAdd_tx (a := List.replicate at_.toNat rest) (b := [sg ss ((seed / 1664 + 5 * (i : Int)) % ss.length)]) (h := h) (by simp; omega)
      have m6 := fun h => oAdd_tx (a := List.replicate at_.toNat rest ++ [sg ss ((seed / 1664 + 5 * (i : Int)) % ss.length)]) (b := List.replicate n2 rest) (h := h) (by simp; omega)
      have hv : headV ss seed few at_ i = List.replicate at_.toNat rest ++ [sg ss ((seed / 1664 + 5 * (i : Int)) % ss.length)] ++ List.replicate n2 rest := by unfold headV; rw [hr, hn2]
      have lv : (headV ss seed few at_ i).length ≤ 100 := by rw [hv]; simp; omega
      have ek : ((List.range i).map (headV ss seed few at_)).map tx ++ [tx (headV ss seed few at_ i)] = ((List.range (i + 1)).map (headV ss seed few at_)).map tx := by rw [List.range_succ, List.map_append, List.map_append]; rfl
      simp (disch := omega) [lss, r2, m3, m4, m5, m6, if_pos, ← hv, ek, -List.map_append, -List.map_map, -List.append_assoc]
      rw [hI]
      exact ⟨_, _, rfl, rfl⟩
    · intro σ h hh
      rw [hI] at hh
      obtain ⟨x8, x10, rfl, rfl⟩ := hh
      simp [frz_txs, -List.map_map]
      refine ⟨_, rfl, by simp, ?_, fun w hw => ?_⟩
      · rw [List.nodup_iff_pairwise_ne, List.pairwise_map]
        refine List.Pairwise.imp_of_mem (fun {i j} hi hj hne z => hne ?_) (List.nodup_iff_pairwise_ne.mp List.nodup_range)
        have hi := List.mem_range.mp hi
        have hj := List.mem_range.mp hj
        have z2 := congrArg (fun l => l[at_.toNat]?) z
        unfold headV at z2
        simp only [mid] at z2
        have z2 := Option.some.inj z2
        have := sg_inj nd (md _).1 (md _).2 (md _).1 (md _).2 z2
        have := h5 _ _ _ (by omega) (by omega) (by omega) (by omega) this
        omega
      · obtain ⟨k, _, rfl⟩ := List.mem_map.mp hw
        refine ⟨by unfold headV; simp; omega, by unfold headV; simp; omega, fun c hc => ?_⟩
        unfold headV at hc
        rcases List.mem_append.mp hc with hc | hc
        · rcases List.mem_append.mp hc with hc | hc
          · rw [(List.mem_replicate.mp hc).2]; exact sg_mem (md _).1 (md _).2
          · rw [List.mem_singleton.mp hc]; exact sg_mem (md _).1 (md _).2
        · rw [(List.mem_replicate.mp hc).2]; exact sg_mem (md _).1 (md _).2
  by_cases q : seed / 43264 % 4 = 3 ∧ many ≤ most
  · obtain ⟨q1, q2⟩ := q
    have q2' : (many : Int) ≤ (most : Int) := by omega
    have e1 : c__law_heads_1 [some (.int seed), some (tx ss), some (.int (many : Int)), some (.int (most : Int)), none, none, none, none, none, none, none] [] = .ok ((headW ss seed most).map fun c => tx [c]) [] := by
      unfold c__law_heads_1 headW
      rw [List.map_map]
      refine lLc_map (fun j : Nat => D.int (0 + (j : Int))) _ (List.range most) (chk := always) (h0 := []) (show iR1 _ _ _ = .ok (rgD 0 most, always) [] by simp (disch := omega)) rfl (by rw [List.length_range]; omega) fun j hj => ⟨_, rfl, ?_⟩
      have hj := List.mem_range.mp hj
      have r2 := fun h => ix_sg (h := h) l2 (md (seed / 1664 + 5 * (j : Int) * (j : Int))).1 (md (seed / 1664 + 5 * (j : Int) * (j : Int))).2
      have b5 : 0 ≤ 5 * (j : Int) * (j : Int) ∧ 5 * (j : Int) * (j : Int) ≤ 1000 := by
        refine ⟨Int.mul_nonneg (by omega) (by omega), ?_⟩
        have := Int.mul_le_mul (show 5 * (j : Int) ≤ 60 by omega) (show (j : Int) ≤ 12 by omega) (by omega) (by omega)
        omega
      simp (disch := omega) [lss, r2, if_pos]
    have lw : (headW ss seed most).length = most := by unfold headW; simp
    have e2 : c__law_heads_2 [some (.int seed), some (tx ss), some (.int (many : Int)), some (.int (most : Int)), none, none, none, none, none, some (tx (headW ss seed most)), none] [] = .ok (((List.range many).map fun k => (headW ss seed most).take (k + 1)).map tx) [] := by
      unfold c__law_heads_2
      rw [List.map_map]
      refine lLc_map (fun j : Nat => D.int (0 + (j : Int))) _ (List.range many) (chk := always) (h0 := []) (show iR1 _ _ _ = .ok (rgD 0 many, always) [] by simp (disch := omega)) rfl (by rw [List.length_range]; omega) fun j hj => ⟨_, rfl, ?_⟩
      have hj := List.mem_range.mp hj
      have sl := slD_tx_to (cs := headW ss seed most) (n := (j : Int) + 1) (by omega) (by omega)
      have t1 : ((j : Int) + 1).toNat = j + 1 := by omega
      rw [t1] at sl
      simp [sl]
    have js := fun h => joinS (ws := headW ss seed most) (h := h) (by omega)
    have n0 := nil_eq
    simp [q1, q2', e1, n0, js, e2, frz_txs, -List.map_map]
    refine ⟨_, rfl, by simp, ?_, fun w hw => ?_⟩
    · rw [List.nodup_iff_pairwise_ne, List.pairwise_map]
      refine List.Pairwise.imp_of_mem (fun {i j} hi hj hne z => hne ?_) (List.nodup_iff_pairwise_ne.mp List.nodup_range)
      have hi := List.mem_range.mp hi
      have hj := List.mem_range.mp hj
      have := congrArg List.length z
      rw [List.length_take, List.length_take, lw] at this
      omega
    · obtain ⟨k, hk, rfl⟩ := List.mem_map.mp hw
      have hk := List.mem_range.mp hk
      refine ⟨by rw [List.length_take, lw]; omega, by rw [List.length_take, lw]; omega, fun c hc => ?_⟩
      have hc := List.mem_of_mem_take hc
      unfold headW at hc
      obtain ⟨j, _, rfl⟩ := List.mem_map.mp hc
      exact sg_mem (md _).1 (md _).2
  · by_cases q1 : seed / 43264 % 4 = 3
    · have q2 : ¬ (many : Int) ≤ (most : Int) := fun z => q ⟨q1, by omega⟩
      simp only [Wp_seq]
      simp (disch := omega) only [Wp_if] at second ⊢
      simp [q1, q2]
      simpa using second
    · simp only [Wp_seq]
      simp [q1]
      simpa using second
/-! the world -/
def worldD (fs : List Fd) (ws : List Tx) (base : Int) : D := .dct [.inr "fields", .inr "words", .inr "base"] [fdsD fs, .lst (ws.map tx), .int base]
structure WorldOk (fs : List Fd) (ws : List Tx) (base : Int) : Prop where
  fs : FdsOk fs
  wlo : 1 ≤ ws.length
  whi : ws.length ≤ 4
  wok : ∀ w ∈ ws, okWord w
  blo : -(9 * 10 ^ 59) ≤ base
  bhi : base ≤ 9 * 10 ^ 59
def fldF (seed : Int) (ws : List Tx) (k : Nat) : Fd := (ws[k]?.getD [], decide (mixF seed ((k : Int) + 30) % 2 = 0))
theorem kind_pick {x : Int} : atI [D.str "word", D.str "number"] (x % 2) = some (.str (kindS (decide (x % 2 = 0)))) := by
  have h0 := Int.emod_nonneg x (show (2 : Int) ≠ 0 by decide)
  have h1 := Int.emod_lt_of_pos x (show (0 : Int) < 2 by decide)
  obtain q | q : x % 2 = 0 ∨ x % 2 = 1 := by omega
  · rw [q]; rfl
  · rw [q]; rfl
theorem world_merge {a b c : D} : mergeD [] [(.inr "fields", a), (.inr "words", b), (.inr "base", c)] = [(.inr "fields", a), (.inr "words", b), (.inr "base", c)] := rfl
theorem world_eq {ns : List Int} : ∃ fs ws base, m__law_world [scr ns] [] = .ok (worldD fs ws base) [] ∧ WorldOk fs ws base := by
  refine fnS_of (P := fun x => ∃ fs ws base, x = .ok (worldD fs ws base) [] ∧ WorldOk fs ws base) rfl ?_
  unfold b__law_world
  have c0 := fun h => callP_cell (ns := ns) (k := 0) (h := h) (by decide)
  have x0 := fun h => callP_mix (s := cellF ns 0) (k := 1) (h := h) (by decide) (by decide)
  have b0 := mixF_bd (cellF ns 0) 1
  obtain ⟨seed, hs⟩ : ∃ seed, mixF (cellF ns 0) 1 = seed := ⟨_, rfl⟩
  rw [hs] at b0 x0
  have x2 := fun h => callP_mix (s := seed) (k := 2) (h := h) (by decide) (by decide)
  have x3 := fun h => callP_mix (s := seed) (k := 3) (h := h) (by decide) (by decide)
  have b2 := mixF_bd seed 2
  have b3 := mixF_bd seed 3
  obtain ⟨many, hm⟩ : ∃ many : Nat, 1 + seed % 8 = many := ⟨(1 + seed % 8).toNat, by omega⟩
  obtain ⟨names, h1, n1⟩ := heads_eq (ss := smL) (seed := mixF seed 2) (many := many) (most := 12) (by decide) (by decide) (by decide) b2.1 (by omega) (by omega) (by decide) (by decide) (by intro a i j; simp only [smL, List.length_cons, List.length_nil]; omega)
  obtain ⟨words, h2, n2⟩ := heads_eq (ss := smL ++ fgL) (seed := mixF seed 3) (many := 4) (most := 12) (by decide) (by decide) (by decide) b3.1 (by omega) (by decide) (by decide) (by decide) (by intro a i j; simp only [smL, fgL, List.length_append, List.length_cons, List.length_nil]; omega)
  have h1 : ∀ h, callP m__law_heads [.int (mixF seed 2), tx smL, .int (many : Int), .int 12] h = .ok (.lst (names.map tx)) h := cP h1
  have h2 : ∀ h, callP m__law_heads [.int (mixF seed 3), tx (smL ++ fgL), .int 4, .int 12] h = .ok (.lst (words.map tx)) h := cP h2
  have p59 : powOk 10 59 = true := by decide
  have lm : many ≤ 8 := by omega
  have ln : names.length = many := n1.len
  have e1 : c__law_world_1 [some (scr ns), some (.int seed), some (.int (many : Int)), some (.lst (names.map tx)), none, none, none, none] [] = .ok (((List.range many).map (fldF seed names)).map fdD) [] := by
    unfold c__law_world_1
    rw [List.map_map]
    refine lLc_map (fun j : Nat => D.int (0 + (j : Int))) _ (List.range many) (chk := always) (h0 := []) (show iR1 _ _ _ = .ok (rgD 0 many, always) [] by simp (disch := omega)) rfl (by rw [List.length_range]; omega) fun j hj => ⟨_, rfl, ?_⟩
    have hj := List.mem_range.mp hj
    have hl : j < names.length := by omega
    have i1 : atI (names.map tx) (j : Int) = some (tx names[j]) := atI_map (atI_at rfl (List.getElem?_eq_getElem hl))
    simp (disch := omega) [callP_mix, i1, kind_pick]
    simp [fdD, fldF, hl]
  obtain ⟨fs, hfs⟩ : ∃ fs, (List.range many).map (fldF seed names) = fs := ⟨_, rfl⟩
  rw [hfs] at e1
  have efs : D.lst (fs.map fdD) = fdsD fs := rfl
  have fsn : fs.map (·.1) = names := by
    rw [← hfs, List.map_map]
    apply List.ext_getElem?
    intro i
    rw [List.getElem?_map]
    by_cases q : i < many
    · rw [List.getElem?_range q, List.getElem?_eq_getElem (show i < names.length by omega)]
      show some (names[i]?.getD []) = _
      rw [List.getElem?_eq_getElem (show i < names.length by omega)]; rfl
    · rw [List.getElem?_eq_none (by simp; omega), List.getElem?_eq_none (by omega)]; rfl
  have lfs : fs.length = many := by rw [← hfs]; simp
  have fo : FdsOk fs := ⟨by omega, by omega, by rw [fsn]; exact n1.nd, fun f hf => by
    have : f.1 ∈ names := by rw [← fsn]; exact List.mem_map.mpr ⟨f, hf, rfl⟩
    obtain ⟨a, b, c⟩ := n1.ok _ this
    exact ⟨a, b, c⟩⟩
  obtain ⟨base, hb, hb0, hb1⟩ : ∃ base : Int, atI [D.int 0, D.int 900000000000000000000000000000000000000000000000000000000000, D.int (-900000000000000000000000000000000000000000000000000000000000), D.int 98] (seed / 24 % 4) = some (.int base) ∧ -(9 * 10 ^ 59) ≤ base ∧ base ≤ 9 * 10 ^ 59 := by
    have h0 := Int.emod_nonneg (seed / 24) (show (4 : Int) ≠ 0 by decide)
    have h1 := Int.emod_lt_of_pos (seed / 24) (show (0 : Int) < 4 by decide)
    obtain q | q | q | q : seed / 24 % 4 = 0 ∨ seed / 24 % 4 = 1 ∨ seed / 24 % 4 = 2 ∨ seed / 24 % 4 = 3 := by omega
    · exact ⟨0, by rw [q]; rfl, by decide, by decide⟩
    · exact ⟨9 * 10 ^ 59, by rw [q]; rfl, by decide, by decide⟩
    · exact ⟨-(9 * 10 ^ 59), by rw [q]; rfl, by decide, by decide⟩
    · exact ⟨98, by rw [q]; rfl, by decide, by decide⟩
  have ct1 : VD.cutD (names.map tx) none (some 3) = (names.take 3).map tx := by rw [cutD_tk (by decide), List.map_take]; rfl
  have ct2 : VD.cutD (words.map tx) none (some 1) = (words.take 1).map tx := by rw [cutD_tk (by decide), List.map_take]; rfl
  have ct3 : (names.take 3).map tx ++ (words.take 1).map tx = (names.take 3 ++ words.take 1).map tx := List.map_append.symm
  have lw : words.length = 4 := n2.len
  have zz : (names.take 3).length + (words.take 1).length ≤ 16777216 := by rw [List.length_take, List.length_take]; omega
  have wok : ∀ w ∈ names.take 3 ++ words.take 1, okWord w := fun w hw => by
    rcases List.mem_append.mp hw with hw | hw
    · obtain ⟨a, b, c⟩ := n1.ok _ (List.mem_of_mem_take hw)
      exact (show okName w from ⟨a, b, c⟩).word
    · obtain ⟨a, b, c⟩ := n2.ok _ (List.mem_of_mem_take hw)
      exact ⟨a, b, c⟩
  by_cases q : seed / 8 % 3 = 1
  · simp (disch := omega) [c0, x0, x2, x3, hm, sm_eq, smfg_eq, h1, h2, e1, efs, q, ct1, ct2, ct3, zz, p59, hb, if_pos, world_merge, frz_fds, frz_txs, -List.map_append, -List.map_take, -List.length_take]
    exact ⟨fs, names.take 3 ++ words.take 1, base, rfl, fo, by simp; omega, by simp; omega, wok, hb0, hb1⟩
  · simp (disch := omega) [c0, x0, x2, x3, hm, sm_eq, smfg_eq, h1, h2, e1, efs, q, p59, hb, if_pos, world_merge, frz_fds, frz_txs]
    refine ⟨fs, words, base, rfl, fo, by omega, by omega, fun w hw => ?_, hb0, hb1⟩
    obtain ⟨a, b, c⟩ := n2.ok _ hw
    exact ⟨a, b, c⟩
section
variable {fs : List Fd} {ws : List Tx} {base : Int}
theorem dgk {h : Hv} : kvOf h (worldD fs ws base) = some [(.inr "fields", fdsD fs), (.inr "words", .lst (ws.map tx)), (.inr "base", .int base)] := rfl
theorem dg_f {a b c : D} : getD [(Sum.inr "fields", a), (.inr "words", b), (.inr "base", c)] (.inr "fields") = some a := rfl
theorem dg_w {a b c : D} : getD [(Sum.inr "fields", a), (.inr "words", b), (.inr "base", c)] (.inr "words") = some b := rfl
theorem dg_b {a b c : D} : getD [(Sum.inr "fields", a), (.inr "words", b), (.inr "base", c)] (.inr "base") = some c := rfl
theorem noC_world : noC (worldD fs ws base) = true := by
  unfold worldD
  simp [noC, noCL, noC_fds]
  rw [noCL_all, List.all_map]
  exact List.all_eq_true.mpr fun _ _ => rfl
theorem frz_world {n0 n : Nat} {h : Hv} : frz n0 h (n + 4) (worldD fs ws base) = some (worldD fs ws base) := by
  unfold worldD
  simp [frz_fds, frz_txs]
def sureF (ws : List Tx) (base : Int) (seed : Int) (b : Bool) : Val := if b = true then .wd (ws[(seed % ws.length).toNat]?.getD []) else .nm (base + seed % 6 - 2)
def valF (ws : List Tx) (base : Int) (seed : Int) (b : Bool) : Val := if seed % 6 = 0 then .no else sureF ws base (seed / 6) b
def kindAt (fs : List Fd) (k : Nat) : Bool := (fs[k]?.getD ([], true)).2
def rowF (fs : List Fd) (ws : List Tx) (base : Int) (seed : Int) : List Val := (List.range fs.length).map fun k : Nat => valF ws base (mixF seed ((k : Int) + 60)) (kindAt fs k)
theorem kind_w : (("word" : Str) = "word") = True := by simp
theorem kind_n : (("number" : Str) = "word") = False := eq_false nw_ne
theorem sure_ok (w : WorldOk fs ws base) {seed : Int} {b : Bool} : ValOk b (sureF ws base seed b) ∧ sureF ws base seed b ≠ .no := by
  cases b with
  | true =>
    have hp : (0 : Int) < ws.length := by have := w.wlo; omega
    have m1 := Int.emod_nonneg seed (show (ws.length : Int) ≠ 0 by omega)
    have m2 := Int.emod_lt_of_pos seed hp
    have hl : (seed % ws.length).toNat < ws.length := by omega
    refine ⟨⟨rfl, ?_⟩, fun z => by cases z⟩
    rw [List.getElem?_eq_getElem hl]
    exact w.wok _ (List.getElem_mem hl)
  | false =>
    have m1 := Int.emod_nonneg seed (show (6 : Int) ≠ 0 by decide)
    have m2 := Int.emod_lt_of_pos seed (show (0 : Int) < 6 by decide)
    have b1 := w.blo
    have b2 := w.bhi
    have e : (10 : Int) ^ 60 = 10 * 10 ^ 59 := by decide
    have p : (10 : Int) ^ 59 > 1000 := by decide
    refine ⟨⟨rfl, ?_, ?_⟩, fun z => by cases z⟩
    · omega
    · omega
theorem sure_eq (w : WorldOk fs ws base) {seed : Int} {b : Bool} : m__law_sure_value [.int seed, .str (kindS b), worldD fs ws base] [] = .ok (valD (sureF ws base seed b)) [] := by
  refine fnS_of (P := fun x => x = .ok (valD (sureF ws base seed b)) []) rfl ?_
  unfold b__law_sure_value
  cases b with
  | true =>
    have hp : (0 : Int) < ws.length := by have := w.wlo; omega
    have m1 := Int.emod_nonneg seed (show (ws.length : Int) ≠ 0 by omega)
    have m2 := Int.emod_lt_of_pos seed hp
    have hl : (seed % ws.length).toNat < ws.length := by omega
    obtain ⟨a, _, q1, q2⟩ := atI_get (xs := ws) m1 m2
    have q3 : atI (ws.map tx) (seed % ws.length) = some (tx a) := atI_map q2
    have q4 : sureF ws base seed true = .wd a := by unfold sureF; rw [if_pos rfl]; rw [show ws[(seed % ws.length).toNat]? = some a from q1]; rfl
    simp (disch := omega) [kindS, dgk, dg_w, q3, q4, valD, if_pos]
  | false =>
    simp [kindS, kind_n, dgk, dg_b, sureF, valD]
theorem val_ok (w : WorldOk fs ws base) {seed : Int} {b : Bool} : ValOk b (valF ws base seed b) := by
  unfold valF
  split
  · trivial
  · exact (sure_ok w).1
theorem val_eq (w : WorldOk fs ws base) {seed : Int} {b : Bool} : m__law_value [.int seed, .str (kindS b), worldD fs ws base] [] = .ok (valD (valF ws base seed b)) [] := by
  refine fnS_of (P := fun x => x = .ok (valD (valF ws base seed b)) []) rfl ?_
  unfold b__law_value
  have e := cP (sure_eq w (seed := seed / 6) (b := b)) (by simp [frz_world])
  unfold valF
  by_cases q : seed % 6 = 0
  · simp [q]; rfl
  · simp [q, e, frz_val]
theorem row_ok (w : WorldOk fs ws base) {seed : Int} : RowOk fs (rowF fs ws base seed) := by
  refine ⟨by unfold rowF; simp, fun i f v hf hv => ?_⟩
  unfold rowF at hv
  have hi := (List.getElem?_eq_some_iff.mp hf).1
  rw [List.getElem?_map, List.getElem?_range hi] at hv
  cases hv
  have : kindAt fs i = f.2 := by unfold kindAt; rw [hf]; rfl
  show ValOk f.2 (valF ws base (mixF seed ((i : Int) + 60)) (kindAt fs i))
  rw [this]
  exact val_ok w
theorem row_eq (w : WorldOk fs ws base) {seed : Int} : m__law_row [.int seed, worldD fs ws base] [] = .ok (rowD (rowF fs ws base seed)) [] := by
  refine fnS_of (P := fun x => x = .ok (rowD (rowF fs ws base seed)) []) rfl ?_
  unfold b__law_row
  have fh := w.fs.hi
  have lf : ∀ h, lenD h (fdsD fs) = some (fs.length : Int) := fun h => by unfold fdsD; rw [lenD_lst, List.length_map]
  have e1 : c__law_row_1 [some (.int seed), some (worldD fs ws base), some (fdsD fs), none] [] = .ok ((rowF fs ws base seed).map valD) [] := by
    unfold c__law_row_1 rowF
    rw [List.map_map]
    refine lLc_map (fun j : Nat => D.int (0 + (j : Int))) _ (List.range fs.length) (chk := always) (h0 := []) (show iR1 _ _ _ = .ok (rgD 0 fs.length, always) [] by simp (disch := omega) [lf]) rfl (by rw [List.length_range]; omega) fun j hj => ⟨_, rfl, ?_⟩
    have hj := List.mem_range.mp hj
    have i1 : ∀ h, ixD h (fdsD fs) (j : Int) = some (fdD fs[j]) := fun h => atI_map (atI_at rfl (List.getElem?_eq_getElem hj))
    have i2 : ∀ h, ixD h (fdD fs[j]) 1 = some (.str (kindS fs[j].2)) := fun _ => rfl
    have ka : kindAt fs j = fs[j].2 := by unfold kindAt; rw [List.getElem?_eq_getElem hj]; rfl
    have e := cP (val_eq w (seed := mixF seed ((j : Int) + 60)) (b := fs[j].2)) (by simp [frz_world])
    simp (disch := omega) [callP_mix, i1, i2, e, ka]
  have e2 : D.tup ((rowF fs ws base seed).map valD) = rowD (rowF fs ws base seed) := rfl
  have lr : (rowF fs ws base seed).length ≤ 16777216 := by unfold rowF; simp; omega
  simp [dgk, dg_f, e1, e2, frz_row, lr]
/-! sieves -/
def plainF (fs : List Fd) (ws : List Tx) (base : Int) (seed : Int) : Sv :=
  let f := fs[(seed % fs.length).toNat]?.getD ([], true)
  if seed / 8 % 4 = 0 then .lacks f.1
  else if seed / 8 % 4 = 1 ∨ f.2 = true then .is f.1 (sureF ws base (seed / 32) f.2)
  else if seed / 8 % 4 = 2 then .under f.1 (sureF ws base (seed / 32) f.2)
  else .over f.1 (sureF ws base (seed / 32) f.2)
theorem fd_pick (w : WorldOk fs ws base) (seed : Int) : ∃ f, fs[(seed % fs.length).toNat]? = some f ∧ fs[(seed % fs.length).toNat]?.getD ([], true) = f ∧ (∀ h, ixD h (fdsD fs) (seed % fs.length) = some (fdD f)) := by
  have hp : (0 : Int) < fs.length := by have := w.fs.lo; omega
  have m1 := Int.emod_nonneg seed (show (fs.length : Int) ≠ 0 by omega)
  have m2 := Int.emod_lt_of_pos seed hp
  obtain ⟨a, _, q1, q2⟩ := atI_get (xs := fs) m1 m2
  exact ⟨a, q1, by rw [q1]; rfl, fun h => atI_map q2⟩
theorem plain_ok (w : WorldOk fs ws base) (seed : Int) : SvOk fs (plainF fs ws base seed) ∧ dep (plainF fs ws base seed) = 0 ∧ ∀ k, wid k (plainF fs ws base seed) := by
  obtain ⟨f, q1, q2, _⟩ := fd_pick w seed
  obtain ⟨n, b⟩ := f
  unfold plainF
  rw [q2]
  simp only
  split
  · exact ⟨by rw [SvOk]; exact ⟨_, b, q1⟩, by simp [dep], fun k => by simp [wid]⟩
  · split
    · obtain ⟨a1, a2⟩ := sure_ok w (seed := seed / 32) (b := b)
      exact ⟨by rw [SvOk]; exact ⟨_, b, q1, a2, a1⟩, by simp [dep], fun k => by simp [wid]⟩
    · next hb =>
      have hb : b = false := by
        cases b with
        | false => rfl
        | true => exact absurd (.inr rfl) hb
      subst hb
      obtain ⟨a1, a2⟩ := sure_ok w (seed := seed / 32) (b := false)
      have a3 : sureF ws base (seed / 32) false = .nm (base + seed / 32 % 6 - 2) := rfl
      split
      · exact ⟨by rw [SvOk]; exact ⟨_, _, q1, a3, a1⟩, by simp [dep], fun k => by simp [wid]⟩
      · exact ⟨by rw [SvOk]; exact ⟨_, _, q1, a3, a1⟩, by simp [dep], fun k => by simp [wid]⟩
theorem plain_eq (w : WorldOk fs ws base) {seed : Int} : m__law_plain [.int seed, worldD fs ws base] [] = .ok (svD (plainF fs ws base seed)) [] := by
  obtain ⟨PP, hPP⟩ : ∃ PP : VD.R D → Prop, PP = fun x => x = .ok (svD (plainF fs ws base seed)) [] := ⟨_, rfl⟩
  have fin : PP (m__law_plain [.int seed, worldD fs ws base] []) := by
    refine fnQ_of (P := PP) rfl ?_
    unfold b__law_plain
    obtain ⟨f, q1, q2, q3⟩ := fd_pick w seed
    obtain ⟨n, b⟩ := f
    have hp : (0 : Int) < fs.length := by have := w.fs.lo; omega
    have lf : ∀ h, lenD h (fdsD fs) = some (fs.length : Int) := fun h => by unfold fdsD; rw [lenD_lst, List.length_map]
    have e := cP (sure_eq w (seed := seed / 32) (b := b)) (by simp [frz_world])
    have out : ∀ s : Sv, s = plainF fs ws base seed → Wp (Rq PP) (.ret (svD s) []) := fun s hs => by
      rw [Wp_rq_ret]
      exact ⟨_, frzQ_y (noC_sv s), by rw [hPP, hs]⟩
    have w0 := Int.emod_nonneg (seed / 8) (show (4 : Int) ≠ 0 by decide)
    have w1 := Int.emod_lt_of_pos (seed / 8) (show (0 : Int) < 4 by decide)
    have fd : fdD (n, b) = .tup [tx n, .str (kindS b)] := rfl
    simp (disch := omega) [dgk, dg_f, lf, q3, fd, if_pos]
    by_cases z0 : seed / 8 % 4 = 0
    · have o := out (.lacks n) (by unfold plainF; rw [q2]; simp [z0])
      rw [svD] at o
      simp [z0]
      simpa using o
    · by_cases z1 : seed / 8 % 4 = 1 ∨ b = true
      · have o := out (.is n (sureF ws base (seed / 32) b)) (by unfold plainF; rw [q2]; simp only; rw [if_neg z0, if_pos z1])
        rw [svD] at o
        rcases z1 with z1 | rfl
        · simp [z0, z1, e]
          simpa using o
        · by_cases z2 : seed / 8 % 4 = 1
          · simp [z0, z2, e]
            simpa using o
          · simp [z0, z2, kindS]
            simp [kindS] at e
            simp [e]
            simpa using o
      · have z1a : ¬ seed / 8 % 4 = 1 := fun z => z1 (.inl z)
        have hb : b = false := by
          cases b with
          | false => rfl
          | true => exact absurd (.inr rfl) z1
        subst hb
        simp [kindS] at e
        by_cases z2 : seed / 8 % 4 = 2
        · have o := out (.under n (sureF ws base (seed / 32) false)) (by unfold plainF; rw [q2]; simp [z0, z1a, z2])
          rw [svD] at o
          simp [z0, z1a, z2, kindS, kind_n, e]
          simpa using o
        · have z3 : seed / 8 % 4 = 3 := by omega
          have o := out (.over n (sureF ws base (seed / 32) false)) (by unfold plainF; rw [q2]; simp [z0, z1a, z2])
          rw [svD] at o
          simp [z0, z1a, z2, z3, kindS, kind_n, e]
          simpa using o
  rw [hPP] at fin
  exact fin
def sieveF (fs : List Fd) (ws : List Tx) (base : Int) : Nat → Int → Sv
  | 0, seed => plainF fs ws base (mixF seed 1)
  | d + 1, seed => if seed % 8 < 4 then plainF fs ws base (mixF seed 1) else if seed % 8 = 4 then .not (sieveF fs ws base d (mixF seed 2))
    else if seed / 32 % 2 = 0 then .all ((List.range (seed / 8 % 4).toNat).map fun k : Nat => sieveF fs ws base d (mixF seed ((k : Int) + 3)))
    else .some ((List.range (seed / 8 % 4).toNat).map fun k : Nat => sieveF fs ws base d (mixF seed ((k : Int) + 3)))
theorem sieve_ok (w : WorldOk fs ws base) : ∀ (d : Nat) (seed : Int), SvOk fs (sieveF fs ws base d seed) ∧ dep (sieveF fs ws base d seed) ≤ d ∧ ∀ j, 3 ≤ j → wid j (sieveF fs ws base d seed) := by
  intro d
  induction d with
  | zero => intro seed; obtain ⟨a, b, c⟩ := plain_ok w (mixF seed 1); exact ⟨a, Nat.le_of_eq b, fun j _ => c j⟩
  | succ d ih =>
    intro seed
    have w1 := Int.emod_nonneg (seed / 8) (show (4 : Int) ≠ 0 by decide)
    have w2 := Int.emod_lt_of_pos (seed / 8) (show (0 : Int) < 4 by decide)
    have l0 : ((List.range (seed / 8 % 4).toNat).map fun k : Nat => sieveF fs ws base d (mixF seed ((k : Int) + 3))).length ≤ 3 := by simp; omega
    have m0 : ∀ s ∈ ((List.range (seed / 8 % 4).toNat).map fun k : Nat => sieveF fs ws base d (mixF seed ((k : Int) + 3))), SvOk fs s ∧ dep s ≤ d ∧ ∀ j, 3 ≤ j → wid j s := fun s hs => by
      obtain ⟨k, _, rfl⟩ := List.mem_map.mp hs
      exact ih _
    have dl : ∀ l : List Sv, (∀ s ∈ l, dep s ≤ d) → depL l ≤ d := by
      intro l
      induction l with
      | nil => intro _; rw [depL]; omega
      | cons s l ih2 =>
        intro h
        rw [depL]
        have := h s List.mem_cons_self
        have := ih2 fun t ht => h t (List.mem_cons_of_mem _ ht)
        omega
    unfold sieveF
    split
    · obtain ⟨a, b, c⟩ := plain_ok w (mixF seed 1); exact ⟨a, by omega, fun j _ => c j⟩
    · split
      · obtain ⟨a, b, c⟩ := ih (mixF seed 2)
        exact ⟨by rw [SvOk]; exact a, by rw [dep]; omega, fun j hj => by rw [wid]; exact c j hj⟩
      · split
        · exact ⟨by rw [SvOk, SvOkL_mem]; exact fun s hs => (m0 s hs).1, by rw [dep]; have := dl _ fun s hs => (m0 s hs).2.1; omega, fun j hj => by rw [wid, widL_mem]; exact ⟨by omega, fun s hs => (m0 s hs).2.2 j hj⟩⟩
        · exact ⟨by rw [SvOk, SvOkL_mem]; exact fun s hs => (m0 s hs).1, by rw [dep]; have := dl _ fun s hs => (m0 s hs).2.1; omega, fun j hj => by rw [wid, widL_mem]; exact ⟨by omega, fun s hs => (m0 s hs).2.2 j hj⟩⟩
theorem frz_svs {n0 : Nat} {h : Hv} (l : List Sv) : frzQ n0 h (.tup [.str "all", .tup (l.map svD)]) = some (svD (.all l)) := by
  rw [← svL_map]
  exact frzQ_y (noC_sv (.all l))
/-- a list of deep things, sealed -/
def Flat (d : D) : Prop := ∀ n0 h, frz n0 h 10 d = some d
mutual
theorem frz_dep : ∀ (s : Sv) (k : Nat) {n0 : Nat} {h : Hv}, 2 * dep s + 3 ≤ k → frz n0 h k (svD s) = some (svD s)
  | .lacks n, k, n0, h, hk => by
    obtain ⟨j, rfl⟩ : ∃ j, k = j + 3 := ⟨k - 3, by omega⟩
    simp [svD]
  | .is n v, k, n0, h, hk => by
    obtain ⟨j, rfl⟩ : ∃ j, k = j + 3 := ⟨k - 3, by omega⟩
    simp [svD, frz_val]
  | .under n v, k, n0, h, hk => by
    obtain ⟨j, rfl⟩ : ∃ j, k = j + 3 := ⟨k - 3, by omega⟩
    simp [svD, frz_val]
  | .over n v, k, n0, h, hk => by
    obtain ⟨j, rfl⟩ : ∃ j, k = j + 3 := ⟨k - 3, by omega⟩
    simp [svD, frz_val]
  | .not s, k, n0, h, hk => by
    rw [dep] at hk
    obtain ⟨j, rfl⟩ : ∃ j, k = j + 1 := ⟨k - 1, by omega⟩
    have e := frz_dep s j (n0 := n0) (h := h) (by omega)
    obtain ⟨i, rfl⟩ : ∃ i, j = i + 1 := ⟨j - 1, by omega⟩
    simp [svD, e]
  | .all l, k, n0, h, hk => by
    rw [dep] at hk
    obtain ⟨j, rfl⟩ : ∃ j, k = j + 2 := ⟨k - 2, by omega⟩
    have e := frz_depL l j (n0 := n0) (h := h) (by omega)
    simp [svD, e]
  | .some l, k, n0, h, hk => by
    rw [dep] at hk
    obtain ⟨j, rfl⟩ : ∃ j, k = j + 2 := ⟨k - 2, by omega⟩
    have e := frz_depL l j (n0 := n0) (h := h) (by omega)
    simp [svD, e]
theorem frz_depL : ∀ (l : List Sv) (k : Nat) {n0 : Nat} {h : Hv}, 2 * depL l + 3 ≤ k → optAll (frz n0 h k) (svL l) = some (svL l)
  | [], k, n0, h, hk => by simp [svL]
  | s :: l, k, n0, h, hk => by
    rw [depL] at hk
    have e1 := frz_dep s k (n0 := n0) (h := h) (by omega)
    have e2 := frz_depL l k (n0 := n0) (h := h) (by omega)
    simp [svL, e1, e2]
end
theorem allsome_pick {x : Int} : ∃ s : Str, atI [D.str "all", D.str "some"] (x % 2) = some (.str s) ∧ s = if x % 2 = 0 then "all" else "some" := by
  have h0 := Int.emod_nonneg x (show (2 : Int) ≠ 0 by decide)
  have h1 := Int.emod_lt_of_pos x (show (0 : Int) < 2 by decide)
  obtain q | q : x % 2 = 0 ∨ x % 2 = 1 := by omega
  · exact ⟨"all", by rw [q]; rfl, by rw [if_pos q]⟩
  · exact ⟨"some", by rw [q]; rfl, by rw [if_neg (by omega)]⟩
theorem sieve_eq (w : WorldOk fs ws base) : ∀ (k d : Nat) (seed : Int), d < k → d ≤ 3 → 0 ≤ seed → m__law_sieve k [.int seed, worldD fs ws base, .int (d : Int)] [] = .ok (svD (sieveF fs ws base d seed)) [] := by
  intro k
  induction k with
  | zero => intro d seed h; exact absurd h (Nat.not_lt_zero _)
  | succ k ih =>
    intro d seed hd h3 s0
    obtain ⟨PP, hPP⟩ : ∃ PP : VD.R D → Prop, PP = fun x => x = .ok (svD (sieveF fs ws base d seed)) [] := ⟨_, rfl⟩
    have fin : PP (m__law_sieve (k + 1) [.int seed, worldD fs ws base, .int (d : Int)] []) := by
      refine fnQ_of (P := PP) rfl ?_
      unfold b__law_sieve
      have nc : ∀ x y : Int, noCL [.int x, worldD fs ws base, .int y] = true := fun x y => by simp [noCL, noC, noC_world]
      have pe := fun sd => cQ (plain_eq w (seed := sd)) (by simp [noCL, noC, noC_world])
      have w1 := Int.emod_nonneg seed (show (8 : Int) ≠ 0 by decide)
      have w2 := Int.emod_lt_of_pos seed (show (0 : Int) < 8 by decide)
      have v1 := Int.emod_nonneg (seed / 8) (show (4 : Int) ≠ 0 by decide)
      have v2 := Int.emod_lt_of_pos (seed / 8) (show (0 : Int) < 4 by decide)
      have out : ∀ s : Sv, s = sieveF fs ws base d seed → Wp (Rq PP) (.ret (svD s) []) := fun s hs => by
        rw [Wp_rq_ret]
        exact ⟨_, frzQ_y (noC_sv s), by rw [hPP, hs]⟩
      by_cases z0 : seed % 8 < 4
      · have o := out (plainF fs ws base (mixF seed 1)) (by cases d <;> simp [sieveF, z0])
        simp (disch := omega) [z0, callP_mix, pe]
        simpa using o
      · cases d with
        | zero =>
          have o := out (plainF fs ws base (mixF seed 1)) (by simp [sieveF])
          simp (disch := omega) [z0, callP_mix, pe]
          simpa using o
        | succ d =>
          have dd : ((d + 1 : Nat) : Int) - 1 = (d : Int) := by omega
          have dn : ¬ (((d + 1 : Nat) : Int) = 0) := by omega
          have rc := fun (sd : Int) (hs : 0 ≤ sd) => cQ (ih d sd (by omega) (by omega) hs) (nc sd d)
          by_cases z1 : seed % 8 = 4
          · have o := out (.not (sieveF fs ws base d (mixF seed 2))) (by simp [sieveF, z1])
            rw [svD] at o
            have r1 := rc (mixF seed 2) (mixF_bd _ _).1
            simp (disch := omega) only [Wp_seq] 
            simp (disch := omega) [z1, callP_mix, dd, dn, r1, -Int.natCast_add]
            simpa using o
          · obtain ⟨st, p1, p2⟩ := allsome_pick (x := seed / 32)
            simp (disch := omega) [z0, z1, dn, -Int.natCast_add]
            unfold l__law_sieve_1
            obtain ⟨I, hI⟩ : ∃ I : Nat → VS → Hv → Prop, I = fun i σ h => ∃ (x5 : Option D), σ = [some (.int seed), some (worldD fs ws base), some (.int ((d + 1 : Nat) : Int)), some (.int (seed % 8)), some (.cell 0), x5] ∧ h = [.lst (((List.range i).map fun k : Nat => sieveF fs ws base d (mixF seed ((k : Int) + 3))).map svD)] := ⟨_, rfl⟩
            refine Wp.range 0 (seed / 8 % 4).toNat I (h0 := [.lst []]) (by simp (disch := omega)) (by rw [hI]; exact ⟨_, rfl, rfl⟩) ?_ ?_
            · intro i σ h hi hh
              rw [hI] at hh
              obtain ⟨x5, rfl, rfl⟩ := hh
              refine ⟨_, rfl, ?_⟩
              have r1 := rc (mixF seed ((i : Int) + 3)) (mixF_bd _ _).1
              have ek : ((List.range i).map fun k : Nat => sieveF fs ws base d (mixF seed ((k : Int) + 3))).map svD ++ [svD (sieveF fs ws base d (mixF seed ((i : Int) + 3)))] = ((List.range (i + 1)).map fun k : Nat => sieveF fs ws base d (mixF seed ((k : Int) + 3))).map svD := by rw [List.range_succ, List.map_append, List.map_append]; rfl
              simp (disch := omega) [callP_mix, dd, r1, if_pos, ek, -Int.natCast_add, -List.map_append, -List.map_map]
              rw [hI]
              exact ⟨_, rfl, rfl⟩
            · intro σ h hh
              rw [hI] at hh
              obtain ⟨x5, rfl, rfl⟩ := hh
              obtain ⟨l, hl⟩ : ∃ l, ((List.range (seed / 8 % 4).toNat).map fun k : Nat => sieveF fs ws base d (mixF seed ((k : Int) + 3))) = l := ⟨_, rfl⟩
              rw [hl]
              have ld : 2 * depL l + 3 ≤ 11 := by
                have dl : ∀ l : List Sv, (∀ s ∈ l, dep s ≤ 2) → depL l ≤ 2 := by
                  intro l
                  induction l with
                  | nil => intro _; rw [depL]; omega
                  | cons s l ih2 =>
                    intro h
                    rw [depL]
                    have := h s List.mem_cons_self
                    have := ih2 fun t ht => h t (List.mem_cons_of_mem _ ht)
                    omega
                have := dl l fun s hs => by
                  rw [← hl] at hs
                  obtain ⟨k, _, rfl⟩ := List.mem_map.mp hs
                  have := (sieve_ok w d (mixF seed ((k : Int) + 3))).2.1
                  omega
                omega
              have fz := frz_depL l 11 (n0 := 0) (h := [Cell.lst (l.map svD)]) ld
              rw [svL_map] at fz
              by_cases z2 : seed / 32 % 2 = 0
              · have o := out (.all l) (by rw [sieveF, if_neg z0, if_neg z1, if_pos z2, hl])
                rw [svD, svL_map] at o
                rw [if_pos z2] at p2
                subst p2
                simp [fz, frz_world, p1]
                simpa using o
              · have o := out (.some l) (by rw [sieveF, if_neg z0, if_neg z1, if_neg z2, hl])
                rw [svD, svL_map] at o
                rw [if_neg z2] at p2
                subst p2
                simp [fz, frz_world, p1]
                simpa using o
    rw [hPP] at fin
    exact fin
end
end
end WD

set_option Elab.async false
set_option linter.all false
set_option maxRecDepth 100000
set_option maxHeartbeats 4000000
namespace HD
open PySem PySem.Spec PyProof.Rows L2 VD PS WT WD
noncomputable section
def c_whole_path_1 : LS := lLc (iT (eVar 1)) (gN 3) (cYes) (eOp oIx (eVar 2) (eCa (Cm.f .P m_field_at) (aCons (eVar 0) (aCons (eVar 3) (aNil))))) [3]
def b_whole_path : SS := sRet (eCa bTuple (aCons (eV (c_whole_path_1)) (aNil)))
def m_whole_path : List D → Hv → R D := fnS 3 1 b_whole_path
def l_rank_of_1 : SS := sFor (iT (eVar 0)) (gN 2) (sIf (toB (eOp oIs (eVar 2) (eK .non))) (sDrop (eBM mAppend (eVar 1) (aCons (eTup (aCons (eK (.int 1)) (aCons (eK (.int 0)) (aNil)))) (aNil)))) (sDrop (eBM mAppend (eVar 1) (aCons (eTup (aCons (eK (.int 0)) (aCons (eVar 2) (aNil)))) (aNil)))))
def b_rank_of : SS := sSeq (sSet 1 (eC (lLst (aNil)))) (sSeq (l_rank_of_1) (sRet (eVar 1)))
def m_rank_of : List D → Hv → R D := fnS 1 2 b_rank_of
def l_heads_of_1 [Wd] : SS := sFor (iR1 (aCons (eOp oAdd (eCa bLen (aCons (eVar 5) (aNil))) (eK (.int 1))) (aNil))) (gN 6) (sNput (eK (.bl true)) (eVar 3) (eSl (eVar 5) (pNo) (pAt (eVar 6))))
def l_heads_of_2 [Wd] : SS := sFor (iL (eVar 2)) (gN 4) (sSeq (sSet 5 (eCa (Cm.f .P m_whole_path) (aCons (eVar 0) (aCons (eVar 1) (aCons (eVar 4) (aNil)))))) (l_heads_of_1))
def b_heads_of [Wd] : SS := sSeq (sSet 3 (eNdisp (eTup (aNil)) (eK (.bl true)))) (sSeq (l_heads_of_2) (sRet (eV (eCa (bSortK false m_rank_of) (aCons (eVar 3) (aNil))))))
def m_heads_of [Wd] : List D → Hv → R D := fnS 3 4 b_heads_of
/-! ### paths and heads -/
theorem optAll_of {α β : Type} {g : β → Option α} {e' : β → α} : ∀ {xs : List β}, (∀ x ∈ xs, g x = some (e' x)) → optAll g xs = some (xs.map e')
  | [], _ => rfl
  | x :: xs, q => by
    rw [List.map_cons, optAll_cons, q x List.mem_cons_self, optAll_of (xs := xs) fun y hy => q y (List.mem_cons_of_mem _ hy)]
abbrev namesD (ns : List WT.Tx) : D := .tup (ns.map tx)
theorem frz_names {n0 n : Nat} {h : Hv} (ns : List WT.Tx) : frz n0 h (n + 2) (namesD ns) = some (namesD ns) := by
  rw [frz_tup, optAll_map (g := frz n0 h (n + 1)) (e' := tx) fun _ _ => rfl]; rfl
/-- a row's values for some names -/
def whole (fs : List Fd) (ns : List WT.Tx) (r : List Val) : List Val := ns.map (rowAt fs r)
@[simp] theorem whole_len {fs : List Fd} {ns : List WT.Tx} {r : List Val} : (whole fs ns r).length = ns.length := List.length_map ..
def NmsOk (fs : List Fd) (ns : List WT.Tx) : Prop := ∀ n ∈ ns, ∃ b, (n, b) ∈ fs
theorem nm_at {fs : List Fd} {ns : List WT.Tx} (ok : NmsOk fs ns) {n : WT.Tx} (hn : n ∈ ns) : ∃ (i : Nat) (b : Bool), fs[i]? = some (n, b) := by
  obtain ⟨b, hb⟩ := ok n hn
  obtain ⟨i, hi⟩ := List.getElem?_of_mem hb
  exact ⟨i, b, hi⟩
theorem whole_eq {fs : List Fd} (fo : FdsOk fs) {r : List Val} (ro : RowOk fs r) {ns : List WT.Tx} (ok : NmsOk fs ns) (hl : ns.length ≤ 1000) : m_whole_path [fdsD fs, namesD ns, rowD r] [] = .ok (rowD (whole fs ns r)) [] := by
  refine fnS_of (P := fun x => x = .ok (rowD (whole fs ns r)) []) rfl ?_
  unfold b_whole_path
  have e : c_whole_path_1 [some (fdsD fs), some (namesD ns), some (rowD r), none] [] = .ok ((whole fs ns r).map valD) [] := by
    unfold c_whole_path_1 whole
    rw [List.map_map]
    refine lLc_map tx _ ns (chk := always) (h0 := []) (show iT _ _ _ = .ok (ns.map tx, always) [] by simp) rfl (by omega) fun n hn => ⟨_, rfl, ?_⟩
    obtain ⟨i, b, hi⟩ := nm_at ok hn
    obtain ⟨p1, p2, _⟩ := row_at ro fo.nd hi
    have fc := field_call (by have := fo.hi; omega) p1
    have ix := fun h => row_ix (h := h) p2
    simp [fc, ix]
  have fz : optAll (frz 0 [] 11) ((whole fs ns r).map valD) = some ((whole fs ns r).map valD) := optAll_map fun v _ => frz_val v
  simp [e, fz]; rfl
/-! ranks -/
def rkV : Val → RkE
  | .no => none
  | .wd cs => some (.t (sx cs))
  | .nm i => some (.i i)
def rkOfP (p : List Val) : List RkE := p.map rkV
theorem rke_val (v : Val) : rkeOf (rkeD (rkV v)) = some (rkV v) := by cases v <;> rfl
theorem rke_d (v : Val) : rkeD (rkV v) = if v = .no then .tup [.int 1, .int 0] else .tup [.int 0, valD v] := by cases v <;> rfl
theorem rank_eq {p : List Val} (hl : p.length ≤ 1000) : m_rank_of [rowD p] [] = .ok (rkD (rkOfP p)) [] := by
  obtain ⟨PP, hPP⟩ : ∃ PP : VD.R D → Prop, PP = fun x => x = .ok (rkD (rkOfP p)) [] := ⟨_, rfl⟩
  have fin : PP (m_rank_of [rowD p] []) := by
    refine fnS_of (P := PP) rfl ?_
    unfold b_rank_of
    simp
    unfold l_rank_of_1
    obtain ⟨I, hI⟩ : ∃ I : Nat → VS → Hv → Prop, I = fun i σ h => ∃ x, σ = [some (rowD p), some (.cell 0), x] ∧ h = [.lst ((p.take i).map fun v => rkeD (rkV v))] := ⟨_, rfl⟩
    refine Wp.loopA valD p I (h0 := [.lst []]) (show iT _ _ _ = .ok (p.map valD, always) _ by simp [rowD]) (by rw [hI]; exact ⟨_, rfl, rfl⟩) ?_ ?_
    · intro i v σ h hv hh
      rw [hI] at hh
      obtain ⟨x, rfl, rfl⟩ := hh
      refine ⟨_, rfl, ?_⟩
      have il := (List.getElem?_eq_some_iff.mp hv).1
      have ll : (p.take i).length < 16777216 := by rw [List.length_take]; omega
      have tk : (p.take i).map (fun v => rkeD (rkV v)) ++ [rkeD (rkV v)] = (p.take (i + 1)).map fun v => rkeD (rkV v) := by
        rw [List.take_add_one, hv]; simp
      by_cases q : v = .no
      · subst q
        have e : D.tup [.int 1, .int 0] = rkeD (rkV .no) := rfl
        simp [valD, e]
        have ll2 : min i p.length < 16777216 := by omega
        simp [ll2, -List.map_take]
        rw [hI]
        exact ⟨_, rfl, by rw [← tk, List.map_take]⟩
      · have e : D.tup [.int 0, valD v] = rkeD (rkV v) := by rw [rke_d, if_neg q]
        have nv : isD (valD v) .non = some false := by rw [isD_val]; simp [q]
        have ll2 : min i p.length < 16777216 := by omega
        simp [nv, e, ll2, -List.map_take]
        rw [hI]
        exact ⟨_, rfl, by rw [← tk, List.map_take]⟩
    · intro σ h hh
      rw [hI] at hh
      obtain ⟨x, rfl, rfl⟩ := hh
      rw [List.take_of_length_le (Nat.le_refl _)]
      have fz : ∀ h, optAll (frz 0 h 11) (p.map fun v => rkeD (rkV v)) = some (p.map fun v => rkeD (rkV v)) := fun h => optAll_map fun v _ => by cases v <;> rfl
      simp [fz]
      rw [hPP]
      unfold rkD rkOfP
      rw [List.map_map]; rfl
  rw [hPP] at fin
  exact fin
/-! keys -/
def nkV : Val → NestedKey
  | .no => .none
  | .wd cs => .text (sx cs)
  | .nm i => .num i
def nkP (p : List Val) : NestedKey := .tup (p.map nkV)
theorem nkV_inj {a b : Val} (h : nkV a = nkV b) : a = b := by
  cases a with
  | no => cases b <;> first | rfl | cases h
  | wd x =>
    cases b with
    | wd y => exact congrArg Val.wd (sx_inj.mp (NestedKey.text.inj h))
    | no => cases h
    | nm i => cases h
  | nm i =>
    cases b with
    | nm j => exact congrArg Val.nm (NestedKey.num.inj h)
    | no => cases h
    | wd y => cases h
theorem nkP_inj {p q : List Val} (h : nkP p = nkP q) : p = q := by
  injection h with h
  induction p generalizing q with
  | nil =>
    cases q with
    | nil => rfl
    | cons _ _ => cases h
  | cons a p ih =>
    cases q with
    | nil => cases h
    | cons b q =>
      rw [List.map_cons, List.map_cons] at h
      injection h with h1 h2
      rw [nkV_inj h1, ih h2]
theorem nk_d (p : List Val) : nkD (nkP p) = rowD p := by
  have all : ∀ p : List Val, nkDs (p.map nkV) = p.map valD := fun p => by
    induction p with
    | nil => rfl
    | cons a p ih =>
      rw [List.map_cons, List.map_cons, nkDs, ih]
      cases a <;> rfl
  show D.tup (nkDs (p.map nkV)) = _
  rw [all]; rfl
@[simp] theorem tk_row (p : List Val) : tkOf (rowD p) = some (nkP p) := by
  show (optAll (nkOf 7) (p.map valD)).map NestedKey.tup = _
  rw [optAll_map (g := nkOf 7) (e := valD) (e' := nkV) fun v _ => by cases v <;> rfl]; rfl
/-- a dict of paths -/
def seenK (us : List (List Val)) : Nd := us.map fun p => (nkP p, .bl true)
theorem seen_get : ∀ (us : List (List Val)) (p : List Val), (getN (seenK us) (nkP p)).isSome = decide (p ∈ us)
  | [], p => by simp [seenK]
  | u :: us, p => by
    show (getN ((nkP u, D.bl true) :: seenK us) (nkP p)).isSome = _
    rw [getN_cons]
    by_cases q : nkP u = nkP p
    · rw [if_pos q, nkP_inj q]; simp
    · have q2 : ¬ p = u := fun z => q (by rw [z])
      rw [if_neg q, seen_get us p]; simp [q2]
def add1 (us : List (List Val)) (p : List Val) : List (List Val) := if p ∈ us then us else us ++ [p]
theorem seen_put (us : List (List Val)) (p : List Val) : putN (seenK us) (nkP p) (.bl true) = seenK (add1 us p) := by
  unfold putN add1
  rw [seen_get]
  by_cases q : p ∈ us
  · rw [decide_eq_true q, if_pos rfl, if_pos q]
    unfold seenK
    rw [List.map_map]
    refine List.map_congr_left fun u _ => ?_
    show (if nkP u = nkP p then (nkP u, D.bl true) else (nkP u, D.bl true)) = _
    split <;> rfl
  · rw [decide_eq_false q, if_neg Bool.false_ne_true, if_neg q]
    unfold seenK
    rw [List.map_append]; rfl
@[simp] theorem seen_len (us : List (List Val)) : (seenK us).length = us.length := List.length_map ..
theorem add1_mem {us : List (List Val)} {p q : List Val} : q ∈ add1 us p ↔ q ∈ us ∨ q = p := by
  unfold add1
  split
  · next h => exact ⟨.inl, fun z => z.elim id fun e => by rw [e]; exact h⟩
  · simp
theorem add1_nd {us : List (List Val)} {p : List Val} (h : us.Nodup) : (add1 us p).Nodup := by
  unfold add1
  split
  · exact h
  · next q =>
    exact List.nodup_append.mpr ⟨h, by simp, fun a ha b hb e => by
      rw [List.mem_singleton.mp hb] at e
      rw [e] at ha
      exact q ha⟩
theorem add1_le {us : List (List Val)} {p : List Val} : (add1 us p).length ≤ us.length + 1 := by
  unfold add1
  split
  · omega
  · simp
def adds (us ps : List (List Val)) : List (List Val) := ps.foldl add1 us
theorem adds_snoc (us ps : List (List Val)) (p : List Val) : adds us (ps ++ [p]) = add1 (adds us ps) p := by unfold adds; rw [List.foldl_append]; rfl
theorem adds_app (us ps qs : List (List Val)) : adds us (ps ++ qs) = adds (adds us ps) qs := by unfold adds; rw [List.foldl_append]
theorem adds_mem : ∀ {ps us : List (List Val)} {q : List Val}, q ∈ adds us ps ↔ q ∈ us ∨ q ∈ ps
  | [], us, q => by simp [adds]
  | p :: ps, us, q => by
    show q ∈ adds (add1 us p) ps ↔ _
    rw [adds_mem, add1_mem, List.mem_cons, or_assoc]
theorem adds_nd : ∀ {ps us : List (List Val)}, us.Nodup → (adds us ps).Nodup
  | [], _, h => h
  | _ :: ps, _, h => adds_nd (ps := ps) (add1_nd h)
theorem adds_le : ∀ {ps us : List (List Val)}, (adds us ps).length ≤ us.length + ps.length
  | [], us => by simp [adds]
  | p :: ps, us => by
    have h1 := adds_le (ps := ps) (us := add1 us p)
    have h2 := add1_le (us := us) (p := p)
    show (adds (add1 us p) ps).length ≤ _
    rw [List.length_cons]; omega
/-- a path's beginnings -/
def pre (p : List Val) : List (List Val) := (List.range (p.length + 1)).map fun k => p.take k
theorem pre_len (p : List Val) : (pre p).length = p.length + 1 := by unfold pre; rw [List.length_map, List.length_range]
def pres (fs : List Fd) (ns : List WT.Tx) (rows : List (List Val)) : List (List Val) := rows.flatMap fun r => pre (whole fs ns r)
/-- all heads, as first met -/
def headsU (fs : List Fd) (ns : List WT.Tx) (rows : List (List Val)) : List (List Val) := adds [[]] (pres fs ns rows)
/-- a path ahead of another one, or beside it -/
def pathLe (p q : List Val) : Bool := !lx (rkT (rkOfP q)) (rkT (rkOfP p))
def headsF (fs : List Fd) (ns : List WT.Tx) (rows : List (List Val)) : List (List Val) := (headsU fs ns rows).mergeSort pathLe
theorem pres_len (fs : List Fd) (ns : List WT.Tx) : ∀ rows : List (List Val), (pres fs ns rows).length = rows.length * (ns.length + 1)
  | [] => by simp [pres]
  | r :: rows => by
    show (pre (whole fs ns r) ++ pres fs ns rows).length = _
    rw [List.length_append, pre_len, pres_len fs ns rows, whole_len, List.length_cons, Nat.add_mul, Nat.one_mul, Nat.add_comm]
/-- the kinds of a path's values -/
def PathOk (fs : List Fd) (ns : List WT.Tx) (p : List Val) : Prop := p.length ≤ ns.length ∧ ∀ (i : Nat) (n : WT.Tx) (b : Bool) (v : Val), ns[i]? = some n → (n, b) ∈ fs → p[i]? = some v → ValOk b v
theorem fd_one {fs : List Fd} (fo : FdsOk fs) {n : WT.Tx} {b c : Bool} (h1 : (n, b) ∈ fs) (h2 : (n, c) ∈ fs) : b = c := by
  obtain ⟨i, hi⟩ := List.getElem?_of_mem h1
  obtain ⟨j, hj⟩ := List.getElem?_of_mem h2
  have e1 := plN_at fo.nd hi
  have e2 := plN_at fo.nd hj
  rw [show ((n, b) : Fd).1 = n from rfl] at e1
  rw [show ((n, c) : Fd).1 = n from rfl, e1] at e2
  cases e2
  rw [hi] at hj
  exact (Prod.mk.inj (Option.some.inj hj)).2
theorem whole_ok {fs : List Fd} (fo : FdsOk fs) {ns : List WT.Tx} {r : List Val} (ro : RowOk fs r) : PathOk fs ns (whole fs ns r) := by
  refine ⟨by rw [whole_len]; exact Nat.le_refl _, fun i n b v hn hb hv => ?_⟩
  unfold whole at hv
  rw [List.getElem?_map, hn] at hv
  cases hv
  obtain ⟨j, hj⟩ := List.getElem?_of_mem hb
  exact (row_at ro fo.nd hj).2.2
theorem PathOk.take {fs : List Fd} {ns : List WT.Tx} {p : List Val} (h : PathOk fs ns p) (k : Nat) : PathOk fs ns (p.take k) := by
  refine ⟨by rw [List.length_take]; have := h.1; omega, fun i n b v hn hb hv => h.2 i n b v hn hb ?_⟩
  rw [List.getElem?_take] at hv
  split at hv
  · exact hv
  · cases hv
theorem heads_path {fs : List Fd} (fo : FdsOk fs) {ns : List WT.Tx} {rows : List (List Val)} (ro : ∀ r ∈ rows, RowOk fs r) {p : List Val} (h : p ∈ headsU fs ns rows) : PathOk fs ns p := by
  rcases adds_mem.mp h with h | h
  · rw [List.mem_singleton.mp h]
    exact ⟨Nat.zero_le _, fun i n b v _ _ hv => by simp at hv⟩
  · obtain ⟨r, hr, hp⟩ := List.mem_flatMap.mp h
    obtain ⟨k, _, rfl⟩ := List.mem_map.mp hp
    exact (whole_ok fo (ro r hr)).take k
theorem same_val {b : Bool} {u v : Val} (h1 : ValOk b u) (h2 : ValOk b v) : rkeS (rkV u) (rkV v) = true := by
  cases u <;> cases v <;> first | rfl | exact absurd (h1.1.symm.trans h2.1) (by decide)
theorem same_path {fs : List Fd} {ns : List WT.Tx} (nk : NmsOk fs ns) : ∀ {p q : List Val}, PathOk fs ns p → PathOk fs ns q → rkS (rkOfP p) (rkOfP q) = true := by
  induction ns with
  | nil =>
    intro p q hp _
    have : p = [] := List.length_eq_zero_iff.mp (Nat.le_zero.mp hp.1)
    subst this; rfl
  | cons n ns ih =>
    intro p q hp hq
    cases p with
    | nil => rfl
    | cons a p =>
      cases q with
      | nil => rfl
      | cons b q =>
        obtain ⟨k, hk⟩ := nk n List.mem_cons_self
        show (rkeS (rkV a) (rkV b) && rkS (rkOfP p) (rkOfP q)) = true
        rw [same_val (hp.2 0 n k a rfl hk rfl) (hq.2 0 n k b rfl hk rfl), ih (fun m hm => nk m (List.mem_cons_of_mem _ hm)) ⟨Nat.le_of_succ_le_succ hp.1, fun i m c v h1 h2 h3 => hp.2 (i + 1) m c v h1 h2 h3⟩ ⟨Nat.le_of_succ_le_succ hq.1, fun i m c v h1 h2 h3 => hq.2 (i + 1) m c v h1 h2 h3⟩]
        rfl
theorem sort_paths (us : List (List Val)) : (((us.map rowD).zip (us.map fun p => SK.rk (rkOfP p))).mergeSort (skLe false)).map (·.1) = (us.mergeSort pathLe).map rowD := by
  have z : (us.map rowD).zip (us.map fun p => SK.rk (rkOfP p)) = us.map fun p => (rowD p, SK.rk (rkOfP p)) := by
    induction us with
    | nil => rfl
    | cons u us ih => rw [List.map_cons, List.map_cons, List.zip_cons_cons, ih, List.map_cons]
  rw [z, ← List.map_mergeSort (r := pathLe) (s := skLe false) (fun a _ b _ => rfl), List.map_map]; rfl
theorem heads_eq [Wd] {fs : List Fd} (fo : FdsOk fs) {ns : List WT.Tx} (nk : NmsOk fs ns) (hn : ns.length ≤ 1000) {rows : List (List Val)} (ro : ∀ r ∈ rows, RowOk fs r) (hl : rows.length * (ns.length + 1) ≤ 1000000) :
    m_heads_of [fdsD fs, namesD ns, .lst (rows.map rowD)] [] = .ok (.lst ((headsF fs ns rows).map rowD)) [] := by
  obtain ⟨PP, hPP⟩ : ∃ PP : VD.R D → Prop, PP = fun x => x = .ok (.lst ((headsF fs ns rows).map rowD)) [] := ⟨_, rfl⟩
  have fin : PP (m_heads_of [fdsD fs, namesD ns, .lst (rows.map rowD)] []) := by
    refine fnS_of (P := PP) rfl ?_
    unfold b_heads_of
    have e0 : (D.tup []) = rowD [] := rfl
    have s0 : [(nkP [], D.bl true)] = seenK [[]] := rfl
    simp [e0, s0]
    unfold l_heads_of_2
    obtain ⟨I, hI⟩ : ∃ I : Nat → VS → Hv → Prop, I = fun i σ h => ∃ x4 x5 x6, σ = [some (fdsD fs), some (namesD ns), some (.lst (rows.map rowD)), some (.cell 0), x4, x5, x6] ∧ h = [.dN Wd.w (seenK (headsU fs ns (rows.take i)))] := ⟨_, rfl⟩
    have small : ∀ i, (headsU fs ns (rows.take i)).length ≤ 1 + i * (ns.length + 1) := fun i => by
      have h1 := adds_le (ps := pres fs ns (rows.take i)) (us := [[]])
      rw [pres_len, List.length_take] at h1
      have h2 : min i rows.length * (ns.length + 1) ≤ i * (ns.length + 1) := Nat.mul_le_mul_right _ (Nat.min_le_left _ _)
      have : (headsU fs ns (rows.take i)).length ≤ 1 + min i rows.length * (ns.length + 1) := h1
      omega
    refine Wp.loopA rowD rows I (h0 := [.dN Wd.w (seenK [[]])]) (show iL _ _ _ = .ok (rows.map rowD, always) _ by simp) (by rw [hI]; exact ⟨_, _, _, rfl, rfl⟩) ?_ ?_
    · intro i r σ h hr hh
      rw [hI] at hh
      obtain ⟨x4, x5, x6, rfl, rfl⟩ := hh
      refine ⟨_, rfl, ?_⟩
      have il := (List.getElem?_eq_some_iff.mp hr).1
      have wc := cP (whole_eq fo (ro r (List.mem_of_getElem? hr)) nk hn) (by simp [frz_fds, frz_row, frz_names, -frz_tup])
      have wl : ((whole fs ns r).map valD).length = ns.length := by simp
      have bl : ∀ h, bLen [rowD (whole fs ns r)] h = .ok (.int (ns.length : Int)) h := fun h => by
        unfold rowD
        simp [wl]
      simp [wc, bl]
      unfold l_heads_of_1
      obtain ⟨J, hJ⟩ : ∃ J : Nat → VS → Hv → Prop, J = fun m σ h => ∃ x6, σ = [some (fdsD fs), some (namesD ns), some (.lst (rows.map rowD)), some (.cell 0), some (rowD r), some (rowD (whole fs ns r)), x6] ∧
        h = [.dN Wd.w (seenK (adds (headsU fs ns (rows.take i)) (((List.range m).map fun k => (whole fs ns r).take k))))] := ⟨_, rfl⟩
      refine Wp.range 0 (ns.length + 1) J (h0 := [.dN Wd.w (seenK (headsU fs ns (rows.take i)))]) (by simp (disch := omega) [bl]) (by rw [hJ]; exact ⟨_, rfl, rfl⟩) ?_ ?_
      · intro m σ h hm hh
        rw [hJ] at hh
        obtain ⟨y6, rfl, rfl⟩ := hh
        refine ⟨_, rfl, ?_⟩
        have sl : slD (rowD (whole fs ns r)) none (some ((0 : Int) + (m : Int))) = some (rowD ((whole fs ns r).take m)) := by
          show some (D.tup (VD.cutD ((whole fs ns r).map valD) none (some ((0 : Int) + (m : Int))))) = _
          rw [cutD_tk (by omega), ← List.map_take, show ((0 : Int) + (m : Int)).toNat = m by omega]; rfl
        have few : (adds (headsU fs ns (rows.take i)) ((List.range m).map fun k => (whole fs ns r).take k)).length < 16777216 := by
          have h1 := adds_le (ps := (List.range m).map fun k => (whole fs ns r).take k) (us := headsU fs ns (rows.take i))
          have h2 := small i
          rw [List.length_map, List.length_range] at h1
          have h3 : i * (ns.length + 1) ≤ rows.length * (ns.length + 1) := Nat.mul_le_mul_right _ (by omega)
          omega
        have sc : (0 : Int) + (m : Int) = m := by omega
        rw [sc] at sl ⊢
        simp [sl, few, seen_put]
        rw [hJ]
        refine ⟨_, rfl, ?_⟩
        rw [List.range_succ, List.map_append, List.map_cons, List.map_nil, adds_snoc]
      · intro σ h hh
        rw [hJ] at hh
        obtain ⟨y6, rfl, rfl⟩ := hh
        simp
        rw [hI]
        refine ⟨_, _, _, rfl, ?_⟩
        have e : headsU fs ns (rows.take (i + 1)) = adds (headsU fs ns (rows.take i)) ((List.range (ns.length + 1)).map fun k => (whole fs ns r).take k) := by
          have : pres fs ns (rows.take (i + 1)) = pres fs ns (rows.take i) ++ (List.range (ns.length + 1)).map fun k => (whole fs ns r).take k := by
            unfold pres
            rw [List.take_add_one, hr, List.flatMap_append]
            congr 1
            show pre (whole fs ns r) ++ [] = _
            rw [List.append_nil]
            unfold pre
            rw [whole_len]
          unfold headsU
          rw [this, adds_app]
        rw [e]
    · intro σ h hh
      rw [hI] at hh
      obtain ⟨x4, x5, x6, rfl, rfl⟩ := hh
      rw [List.take_of_length_le (Nat.le_refl _)]
      have its : itemsN [.dN Wd.w (seenK (headsU fs ns rows))] (.cell 0) = some ((headsU fs ns rows).map rowD) := by
        unfold itemsN
        simp
        unfold seenK
        rw [List.map_map]
        exact List.map_congr_left fun p _ => nk_d p
      have ks : optAll (keyN m_rank_of) ((headsU fs ns rows).map rowD) = some ((headsU fs ns rows).map fun p => SK.rk (rkOfP p)) := by
        refine optAll_map fun p hp => ?_
        have hk := heads_path fo ro hp
        unfold keyN
        have e1 : pureD [rowD p] = some [rowD p] := by simp [frz_row]
        have e2 : skOf (rkD (rkOfP p)) = some (SK.rk (rkOfP p)) := by
          show (optAll rkeOf ((rkOfP p).map rkeD)).map SK.rk = _
          unfold rkOfP
          rw [List.map_map, optAll_map (g := rkeOf) (e := rkeD ∘ rkV) (e' := rkV) fun v _ => rke_val v]; rfl
        rw [e1]
        simp only [rank_eq (p := p) (by have := hk.1; omega), e2]
      have al : AllSame ((headsU fs ns rows).map fun p => SK.rk (rkOfP p)) := fun a ha b hb => by
        obtain ⟨p, hp, rfl⟩ := List.mem_map.mp ha
        obtain ⟨q, hq, rfl⟩ := List.mem_map.mp hb
        exact same_path nk (heads_path fo ro hp) (heads_path fo ro hq)
      have few : ((headsU fs ns rows).map rowD).length ≤ 16777216 := by
        rw [List.length_map]
        have h1 := small rows.length
        rw [List.take_of_length_le (Nat.le_refl _)] at h1
        omega
      have so : bSortK false m_rank_of [.cell 0] [.dN Wd.w (seenK (headsU fs ns rows))] = .ok ((headsF fs ns rows).map rowD) [.dN Wd.w (seenK (headsU fs ns rows))] := by
        show sortN false m_rank_of (.cell 0) _ = _
        unfold sortN
        rw [its]
        simp only [ks]
        rw [if_pos ⟨al, few⟩, sort_paths]; rfl
      have fz : ∀ h, optAll (frz 0 h 11) ((headsF fs ns rows).map rowD) = some ((headsF fs ns rows).map rowD) := fun h => optAll_map (e' := rowD) fun p _ => frz_row p
      simp [so, fz]
      rw [hPP]
  rw [hPP] at fin
  exact fin
/-! the order, in plain words -/
def valLt : Val → Val → Bool
  | .no, _ => false
  | .wd _, .no => true
  | .nm _, .no => true
  | .wd a, .wd b => decide (a < b)
  | .nm i, .nm j => decide (i < j)
  | .nm _, .wd _ => true
  | .wd _, .nm _ => false
def pathLt : List Val → List Val → Bool
  | [], [] => false
  | [], _ :: _ => true
  | _ :: _, [] => false
  | a :: p, b :: q => if a = b then pathLt p q else valLt a b
theorem rkV_inj {a b : Val} (h : rkV a = rkV b) : a = b := by
  cases a with
  | no => cases b <;> first | rfl | cases h
  | wd x =>
    cases b with
    | wd y => exact congrArg Val.wd (sx_inj.mp (At.t.inj (Option.some.inj h)))
    | no => cases h
    | nm i => cases h
  | nm i =>
    cases b with
    | nm j => exact congrArg Val.nm (At.i.inj (Option.some.inj h))
    | no => cases h
    | wd y => cases h
theorem lx_val {a b : Val} (h : a ≠ b) : lx (rkeT (rkV a)) (rkeT (rkV b)) = valLt a b := by
  have one : ∀ {x y : At}, x ≠ y → lx (rkeT (some x)) (rkeT (some y)) = itemLt x.k y.k := fun {x y} hn => by
    show lx (.inl 0 :: [x.k]) (.inl 0 :: [y.k]) = _
    rw [lx_self, lx_diff (fun z => hn (At.k_inj z))]
  cases a with
  | no =>
    cases b with
    | no => exact absurd rfl h
    | wd y => exact lx_diff (by decide) _ _
    | nm j => exact lx_diff (by decide) _ _
  | wd x =>
    cases b with
    | no => exact lx_diff (by decide) _ _
    | wd y =>
      refine (one (x := .t (sx x)) (y := .t (sx y)) fun z => h (congrArg Val.wd (sx_inj.mp (At.t.inj z)))).trans ?_
      show itemLt (.inr (sx x).cps.toList) (.inr (sx y).cps.toList) = decide (x < y)
      have ex : (sx x).cps.toList = x := by simp
      have ey : (sx y).cps.toList = y := by simp
      rw [ex, ey]; rfl
    | nm j => exact (one (x := .t (sx x)) (y := .i j) fun z => by cases z).trans rfl
  | nm i =>
    cases b with
    | no => exact lx_diff (by decide) _ _
    | wd y => exact (one (x := .i i) (y := .t (sx y)) fun z => by cases z).trans rfl
    | nm j => exact (one (x := .i i) (y := .i j) fun z => h (congrArg Val.nm (At.i.inj z))).trans rfl
theorem lx_path : ∀ p q : List Val, lx (rkT (rkOfP p)) (rkT (rkOfP q)) = pathLt p q
  | [], [] => rfl
  | [], b :: q => by
    obtain ⟨x, l, e⟩ := rkeT_ne (rkV b)
    show lx [] (rkeT (rkV b) ++ rkT (rkOfP q)) = true
    rw [e]; rfl
  | a :: p, [] => by
    obtain ⟨x, l, e⟩ := rkeT_ne (rkV a)
    show lx (rkeT (rkV a) ++ rkT (rkOfP p)) [] = false
    rw [e]; rfl
  | a :: p, b :: q => by
    show lx (rkeT (rkV a) ++ rkT (rkOfP p)) (rkeT (rkV b) ++ rkT (rkOfP q)) = if a = b then pathLt p q else valLt a b
    by_cases h : a = b
    · subst h
      rw [if_pos rfl, lx_pre, lx_path p q]
    · rw [if_neg h, rkeT_diff (fun z => h (rkV_inj z)), lx_val h]
theorem pathLe_eq (p q : List Val) : pathLe p q = !pathLt q p := by unfold pathLe; rw [lx_path]
theorem valLt_tri {a b : Val} (h : a ≠ b) : valLt a b = true ∨ valLt b a = true := by
  cases a with
  | no =>
    cases b with
    | no => exact absurd rfl h
    | wd y => exact .inr rfl
    | nm j => exact .inr rfl
  | wd x =>
    cases b with
    | no => exact .inl rfl
    | wd y =>
      have hn : x ≠ y := fun z => h (congrArg _ z)
      by_cases q : x < y
      · exact .inl (decide_eq_true q)
      · refine .inr (decide_eq_true ?_)
        have hle : y ≤ x := List.not_lt.mp q
        rcases List.le_iff_lt_or_eq.mp hle with z | z
        · exact z
        · exact absurd z.symm hn
    | nm j => exact .inr rfl
  | nm i =>
    cases b with
    | no => exact .inl rfl
    | wd y => exact .inl rfl
    | nm j =>
      have hn : i ≠ j := fun z => h (congrArg _ z)
      by_cases q : i < j
      · exact .inl (decide_eq_true q)
      · exact .inr (decide_eq_true (by omega))
theorem pathLt_tri : ∀ {p q : List Val}, pathLt p q = false → pathLt q p = false → p = q
  | [], [], _, _ => rfl
  | [], _ :: _, h, _ => by cases h
  | _ :: _, [], _, h => by cases h
  | a :: p, b :: q, h1, h2 => by
    have h1 : (if a = b then pathLt p q else valLt a b) = false := h1
    have h2 : (if b = a then pathLt q p else valLt b a) = false := h2
    by_cases e : a = b
    · subst e
      rw [if_pos rfl] at h1 h2
      rw [pathLt_tri h1 h2]
    · rw [if_neg e] at h1
      rw [if_neg (fun z => e z.symm)] at h2
      rcases valLt_tri e with z | z
      · rw [z] at h1; cases h1
      · rw [z] at h2; cases h2
theorem pathLe_trans (a b c : List Val) (h1 : pathLe a b = true) (h2 : pathLe b c = true) : pathLe a c = true := by
  unfold pathLe at h1 h2 ⊢
  rw [Bool.not_eq_true'] at h1 h2 ⊢
  cases q : lx (rkT (rkOfP c)) (rkT (rkOfP a)) with
  | false => rfl
  | true =>
    rcases (listOrd itemOrd).negTrans _ (rkT (rkOfP b)) _ q with z | z
    · rw [show lx (rkT (rkOfP c)) (rkT (rkOfP b)) = true from z] at h2; cases h2
    · rw [show lx (rkT (rkOfP b)) (rkT (rkOfP a)) = true from z] at h1; cases h1
theorem pathLe_total (a b : List Val) : (pathLe a b || pathLe b a) = true := by
  unfold pathLe
  cases h1 : lx (rkT (rkOfP b)) (rkT (rkOfP a)) with
  | false => rfl
  | true =>
    cases h2 : lx (rkT (rkOfP a)) (rkT (rkOfP b)) with
    | false => rfl
    | true =>
      have := (listOrd itemOrd).trans _ _ _ h1 h2
      rw [show (listOrd itemOrd).blt (rkT (rkOfP b)) (rkT (rkOfP b)) = lx (rkT (rkOfP b)) (rkT (rkOfP b)) from rfl, lx_refl] at this
      cases this
section
variable {fs : List Fd} {ns : List WT.Tx} {rows : List (List Val)}
theorem heads_perm : (headsF fs ns rows).Perm (headsU fs ns rows) := List.mergeSort_perm _ _
theorem heads_mem {p : List Val} : p ∈ headsF fs ns rows ↔ p ∈ headsU fs ns rows := heads_perm.mem_iff
theorem heads_nd : (headsF fs ns rows).Nodup := heads_perm.nodup_iff.mpr (adds_nd (by simp))
theorem heads_rise : (headsF fs ns rows).Pairwise (fun p q => pathLt p q = true) := by
  have h1 : (headsF fs ns rows).Pairwise (fun p q => pathLe p q = true) := List.pairwise_mergeSort (le := pathLe) pathLe_trans pathLe_total _
  have h2 : (headsF fs ns rows).Pairwise (· ≠ ·) := heads_nd
  refine (h1.and h2).imp fun {p q} h => ?_
  obtain ⟨a, b⟩ := h
  rw [pathLe_eq, Bool.not_eq_true'] at a
  cases c : pathLt p q with
  | true => rfl
  | false => exact absurd (pathLt_tri c a) b
theorem heads_iff {p : List Val} : p ∈ headsF fs ns rows ↔ p = [] ∨ ∃ r ∈ rows, ∃ k, k ≤ ns.length ∧ p = (whole fs ns r).take k := by
  rw [heads_mem]
  unfold headsU
  rw [adds_mem, List.mem_singleton]
  refine or_congr Iff.rfl ⟨fun h => ?_, fun h => ?_⟩
  · obtain ⟨r, hr, hp⟩ := List.mem_flatMap.mp h
    obtain ⟨k, hk, rfl⟩ := List.mem_map.mp hp
    have := List.mem_range.mp hk
    rw [whole_len] at this
    exact ⟨r, hr, k, by omega, rfl⟩
  · obtain ⟨r, hr, k, hk, rfl⟩ := h
    refine List.mem_flatMap.mpr ⟨r, hr, List.mem_map.mpr ⟨k, List.mem_range.mpr ?_, rfl⟩⟩
    rw [whole_len]; omega
end
end
end HD

set_option Elab.async false
set_option linter.all false
set_option maxRecDepth 100000
set_option maxHeartbeats 4000000
namespace HR
open PySem PySem.Spec PyProof.Rows L2 VD PS WT WD
noncomputable section
/-! rows as plain data -/
def valPy : Val → PyData
  | .no => .none
  | .wd cs => .str (sx cs)
  | .nm i => .int i
def rowPy (r : List Val) : PyData := .tuple (r.map valPy)
theorem valPy_at {h : Hv} {n : Nat} {v : Val} : toPy h (n + 1) (valD v) = some (valPy v) := by cases v <;> rfl
theorem rowPy_at {h : Hv} {n : Nat} {r : List Val} : toPy h (n + 2) (rowD r) = some (rowPy r) := by
  show (optAll (toPy h (n + 1)) (r.map valD)).map PyData.tuple = _
  rw [optAll_map (g := toPy h (n + 1)) (e := valD) (e' := valPy) fun v _ => valPy_at]; rfl
theorem rowsPy_at {h : Hv} {n : Nat} {rs : List (List Val)} : toPy h (n + 3) (.lst (rs.map rowD)) = some (.list (rs.map rowPy)) := by
  show (optAll (toPy h (n + 2)) (rs.map rowD)).map PyData.list = _
  rw [optAll_map (g := toPy h (n + 2)) (e := rowD) (e' := rowPy) fun v _ => rowPy_at]; rfl
theorem eqv_val (a b : Val) : PyData.eqv (valPy a) (valPy b) = decide (a = b) := by
  cases a with
  | no => cases b <;> rfl
  | wd x =>
    cases b with
    | no => rfl
    | wd y =>
      show (sx x == sx y) = _
      rw [Bool.eq_iff_iff, beq_iff_eq, decide_eq_true_iff, sx_inj]
      exact ⟨fun e => by rw [e], fun e => Val.wd.inj e⟩
    | nm j => rfl
  | nm i =>
    cases b with
    | no => rfl
    | wd y => rfl
    | nm j =>
      show (i == j) = _
      rw [Bool.eq_iff_iff, beq_iff_eq, decide_eq_true_iff]
      exact ⟨fun e => by rw [e], fun e => Val.nm.inj e⟩
theorem eqv_list {α : Type} [DecidableEq α] {f : α → PyData} (q : ∀ a b, PyData.eqv (f a) (f b) = decide (a = b)) : ∀ x y : List α, PyData.eqvAll (x.map f) (y.map f) = decide (x = y)
  | [], [] => rfl
  | [], _ :: _ => rfl
  | _ :: _, [] => rfl
  | a :: x, b :: y => by
    show (PyData.eqv (f a) (f b) && PyData.eqvAll (x.map f) (y.map f)) = _
    rw [q, eqv_list q x y, Bool.eq_iff_iff]
    simp
theorem eqv_row (p q : List Val) : PyData.eqv (rowPy p) (rowPy q) = decide (p = q) := eqv_list eqv_val p q
theorem eqv_rows (p q : List (List Val)) : PyData.eqv (.list (p.map rowPy)) (.list (q.map rowPy)) = decide (p = q) := eqv_list eqv_row p q
theorem eqD_py {h : Hv} {x y : D} {p q : PyData} (hx : toPy h 12 x = some p) (hy : toPy h 12 y = some q) : eqD h x y = some (PyData.eqv p q) := by
  unfold eqD
  rw [hx, hy]
theorem eqD_row {h : Hv} (p q : List Val) : eqD h (rowD p) (rowD q) = some (decide (p = q)) := by rw [eqD_py rowPy_at rowPy_at, eqv_row]
theorem eqD_rows {h : Hv} (p q : List (List Val)) : eqD h (.lst (p.map rowD)) (.lst (q.map rowD)) = some (decide (p = q)) := by rw [eqD_py rowsPy_at rowsPy_at, eqv_rows]
theorem any_row (us : List (List Val)) (p : List Val) : ((us.map rowPy).any fun z => PyData.eqv z (rowPy p)) = decide (p ∈ us) := by
  rw [List.any_map, Bool.eq_iff_iff, List.any_eq_true, decide_eq_true_iff]
  constructor
  · rintro ⟨b, hb, q⟩
    have q : PyData.eqv (rowPy b) (rowPy p) = true := q
    rw [eqv_row, decide_eq_true_iff] at q
    rw [← q]; exact hb
  · intro q
    refine ⟨p, q, ?_⟩
    show PyData.eqv (rowPy p) (rowPy p) = true
    rw [eqv_row]; exact decide_eq_true rfl
theorem inP_row {h : Hv} (p : List Val) (us : List (List Val)) : inP h (rowD p) (.lst (us.map rowD)) = some (decide (p ∈ us)) := by
  unfold inP
  rw [rowPy_at, rowsPy_at]
  show some ((us.map rowPy).any fun z => PyData.eqv z (rowPy p)) = _
  rw [any_row]
theorem oIn_row {h : Hv} (p : List Val) (us : List (List Val)) : oInP (rowD p) (.lst (us.map rowD)) h = .ok (.bl (decide (p ∈ us))) h := by
  unfold oInP; rw [inP_row]
theorem oNotIn_row {h : Hv} (p : List Val) (us : List (List Val)) : oNotInP (rowD p) (.lst (us.map rowD)) h = .ok (.bl (!decide (p ∈ us))) h := by
  unfold oNotInP; rw [inP_row]
theorem inP_cell {h : Hv} {n : Nat} {ds : List D} {x : D} (e : h[n]? = some (.lst ds)) : oNotInP x (.cell n) h = oNotInP x (.lst ds) h ∧ oInP x (.cell n) h = oInP x (.lst ds) h := by
  have e2 : toPy h 12 (.cell n) = toPy h 12 (.lst ds) := by rw [toPy_cell, e, toPy_lst]
  unfold oNotInP oInP inP
  rw [e2]
  exact ⟨rfl, rfl⟩
theorem oNotIn_rowC {h : Hv} {n : Nat} (p : List Val) {us : List (List Val)} (e : h[n]? = some (.lst (us.map rowD))) : oNotInP (rowD p) (.cell n) h = .ok (.bl (!decide (p ∈ us))) h := by rw [(inP_cell e).1, oNotIn_row]
theorem oIn_rowC {h : Hv} {n : Nat} (p : List Val) {us : List (List Val)} (e : h[n]? = some (.lst (us.map rowD))) : oInP (rowD p) (.cell n) h = .ok (.bl (decide (p ∈ us))) h := by rw [(inP_cell e).2, oIn_row]
/-- one row's places -/
theorem ix_val {h : Hv} {p : List Val} {i : Nat} {v : Val} (e : p[i]? = some v) : ixD h (rowD p) (i : Int) = some (valD v) := atI_map (atI_at rfl e)
theorem len_row {h : Hv} (p : List Val) : lenD h (rowD p) = some (p.length : Int) := by unfold rowD; rw [lenD_tup, List.length_map]
end
end HR

set_option Elab.async false
set_option linter.all false
set_option maxRecDepth 100000
set_option maxHeartbeats 4000000
namespace Lk13
open PySem PySem.Spec PyProof.Rows L2 VD
noncomputable section
def topS (i : Nat) : Stmt := PySem.Challenge.pw_crosshall_k13_heads_in_order.main.body.getD i (.Pass ⟨0, 0, 0, 0⟩)
abbrev s_field_at : Stmt := topS 4
abbrev N_field_at : List Str := ["fields", "name", "place"]
theorem sc_field_at : FnScope N_field_at ["fields", "name"] (defScope s_field_at) := ⟨rfl, rfl, rfl, by decide +kernel, rfl, by decide +kernel, by decide +kernel⟩
abbrev s_whole_path : Stmt := topS 6
abbrev N_whole_path : List Str := ["fields", "names", "row", "name"]
theorem sc_whole_path : FnScope N_whole_path ["fields", "names", "row"] (defScope s_whole_path) := ⟨rfl, rfl, rfl, by decide +kernel, rfl, by decide +kernel, by decide +kernel⟩
abbrev s_rank_of : Stmt := topS 7
abbrev N_rank_of : List Str := ["path", "told", "value"]
theorem sc_rank_of : FnScope N_rank_of ["path"] (defScope s_rank_of) := ⟨rfl, rfl, rfl, by decide +kernel, rfl, by decide +kernel, by decide +kernel⟩
abbrev s_heads_of : Stmt := topS 8
abbrev N_heads_of : List Str := ["fields", "names", "rows", "seen", "row", "path", "many"]
theorem sc_heads_of : FnScope N_heads_of ["fields", "names", "rows"] (defScope s_heads_of) := ⟨rfl, rfl, rfl, by decide +kernel, rfl, by decide +kernel, by decide +kernel⟩
abbrev s__law_cell_at : Stmt := topS 10
abbrev N__law_cell_at : List Str := ["_law_script", "_law_k"]
theorem sc__law_cell_at : FnScope N__law_cell_at ["_law_script", "_law_k"] (defScope s__law_cell_at) := ⟨rfl, rfl, rfl, by decide +kernel, rfl, by decide +kernel, by decide +kernel⟩
abbrev s__law_mix : Stmt := topS 11
abbrev N__law_mix : List Str := ["_law_seed", "_law_k", "_law_turn"]
theorem sc__law_mix : FnScope N__law_mix ["_law_seed", "_law_k"] (defScope s__law_mix) := ⟨rfl, rfl, rfl, by decide +kernel, rfl, by decide +kernel, by decide +kernel⟩
abbrev s__law_heads : Stmt := topS 12
abbrev N__law_heads : List Str := ["_law_seed", "_law_signs", "_law_many", "_law_most", "_law_few", "_law_at", "_law_rest", "_law_heads_here", "_law_k", "_law_word", "_law_sign"]
theorem sc__law_heads : FnScope N__law_heads ["_law_seed", "_law_signs", "_law_many", "_law_most"] (defScope s__law_heads) := ⟨rfl, rfl, rfl, by decide +kernel, rfl, by decide +kernel, by decide +kernel⟩
abbrev s__law_world : Stmt := topS 13
abbrev N__law_world : List Str := ["_law_script", "_law_seed", "_law_many", "_law_names", "_law_fields", "_law_words", "_law_base", "_law_k"]
theorem sc__law_world : FnScope N__law_world ["_law_script"] (defScope s__law_world) := ⟨rfl, rfl, rfl, by decide +kernel, rfl, by decide +kernel, by decide +kernel⟩
abbrev s__law_sure_value : Stmt := topS 14
abbrev N__law_sure_value : List Str := ["_law_seed", "_law_kind", "_law_world_here"]
theorem sc__law_sure_value : FnScope N__law_sure_value ["_law_seed", "_law_kind", "_law_world_here"] (defScope s__law_sure_value) := ⟨rfl, rfl, rfl, by decide +kernel, rfl, by decide +kernel, by decide +kernel⟩
abbrev s__law_value : Stmt := topS 15
abbrev N__law_value : List Str := ["_law_seed", "_law_kind", "_law_world_here"]
theorem sc__law_value : FnScope N__law_value ["_law_seed", "_law_kind", "_law_world_here"] (defScope s__law_value) := ⟨rfl, rfl, rfl, by decide +kernel, rfl, by decide +kernel, by decide +kernel⟩
abbrev s__law_row : Stmt := topS 16
abbrev N__law_row : List Str := ["_law_seed", "_law_world_here", "_law_fields", "_law_k"]
theorem sc__law_row : FnScope N__law_row ["_law_seed", "_law_world_here"] (defScope s__law_row) := ⟨rfl, rfl, rfl, by decide +kernel, rfl, by decide +kernel, by decide +kernel⟩
abbrev s__law_before : Stmt := topS 17
abbrev N__law_before : List Str := ["_law_one", "_law_other", "_law_k"]
theorem sc__law_before : FnScope N__law_before ["_law_one", "_law_other"] (defScope s__law_before) := ⟨rfl, rfl, rfl, by decide +kernel, rfl, by decide +kernel, by decide +kernel⟩
abbrev s__law_beginnings : Stmt := topS 18
abbrev N__law_beginnings : List Str := ["_law_rows", "_law_places", "_law_found", "_law_row_here", "_law_many", "_law_path", "_law_place"]
theorem sc__law_beginnings : FnScope N__law_beginnings ["_law_rows", "_law_places"] (defScope s__law_beginnings) := ⟨rfl, rfl, rfl, by decide +kernel, rfl, by decide +kernel, by decide +kernel⟩
abbrev s_law : Stmt := topS 19
abbrev N_law : List Str := ["_law_script", "_law_world_here", "_law_fields", "_law_seed", "_law_places", "_law_at", "_law_names", "_law_rows", "_law_k", "_law_some", "_law_handed", "_law_told", "_law_due", "_law_place", "_law_head"]
theorem sc_law : FnScope N_law ["_law_script"] (defScope s_law) := ⟨rfl, rfl, rfl, by decide +kernel, rfl, by decide +kernel, by decide +kernel⟩
abbrev i_NoField : Stmt := clsS (topS 2) 0
theorem sci_NoField : FnScope ["self", "name"] ["self", "name"] (defScope i_NoField) := ⟨rfl, rfl, rfl, by decide +kernel, rfl, by decide +kernel, by decide +kernel⟩
def efs : List Ef := [.exc "NoField", .oex "NoField", .nof "NoField" "name", .bi "CrossError"]
section
def l_field_at_1 : SS := sFor (iR1 (aCons (eCa bLen (aCons (eVar 0) (aNil))) (aNil))) (gN 2) (sIf (toB (eOp oEq (eOp oIx (eOp oIx (eVar 0) (eVar 2)) (eK (.int 0))) (eVar 1))) (sRet (eVar 2)) (sNext))
def b_field_at : SS := sSeq (l_field_at_1) (sRaiseP "NoField" "name" (eVar 1))
def m_field_at : List D → Hv → R D := fnS 2 1 b_field_at
def c_whole_path_1 : LS := lLc (iT (eVar 1)) (gN 3) (cYes) (eOp oIx (eVar 2) (eCa (Cm.f .P m_field_at) (aCons (eVar 0) (aCons (eVar 3) (aNil))))) [3]
def b_whole_path : SS := sRet (eCa bTuple (aCons (eV (c_whole_path_1)) (aNil)))
def m_whole_path : List D → Hv → R D := fnS 3 1 b_whole_path
def l_rank_of_1 : SS := sFor (iT (eVar 0)) (gN 2) (sIf (toB (eOp oIs (eVar 2) (eK .non))) (sDrop (eBM mAppend (eVar 1) (aCons (eTup (aCons (eK (.int 1)) (aCons (eK (.int 0)) (aNil)))) (aNil)))) (sDrop (eBM mAppend (eVar 1) (aCons (eTup (aCons (eK (.int 0)) (aCons (eVar 2) (aNil)))) (aNil)))))
def b_rank_of : SS := sSeq (sSet 1 (eC (lLst (aNil)))) (sSeq (l_rank_of_1) (sRet (eVar 1)))
def m_rank_of : List D → Hv → R D := fnS 1 2 b_rank_of
def l_heads_of_1 [Wd] : SS := sFor (iR1 (aCons (eOp oAdd (eCa bLen (aCons (eVar 5) (aNil))) (eK (.int 1))) (aNil))) (gN 6) (sNput (eK (.bl true)) (eVar 3) (eSl (eVar 5) (pNo) (pAt (eVar 6))))
def l_heads_of_2 [Wd] : SS := sFor (iL (eVar 2)) (gN 4) (sSeq (sSet 5 (eCa (Cm.f .P m_whole_path) (aCons (eVar 0) (aCons (eVar 1) (aCons (eVar 4) (aNil)))))) (l_heads_of_1))
def b_heads_of [Wd] : SS := sSeq (sSet 3 (eNdisp (eTup (aNil)) (eK (.bl true)))) (sSeq (l_heads_of_2) (sRet (eV (eCa (bSortK false m_rank_of) (aCons (eVar 3) (aNil))))))
def m_heads_of [Wd] : List D → Hv → R D := fnS 3 4 b_heads_of
def b__law_cell_at : SS := sSeq (sIf (toB (eOp oLt (eVar 1) (eCa bLen (aCons (eVar 0) (aNil))))) (sRet (eOp oIx (eVar 0) (eVar 1))) (sNext)) (sRet (eK (.int 0)))
def m__law_cell_at : List D → Hv → R D := fnS 2 0 b__law_cell_at
def b__law_mix : SS := sSeq (sSet 2 (eOp oMod (eOp oAdd (eOp oAdd (eOp oMul (eOp oMod (eVar 0) (eK (.int 2147483647))) (eK (.int 48271))) (eOp oMul (eVar 1) (eK (.int 7919)))) (eK (.int 11))) (eK (.int 2147483647)))) (sRet (eOp oMod (eOp oMul (eOp oMod (eOp oMul (eVar 2) (eVar 2)) (eK (.int 2147483629))) (eK (.int 69621))) (eK (.int 2147483647))))
def m__law_mix : List D → Hv → R D := fnS 2 1 b__law_mix
def c__law_heads_1 : LS := lLc (iR1 (aCons (eVar 3) (aNil))) (gN 8) (cYes) (eOp oIx (eVar 1) (eOp oMod (eOp oAdd (eOp oFdiv (eVar 0) (eK (.int 1664))) (eOp oMul (eOp oMul (eK (.int 5)) (eVar 8)) (eVar 8))) (eCa bLen (aCons (eVar 1) (aNil))))) [8]
def c__law_heads_2 : LS := lLc (iR1 (aCons (eVar 2) (aNil))) (gN 8) (cYes) (eSl (eVar 9) (pNo) (pAt (eOp oAdd (eVar 8) (eK (.int 1))))) [8]
def l__law_heads_1 : SS := sFor (iR1 (aCons (eVar 2) (aNil))) (gN 8) (sSeq (sSet 10 (eOp oIx (eVar 1) (eOp oMod (eOp oAdd (eOp oFdiv (eVar 0) (eK (.int 1664))) (eOp oMul (eK (.int 5)) (eVar 8))) (eCa bLen (aCons (eVar 1) (aNil)))))) (sDrop (eBM mAppend (eVar 7) (aCons (eOp oAdd (eOp oAdd (eOp oMulS (eVar 6) (eVar 5)) (eVar 10)) (eOp oMulS (eVar 6) (eOp oSub (eOp oSub (eVar 4) (eVar 5)) (eK (.int 1))))) (aNil)))))
def b__law_heads : SS := sSeq (sIf (cAnd (toB (eOp oEq (eOp oMod (eOp oFdiv (eVar 0) (eK (.int 43264))) (eK (.int 4))) (eK (.int 3)))) (toB (eOp oLe (eVar 2) (eVar 3)))) (sSeq (sSet 9 (eStr1 oJoin (eK (.str "")) (eV (c__law_heads_1)))) (sRet (eV (c__law_heads_2)))) (sNext)) (sSeq (sSet 4 (eOp oAdd (eK (.int 1)) (eOp oMod (eVar 0) (eVar 3)))) (sSeq (sSet 5 (eOp oMod (eOp oFdiv (eVar 0) (eK (.int 12))) (eVar 4))) (sSeq (sSet 6 (eOp oIx (eVar 1) (eOp oMod (eOp oFdiv (eVar 0) (eK (.int 64))) (eCa bLen (aCons (eVar 1) (aNil)))))) (sSeq (sSet 7 (eC (lLst (aNil)))) (sSeq (l__law_heads_1) (sRet (eVar 7)))))))
def m__law_heads : List D → Hv → R D := fnS 4 7 b__law_heads
def c__law_world_1 : LS := lLc (iR1 (aCons (eVar 2) (aNil))) (gN 7) (cYes) (eTup (aCons (eOp oIx (eVar 3) (eVar 7)) (aCons (eOp oIx (eV (lLst (aCons (eK (.str "word")) (aCons (eK (.str "number")) (aNil))))) (eOp oMod (eCa (Cm.f .P m__law_mix) (aCons (eVar 1) (aCons (eOp oAdd (eVar 7) (eK (.int 30))) (aNil)))) (eK (.int 2)))) (aNil)))) [7]
def b__law_world : SS := sSeq (sSet 1 (eCa (Cm.f .P m__law_mix) (aCons (eCa (Cm.f .P m__law_cell_at) (aCons (eVar 0) (aCons (eK (.int 0)) (aNil)))) (aCons (eK (.int 1)) (aNil))))) (sSeq (sSet 2 (eOp oAdd (eK (.int 1)) (eOp oMod (eVar 1) (eK (.int 8))))) (sSeq (sSet 3 (eCa (Cm.f .P m__law_heads) (aCons (eCa (Cm.f .P m__law_mix) (aCons (eVar 1) (aCons (eK (.int 2)) (aNil)))) (aCons (eK (.str "abcdefghijklmnopqrstuvwxyz")) (aCons (eVar 2) (aCons (eK (.int 12)) (aNil))))))) (sSeq (sSet 4 (eV (c__law_world_1))) (sSeq (sSet 5 (eCa (Cm.f .P m__law_heads) (aCons (eCa (Cm.f .P m__law_mix) (aCons (eVar 1) (aCons (eK (.int 3)) (aNil)))) (aCons (eK (.str "abcdefghijklmnopqrstuvwxyz0123456789")) (aCons (eK (.int 4)) (aCons (eK (.int 12)) (aNil))))))) (sSeq (sIf (toB (eOp oEq (eOp oMod (eOp oFdiv (eVar 1) (eK (.int 8))) (eK (.int 3))) (eK (.int 1)))) (sSet 5 (eV (eOp oCat (eV (lSl (eVar 3) (pNo) (pAt (eK (.int 3))))) (eV (lSl (eVar 5) (pNo) (pAt (eK (.int 1)))))))) (sNext)) (sSeq (sSet 6 (eOp oIx (eV (lLst (aCons (eK (.int 0)) (aCons (eOp oMul (eK (.int 9)) (eOp oPow (eK (.int 10)) (eK (.int 59)))) (aCons (eOp oSub (eK (.int 0)) (eOp oMul (eK (.int 9)) (eOp oPow (eK (.int 10)) (eK (.int 59))))) (aCons (eK (.int 98)) (aNil))))))) (eOp oMod (eOp oFdiv (eVar 1) (eK (.int 24))) (eK (.int 4))))) (sRet (eDispF (pCons (eK (.str "fields")) (eVar 4) (pCons (eK (.str "words")) (eVar 5) (pCons (eK (.str "base")) (eVar 6) (pNil))))))))))))
def m__law_world : List D → Hv → R D := fnS 1 7 b__law_world
def b__law_sure_value : SS := sSeq (sIf (toB (eOp oEq (eVar 1) (eK (.str "word")))) (sRet (eOp oIx (eOp oDget (eVar 2) (eK (.str "words"))) (eOp oMod (eVar 0) (eCa bLen (aCons (eOp oDget (eVar 2) (eK (.str "words"))) (aNil)))))) (sNext)) (sRet (eOp oSub (eOp oAdd (eOp oDget (eVar 2) (eK (.str "base"))) (eOp oMod (eVar 0) (eK (.int 6)))) (eK (.int 2))))
def m__law_sure_value : List D → Hv → R D := fnS 3 0 b__law_sure_value
def b__law_value : SS := sSeq (sIf (toB (eOp oEq (eOp oMod (eVar 0) (eK (.int 6))) (eK (.int 0)))) (sRet (eK .non)) (sNext)) (sRet (eCa (Cm.f .P m__law_sure_value) (aCons (eOp oFdiv (eVar 0) (eK (.int 6))) (aCons (eVar 1) (aCons (eVar 2) (aNil))))))
def m__law_value : List D → Hv → R D := fnS 3 0 b__law_value
def c__law_row_1 : LS := lLc (iR1 (aCons (eCa bLen (aCons (eVar 2) (aNil))) (aNil))) (gN 3) (cYes) (eCa (Cm.f .P m__law_value) (aCons (eCa (Cm.f .P m__law_mix) (aCons (eVar 0) (aCons (eOp oAdd (eVar 3) (eK (.int 60))) (aNil)))) (aCons (eOp oIx (eOp oIx (eVar 2) (eVar 3)) (eK (.int 1))) (aCons (eVar 1) (aNil))))) [3]
def b__law_row : SS := sSeq (sSet 2 (eOp oDget (eVar 1) (eK (.str "fields")))) (sRet (eCa bTuple (aCons (eV (c__law_row_1)) (aNil))))
def m__law_row : List D → Hv → R D := fnS 2 2 b__law_row
def l__law_before_1 : SS := sFor (iR1 (aCons (eCa bMin2 (aCons (eCa bLen (aCons (eVar 0) (aNil))) (aCons (eCa bLen (aCons (eVar 1) (aNil))) (aNil)))) (aNil))) (gN 2) (sIf (toB (eOp oNe (eOp oIx (eVar 0) (eVar 2)) (eOp oIx (eVar 1) (eVar 2)))) (sSeq (sIf (cOr (toB (eOp oIs (eOp oIx (eVar 0) (eVar 2)) (eK .non))) (toB (eOp oIs (eOp oIx (eVar 1) (eVar 2)) (eK .non)))) (sRet (eOp oIs (eOp oIx (eVar 1) (eVar 2)) (eK .non))) (sNext)) (sRet (eOp oLt (eOp oIx (eVar 0) (eVar 2)) (eOp oIx (eVar 1) (eVar 2))))) (sNext))
def b__law_before : SS := sSeq (l__law_before_1) (sRet (eOp oLt (eCa bLen (aCons (eVar 0) (aNil))) (eCa bLen (aCons (eVar 1) (aNil)))))
def m__law_before : List D → Hv → R D := fnS 2 1 b__law_before
def c__law_beginnings_1 : LS := lLc (iL (eV (lSl (eVar 1) (pNo) (pAt (eVar 4))))) (gN 6) (cYes) (eOp oIx (eVar 3) (eVar 6)) [6]
def l__law_beginnings_1 : SS := sFor (iR2 (aCons (eK (.int 1)) (aCons (eOp oAdd (eCa bLen (aCons (eVar 1) (aNil))) (eK (.int 1))) (aNil)))) (gN 4) (sSeq (sSet 5 (eCa bTuple (aCons (eV (c__law_beginnings_1)) (aNil)))) (sIf (toB (eOp oNotInP (eVar 5) (eVar 2))) (sDrop (eBM mAppend (eVar 2) (aCons (eVar 5) (aNil)))) (sNext)))
def l__law_beginnings_2 : SS := sFor (iL (eVar 0)) (gN 3) (l__law_beginnings_1)
def b__law_beginnings : SS := sSeq (sSet 2 (eC (lLst (aCons (eTup (aNil)) (aNil))))) (sSeq (l__law_beginnings_2) (sRet (eVar 2)))
def m__law_beginnings : List D → Hv → R D := fnS 2 5 b__law_beginnings
def c_law_1 [Wd] : LS := lLc (iL (eVar 4)) (gN 13) (cYes) (eOp oIx (eOp oIx (eVar 2) (eVar 13)) (eK (.int 0))) [13]
def l_law_1 [Wd] : SS := sFor (iR1 (aCons (eOp oMod (eOp oFdiv (eVar 3) (eK (.int 64))) (eK (.int 41))) (aNil))) (gN 8) (sDrop (eBM mAppend (eVar 7) (aCons (eCa (Cm.f .P m__law_row) (aCons (eCa (Cm.f .P m__law_mix) (aCons (eOp oAdd (eCa (Cm.f .P m__law_cell_at) (aCons (eVar 0) (aCons (eOp oAdd (eK (.int 2)) (eVar 8)) (aNil)))) (eVar 8)) (aCons (eK (.int 4)) (aNil)))) (aCons (eVar 1) (aNil)))) (aNil))))
def c_law_2 [Wd] : LS := lLc (iL (eVar 11)) (gN 14) (cYes) (eAndV (eIsi "tuple" (eVar 14)) (eOp oInP (eVar 14) (eVar 12))) [14]
def c_law_3 [Wd] : LS := lLc (iR1 (aCons (eOp oSub (eCa bLen (aCons (eVar 11) (aNil))) (eK (.int 1))) (aNil))) (gN 8) (cYes) (eCa (Cm.f .P m__law_before) (aCons (eOp oIx (eVar 11) (eVar 8)) (aCons (eOp oIx (eVar 11) (eOp oAdd (eVar 8) (eK (.int 1)))) (aNil)))) [8]
def l_law_2 [Wd] : SS := sFor (iL (eV (lLst (aCons (eVar 7) (aCons (eV (lLst (aNil))) (aCons (eV (lSl (eVar 7) (pNo) (pAt (eK (.int 1))))) (aNil))))))) (gN 9) (sSeq (sSet 10 (eV (eCa bList (aCons (eVar 9) (aNil))))) (sSeq (sSet 11 (eCa (Cm.f .P m_heads_of) (aCons (eV (eCa bList (aCons (eVar 2) (aNil)))) (aCons (eVar 6) (aCons (eVar 10) (aNil)))))) (sSeq (sSet 12 (eCa (Cm.f .P m__law_beginnings) (aCons (eVar 9) (aCons (eVar 4) (aNil))))) (sSeq (sIf (cOr (cNot (toB (eIsi "list" (eVar 11)))) (cOr (toB (eOp oNe (eCa bLen (aCons (eVar 11) (aNil))) (eCa bLen (aCons (eVar 12) (aNil))))) (toB (eOp oNe (eVar 10) (eVar 9))))) (sRet (eK (.bl false))) (sNext)) (sSeq (sIf (toB (eOp oIn (eK (.bl false)) (eV (c_law_2)))) (sRet (eK (.bl false))) (sNext)) (sIf (toB (eOp oIn (eK (.bl false)) (eV (c_law_3)))) (sRet (eK (.bl false))) (sNext)))))))
def t_law_7 [Wd] : SS := sSeq (sSet 6 (eCa bTuple (aCons (eV (c_law_1)) (aNil)))) (sBlk (fun n => sSeq (sSet 7 (eC (lLst (aNil)))) (sSeq (l_law_1) (sSeal n (sSeq (l_law_2) (sRet (eK (.bl true))))))))
def b_law [Wd] : SS := sSeq (sSet 1 (eCa (Cm.f .P m__law_world) (aCons (eVar 0) (aNil)))) (sSeq (sSet 2 (eOp oDget (eVar 1) (eK (.str "fields")))) (sSeq (sSet 3 (eCa (Cm.f .P m__law_mix) (aCons (eCa (Cm.f .P m__law_cell_at) (aCons (eVar 0) (aCons (eK (.int 1)) (aNil)))) (aCons (eK (.int 2)) (aNil))))) (sSeq (sSet 4 (eV (lRg1 (eCa bLen (aCons (eVar 2) (aNil)))))) (sSeq (sSet 5 (eOp oMod (eVar 3) (eCa bLen (aCons (eVar 4) (aNil))))) (sSeq (sSet 4 (eV (lSl (eV (eOp oCat (eV (lSl (eVar 4) (pAt (eVar 5)) (pNo))) (eV (lSl (eVar 4) (pNo) (pAt (eVar 5)))))) (pNo) (pAt (eOp oMod (eOp oFdiv (eVar 3) (eK (.int 8))) (eK (.int 4))))))) (sSeq (sIf (toB (eOp oEq (eOp oMod (eOp oFdiv (eVar 3) (eK (.int 32))) (eK (.int 2))) (eK (.int 1)))) (sSet 4 (eV (lRev (eVar 4)))) (sNext)) (t_law_7)))))))
def m_law [Wd] : List D → Hv → R D := fnS 1 14 b_law
end
structure Tx (K : PySem.W.Frag) (mg : Str → Option Value) : Prop where
  d_field_at : ∃ fd, Fun K "field_at" "field_at" s_field_at (He.ga K "field_at") fd
  g_field_at : mg "field_at" = some (.ref (He.ga K "field_at"))
  d_whole_path : ∃ fd, Fun K "whole_path" "whole_path" s_whole_path (He.ga K "whole_path") fd
  g_whole_path : mg "whole_path" = some (.ref (He.ga K "whole_path"))
  d_rank_of : ∃ fd, Fun K "rank_of" "rank_of" s_rank_of (He.ga K "rank_of") fd
  g_rank_of : mg "rank_of" = some (.ref (He.ga K "rank_of"))
  d_heads_of : ∃ fd, Fun K "heads_of" "heads_of" s_heads_of (He.ga K "heads_of") fd
  g_heads_of : mg "heads_of" = some (.ref (He.ga K "heads_of"))
  d__law_cell_at : ∃ fd, Fun K "_law_cell_at" "_law_cell_at" s__law_cell_at (He.ga K "_law_cell_at") fd
  g__law_cell_at : mg "_law_cell_at" = some (.ref (He.ga K "_law_cell_at"))
  d__law_mix : ∃ fd, Fun K "_law_mix" "_law_mix" s__law_mix (He.ga K "_law_mix") fd
  g__law_mix : mg "_law_mix" = some (.ref (He.ga K "_law_mix"))
  d__law_heads : ∃ fd, Fun K "_law_heads" "_law_heads" s__law_heads (He.ga K "_law_heads") fd
  g__law_heads : mg "_law_heads" = some (.ref (He.ga K "_law_heads"))
  d__law_world : ∃ fd, Fun K "_law_world" "_law_world" s__law_world (He.ga K "_law_world") fd
  g__law_world : mg "_law_world" = some (.ref (He.ga K "_law_world"))
  d__law_sure_value : ∃ fd, Fun K "_law_sure_value" "_law_sure_value" s__law_sure_value (He.ga K "_law_sure_value") fd
  g__law_sure_value : mg "_law_sure_value" = some (.ref (He.ga K "_law_sure_value"))
  d__law_value : ∃ fd, Fun K "_law_value" "_law_value" s__law_value (He.ga K "_law_value") fd
  g__law_value : mg "_law_value" = some (.ref (He.ga K "_law_value"))
  d__law_row : ∃ fd, Fun K "_law_row" "_law_row" s__law_row (He.ga K "_law_row") fd
  g__law_row : mg "_law_row" = some (.ref (He.ga K "_law_row"))
  d__law_before : ∃ fd, Fun K "_law_before" "_law_before" s__law_before (He.ga K "_law_before") fd
  g__law_before : mg "_law_before" = some (.ref (He.ga K "_law_before"))
  d__law_beginnings : ∃ fd, Fun K "_law_beginnings" "_law_beginnings" s__law_beginnings (He.ga K "_law_beginnings") fd
  g__law_beginnings : mg "_law_beginnings" = some (.ref (He.ga K "_law_beginnings"))
  d_law : ∃ fd, Fun K "law" "law" s_law (He.ga K "law") fd
  g_law : mg "law" = some (.ref (He.ga K "law"))
  n_range : mg "range" = none
  n_len : mg "len" = none
  n_tuple : mg "tuple" = none
  n_sorted : mg "sorted" = none
  n_min : mg "min" = none
  n_list : mg "list" = none
  n_isinstance : mg "isinstance" = none
  k_NoField : mg "NoField" = some (.ref (He.ga K "NoField"))
  k_CrossError : mg "CrossError" = some (.ref (He.ga K "CrossError"))
  p_NoField : ∃ fd, Fun K "__init__" "NoField.__init__" i_NoField (He.ma K (He.ga K "NoField") "__init__") fd
  m_NoField : Meth K (He.ga K "NoField") "__init__" (He.ma K (He.ga K "NoField") "__init__")
  ce : (efs.all fun f => f.ok K) = true
section
variable {P : Program} {w : World} {K : PySem.W.Frag} {mg : Str → Option Value} {base : Heap}
theorem pay_NoField (T : Tx K mg) : PayT P w K mg base 1 "NoField" "name" := by
  obtain ⟨fd, F⟩ := T.p_NoField
  have ox := oexB_ok (ef_at T.ce (f := .oex "NoField") (by simp [efs]))
  have no := of_decide_eq_true (ef_at T.ce (f := .nof "NoField" "name") (by simp [efs]))
  have bi : biB K (He.ga K "CrossError") = true := ef_at T.ce (f := .bi "CrossError") (by simp [efs])
  refine ⟨T.k_NoField, ox, no, _, fd, ["self", "name"], T.m_NoField.at_, beq_iff_eq.mp T.m_NoField.fn, payInit_ok (z := "a name of no field") F sci_NoField rfl rfl (fun cdv A outer s H E hr => ?_), F.binds (ps := ["self", "name"]) fun _ _ _ _ _ _ us hl => match us, hl with | [_, _], _ => rfl⟩
  exact pss_cons (ps_expr (pe_ceinit rfl T.k_CrossError bi (pa_cons (pv 0) (pa_cons pe_str pa_nil)))) (pss_one (ps_ost (pv 0) (pv 1)))
theorem ok_field_at (T : Tx K mg) : OkF P w K mg base 3 "field_at" ["fields", "name"] m_field_at := by
  obtain ⟨fd, F⟩ := T.d_field_at
  refine okF_mk F sc_field_at rfl rfl T.g_field_at (F.binds (ps := ["fields", "name"]) fun _ _ _ _ _ _ us hl => match us, hl with | [_, _], _ => rfl) fun cdv A outer s H E hr => ?_
  have hu := Nat.lt_of_le_of_lt (Nat.add_le_add_left (show 1 ≤ 64 by decide) _) hr.units
  have tk := takes_fn (P := P) (w := w) (K := K) (mg := mg) (base := base) (N := N_field_at) (qual := "field_at") (scope := defScope s_field_at) (f := (He.ga K "field_at")) (cd := cdv) (A := A) (outer := outer) (s := s) (H := H) (E := E)
  have hp := passes_fn (P := P) (w := w) (K := K) (mg := mg) (base := base) (N := N_field_at) (qual := "field_at") (scope := defScope s_field_at) (f := (He.ga K "field_at")) (cd := cdv) (A := A) (outer := outer) (s := s) (H := H) (E := E)
  exact qb_cons (qs_for hp (qi_range1 T.n_range (sa_cons (se_callB call_len cs_len (T.n_len) (by decide +kernel) (sa_cons (se_var (i := 0)) (sa_nil))) (sa_nil))) (qg_name sc_field_at.nd) (qb_one (qs_if (st_cmp (op_eqP hr.units) os_eq (se_ix (se_ix (se_var (i := 0)) (se_var (i := 2))) (se_int)) (se_var (i := 1)) (nomark _)) (qb_one (qs_ret (se_var (i := 2)))) (qb_nil)))) (qb_one (qs_raiseP (pay_NoField T) hr tk (se_var (i := 1))))
theorem ok_whole_path (T : Tx K mg) : OkF P w K mg base 4 "whole_path" ["fields", "names", "row"] m_whole_path := by
  obtain ⟨fd, F⟩ := T.d_whole_path
  refine okF_mk F sc_whole_path rfl rfl T.g_whole_path (F.binds (ps := ["fields", "names", "row"]) fun _ _ _ _ _ _ us hl => match us, hl with | [_, _, _], _ => rfl) fun cdv A outer s H E hr => ?_
  have hu := Nat.lt_of_le_of_lt (Nat.add_le_add_left (show 1 ≤ 64 by decide) _) hr.units
  have tk := takes_fn (P := P) (w := w) (K := K) (mg := mg) (base := base) (N := N_whole_path) (qual := "whole_path") (scope := defScope s_whole_path) (f := (He.ga K "whole_path")) (cd := cdv) (A := A) (outer := outer) (s := s) (H := H) (E := E)
  have hp := passes_fn (P := P) (w := w) (K := K) (mg := mg) (base := base) (N := N_whole_path) (qual := "whole_path") (scope := defScope s_whole_path) (f := (He.ga K "whole_path")) (cd := cdv) (A := A) (outer := outer) (s := s) (H := H) (E := E)
  exact qb_one (qs_ret (se_callT call_tuple_of cs_tuple (T.n_tuple) (by decide +kernel) (sa_cons (se_V (sl_lc (own := [("name", 3)]) sc_whole_path.nd (qi_tup (se_var (i := 1))) (blkOk_by (N := N_whole_path) (sc := defScope s_whole_path) (by decide +kernel)) (fun _ _ _ _ _ => qg_name sc_whole_path.nd) (by decide) (fun _ _ _ _ _ => scs_nil) (fun _ _ _ _ _ => se_ix (se_var (i := 2)) (se_fn .P (ok_field_at T) hr takes0 (sa_cons (se_var (i := 0)) (sa_cons (se_var (i := 3)) (sa_nil))))))) (sa_nil))))
theorem ok_rank_of (T : Tx K mg) : OkF P w K mg base 1 "rank_of" ["path"] m_rank_of := by
  obtain ⟨fd, F⟩ := T.d_rank_of
  refine okF_mk F sc_rank_of rfl rfl T.g_rank_of (F.binds (ps := ["path"]) fun _ _ _ _ _ _ us hl => match us, hl with | [_], _ => rfl) fun cdv A outer s H E hr => ?_
  have hu := Nat.lt_of_le_of_lt (Nat.add_le_add_left (show 1 ≤ 64 by decide) _) hr.units
  have tk := takes_fn (P := P) (w := w) (K := K) (mg := mg) (base := base) (N := N_rank_of) (qual := "rank_of") (scope := defScope s_rank_of) (f := (He.ga K "rank_of")) (cd := cdv) (A := A) (outer := outer) (s := s) (H := H) (E := E)
  have hp := passes_fn (P := P) (w := w) (K := K) (mg := mg) (base := base) (N := N_rank_of) (qual := "rank_of") (scope := defScope s_rank_of) (f := (He.ga K "rank_of")) (cd := cdv) (A := A) (outer := outer) (s := s) (H := H) (E := E)
  exact qb_cons (qs_set (i := 1) sc_rank_of.nd (se_C (sl_lst (sa_nil)))) (qb_cons (qs_for hp (qi_tup (se_var (i := 0))) (qg_name sc_rank_of.nd) (qb_one (qs_if (st_cmp (op_isA) os_is (se_var (i := 2)) (se_non) (nomark _)) (qb_one (qs_expr (se_bm PySem.F.slot_list_append PySem.F.type_list_append mt_append ms_append (se_var (i := 1)) (sa_cons (se_tup (sa_cons (se_int) (sa_cons (se_int) (sa_nil)))) (sa_nil))))) (qb_one (qs_expr (se_bm PySem.F.slot_list_append PySem.F.type_list_append mt_append ms_append (se_var (i := 1)) (sa_cons (se_tup (sa_cons (se_int) (sa_cons (se_var (i := 2)) (sa_nil)))) (sa_nil)))))))) (qb_one (qs_ret (se_var (i := 1)))))
theorem ok_heads_of [Wd] (T : Tx K mg) : OkF P Wd.w K mg base 5 "heads_of" ["fields", "names", "rows"] m_heads_of := by
  obtain ⟨fd, F⟩ := T.d_heads_of
  refine okF_mk F sc_heads_of rfl rfl T.g_heads_of (F.binds (ps := ["fields", "names", "rows"]) fun _ _ _ _ _ _ us hl => match us, hl with | [_, _, _], _ => rfl) fun cdv A outer s H E hr => ?_
  have hu9 := Nat.lt_of_le_of_lt (Nat.add_le_add_left (show 9 ≤ 64 by decide) _) hr.units
  have hu := Nat.lt_of_le_of_lt (Nat.add_le_add_left (show 1 ≤ 64 by decide) _) hr.units
  have tk := takes_fn (P := P) (w := Wd.w) (K := K) (mg := mg) (base := base) (N := N_heads_of) (qual := "heads_of") (scope := defScope s_heads_of) (f := (He.ga K "heads_of")) (cd := cdv) (A := A) (outer := outer) (s := s) (H := H) (E := E)
  have hp := passes_fn (P := P) (w := Wd.w) (K := K) (mg := mg) (base := base) (N := N_heads_of) (qual := "heads_of") (scope := defScope s_heads_of) (f := (He.ga K "heads_of")) (cd := cdv) (A := A) (outer := outer) (s := s) (H := H) (E := E)
  exact qb_cons (qs_set (i := 3) sc_heads_of.nd (se_ndisp hu9 (se_tup (sa_nil)) (se_bl))) (qb_cons (qs_for hp (qi_list (se_var (i := 2))) (qg_name sc_heads_of.nd) (qb_cons (qs_set (i := 5) sc_heads_of.nd (se_fn .P (ok_whole_path T) hr tk (sa_cons (se_var (i := 0)) (sa_cons (se_var (i := 1)) (sa_cons (se_var (i := 4)) (sa_nil)))))) (qb_one (qs_for hp (qi_range1 T.n_range (sa_cons (se_op op_addA os_add (se_callB call_len cs_len (T.n_len) (by decide +kernel) (sa_cons (se_var (i := 5)) (sa_nil))) (se_int)) (sa_nil))) (qg_name sc_heads_of.nd) (qb_one (qs_nput hu9 (se_bl) (se_var (i := 3)) (se_sl (se_var (i := 5)) (so_no) (so_at (se_var (i := 6)))))))))) (qb_one (qs_ret (se_V (sl_sortK T.n_sorted (ok_rank_of T) (hr.mono (by decide)) (sa_cons (se_var (i := 3)) (sa_nil)))))))
theorem ok__law_cell_at (T : Tx K mg) : OkF P w K mg base 1 "_law_cell_at" ["_law_script", "_law_k"] m__law_cell_at := by
  obtain ⟨fd, F⟩ := T.d__law_cell_at
  refine okF_mk F sc__law_cell_at rfl rfl T.g__law_cell_at (F.binds (ps := ["_law_script", "_law_k"]) fun _ _ _ _ _ _ us hl => match us, hl with | [_, _], _ => rfl) fun cdv A outer s H E hr => ?_
  have hu := Nat.lt_of_le_of_lt (Nat.add_le_add_left (show 1 ≤ 64 by decide) _) hr.units
  have tk := takes_fn (P := P) (w := w) (K := K) (mg := mg) (base := base) (N := N__law_cell_at) (qual := "_law_cell_at") (scope := defScope s__law_cell_at) (f := (He.ga K "_law_cell_at")) (cd := cdv) (A := A) (outer := outer) (s := s) (H := H) (E := E)
  have hp := passes_fn (P := P) (w := w) (K := K) (mg := mg) (base := base) (N := N__law_cell_at) (qual := "_law_cell_at") (scope := defScope s__law_cell_at) (f := (He.ga K "_law_cell_at")) (cd := cdv) (A := A) (outer := outer) (s := s) (H := H) (E := E)
  exact qb_cons (qs_if (st_cmp (op_ltA) os_lt (se_var (i := 1)) (se_callB call_len cs_len (T.n_len) (by decide +kernel) (sa_cons (se_var (i := 0)) (sa_nil))) (nomark _)) (qb_one (qs_ret (se_ix (se_var (i := 0)) (se_var (i := 1))))) (qb_nil)) (qb_one (qs_ret (se_int)))
theorem ok__law_mix (T : Tx K mg) : OkF P w K mg base 1 "_law_mix" ["_law_seed", "_law_k"] m__law_mix := by
  obtain ⟨fd, F⟩ := T.d__law_mix
  refine okF_mk F sc__law_mix rfl rfl T.g__law_mix (F.binds (ps := ["_law_seed", "_law_k"]) fun _ _ _ _ _ _ us hl => match us, hl with | [_, _], _ => rfl) fun cdv A outer s H E hr => ?_
  have hu := Nat.lt_of_le_of_lt (Nat.add_le_add_left (show 1 ≤ 64 by decide) _) hr.units
  have tk := takes_fn (P := P) (w := w) (K := K) (mg := mg) (base := base) (N := N__law_mix) (qual := "_law_mix") (scope := defScope s__law_mix) (f := (He.ga K "_law_mix")) (cd := cdv) (A := A) (outer := outer) (s := s) (H := H) (E := E)
  have hp := passes_fn (P := P) (w := w) (K := K) (mg := mg) (base := base) (N := N__law_mix) (qual := "_law_mix") (scope := defScope s__law_mix) (f := (He.ga K "_law_mix")) (cd := cdv) (A := A) (outer := outer) (s := s) (H := H) (E := E)
  exact qb_cons (qs_set (i := 2) sc__law_mix.nd (se_op op_mod os_mod (se_op op_addA os_add (se_op op_addA os_add (se_op op_mulW os_mul (se_op op_mod os_mod (se_var (i := 0)) (se_int)) (se_int)) (se_op op_mulW os_mul (se_var (i := 1)) (se_int))) (se_int)) (se_int))) (qb_one (qs_ret (se_op op_mod os_mod (se_op op_mulW os_mul (se_op op_mod os_mod (se_op op_mulW os_mul (se_var (i := 2)) (se_var (i := 2))) (se_int)) (se_int)) (se_int))))
theorem ok__law_heads (T : Tx K mg) : OkF P w K mg base 1 "_law_heads" ["_law_seed", "_law_signs", "_law_many", "_law_most"] m__law_heads := by
  obtain ⟨fd, F⟩ := T.d__law_heads
  refine okF_mk F sc__law_heads rfl rfl T.g__law_heads (F.binds (ps := ["_law_seed", "_law_signs", "_law_many", "_law_most"]) fun _ _ _ _ _ _ us hl => match us, hl with | [_, _, _, _], _ => rfl) fun cdv A outer s H E hr => ?_
  have hu := Nat.lt_of_le_of_lt (Nat.add_le_add_left (show 1 ≤ 64 by decide) _) hr.units
  have tk := takes_fn (P := P) (w := w) (K := K) (mg := mg) (base := base) (N := N__law_heads) (qual := "_law_heads") (scope := defScope s__law_heads) (f := (He.ga K "_law_heads")) (cd := cdv) (A := A) (outer := outer) (s := s) (H := H) (E := E)
  have hp := passes_fn (P := P) (w := w) (K := K) (mg := mg) (base := base) (N := N__law_heads) (qual := "_law_heads") (scope := defScope s__law_heads) (f := (He.ga K "_law_heads")) (cd := cdv) (A := A) (outer := outer) (s := s) (H := H) (E := E)
  exact qb_cons (qs_if (st_w (sw_and (st_cmp (op_eqP hr.units) os_eq (se_op op_mod os_mod (se_op op_fdivW os_fdiv (se_var (i := 0)) (se_int)) (se_int)) (se_int) (nomark _)) (sw_and1 (st_cmp (op_le) os_le (se_var (i := 2)) (se_var (i := 3)) (nomark _))))) (qb_cons (qs_set (i := 9) sc__law_heads.nd (se_join (se_str) (se_V (sl_lc (own := [("_law_k", 8)]) sc__law_heads.nd (qi_range1 T.n_range (sa_cons (se_var (i := 3)) (sa_nil))) (blkOk_by (N := N__law_heads) (sc := defScope s__law_heads) (by decide +kernel)) (fun _ _ _ _ _ => qg_name sc__law_heads.nd) (by decide) (fun _ _ _ _ _ => scs_nil) (fun _ _ _ _ _ => se_ix (se_var (i := 1)) (se_op op_mod os_mod (se_op op_addA os_add (se_op op_fdivW os_fdiv (se_var (i := 0)) (se_int)) (se_op op_mulW os_mul (se_op op_mulW os_mul (se_int) (se_var (i := 8))) (se_var (i := 8)))) (se_callB call_len cs_len (T.n_len) (by decide +kernel) (sa_cons (se_var (i := 1)) (sa_nil))))))))) (qb_one (qs_ret (se_V (sl_lc (own := [("_law_k", 8)]) sc__law_heads.nd (qi_range1 T.n_range (sa_cons (se_var (i := 2)) (sa_nil))) (blkOk_by (N := N__law_heads) (sc := defScope s__law_heads) (by decide +kernel)) (fun _ _ _ _ _ => qg_name sc__law_heads.nd) (by decide) (fun _ _ _ _ _ => scs_nil) (fun _ _ _ _ _ => se_sl (se_var (i := 9)) (so_no) (so_at (se_op op_addA os_add (se_var (i := 8)) (se_int))))))))) (qb_nil)) (qb_cons (qs_set (i := 4) sc__law_heads.nd (se_op op_addA os_add (se_int) (se_op op_mod os_mod (se_var (i := 0)) (se_var (i := 3))))) (qb_cons (qs_set (i := 5) sc__law_heads.nd (se_op op_mod os_mod (se_op op_fdivW os_fdiv (se_var (i := 0)) (se_int)) (se_var (i := 4)))) (qb_cons (qs_set (i := 6) sc__law_heads.nd (se_ix (se_var (i := 1)) (se_op op_mod os_mod (se_op op_fdivW os_fdiv (se_var (i := 0)) (se_int)) (se_callB call_len cs_len (T.n_len) (by decide +kernel) (sa_cons (se_var (i := 1)) (sa_nil)))))) (qb_cons (qs_set (i := 7) sc__law_heads.nd (se_C (sl_lst (sa_nil)))) (qb_cons (qs_for hp (qi_range1 T.n_range (sa_cons (se_var (i := 2)) (sa_nil))) (qg_name sc__law_heads.nd) (qb_cons (qs_set (i := 10) sc__law_heads.nd (se_ix (se_var (i := 1)) (se_op op_mod os_mod (se_op op_addA os_add (se_op op_fdivW os_fdiv (se_var (i := 0)) (se_int)) (se_op op_mulW os_mul (se_int) (se_var (i := 8)))) (se_callB call_len cs_len (T.n_len) (by decide +kernel) (sa_cons (se_var (i := 1)) (sa_nil)))))) (qb_one (qs_expr (se_bm PySem.F.slot_list_append PySem.F.type_list_append mt_append ms_append (se_var (i := 7)) (sa_cons (se_op op_addA os_add (se_op op_addA os_add (se_op op_mulS os_mulS (se_var (i := 6)) (se_var (i := 5))) (se_var (i := 10))) (se_op op_mulS os_mulS (se_var (i := 6)) (se_op op_sub os_sub (se_op op_sub os_sub (se_var (i := 4)) (se_var (i := 5))) (se_int)))) (sa_nil))))))) (qb_one (qs_ret (se_var (i := 7)))))))))
theorem ok__law_world (T : Tx K mg) : OkF P w K mg base 2 "_law_world" ["_law_script"] m__law_world := by
  obtain ⟨fd, F⟩ := T.d__law_world
  refine okF_mk F sc__law_world rfl rfl T.g__law_world (F.binds (ps := ["_law_script"]) fun _ _ _ _ _ _ us hl => match us, hl with | [_], _ => rfl) fun cdv A outer s H E hr => ?_
  have hu := Nat.lt_of_le_of_lt (Nat.add_le_add_left (show 1 ≤ 64 by decide) _) hr.units
  have tk := takes_fn (P := P) (w := w) (K := K) (mg := mg) (base := base) (N := N__law_world) (qual := "_law_world") (scope := defScope s__law_world) (f := (He.ga K "_law_world")) (cd := cdv) (A := A) (outer := outer) (s := s) (H := H) (E := E)
  have hp := passes_fn (P := P) (w := w) (K := K) (mg := mg) (base := base) (N := N__law_world) (qual := "_law_world") (scope := defScope s__law_world) (f := (He.ga K "_law_world")) (cd := cdv) (A := A) (outer := outer) (s := s) (H := H) (E := E)
  exact qb_cons (qs_set (i := 1) sc__law_world.nd (se_fn .P (ok__law_mix T) hr tk (sa_cons (se_fn .P (ok__law_cell_at T) hr tk (sa_cons (se_var (i := 0)) (sa_cons (se_int) (sa_nil)))) (sa_cons (se_int) (sa_nil))))) (qb_cons (qs_set (i := 2) sc__law_world.nd (se_op op_addA os_add (se_int) (se_op op_mod os_mod (se_var (i := 1)) (se_int)))) (qb_cons (qs_set (i := 3) sc__law_world.nd (se_fn .P (ok__law_heads T) hr tk (sa_cons (se_fn .P (ok__law_mix T) hr tk (sa_cons (se_var (i := 1)) (sa_cons (se_int) (sa_nil)))) (sa_cons (se_str) (sa_cons (se_var (i := 2)) (sa_cons (se_int) (sa_nil))))))) (qb_cons (qs_setLc (own := [("_law_k", 7)]) (i := 4) (hf := sn_V) sc__law_world.nd (sw_true rfl rfl rfl (by decide +kernel)) (qi_range1 T.n_range (sa_cons (se_var (i := 2)) (sa_nil))) (blkOk_by (N := N__law_world) (sc := defScope s__law_world) (by decide +kernel)) (fun _ _ _ _ _ => qg_name sc__law_world.nd) (by decide) (fun _ _ _ _ _ => scs_nil) (fun _ _ _ _ _ => se_tup (sa_cons (se_ix (se_var (i := 3)) (se_var (i := 7))) (sa_cons (se_ix (se_V (sl_lst (sa_cons (se_str) (sa_cons (se_str) (sa_nil))))) (se_op op_mod os_mod (se_fn .P (ok__law_mix T) hr takes0 (sa_cons (se_var (i := 1)) (sa_cons (se_op op_addA os_add (se_var (i := 7)) (se_int)) (sa_nil)))) (se_int))) (sa_nil))))) (qb_cons (qs_set (i := 5) sc__law_world.nd (se_fn .P (ok__law_heads T) hr tk (sa_cons (se_fn .P (ok__law_mix T) hr tk (sa_cons (se_var (i := 1)) (sa_cons (se_int) (sa_nil)))) (sa_cons (se_str) (sa_cons (se_int) (sa_cons (se_int) (sa_nil))))))) (qb_cons (qs_if (st_cmp (op_eqP hr.units) os_eq (se_op op_mod os_mod (se_op op_fdivW os_fdiv (se_var (i := 1)) (se_int)) (se_int)) (se_int) (nomark _)) (qb_one (qs_set (i := 5) sc__law_world.nd (se_V (sl_op op_cat ol_cat (se_V (sl_sl (se_var (i := 3)) (so_no) (so_at (se_int)))) (se_V (sl_sl (se_var (i := 5)) (so_no) (so_at (se_int)))))))) (qb_nil)) (qb_cons (qs_set (i := 6) sc__law_world.nd (se_ix (se_V (sl_lst (sa_cons (se_int) (sa_cons (se_op op_mulW os_mul (se_int) (se_op op_pow os_pow (se_int) (se_int))) (sa_cons (se_op op_sub os_sub (se_int) (se_op op_mulW os_mul (se_int) (se_op op_pow os_pow (se_int) (se_int)))) (sa_cons (se_int) (sa_nil))))))) (se_op op_mod os_mod (se_op op_fdivW os_fdiv (se_var (i := 1)) (se_int)) (se_int)))) (qb_one (qs_ret (se_dispF (sp_cons (se_str) (se_var (i := 4)) (sp_cons (se_str) (se_var (i := 5)) (sp_cons (se_str) (se_var (i := 6)) (sp_nil)))))))))))))
theorem ok__law_sure_value (T : Tx K mg) : OkF P w K mg base 1 "_law_sure_value" ["_law_seed", "_law_kind", "_law_world_here"] m__law_sure_value := by
  obtain ⟨fd, F⟩ := T.d__law_sure_value
  refine okF_mk F sc__law_sure_value rfl rfl T.g__law_sure_value (F.binds (ps := ["_law_seed", "_law_kind", "_law_world_here"]) fun _ _ _ _ _ _ us hl => match us, hl with | [_, _, _], _ => rfl) fun cdv A outer s H E hr => ?_
  have hu := Nat.lt_of_le_of_lt (Nat.add_le_add_left (show 1 ≤ 64 by decide) _) hr.units
  have tk := takes_fn (P := P) (w := w) (K := K) (mg := mg) (base := base) (N := N__law_sure_value) (qual := "_law_sure_value") (scope := defScope s__law_sure_value) (f := (He.ga K "_law_sure_value")) (cd := cdv) (A := A) (outer := outer) (s := s) (H := H) (E := E)
  have hp := passes_fn (P := P) (w := w) (K := K) (mg := mg) (base := base) (N := N__law_sure_value) (qual := "_law_sure_value") (scope := defScope s__law_sure_value) (f := (He.ga K "_law_sure_value")) (cd := cdv) (A := A) (outer := outer) (s := s) (H := H) (E := E)
  exact qb_cons (qs_if (st_cmp (op_eqP hr.units) os_eq (se_var (i := 1)) (se_str) (nomark _)) (qb_one (qs_ret (se_ix (se_dget hu (se_var (i := 2)) (se_str)) (se_op op_mod os_mod (se_var (i := 0)) (se_callB call_len cs_len (T.n_len) (by decide +kernel) (sa_cons (se_dget hu (se_var (i := 2)) (se_str)) (sa_nil))))))) (qb_nil)) (qb_one (qs_ret (se_op op_sub os_sub (se_op op_addA os_add (se_dget hu (se_var (i := 2)) (se_str)) (se_op op_mod os_mod (se_var (i := 0)) (se_int))) (se_int))))
theorem ok__law_value (T : Tx K mg) : OkF P w K mg base 2 "_law_value" ["_law_seed", "_law_kind", "_law_world_here"] m__law_value := by
  obtain ⟨fd, F⟩ := T.d__law_value
  refine okF_mk F sc__law_value rfl rfl T.g__law_value (F.binds (ps := ["_law_seed", "_law_kind", "_law_world_here"]) fun _ _ _ _ _ _ us hl => match us, hl with | [_, _, _], _ => rfl) fun cdv A outer s H E hr => ?_
  have hu := Nat.lt_of_le_of_lt (Nat.add_le_add_left (show 1 ≤ 64 by decide) _) hr.units
  have tk := takes_fn (P := P) (w := w) (K := K) (mg := mg) (base := base) (N := N__law_value) (qual := "_law_value") (scope := defScope s__law_value) (f := (He.ga K "_law_value")) (cd := cdv) (A := A) (outer := outer) (s := s) (H := H) (E := E)
  have hp := passes_fn (P := P) (w := w) (K := K) (mg := mg) (base := base) (N := N__law_value) (qual := "_law_value") (scope := defScope s__law_value) (f := (He.ga K "_law_value")) (cd := cdv) (A := A) (outer := outer) (s := s) (H := H) (E := E)
  exact qb_cons (qs_if (st_cmp (op_eqP hr.units) os_eq (se_op op_mod os_mod (se_var (i := 0)) (se_int)) (se_int) (nomark _)) (qb_one (qs_ret (se_non))) (qb_nil)) (qb_one (qs_ret (se_fn .P (ok__law_sure_value T) hr tk (sa_cons (se_op op_fdivW os_fdiv (se_var (i := 0)) (se_int)) (sa_cons (se_var (i := 1)) (sa_cons (se_var (i := 2)) (sa_nil)))))))
theorem ok__law_row (T : Tx K mg) : OkF P w K mg base 3 "_law_row" ["_law_seed", "_law_world_here"] m__law_row := by
  obtain ⟨fd, F⟩ := T.d__law_row
  refine okF_mk F sc__law_row rfl rfl T.g__law_row (F.binds (ps := ["_law_seed", "_law_world_here"]) fun _ _ _ _ _ _ us hl => match us, hl with | [_, _], _ => rfl) fun cdv A outer s H E hr => ?_
  have hu := Nat.lt_of_le_of_lt (Nat.add_le_add_left (show 1 ≤ 64 by decide) _) hr.units
  have tk := takes_fn (P := P) (w := w) (K := K) (mg := mg) (base := base) (N := N__law_row) (qual := "_law_row") (scope := defScope s__law_row) (f := (He.ga K "_law_row")) (cd := cdv) (A := A) (outer := outer) (s := s) (H := H) (E := E)
  have hp := passes_fn (P := P) (w := w) (K := K) (mg := mg) (base := base) (N := N__law_row) (qual := "_law_row") (scope := defScope s__law_row) (f := (He.ga K "_law_row")) (cd := cdv) (A := A) (outer := outer) (s := s) (H := H) (E := E)
  exact qb_cons (qs_set (i := 2) sc__law_row.nd (se_dget hu (se_var (i := 1)) (se_str))) (qb_one (qs_ret (se_callT call_tuple_of cs_tuple (T.n_tuple) (by decide +kernel) (sa_cons (se_V (sl_lc (own := [("_law_k", 3)]) sc__law_row.nd (qi_range1 T.n_range (sa_cons (se_callB call_len cs_len (T.n_len) (by decide +kernel) (sa_cons (se_var (i := 2)) (sa_nil))) (sa_nil))) (blkOk_by (N := N__law_row) (sc := defScope s__law_row) (by decide +kernel)) (fun _ _ _ _ _ => qg_name sc__law_row.nd) (by decide) (fun _ _ _ _ _ => scs_nil) (fun _ _ _ _ _ => se_fn .P (ok__law_value T) hr takes0 (sa_cons (se_fn .P (ok__law_mix T) (hr.mono (by decide)) takes0 (sa_cons (se_var (i := 0)) (sa_cons (se_op op_addA os_add (se_var (i := 3)) (se_int)) (sa_nil)))) (sa_cons (se_ix (se_ix (se_var (i := 2)) (se_var (i := 3))) (se_int)) (sa_cons (se_var (i := 1)) (sa_nil))))))) (sa_nil)))))
theorem ok__law_before (T : Tx K mg) : OkF P w K mg base 1 "_law_before" ["_law_one", "_law_other"] m__law_before := by
  obtain ⟨fd, F⟩ := T.d__law_before
  refine okF_mk F sc__law_before rfl rfl T.g__law_before (F.binds (ps := ["_law_one", "_law_other"]) fun _ _ _ _ _ _ us hl => match us, hl with | [_, _], _ => rfl) fun cdv A outer s H E hr => ?_
  have hu := Nat.lt_of_le_of_lt (Nat.add_le_add_left (show 1 ≤ 64 by decide) _) hr.units
  have tk := takes_fn (P := P) (w := w) (K := K) (mg := mg) (base := base) (N := N__law_before) (qual := "_law_before") (scope := defScope s__law_before) (f := (He.ga K "_law_before")) (cd := cdv) (A := A) (outer := outer) (s := s) (H := H) (E := E)
  have hp := passes_fn (P := P) (w := w) (K := K) (mg := mg) (base := base) (N := N__law_before) (qual := "_law_before") (scope := defScope s__law_before) (f := (He.ga K "_law_before")) (cd := cdv) (A := A) (outer := outer) (s := s) (H := H) (E := E)
  exact qb_cons (qs_for hp (qi_range1 T.n_range (sa_cons (se_callB (call_min2 rfl) cs_min2 (T.n_min) (by decide +kernel) (sa_cons (se_callB call_len cs_len (T.n_len) (by decide +kernel) (sa_cons (se_var (i := 0)) (sa_nil))) (sa_cons (se_callB call_len cs_len (T.n_len) (by decide +kernel) (sa_cons (se_var (i := 1)) (sa_nil))) (sa_nil)))) (sa_nil))) (qg_name sc__law_before.nd) (qb_one (qs_if (st_cmp (op_neP hr.units) os_ne (se_ix (se_var (i := 0)) (se_var (i := 2))) (se_ix (se_var (i := 1)) (se_var (i := 2))) (nomark _)) (qb_cons (qs_if (st_w (sw_or (st_cmp (op_isA) os_is (se_ix (se_var (i := 0)) (se_var (i := 2))) (se_non) (nomark _)) (sw_or1 (st_cmp (op_isA) os_is (se_ix (se_var (i := 1)) (se_var (i := 2))) (se_non) (nomark _))))) (qb_one (qs_ret (se_cmp (op_isA) os_is (se_ix (se_var (i := 1)) (se_var (i := 2))) (se_non) (nomark _)))) (qb_nil)) (qb_one (qs_ret (se_cmp (op_ltA) os_lt (se_ix (se_var (i := 0)) (se_var (i := 2))) (se_ix (se_var (i := 1)) (se_var (i := 2))) (nomark _))))) (qb_nil)))) (qb_one (qs_ret (se_cmp (op_ltA) os_lt (se_callB call_len cs_len (T.n_len) (by decide +kernel) (sa_cons (se_var (i := 0)) (sa_nil))) (se_callB call_len cs_len (T.n_len) (by decide +kernel) (sa_cons (se_var (i := 1)) (sa_nil))) (nomark _))))
theorem ok__law_beginnings (T : Tx K mg) : OkF P w K mg base 1 "_law_beginnings" ["_law_rows", "_law_places"] m__law_beginnings := by
  obtain ⟨fd, F⟩ := T.d__law_beginnings
  refine okF_mk F sc__law_beginnings rfl rfl T.g__law_beginnings (F.binds (ps := ["_law_rows", "_law_places"]) fun _ _ _ _ _ _ us hl => match us, hl with | [_, _], _ => rfl) fun cdv A outer s H E hr => ?_
  have hu := Nat.lt_of_le_of_lt (Nat.add_le_add_left (show 1 ≤ 64 by decide) _) hr.units
  have tk := takes_fn (P := P) (w := w) (K := K) (mg := mg) (base := base) (N := N__law_beginnings) (qual := "_law_beginnings") (scope := defScope s__law_beginnings) (f := (He.ga K "_law_beginnings")) (cd := cdv) (A := A) (outer := outer) (s := s) (H := H) (E := E)
  have hp := passes_fn (P := P) (w := w) (K := K) (mg := mg) (base := base) (N := N__law_beginnings) (qual := "_law_beginnings") (scope := defScope s__law_beginnings) (f := (He.ga K "_law_beginnings")) (cd := cdv) (A := A) (outer := outer) (s := s) (H := H) (E := E)
  exact qb_cons (qs_set (i := 2) sc__law_beginnings.nd (se_C (sl_lst (sa_cons (se_tup (sa_nil)) (sa_nil))))) (qb_cons (qs_for hp (qi_list (se_var (i := 0))) (qg_name sc__law_beginnings.nd) (qb_one (qs_for hp (qi_range2 T.n_range (sa_cons (se_int) (sa_cons (se_op op_addA os_add (se_callB call_len cs_len (T.n_len) (by decide +kernel) (sa_cons (se_var (i := 1)) (sa_nil))) (se_int)) (sa_nil)))) (qg_name sc__law_beginnings.nd) (qb_cons (qs_set (i := 5) sc__law_beginnings.nd (se_callT call_tuple_of cs_tuple (T.n_tuple) (by decide +kernel) (sa_cons (se_V (sl_lc (own := [("_law_place", 6)]) sc__law_beginnings.nd (qi_list (se_V (sl_sl (se_var (i := 1)) (so_no) (so_at (se_var (i := 4)))))) (blkOk_by (N := N__law_beginnings) (sc := defScope s__law_beginnings) (by decide +kernel)) (fun _ _ _ _ _ => qg_name sc__law_beginnings.nd) (by decide) (fun _ _ _ _ _ => scs_nil) (fun _ _ _ _ _ => se_ix (se_var (i := 3)) (se_var (i := 6))))) (sa_nil)))) (qb_one (qs_if (st_cmp (op_notInP hr.units) os_notInP (se_var (i := 5)) (se_var (i := 2)) (by rfl)) (qb_one (qs_expr (se_bm PySem.F.slot_list_append PySem.F.type_list_append mt_append ms_append (se_var (i := 2)) (sa_cons (se_var (i := 5)) (sa_nil))))) (qb_nil))))))) (qb_one (qs_ret (se_var (i := 2)))))
theorem ok_law [Wd] (T : Tx K mg) : OkF P Wd.w K mg base 6 "law" ["_law_script"] m_law := by
  obtain ⟨fd, F⟩ := T.d_law
  refine okF_mk F sc_law rfl rfl T.g_law (F.binds (ps := ["_law_script"]) fun _ _ _ _ _ _ us hl => match us, hl with | [_], _ => rfl) fun cdv A outer s H E hr => ?_
  have hu := Nat.lt_of_le_of_lt (Nat.add_le_add_left (show 1 ≤ 64 by decide) _) hr.units
  have tk := takes_fn (P := P) (w := Wd.w) (K := K) (mg := mg) (base := base) (N := N_law) (qual := "law") (scope := defScope s_law) (f := (He.ga K "law")) (cd := cdv) (A := A) (outer := outer) (s := s) (H := H) (E := E)
  have hp := passes_fn (P := P) (w := Wd.w) (K := K) (mg := mg) (base := base) (N := N_law) (qual := "law") (scope := defScope s_law) (f := (He.ga K "law")) (cd := cdv) (A := A) (outer := outer) (s := s) (H := H) (E := E)
  exact qb_cons (qs_set (i := 1) sc_law.nd (se_fn .P (ok__law_world T) (hr.mono (by decide)) tk (sa_cons (se_var (i := 0)) (sa_nil)))) (qb_cons (qs_set (i := 2) sc_law.nd (se_dget hu (se_var (i := 1)) (se_str))) (qb_cons (qs_set (i := 3) sc_law.nd (se_fn .P (ok__law_mix T) (hr.mono (by decide)) tk (sa_cons (se_fn .P (ok__law_cell_at T) (hr.mono (by decide)) tk (sa_cons (se_var (i := 0)) (sa_cons (se_int) (sa_nil)))) (sa_cons (se_int) (sa_nil))))) (qb_cons (qs_set (i := 4) sc_law.nd (se_V (sl_listRg1 T.n_list T.n_range (se_callB call_len cs_len (T.n_len) (by decide +kernel) (sa_cons (se_var (i := 2)) (sa_nil)))))) (qb_cons (qs_set (i := 5) sc_law.nd (se_op op_mod os_mod (se_var (i := 3)) (se_callB call_len cs_len (T.n_len) (by decide +kernel) (sa_cons (se_var (i := 4)) (sa_nil))))) (qb_cons (qs_set (i := 4) sc_law.nd (se_V (sl_sl (se_V (sl_op op_cat ol_cat (se_V (sl_sl (se_var (i := 4)) (so_at (se_var (i := 5))) (so_no))) (se_V (sl_sl (se_var (i := 4)) (so_no) (so_at (se_var (i := 5))))))) (so_no) (so_at (se_op op_mod os_mod (se_op op_fdivW os_fdiv (se_var (i := 3)) (se_int)) (se_int)))))) (qb_cons (qs_if (st_cmp (op_eqP hr.units) os_eq (se_op op_mod os_mod (se_op op_fdivW os_fdiv (se_var (i := 3)) (se_int)) (se_int)) (se_int) (nomark _)) (qb_one (qs_set (i := 4) sc_law.nd (se_V (sl_revS (se_var (i := 4)))))) (qb_nil)) (qb_cons (qs_set (i := 6) sc_law.nd (se_callT call_tuple_of cs_tuple (T.n_tuple) (by decide +kernel) (sa_cons (se_V (sl_lc (own := [("_law_place", 13)]) sc_law.nd (qi_list (se_var (i := 4))) (blkOk_by (N := N_law) (sc := defScope s_law) (by decide +kernel)) (fun _ _ _ _ _ => qg_name sc_law.nd) (by decide) (fun _ _ _ _ _ => scs_nil) (fun _ _ _ _ _ => se_ix (se_ix (se_var (i := 2)) (se_var (i := 13))) (se_int)))) (sa_nil)))) (qb_blk (qp_cons (qs_set (i := 7) sc_law.nd (se_C (sl_lst (sa_nil)))) (qp_cons (qs_for hp (qi_range1 T.n_range (sa_cons (se_op op_mod os_mod (se_op op_fdivW os_fdiv (se_var (i := 3)) (se_int)) (se_int)) (sa_nil))) (qg_name sc_law.nd) (qb_one (qs_expr (se_bm PySem.F.slot_list_append PySem.F.type_list_append mt_append ms_append (se_var (i := 7)) (sa_cons (se_fn .P (ok__law_row T) (hr.mono (by decide)) tk (sa_cons (se_fn .P (ok__law_mix T) (hr.mono (by decide)) tk (sa_cons (se_op op_addA os_add (se_fn .P (ok__law_cell_at T) (hr.mono (by decide)) tk (sa_cons (se_var (i := 0)) (sa_cons (se_op op_addA os_add (se_int) (se_var (i := 8))) (sa_nil)))) (se_var (i := 8))) (sa_cons (se_int) (sa_nil)))) (sa_cons (se_var (i := 1)) (sa_nil)))) (sa_nil)))))) (qp_seal (qb_cons (qs_for hp (qi_list (se_V (sl_lst (sa_cons (se_var (i := 7)) (sa_cons (se_V (sl_lst (sa_nil))) (sa_cons (se_V (sl_sl (se_var (i := 7)) (so_no) (so_at (se_int)))) (sa_nil))))))) (qg_name sc_law.nd) (qb_cons (qs_set (i := 10) sc_law.nd (se_V (sl_callT call_list_of cl_list (T.n_list) (by decide +kernel) (sa_cons (se_var (i := 9)) (sa_nil))))) (qb_cons (qs_set (i := 11) sc_law.nd (se_fn .P (ok_heads_of T) hr tk (sa_cons (se_V (sl_callT call_list_of cl_list (T.n_list) (by decide +kernel) (sa_cons (se_var (i := 2)) (sa_nil)))) (sa_cons (se_var (i := 6)) (sa_cons (se_var (i := 10)) (sa_nil)))))) (qb_cons (qs_set (i := 12) sc_law.nd (se_fn .P (ok__law_beginnings T) (hr.mono (by decide)) tk (sa_cons (se_var (i := 9)) (sa_cons (se_var (i := 4)) (sa_nil))))) (qb_cons (qs_if (st_w (sw_or (st_not (st_val (se_isi (T := "list") T.n_isinstance T.n_list (by decide +kernel) (se_var (i := 11))))) (sw_or (st_cmp (op_neP hr.units) os_ne (se_callB call_len cs_len (T.n_len) (by decide +kernel) (sa_cons (se_var (i := 11)) (sa_nil))) (se_callB call_len cs_len (T.n_len) (by decide +kernel) (sa_cons (se_var (i := 12)) (sa_nil))) (nomark _)) (sw_or1 (st_cmp (op_neP hr.units) os_ne (se_var (i := 10)) (se_var (i := 9)) (nomark _)))))) (qb_one (qs_ret (se_bl))) (qb_nil)) (qb_cons (qs_if (st_cmp (op_inA) os_in (se_bl) (se_V (sl_lc (own := [("_law_head", 14)]) sc_law.nd (qi_list (se_var (i := 11))) (blkOk_by (N := N_law) (sc := defScope s_law) (by decide +kernel)) (fun _ _ _ _ _ => qg_name sc_law.nd) (by decide) (fun _ _ _ _ _ => scs_nil) (fun _ _ _ _ _ => se_and (se_isi (T := "tuple") T.n_isinstance T.n_tuple (by decide +kernel) (se_var (i := 14))) (se_one (se_cmp (op_inP hr.units) os_inP (se_var (i := 14)) (se_var (i := 12)) (by rfl)))))) (by rfl)) (qb_one (qs_ret (se_bl))) (qb_nil)) (qb_one (qs_if (st_cmp (op_inA) os_in (se_bl) (se_V (sl_lc (own := [("_law_k", 8)]) sc_law.nd (qi_range1 T.n_range (sa_cons (se_op op_sub os_sub (se_callB call_len cs_len (T.n_len) (by decide +kernel) (sa_cons (se_var (i := 11)) (sa_nil))) (se_int)) (sa_nil))) (blkOk_by (N := N_law) (sc := defScope s_law) (by decide +kernel)) (fun _ _ _ _ _ => qg_name sc_law.nd) (by decide) (fun _ _ _ _ _ => scs_nil) (fun _ _ _ _ _ => se_fn .P (ok__law_before T) (hr.mono (by decide)) takes0 (sa_cons (se_ix (se_var (i := 11)) (se_var (i := 8))) (sa_cons (se_ix (se_var (i := 11)) (se_op op_addA os_add (se_var (i := 8)) (se_int))) (sa_nil)))))) (by rfl)) (qb_one (qs_ret (se_bl))) (qb_nil))))))))) (qb_one (qs_ret (se_bl)))))))))))))))
end
/-! the head -/
def dfs : List He.DefD := [⟨("field_at", none), "field_at", "field_at", defArgs s_field_at, defBody s_field_at, defScope s_field_at, [], []⟩, ⟨("whole_path", none), "whole_path", "whole_path", defArgs s_whole_path, defBody s_whole_path, defScope s_whole_path, [], []⟩, ⟨("rank_of", none), "rank_of", "rank_of", defArgs s_rank_of, defBody s_rank_of, defScope s_rank_of, [], []⟩, ⟨("heads_of", none), "heads_of", "heads_of", defArgs s_heads_of, defBody s_heads_of, defScope s_heads_of, [], []⟩, ⟨("_law_cell_at", none), "_law_cell_at", "_law_cell_at", defArgs s__law_cell_at, defBody s__law_cell_at, defScope s__law_cell_at, [], []⟩, ⟨("_law_mix", none), "_law_mix", "_law_mix", defArgs s__law_mix, defBody s__law_mix, defScope s__law_mix, [], []⟩, ⟨("_law_heads", none), "_law_heads", "_law_heads", defArgs s__law_heads, defBody s__law_heads, defScope s__law_heads, [], []⟩, ⟨("_law_world", none), "_law_world", "_law_world", defArgs s__law_world, defBody s__law_world, defScope s__law_world, [], []⟩, ⟨("_law_sure_value", none), "_law_sure_value", "_law_sure_value", defArgs s__law_sure_value, defBody s__law_sure_value, defScope s__law_sure_value, [], []⟩, ⟨("_law_value", none), "_law_value", "_law_value", defArgs s__law_value, defBody s__law_value, defScope s__law_value, [], []⟩, ⟨("_law_row", none), "_law_row", "_law_row", defArgs s__law_row, defBody s__law_row, defScope s__law_row, [], []⟩, ⟨("_law_before", none), "_law_before", "_law_before", defArgs s__law_before, defBody s__law_before, defScope s__law_before, [], []⟩, ⟨("_law_beginnings", none), "_law_beginnings", "_law_beginnings", defArgs s__law_beginnings, defBody s__law_beginnings, defScope s__law_beginnings, [], []⟩, ⟨("law", none), "law", "law", defArgs s_law, defBody s_law, defScope s_law, [], []⟩, ⟨("NoField", some "__init__"), "__init__", "NoField.__init__", defArgs i_NoField, defBody i_NoField, defScope i_NoField, [], []⟩]
def fas : List He.Fa := [.glo "field_at", .glo "whole_path", .glo "rank_of", .glo "heads_of", .glo "_law_cell_at", .glo "_law_mix", .glo "_law_heads", .glo "_law_world", .glo "_law_sure_value", .glo "_law_value", .glo "_law_row", .glo "_law_before", .glo "_law_beginnings", .glo "law", .free "range", .free "len", .free "tuple", .free "sorted", .free "min", .free "list", .free "isinstance", .glo "NoField", .glo "CrossError", .meth "NoField" "__init__"]
theorem tx_of {K : PySem.W.Frag} {h : Heap} {mg : Str → Option Value} (X : K.In h) (G : h.Ns mainGlobals mg) (c : He.SaysD fas dfs K) (ce : (efs.all fun f => f.ok K) = true) : Tx K mg where
  d_field_at := let ⟨fd, F⟩ := c.def_ 0 rfl; ⟨fd, He5.fun_of F⟩
  g_field_at := He.glo_ok X G (c.fact 0 rfl)
  d_whole_path := let ⟨fd, F⟩ := c.def_ 1 rfl; ⟨fd, He5.fun_of F⟩
  g_whole_path := He.glo_ok X G (c.fact 1 rfl)
  d_rank_of := let ⟨fd, F⟩ := c.def_ 2 rfl; ⟨fd, He5.fun_of F⟩
  g_rank_of := He.glo_ok X G (c.fact 2 rfl)
  d_heads_of := let ⟨fd, F⟩ := c.def_ 3 rfl; ⟨fd, He5.fun_of F⟩
  g_heads_of := He.glo_ok X G (c.fact 3 rfl)
  d__law_cell_at := let ⟨fd, F⟩ := c.def_ 4 rfl; ⟨fd, He5.fun_of F⟩
  g__law_cell_at := He.glo_ok X G (c.fact 4 rfl)
  d__law_mix := let ⟨fd, F⟩ := c.def_ 5 rfl; ⟨fd, He5.fun_of F⟩
  g__law_mix := He.glo_ok X G (c.fact 5 rfl)
  d__law_heads := let ⟨fd, F⟩ := c.def_ 6 rfl; ⟨fd, He5.fun_of F⟩
  g__law_heads := He.glo_ok X G (c.fact 6 rfl)
  d__law_world := let ⟨fd, F⟩ := c.def_ 7 rfl; ⟨fd, He5.fun_of F⟩
  g__law_world := He.glo_ok X G (c.fact 7 rfl)
  d__law_sure_value := let ⟨fd, F⟩ := c.def_ 8 rfl; ⟨fd, He5.fun_of F⟩
  g__law_sure_value := He.glo_ok X G (c.fact 8 rfl)
  d__law_value := let ⟨fd, F⟩ := c.def_ 9 rfl; ⟨fd, He5.fun_of F⟩
  g__law_value := He.glo_ok X G (c.fact 9 rfl)
  d__law_row := let ⟨fd, F⟩ := c.def_ 10 rfl; ⟨fd, He5.fun_of F⟩
  g__law_row := He.glo_ok X G (c.fact 10 rfl)
  d__law_before := let ⟨fd, F⟩ := c.def_ 11 rfl; ⟨fd, He5.fun_of F⟩
  g__law_before := He.glo_ok X G (c.fact 11 rfl)
  d__law_beginnings := let ⟨fd, F⟩ := c.def_ 12 rfl; ⟨fd, He5.fun_of F⟩
  g__law_beginnings := He.glo_ok X G (c.fact 12 rfl)
  d_law := let ⟨fd, F⟩ := c.def_ 13 rfl; ⟨fd, He5.fun_of F⟩
  g_law := He.glo_ok X G (c.fact 13 rfl)
  n_range := He.free_ok X G (c.fact 14 rfl)
  n_len := He.free_ok X G (c.fact 15 rfl)
  n_tuple := He.free_ok X G (c.fact 16 rfl)
  n_sorted := He.free_ok X G (c.fact 17 rfl)
  n_min := He.free_ok X G (c.fact 18 rfl)
  n_list := He.free_ok X G (c.fact 19 rfl)
  n_isinstance := He.free_ok X G (c.fact 20 rfl)
  k_NoField := He.glo_ok X G (c.fact 21 rfl)
  k_CrossError := He.glo_ok X G (c.fact 22 rfl)
  p_NoField := let ⟨fd, F⟩ := c.def_ 14 rfl; ⟨fd, He5.fun_of F⟩
  m_NoField := He.meth_ok (c.fact 23 rfl)
  ce := ce
end
end Lk13

set_option Elab.async false
set_option linter.all false
set_option maxRecDepth 100000
set_option maxHeartbeats 4000000
namespace Lk13
open PySem PySem.Spec PyProof.Rows L2 VD WT PS WD HD HR
noncomputable section
theorem mix_same : m__law_mix = mixM := rfl
theorem cell_same : m__law_cell_at = cellM := rfl
theorem world_same : m__law_world = WD.m__law_world := rfl
theorem row_same : m__law_row = WD.m__law_row := rfl
theorem heads_same [Wd] : m_heads_of = HD.m_heads_of := rfl
/-! before -/
theorem pathLt_at : ∀ {i : Nat} {p q : List Val} {a b : Val}, p.take i = q.take i → p[i]? = some a → q[i]? = some b → a ≠ b → pathLt p q = valLt a b
  | 0, c :: p, d :: q, a, b, _, h1, h2, n => by
    cases h1; cases h2
    show (if c = d then pathLt p q else valLt c d) = _
    rw [if_neg n]
  | 0, [], _, _, _, _, h1, _, _ => by cases h1
  | 0, _ :: _, [], _, _, _, _, h2, _ => by cases h2
  | i + 1, [], _, _, _, _, h1, _, _ => by cases h1
  | i + 1, _ :: _, [], _, _, _, _, h2, _ => by cases h2
  | i + 1, c :: p, d :: q, a, b, e, h1, h2, n => by
    rw [List.take_succ_cons, List.take_succ_cons] at e
    injection e with e1 e2
    show (if c = d then pathLt p q else valLt c d) = _
    rw [if_pos e1]
    exact pathLt_at e2 h1 h2 n
theorem pathLt_end : ∀ {p q : List Val}, p.take (min p.length q.length) = q.take (min p.length q.length) → pathLt p q = decide (p.length < q.length)
  | [], [], _ => rfl
  | [], _ :: _, _ => by simp [pathLt]
  | _ :: _, [], _ => by simp [pathLt]
  | c :: p, d :: q, e => by
    rw [List.length_cons, List.length_cons, Nat.succ_min_succ, List.take_succ_cons, List.take_succ_cons] at e
    injection e with e1 e2
    show (if c = d then pathLt p q else valLt c d) = _
    rw [if_pos e1, pathLt_end e2, List.length_cons, List.length_cons]
    exact decide_eq_decide.mpr (by omega)
theorem before_eq {p q : List Val} (lp : p.length ≤ 1000) (lq : q.length ≤ 1000) (al : ∀ (i : Nat) (a b : Val), p[i]? = some a → q[i]? = some b → ∃ k, ValOk k a ∧ ValOk k b) :
    m__law_before [rowD p, rowD q] [] = .ok (.bl (pathLt p q)) [] := by
  obtain ⟨PP, hPP⟩ : ∃ PP : VD.R D → Prop, PP = fun x => x = .ok (.bl (pathLt p q)) [] := ⟨_, rfl⟩
  have fin : PP (m__law_before [rowD p, rowD q] []) := by
    refine fnS_of (P := PP) rfl ?_
    unfold b__law_before
    simp only [Wp_seq]
    unfold l__law_before_1
    have mi : ∀ h, bLen [rowD p] h = .ok (.int (p.length : Int)) h := fun h => by show (match lenD h (rowD p) with | some n => VD.R.ok (D.int n) h | none => .stuck) = _; rw [len_row]
    have mj : ∀ h, bLen [rowD q] h = .ok (.int (q.length : Int)) h := fun h => by show (match lenD h (rowD q) with | some n => VD.R.ok (D.int n) h | none => .stuck) = _; rw [len_row]
    obtain ⟨m, hm⟩ : ∃ m : Nat, min p.length q.length = m := ⟨_, rfl⟩
    have me : (if q.length < p.length then (q.length : Int) else (p.length : Int)) = (m : Int) := by
      rw [← hm]; split <;> omega
    obtain ⟨I, hI⟩ : ∃ I : Nat → VS → Hv → Prop, I = fun i σ h => ∃ x2 : Option D, σ = [some (rowD p), some (rowD q), x2] ∧ h = [] ∧ p.take i = q.take i := ⟨_, rfl⟩
    refine Wp.range 0 m I (h0 := []) (by simp (disch := omega) [mi, mj, me]) (by rw [hI]; exact ⟨_, rfl, rfl, rfl⟩) ?_ ?_
    · intro i σ h hi hh
      rw [hI] at hh
      obtain ⟨x2, rfl, rfl, tk⟩ := hh
      refine ⟨_, rfl, ?_⟩
      have ha : p[i]? = some p[i] := List.getElem?_eq_getElem (by omega)
      have hb : q[i]? = some q[i] := List.getElem?_eq_getElem (by omega)
      obtain ⟨a, ea⟩ : ∃ a, p[i] = a := ⟨_, rfl⟩
      obtain ⟨b, eb⟩ : ∃ b, q[i] = b := ⟨_, rfl⟩
      rw [ea] at ha
      rw [eb] at hb
      have e1 : ∀ h, ixD h (rowD p) (i : Int) = some (valD a) := fun h => ix_val ha
      have e2 : ∀ h, ixD h (rowD q) (i : Int) = some (valD b) := fun h => ix_val hb
      by_cases z : a = b
      · subst z
        simp [e1, e2, eqD_val]
        rw [hI]
        refine ⟨_, rfl, rfl, ?_⟩
        rw [List.take_add_one, List.take_add_one, ha, hb, tk]
      · have r := pathLt_at tk ha hb z
        obtain ⟨k, k1, k2⟩ := al i a b ha hb
        by_cases za : a = .no
        · subst za
          have zb : b ≠ .no := fun w => z w.symm
          simp [e1, e2, eqD_val, z, isD_val, zb]
          rw [hPP, r]; rfl
        · by_cases zb : b = .no
          · subst zb
            simp [e1, e2, eqD_val, z, isD_val, za]
            rw [hPP, r]
            cases a with
            | no => exact absurd rfl za
            | wd _ => rfl
            | nm _ => rfl
          · have lt : ∀ h, oLt (valD a) (valD b) h = .ok (.bl (valLt a b)) h := fun h => by
              cases a with
              | no => exact absurd rfl za
              | wd x =>
                cases b with
                | no => exact absurd rfl zb
                | wd y => exact oLt_tx
                | nm j => exact absurd (k1.1.symm.trans k2.1) (by decide)
              | nm i =>
                cases b with
                | no => exact absurd rfl zb
                | wd y => exact absurd (k1.1.symm.trans k2.1) (by decide)
                | nm j => rfl
            simp [e1, e2, eqD_val, z, isD_val, za, zb, lt]
            rw [hPP, r]
    · intro σ h hh
      rw [hI] at hh
      obtain ⟨x2, rfl, rfl, tk⟩ := hh
      rw [← hm] at tk
      have r := pathLt_end tk
      simp [mi, mj]
      rw [hPP, r]
  rw [hPP] at fin
  exact fin
/-! beginnings -/
def nmA (fs : List Fd) (k : Nat) : WT.Tx := (fs[k]?.getD ([], true)).1
def nmsA (fs : List Fd) (pl : List Nat) : List WT.Tx := pl.map (nmA fs)
abbrev plD (pl : List Nat) : D := .lst (pl.map fun k : Nat => D.int (k : Int))
theorem nmsA_ok {fs : List Fd} {pl : List Nat} (h : ∀ k ∈ pl, k < fs.length) : NmsOk fs (nmsA fs pl) := fun n hn => by
  obtain ⟨k, hk, rfl⟩ := List.mem_map.mp hn
  refine ⟨(fs[k]'(h k hk)).2, ?_⟩
  have : nmA fs k = (fs[k]'(h k hk)).1 := by unfold nmA; rw [List.getElem?_eq_getElem (h k hk)]; rfl
  rw [this]
  exact List.getElem_mem (h k hk)
theorem whole_at {fs : List Fd} (fo : FdsOk fs) {r : List Val} (ro : RowOk fs r) {k : Nat} (h : k < fs.length) : r[k]? = some (rowAt fs r (nmA fs k)) := by
  have e : fs[k]? = some (nmA fs k, (fs[k]'h).2) := by unfold nmA; rw [List.getElem?_eq_getElem h]; rfl
  exact (row_at ro fo.nd e).2.1
theorem begs_eq {fs : List Fd} (fo : FdsOk fs) {pl : List Nat} (hp : ∀ k ∈ pl, k < fs.length) (hl : pl.length ≤ 8) {rows : List (List Val)} (ro : ∀ r ∈ rows, RowOk fs r) (hr : rows.length ≤ 100) :
    m__law_beginnings [.lst (rows.map rowD), plD pl] [] = .ok (.lst ((headsU fs (nmsA fs pl) rows).map rowD)) [] := by
  obtain ⟨PP, hPP⟩ : ∃ PP : VD.R D → Prop, PP = fun x => x = .ok (.lst ((headsU fs (nmsA fs pl) rows).map rowD)) [] := ⟨_, rfl⟩
  have fin : PP (m__law_beginnings [.lst (rows.map rowD), plD pl] []) := by
    refine fnS_of (P := PP) rfl ?_
    unfold b__law_beginnings
    have e0 : [D.tup []] = ([[]] : List (List Val)).map rowD := rfl
    simp [e0, -List.map_cons]
    unfold l__law_beginnings_2
    have nl : (nmsA fs pl).length = pl.length := List.length_map ..
    have small : ∀ i, (headsU fs (nmsA fs pl) (rows.take i)).length ≤ 1 + i * 9 := fun i => by
      have h1 := adds_le (ps := pres fs (nmsA fs pl) (rows.take i)) (us := [[]])
      rw [pres_len, List.length_take, nl] at h1
      have h2 : min i rows.length * (pl.length + 1) ≤ i * 9 := Nat.mul_le_mul (Nat.min_le_left _ _) (by omega)
      have : (headsU fs (nmsA fs pl) (rows.take i)).length ≤ 1 + min i rows.length * (pl.length + 1) := h1
      omega
    obtain ⟨I, hI⟩ : ∃ I : Nat → VS → Hv → Prop, I = fun i σ h => ∃ x3 x4 x5 x6 : Option D, σ = [some (.lst (rows.map rowD)), some (plD pl), some (.cell 0), x3, x4, x5, x6] ∧ h = [.lst ((headsU fs (nmsA fs pl) (rows.take i)).map rowD)] := ⟨_, rfl⟩
    refine Wp.loopA rowD rows I (h0 := [.lst (([[]] : List (List Val)).map rowD)]) (show iL _ _ _ = .ok (rows.map rowD, always) _ by simp) (by rw [hI]; exact ⟨_, _, _, _, rfl, rfl⟩) ?_ ?_
    · intro i r σ h hk hh
      rw [hI] at hh
      obtain ⟨x3, x4, x5, x6, rfl, rfl⟩ := hh
      refine ⟨_, rfl, ?_⟩
      have il := (List.getElem?_eq_some_iff.mp hk).1
      have rr := ro r (List.mem_of_getElem? hk)
      obtain ⟨U, hU⟩ : ∃ U, headsU fs (nmsA fs pl) (rows.take i) = U := ⟨_, rfl⟩
      obtain ⟨p, hpw⟩ : ∃ p, whole fs (nmsA fs pl) r = p := ⟨_, rfl⟩
      have pL : p.length = pl.length := by rw [← hpw, whole_len, nl]
      have U0 : ([] : List Val) ∈ U := by rw [← hU]; exact adds_mem.mpr (.inl (by simp))
      rw [hU]
      unfold l__law_beginnings_1
      have lp : ∀ h, bLen [plD pl] h = .ok (.int (pl.length : Int)) h := fun h => by simp
      obtain ⟨J, hJ⟩ : ∃ J : Nat → VS → Hv → Prop, J = fun m σ h => ∃ x4 x5 x6 : Option D, σ = [some (.lst (rows.map rowD)), some (plD pl), some (.cell 0), some (rowD r), x4, x5, x6] ∧
        h = [.lst ((adds U ((List.range (m + 1)).map fun k => p.take k)).map rowD)] := ⟨_, rfl⟩
      refine Wp.range 1 pl.length J (h0 := [.lst (U.map rowD)]) (by simp (disch := omega) [lp]) (by
        rw [hJ]
        refine ⟨_, _, _, rfl, ?_⟩
        have : adds U ((List.range (0 + 1)).map fun k => p.take k) = U := by
          show add1 U (p.take 0) = U
          unfold add1
          rw [List.take_zero, if_pos U0]
        rw [this]) ?_ ?_
      · intro m σ h hm hh
        rw [hJ] at hh
        obtain ⟨x4, x5, x6, rfl, rfl⟩ := hh
        refine ⟨_, rfl, ?_⟩
        obtain ⟨V, hV⟩ : ∃ V, adds U ((List.range (m + 1)).map fun k => p.take k) = V := ⟨_, rfl⟩
        rw [hV]
        have next : adds U ((List.range (m + 1 + 1)).map fun k => p.take k) = add1 V (p.take (m + 1)) := by
          rw [List.range_succ, List.map_append, List.map_cons, List.map_nil, adds_snoc, hV]
        have few : V.length ≤ 2000 := by
          have h1 := adds_le (ps := (List.range (m + 1)).map fun k => p.take k) (us := U)
          have h2 := small i
          rw [hU] at h2
          rw [List.length_map, List.length_range, hV] at h1
          omega
        have ce : c__law_beginnings_1 [some (.lst (rows.map rowD)), some (plD pl), some (.cell 0), some (rowD r), some (.int (1 + (m : Int))), x5, x6] [.lst (V.map rowD)] = .ok ((p.take (m + 1)).map valD) [.lst (V.map rowD)] := by
          unfold c__law_beginnings_1
          have ek : VD.cutD (pl.map fun k : Nat => D.int (k : Int)) none (some (1 + (m : Int))) = (pl.take (m + 1)).map fun k : Nat => D.int (k : Int) := by
            rw [cutD_tk (by omega), List.map_take, show (1 + (m : Int)).toNat = m + 1 by omega]
          have pe : (p.take (m + 1)).map valD = (pl.take (m + 1)).map fun k => valD (rowAt fs r (nmA fs k)) := by
            rw [← hpw]
            unfold whole nmsA
            rw [List.map_map, ← List.map_take, List.map_map]; rfl
          rw [pe]
          refine lLc_map (fun k : Nat => D.int (k : Int)) (fun k => valD (rowAt fs r (nmA fs k))) (pl.take (m + 1)) (chk := always) (h0 := [.lst (V.map rowD)]) (by simp [ek, -List.map_take]) rfl (by rw [List.length_take]; omega) fun k hk => ⟨_, rfl, ?_⟩
          have kk := hp k (List.mem_of_mem_take hk)
          have ix : ∀ h, ixD h (rowD r) (k : Int) = some (valD (rowAt fs r (nmA fs k))) := fun h => ix_val (whole_at fo rr kk)
          simp [ix]
        have et : D.tup ((p.take (m + 1)).map valD) = rowD (p.take (m + 1)) := rfl
        have ni := oNotIn_rowC (h := [Cell.lst (V.map rowD)]) (n := 0) (p.take (m + 1)) (us := V) rfl
        by_cases q : p.take (m + 1) ∈ V
        · simp [ce, et, ni, q, -List.map_take]
          rw [hJ]
          refine ⟨_, _, _, rfl, ?_⟩
          rw [next]
          unfold add1
          rw [if_pos q]
        · have lf : V.length < 16777216 := by omega
          simp [ce, et, ni, q, lf, -List.map_take]
          rw [hJ]
          refine ⟨_, _, _, rfl, ?_⟩
          rw [next]
          unfold add1
          rw [if_neg q, List.map_append]; rfl
      · intro σ h hh
        rw [hJ] at hh
        obtain ⟨x4, x5, x6, rfl, rfl⟩ := hh
        simp only [Wp_lp_next]
        rw [hI]
        refine ⟨_, _, _, _, rfl, ?_⟩
        have e : headsU fs (nmsA fs pl) (rows.take (i + 1)) = adds U ((List.range (pl.length + 1)).map fun k => p.take k) := by
          have : pres fs (nmsA fs pl) (rows.take (i + 1)) = pres fs (nmsA fs pl) (rows.take i) ++ (List.range (pl.length + 1)).map fun k => p.take k := by
            unfold pres
            rw [List.take_add_one, hk, List.flatMap_append]
            congr 1
            show pre (whole fs (nmsA fs pl) r) ++ [] = _
            rw [List.append_nil, hpw]
            unfold pre
            rw [pL]
          rw [← hU]
          unfold headsU
          rw [this, adds_app]
        rw [e]
    · intro σ h hh
      rw [hI] at hh
      obtain ⟨x3, x4, x5, x6, rfl, rfl⟩ := hh
      rw [List.take_of_length_le (Nat.le_refl _)]
      have fz : ∀ h, optAll (frz 0 h 11) ((headsU fs (nmsA fs pl) rows).map rowD) = some ((headsU fs (nmsA fs pl) rows).map rowD) := fun h => optAll_map (e' := rowD) fun p _ => frz_row p
      simp [fz]
      rw [hPP]
  rw [hPP] at fin
  exact fin
/-! places -/
theorem nat_map {n : Nat} : rgD 0 n = (List.range n).map fun k : Nat => D.int (k : Int) := by
  unfold rgD
  refine List.map_congr_left fun k _ => ?_
  rw [show (0 : Int) + (k : Int) = k by omega]
theorem allT {α : Type} {h : Hv} (xs : List α) : oIn (.bl false) (.lst (xs.map fun _ => D.bl true)) h = .ok (.bl false) h := by
  obtain ⟨vt, et⟩ : ∃ vt, toV (.bl true) = some vt := ⟨_, rfl⟩
  obtain ⟨vf, ef⟩ : ∃ vf, toV (.bl false) = some vf := ⟨_, rfl⟩
  have ne : eqV vt vf = false := by cases et; cases ef; rfl
  have e1 : optAll toV (xs.map fun _ => D.bl true) = some (xs.map fun _ => vt) := optAll_map fun _ _ => et
  have e2 : inD h (.bl false) (.lst (xs.map fun _ => D.bl true)) = (match toV (.bl false), (sqOf h (.lst (xs.map fun _ => D.bl true))).bind (optAll toV) with
    | some v, some vs => some (inV v vs)
    | _, _ => none) := rfl
  have e3 : sqOf h (.lst (xs.map fun _ => D.bl true)) = some (xs.map fun _ => D.bl true) := rfl
  have e4 : inV vf (xs.map fun _ => vt) = false := by
    unfold inV
    rw [List.any_map, List.any_eq_false]
    intro x _
    show ¬ eqV vt vf = true
    rw [ne]; decide
  unfold oIn
  rw [e2, e3, Option.bind_some, e1, ef]
  simp only [e4]
section
variable {fs : List Fd} {ws : List WT.Tx} {base S : Int} {ns : List Int}
theorem names_at {pl : List Nat} (h : ∀ k ∈ pl, k < fs.length) {x5 x6 x7 x8 x9 x10 x11 x12 x13 x14 : Option D} [Wd] (hl : pl.length ≤ 8) :
    c_law_1 [some (scr ns), some (worldD fs ws base), some (fdsD fs), some (.int S), some (plD pl), x5, x6, x7, x8, x9, x10, x11, x12, x13, x14] [] = .ok ((nmsA fs pl).map tx) [] := by
  unfold c_law_1 nmsA
  rw [List.map_map]
  refine lLc_map (fun k : Nat => D.int (k : Int)) (tx ∘ nmA fs) pl (chk := always) (h0 := []) (by simp) rfl (by omega) fun k hk => ⟨_, rfl, ?_⟩
  have kk := h k hk
  have e1 : ∀ h, ixD h (fdsD fs) (k : Int) = some (fdD fs[k]) := fun _ => atI_map (atI_at rfl (List.getElem?_eq_getElem kk))
  have e2 : ∀ h, ixD h (fdD fs[k]) 0 = some (tx fs[k].1) := fun _ => rfl
  have e3 : nmA fs k = fs[k].1 := by unfold nmA; rw [List.getElem?_eq_getElem kk]; rfl
  simp [e1, e2, e3]
theorem rest [Wd] (w : WorldOk fs ws base) {pl : List Nat} (h : ∀ k ∈ pl, k < fs.length) (hl : pl.length ≤ 3) {x5 : Option D} :
    Wp (Rt fun x => x = .ok (.bl true) []) (t_law_7 [some (scr ns), some (worldD fs ws base), some (fdsD fs), some (.int S), some (plD pl), x5, none, none, none, none, none, none, none, none, none] []) := by
  unfold t_law_7
  have fh := w.fs.hi
  have e1 := names_at (ns := ns) (ws := ws) (base := base) (S := S) h (x5 := x5) (x6 := none) (x7 := none) (x8 := none) (x9 := none) (x10 := none) (x11 := none) (x12 := none) (x13 := none) (x14 := none) (by omega)
  have en : D.tup ((nmsA fs pl).map tx) = HD.namesD (nmsA fs pl) := rfl
  obtain ⟨m, hm⟩ : ∃ m : Nat, S / 64 % 41 = m := ⟨(S / 64 % 41).toNat, by omega⟩
  simp [e1, en]
  unfold l_law_1
  obtain ⟨I, hI⟩ : ∃ I : Nat → VS → Hv → Prop, I = fun i σ h => ∃ (x8 : Option D) (rs : List (List Val)), σ = [some (scr ns), some (worldD fs ws base), some (fdsD fs), some (.int S), some (plD pl), x5, some (HD.namesD (nmsA fs pl)), some (.cell 0), x8, none, none, none, none, none, none] ∧ h = [.lst (rs.map rowD)] ∧ rs.length = i ∧ ∀ r ∈ rs, RowOk fs r := ⟨_, rfl⟩
  refine Wp.range 0 m I (h0 := [.lst []]) (by simp (disch := omega) [hm]) (by rw [hI]; exact ⟨_, [], rfl, rfl, rfl, fun r hr => nomatch hr⟩) ?_ ?_
  · intro i σ h hi hh
    rw [hI] at hh
    obtain ⟨x8, rs, rfl, rfl, lr, al⟩ := hh
    refine ⟨_, rfl, ?_⟩
    have c2 := fun h => callP_cell (ns := ns) (k := 2 + (i : Int)) (h := h) (by omega)
    have x4' := fun h => callP_mix (s := cellF ns (2 + (i : Int)) + (i : Int)) (k := 4) (h := h) (by decide) (by decide)
    have re := cP (row_eq w (seed := mixF (cellF ns (2 + (i : Int)) + (i : Int)) 4)) (by simp [frz_world])
    rw [← row_same] at re
    have ek : ∀ r : List Val, rs.map rowD ++ [rowD r] = (rs ++ [r]).map rowD := fun r => by rw [List.map_append]; rfl
    have lk : rs.length < 16777216 := by omega
    simp [mix_same, cell_same, c2, x4', re, ek, lk, -List.map_append]
    rw [hI]
    refine ⟨_, _, rfl, rfl, by simp [lr], fun r hr => ?_⟩
    rcases List.mem_append.mp hr with hr | hr
    · exact al r hr
    · cases List.mem_singleton.mp hr
      exact row_ok w
  · intro σ h hh
    rw [hI] at hh
    obtain ⟨x8, rs, rfl, rfl, lr, al⟩ := hh
    have fz : optAll (frz 0 [Cell.lst (rs.map rowD)] 11) (rs.map rowD) = some (rs.map rowD) := optAll_map (e' := rowD) fun p _ => frz_row p
    have nt : ∀ m h, frz m h 12 (HD.namesD (nmsA fs pl)) = some (HD.namesD (nmsA fs pl)) := fun m h => frz_names _
    have pt : ∀ m h, frz m h 12 (plD pl) = some (plD pl) := fun m h => by
      show (optAll (frz m h 11) (pl.map fun k : Nat => D.int (k : Int))).map D.lst = _
      rw [optAll_map (g := frz m h 11) (e := fun k : Nat => D.int (k : Int)) (e' := fun k : Nat => D.int (k : Int)) fun _ _ => rfl]; rfl
    simp (disch := omega) [fz, nt, pt, frz_world, frz_fds]
    obtain ⟨y5, hy5⟩ : ∃ y, sealO 0 [Cell.lst (rs.map rowD)] x5 = y := ⟨_, rfl⟩
    obtain ⟨y8, hy8⟩ : ∃ y, sealO 0 [Cell.lst (rs.map rowD)] x8 = y := ⟨_, rfl⟩
    rw [hy5, hy8]
    unfold l_law_2
    obtain ⟨P, hP⟩ : ∃ P, nmsA fs pl = P := ⟨_, rfl⟩
    have PL : P.length = pl.length := by rw [← hP]; exact List.length_map ..
    have no := nmsA_ok (fs := fs) h
    rw [hP] at no nt
    have k1 : VD.cutD (rs.map rowD) none (some 1) = (rs.take 1).map rowD := by rw [cutD_tk (by decide), List.map_take]; rfl
    obtain ⟨J, hJ⟩ : ∃ J : Nat → VS → Hv → Prop, J = fun i σ h => ∃ (x8 x9 x10 x11 x12 x13 x14 : Option D), σ = [some (scr ns), some (worldD fs ws base), some (fdsD fs), some (.int S), some (plD pl), y5, some (HD.namesD P), some (.lst (rs.map rowD)), x8, x9, x10, x11, x12, x13, x14] := ⟨_, rfl⟩
    rw [hP]
    refine Wp.loopA (fun ss : List (List Val) => D.lst (ss.map rowD)) [rs, [], rs.take 1] J (h0 := []) (by simp [k1, -List.map_take]) (by rw [hJ]; exact ⟨_, _, _, _, _, _, _, rfl⟩) ?_ ?_
    · intro i ss σ h0 hk hh
      rw [hJ] at hh
      obtain ⟨x8, x9, x10, x11, x12, x13, x14, rfl⟩ := hh
      refine ⟨_, rfl, ?_⟩
      have sub : (∀ r ∈ ss, RowOk fs r) ∧ ss.length ≤ 100 := by
        have := List.mem_of_getElem? hk
        simp only [List.mem_cons, List.not_mem_nil, or_false] at this
        rcases this with rfl | rfl | rfl
        · exact ⟨al, by omega⟩
        · exact ⟨fun r hr => (by cases hr), by decide⟩
        · exact ⟨fun r hr => al r (List.mem_of_mem_take hr), by rw [List.length_take]; omega⟩
      obtain ⟨so, sl⟩ := sub
      have sf : ∀ m h, frz m h 12 (.lst (ss.map rowD)) = some (.lst (ss.map rowD)) := fun m h => by
        show (optAll (frz m h 11) (ss.map rowD)).map D.lst = _
        rw [optAll_map (g := frz m h 11) (e := rowD) (e' := rowD) fun p _ => frz_row p]; rfl
      have he := cP (heads_eq w.fs no (by omega) so (by rw [PL]; have := Nat.mul_le_mul sl (show pl.length + 1 ≤ 4 by omega); omega)) (by simp [frz_fds, nt, sf, -frz_tup])
      rw [← heads_same] at he
      have be := cP (begs_eq w.fs h (by omega) so sl) (by simp [pt, sf])
      rw [hP] at be
      have lo : ∀ h, lOf h (fdsD fs) = some (fs.map fdD) := fun _ => rfl
      have el : D.lst (fs.map fdD) = fdsD fs := rfl
      obtain ⟨F, hF⟩ : ∃ F, headsF fs P ss = F := ⟨_, rfl⟩
      obtain ⟨U, hU⟩ : ∃ U, headsU fs P ss = U := ⟨_, rfl⟩
      have FU : F.length = U.length := by rw [← hF, ← hU]; exact heads_perm.length_eq
      have Fm : ∀ p ∈ F, p ∈ U := fun p hp => by rw [← hF] at hp; rw [← hU]; exact heads_mem.mp hp
      have Fr : F.Pairwise fun p q => pathLt p q = true := by rw [← hF]; exact heads_rise
      have Fk : ∀ p ∈ F, PathOk fs P p := fun p hp => by rw [← hF] at hp; exact heads_path w.fs so (heads_mem.mp hp)
      have Fl : F.length ≤ 10000 := by
        have h1 := adds_le (ps := pres fs P ss) (us := [[]])
        rw [pres_len, PL] at h1
        have h2 := Nat.mul_le_mul sl (show pl.length + 1 ≤ 4 by omega)
        have h3 : U.length ≤ 1 + ss.length * (pl.length + 1) := by rw [← hU]; exact h1
        omega
      rw [hF] at he
      rw [hU] at be
      have er : ∀ h, eqD h (.lst (ss.map rowD)) (.lst (ss.map rowD)) = some true := fun h => by rw [eqD_rows]; simp
      have kll : kitB "list" "list" = some true := by decide +kernel
      have ktt : kitB "tuple" "tuple" = some true := by decide +kernel
      have c2 : ∀ h, c_law_2 [some (scr ns), some (worldD fs ws base), some (fdsD fs), some (.int S), some (plD pl), y5, some (HD.namesD P), some (.lst (rs.map rowD)), x8, some (.lst (ss.map rowD)), some (.lst (ss.map rowD)), some (.lst (F.map rowD)), some (.lst (U.map rowD)), x13, x14] h = .ok (F.map fun _ => D.bl true) h := fun h => by
        unfold c_law_2
        refine lLc_map rowD (fun _ => D.bl true) F (chk := always) (h0 := h) (by simp) rfl (by omega) fun p hp => ⟨_, rfl, ?_⟩
        have i1 : ∀ h, tyName h (rowD p) = some "tuple" := fun _ => rfl
        simp [i1, ktt, oIn_row, Fm p hp]
      have c3 : ∀ h, c_law_3 [some (scr ns), some (worldD fs ws base), some (fdsD fs), some (.int S), some (plD pl), y5, some (HD.namesD P), some (.lst (rs.map rowD)), x8, some (.lst (ss.map rowD)), some (.lst (ss.map rowD)), some (.lst (F.map rowD)), some (.lst (U.map rowD)), x13, x14] h = .ok ((List.range (F.length - 1)).map fun _ => D.bl true) h := fun h => by
        unfold c_law_3
        refine lLc_map (fun k : Nat => D.int (0 + (k : Int))) (fun _ => D.bl true) (List.range (F.length - 1)) (chk := always) (h0 := h) ?_ rfl (by rw [List.length_range]; omega) fun k hk => ⟨_, rfl, ?_⟩
        · have sb : ((F.length : Int) - 1).toNat = F.length - 1 := by omega
          simp (disch := omega) [sb]
          exact nat_map
        · have kk := List.mem_range.mp hk
          have g1 : F[k]? = some F[k] := List.getElem?_eq_getElem (by omega)
          have g2 : F[k + 1]? = some F[k + 1] := List.getElem?_eq_getElem (by omega)
          have lt : pathLt F[k] F[k + 1] = true := List.pairwise_iff_getElem.mp Fr k (k + 1) (by omega) (by omega) (by omega)
          obtain ⟨p, ep⟩ : ∃ p, F[k] = p := ⟨_, rfl⟩
          obtain ⟨q, eq⟩ : ∃ q, F[k + 1] = q := ⟨_, rfl⟩
          rw [ep] at g1 lt
          rw [eq] at g2 lt
          have pp := Fk p (List.mem_of_getElem? g1)
          have pq := Fk q (List.mem_of_getElem? g2)
          have bf := cP (before_eq (p := p) (q := q) (by have := pp.1; omega) (by have := pq.1; omega) fun i a b ha hb => by
            have il := (List.getElem?_eq_some_iff.mp ha).1
            have := pp.1
            have hn : P[i]? = some P[i] := List.getElem?_eq_getElem (by omega)
            obtain ⟨bb, hbb⟩ := no _ (List.mem_of_getElem? hn)
            exact ⟨bb, pp.2 i _ bb a hn hbb ha, pq.2 i _ bb b hn hbb hb⟩) (by simp [frz_row])
          rw [lt] at bf
          have x1 : ∀ h, ixD h (.lst (F.map rowD)) (k : Int) = some (rowD p) := fun _ => atI_map (atI_at rfl g1)
          have x2 : ∀ h, ixD h (.lst (F.map rowD)) ((k : Int) + 1) = some (rowD q) := fun _ => atI_map (atI_at (by omega) g2)
          have kz : (0 : Int) + (k : Int) = k := by omega
          rw [kz]
          simp (disch := omega) [x1, x2, bf]
      have n2 := fun h => allT (h := h) F
      have n3 := fun h => allT (h := h) (List.range (U.length - 1))
      simp [lo, el, he, be, FU, kll, er, c2, c3, n2, n3]
      rw [hJ]
      exact ⟨_, _, _, _, _, _, _, rfl⟩
    · intro σ h hh
      rw [hJ] at hh
      obtain ⟨x8, x9, x10, x11, x12, x13, x14, rfl⟩ := hh
      simp
end
theorem law_true [Wd] (ns : List Int) (hl : ns.length ≤ 63) : m_law [.fz (ns.map .int)] [] = .ok (.bl true) [] := by
  refine fnS_of (P := fun x => x = .ok (.bl true) []) rfl ?_
  unfold b_law
  obtain ⟨fs, ws, base, we, w⟩ := world_eq (ns := ns)
  have we := cP we
  rw [← world_same] at we
  have fh := w.fs.hi
  have fl := w.fs.lo
  have d1 := fun h => callP_cell (ns := ns) (k := 1) (h := h) (by decide)
  have z2 := fun h => callP_mix (s := cellF ns 1) (k := 2) (h := h) (by decide) (by decide)
  obtain ⟨S, hS⟩ : ∃ S, mixF (cellF ns 1) 2 = S := ⟨_, rfl⟩
  rw [hS] at z2
  have L : ∀ h, bLen [fdsD fs] h = .ok (.int (fs.length : Int)) h := fun h => by simp [fdsD]
  have lp : (0 < fs.length) = True := eq_true (by omega)
  have a0 := Int.emod_nonneg S (show (fs.length : Int) ≠ 0 by omega)
  have a1 := Int.emod_lt_of_pos S (show (0 : Int) < fs.length by omega)
  obtain ⟨a, ha⟩ : ∃ a : Nat, S % (fs.length : Int) = a := ⟨(S % (fs.length : Int)).toNat, by omega⟩
  obtain ⟨c, hc⟩ : ∃ c : Nat, S / 8 % 4 = c := ⟨(S / 8 % 4).toNat, by omega⟩
  obtain ⟨R, hR⟩ : ∃ R, List.range fs.length = R := ⟨_, rfl⟩
  have Rl : R.length = fs.length := by rw [← hR, List.length_range]
  have Rm : ∀ k ∈ R, k < fs.length := fun k hk => by rw [← hR] at hk; exact List.mem_range.mp hk
  have nm : rgD 0 fs.length = R.map fun k : Nat => D.int (k : Int) := by rw [nat_map, hR]
  have k1 : VD.cutD (R.map fun k : Nat => D.int (k : Int)) (some (a : Int)) none = (R.drop a).map fun k : Nat => D.int (k : Int) := by rw [cutD_dr (by omega), List.map_drop]; rfl
  have k2 : VD.cutD (R.map fun k : Nat => D.int (k : Int)) none (some (a : Int)) = (R.take a).map fun k : Nat => D.int (k : Int) := by rw [cutD_tk (by omega), List.map_take]; rfl
  obtain ⟨p0, hp0⟩ : ∃ p0 : List Nat, R.drop a ++ R.take a = p0 := ⟨_, rfl⟩
  have k3 : (R.drop a).map (fun k : Nat => D.int (k : Int)) ++ (R.take a).map (fun k : Nat => D.int (k : Int)) = p0.map fun k : Nat => D.int (k : Int) := by rw [← hp0, List.map_append]
  have k4 : VD.cutD (p0.map fun k : Nat => D.int (k : Int)) none (some (c : Int)) = (p0.take c).map fun k : Nat => D.int (k : Int) := by rw [cutD_tk (by omega), List.map_take]; rfl
  have pk : ∀ k ∈ p0, k < fs.length := fun k hk => by
    rw [← hp0] at hk
    rcases List.mem_append.mp hk with hk | hk
    · exact Rm k (List.mem_of_mem_drop hk)
    · exact Rm k (List.mem_of_mem_take hk)
  have sz : (R.length ≤ 16777216) = True := eq_true (by omega)
  have sz2 : (fs.length ≤ 16777216) = True := eq_true (by omega)
  have lpR : (0 < R.length) = True := eq_true (by omega)
  have hcl : (p0.take c).length ≤ 3 := by rw [List.length_take]; omega
  simp (disch := omega) [we, dgk, dg_f, mix_same, cell_same, d1, z2, L, nm, lp, lpR, sz, sz2, Rl, ha, k1, k2, k3, hc, k4, -List.map_take, -List.map_drop, -List.map_append]
  by_cases q : S / 32 % 2 = 1
  · have rv : ((p0.take c).map fun k : Nat => D.int (k : Int)).reverse = ((p0.take c).reverse).map fun k : Nat => D.int (k : Int) := List.map_reverse.symm
    simp [q, rv, -List.map_take, -List.map_reverse]
    exact rest w (fun k hk => pk k (List.mem_of_mem_take (List.mem_reverse.mp hk))) (by rw [List.length_reverse]; exact hcl)
  · simp [q, -List.map_take]
    exact rest w (fun k hk => pk k (List.mem_of_mem_take hk)) hcl
end
end Lk13

namespace Lk13
open PySem PySem.Spec PyProof.Rows L2 VD
noncomputable section
abbrev R0 : PySem.W.OpenRow := PySem.W.OpenLaw.row PySem.Challenge.rw_crosshall_k13_heads_in_order
abbrev hk : PySem.W.Hook := VD.hookE 4 fas dfs efs
def ob (s : PySem.W.SharedT) : He.AlD × Bool := VD.obsE 4 fas dfs efs (HandSHeadRun.getT s)
theorem ob_eq (s : PySem.W.SharedT) : ob s = hk.obs s.abs := VD.obsE_eq (HandSHeadRun.getT_eq s)
def loose : List Str := (["CrossError", "NoField", "field_at", "whole_path", "rank_of", "heads_of", "_law_cell_at", "_law_mix", "_law_heads", "_law_world", "_law_sure_value", "_law_value", "_law_row", "_law_before", "_law_beginnings"] : List Str)
set_option maxHeartbeats 0 in
theorem run (w : World) : HandSHeadRun.RunEq R0 (PySem.W.view R0.prog [19]) hk ob 8000 loose w := by
  intro os
  kernel_rfl
end
end Lk13
open PySem PySem.W PySem.Calls PyProof.Rows
set_option maxHeartbeats 0 in
theorem PySem.Challenge.cw_crosshall_k13_heads_in_order_holds : PySem.Challenge.rw_crosshall_k13_heads_in_order.Holds := by
  w_on; o_law
  refine HandSHeadRun.head_any (r := OpenLaw.row PySem.Challenge.rw_crosshall_k13_heads_in_order) (q := view (OpenLaw.row PySem.Challenge.rw_crosshall_k13_heads_in_order).prog [19]) (H := Lk13.hk) (ob := Lk13.ob) (M := 8000) (loose := Lk13.loose) (d := HandSHeadRun.topDef (OpenLaw.row PySem.Challenge.rw_crosshall_k13_heads_in_order).prog 19) (kwd := []) Lk13.ob_eq
    (by kernel_rfl) (fun s => by kernel_rfl) Lk13.run (by kernel_rfl) (by kernel_rfl) (by kernel_rfl) (by rfl) (by first | assumption | decide +kernel) (by decide +kernel) ⟨rfl, rfl, rfl, rfl, rfl, by decide +kernel⟩ ?hw ?hc
  case hw => w_witness2
  case hc =>
    refine VD.walk_own (lw := PySem.Challenge.rw_crosshall_k13_heads_in_order) (num := 63) (lev := 6) (nm := "_law_script") (CC := L2.CX PySem.Challenge.pw_crosshall_k13_heads_in_order) rfl (by decide) (by kernel_rfl) ⟨rfl, by decide, by decide⟩ ?F (fun _ _ _ _ _ z => VD.cx_false z)
    intro w mg fa h Y G hmg0
    obtain ⟨K, KX, c, ce⟩ := Y
    have hmg : mg ("law" : PySem.Str) = some (.ref fa) := by
      have e : (HandSHeadRun.topDef (OpenLaw.row PySem.Challenge.rw_crosshall_k13_heads_in_order).prog 19).name = ("law" : PySem.Str) := by kernel_rfl
      rw [← e]
      exact hmg0
    have T := Lk13.tx_of KX G c ce
    letI : VD.Wd := ⟨w⟩
    exact VD.law_end KX T.d_law T.g_law hmg (fun fd F s u => by obtain ⟨_, _, _, _, _, _, _, _, _, rfl, _, _⟩ := F.ex; exact .of_eq rfl) (fun base => Lk13.ok_law T) Lk13.law_true

