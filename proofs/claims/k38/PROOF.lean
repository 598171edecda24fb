import PyProof.Rows.All
import Wide.All
import OpenK.AllK
import Wide.FinOn
import HandS.ForMost
import HandS.Exc
import HandS.TryOnly
import HandS.ExcOwn
import HandS.WordsExc
import HandS.IsInst
import HandS.Wide
import HandS.HeadHook1
import HandS.Lambda
import HandS.HeadHook4
import KE.KDictKeyed
import KE.KDictCopyH
import KE.SortKeyHeap
import HandS.Style
import KE.DatumMore
import HandS.SortInts
import HandS.Text
import KE.DataEq
import HandS.More
import HandS.HeadNt
import HandS.Head0
import HandS.Head1
import HandS.Head2
import HandS.HeadEnd
import HandS.HeadHook2
import HandS.Conv
import HandS.ExcIs
import HandS.ExcInit
import HandS.ExcField
import KE.KExcIs
import HandS.SortRule
import HandS.RaiseMore
import PyProof.StrOps2
import HandS.Rev
import HandS.TryMany
import HandS.SetKeys
import HandS.Strs
import HandS.TupSets
import HandS.HotCalls
import HandS.Zip
import HandS.Flt
import HandS.SetFor
import PySem.Challenge.RW_crosshall_k38_whole_what_a_box_could_be
set_option Elab.async false
set_option linter.all false
set_option maxRecDepth 100000
set_option maxHeartbeats 4000000
namespace VD
open PySem PySem.Spec PyProof.Rows L2
/-- the table of code objects of a def of the top; the name of the lambdas in it -/
def tabA (K : PySem.W.Frag) (p : Str) : Addr := (He.cT K (p, none)).2
def tabQ (p : Str) : Str := p ++ ".<locals>." ++ "<lambda>"
inductive D where
  | non | bl (b : Bool) | int (i : Int) | str (x : Str) | lst (xs : List D) | fz (xs : List D) | tup (xs : List D) | cell (n : Nat) | raw (v : V)
  | dct (ks : List Key) (ds : List D) | obj (c : Str) (ks : List Str) (ds : List D) | exv (a dd : Addr) (f : Str) (d : D)
inductive Cell where
  | lst (xs : List D) | dK (kvs : List (Key × D)) | dF (kvs : List (Key × D)) | ins (c : Str) (fs : List (Str × D))
  | dN (w : World) (kvs : List (NestedKey × D))
  | tb (p : Str) (n : Nat)
abbrev VS := List (Option D)
abbrev Hv := List Cell
structure Xn where
  cls : Str
  pay : Option (Str × D)
inductive R (α : Type) where
  | ok (a : α) (h : Hv) | exc (x : Xn) (h : Hv) | stuck
def R.bind {α β : Type} (r : R α) (f : α → Hv → R β) : R β := match r with
  | .ok a h => f a h
  | .exc x h => .exc x h
  | .stuck => .stuck
@[simp] theorem R.bind_ok {α β : Type} (a : α) (h : Hv) (f : α → Hv → R β) : (R.ok a h).bind f = f a h := rfl
@[simp] theorem R.bind_exc {α β : Type} (x : Xn) (h : Hv) (f : α → Hv → R β) : (R.exc x h : R α).bind f = .exc x h := rfl
@[simp] theorem R.bind_stuck {α β : Type} (f : α → Hv → R β) : (R.stuck : R α).bind f = .stuck := rfl
abbrev ES := VS → Hv → R D
abbrev LS := VS → Hv → R (List D)
abbrev CS := VS → Hv → R Bool
inductive RS where
  | next (σ : VS) (h : Hv) | ret (d : D) (h : Hv) | brk (σ : VS) (h : Hv) | cont (σ : VS) (h : Hv) | exc (x : Xn) (σ : VS) (h : Hv) | stuck
abbrev SS := VS → Hv → RS
mutual
def nkD : NestedKey → D
  | .none => .non
  | .num i => .int i
  | .text x => .str x
  | .tup ks => .tup (nkDs ks)
def nkDs : List NestedKey → List D
  | [] => []
  | k :: ks => nkD k :: nkDs ks
end
/-- what stands at a: entries with keys, their tuples, values -/
def NDh (w : World) (a : Addr) (xs : List (NestedKey × Addr × V)) (h : Heap) : Prop := (a == sysModules) = false ∧ xs.length ≤ sizeLine ∧ (∀ x ∈ xs, x.1.depth ≤ 8) ∧ (xs.map (·.1)).Nodup ∧
  ∃ ys : List (NestedKey × Addr × Value), Paired (fun (p : NestedKey × Addr × V) (q : NestedKey × Addr × Value) => p.1 = q.1 ∧ p.2.1 = q.2.1 ∧ RelV p.2.2 q.2.2) xs ys ∧
    ∃ o es ep, h.get? a = some o ∧ o.ExactDict ∧ o.data = .dict es ep ∧ es.toList = ys.map fun y => ⟨y.1.hash w, .ref y.2.1, y.2.2⟩
abbrev NDO (w : World) (a : Addr) (xs : List (NestedKey × Addr × V)) : HO := .ext (NDh w a xs)
section
variable (K : PySem.W.Frag) (φ : List Addr) (S : Hp)
mutual
inductive Rp : V → D → Prop where
  | non : Rp .non .non
  | bl (b : Bool) : Rp (.bl b) (.bl b)
  | int (i : Int) : Rp (.int i) (.int i)
  | str (x : Str) : Rp (.str x) (.str x)
  | lst {a : Addr} {vs : List V} {ds : List D} : S a = some (.lst vs) → RpA vs ds → Rp (.ref a) (.lst ds)
  | fz {a : Addr} {vs : List V} {ds : List D} : SqL K S a vs → RpA vs ds → Rp (.ref a) (.fz ds)
  | tup {a : Addr} {vs : List V} {ds : List D} : SqT K S a vs → RpA vs ds → Rp (.ref a) (.tup ds)
  | cell {a : Addr} {n : Nat} : φ[n]? = some a → Rp (.ref a) (.cell n)
  | raw (v : V) : Rp v (.raw v)
  | dct {a : Addr} {od : Obj} {kv : List (Key × V)} {ks : List Key} {ds : List D} : S a = some (.frz od (.dK kv)) → kv.map (·.1) = ks → RpA (kv.map (·.2)) ds → Rp (.ref a) (.dct ks ds)
  | obj {a dx : Addr} {fv : List (Str × V)} {c : Str} {ks : List Str} {ds : List D} : S a = some (.ins (He.ga K c) dx fv) → fv.map (·.1) = ks → RpA (fv.map (·.2)) ds → Rp (.ref a) (.obj c ks ds)
  | exv {a dd : Addr} {f : Str} {v : V} {d : D} : S dd = some (.xd [(f, v)]) → Rp v d → Rp (.ref a) (.exv a dd f d)
inductive RpA : List V → List D → Prop where
  | nil : RpA [] []
  | cons {v : V} {vs : List V} {d : D} {ds : List D} : Rp v d → RpA vs ds → RpA (v :: vs) (d :: ds)
end
def RpC : Cell → HO → Prop
  | .lst ds, o => ∃ vs, o = .lst vs ∧ RpA K φ S vs ds
  | .dK kvs, o => ∃ kv : List (Key × V), o = .dK kv ∧ kv.map (·.1) = kvs.map (·.1) ∧ RpA K φ S (kv.map (·.2)) (kvs.map (·.2))
  | .dF kvs, o => ∃ (od : Obj) (kv : List (Key × V)), o = .frz od (.dK kv) ∧ kv.map (·.1) = kvs.map (·.1) ∧ RpA K φ S (kv.map (·.2)) (kvs.map (·.2))
  | .ins c fs, o => ∃ dx fv, o = .ins (He.ga K c) dx fv ∧ fv.map (·.1) = fs.map (·.1) ∧ RpA K φ S (fv.map (·.2)) (fs.map (·.2))
  | .dN w kvs, o => ∃ (a : Addr) (xs : List (NestedKey × Addr × V)), o = NDO w a xs ∧ xs.map (·.1) = kvs.map (·.1) ∧ (∀ x ∈ xs, Rp K [] S (.ref x.2.1) (nkD x.1)) ∧ RpA K φ S (xs.map (·.2.2)) (kvs.map (·.2))
  | .tb p n, o => φ[n]? = some (tabA K p) ∧ ∃ ps : Array Value, o = .tbl ps ∧ TriplesOk ps.toList ∧ ∀ (pos : Pos) (cv : Value), codeAmong pos ps.toList = some cv → ∃ c, cv = .ref c ∧ S c = some (LamX.CodeO c (tabQ p))
end
/-- more is known -/
def Ex (H H' : Hp) : Prop := ∀ a o, H a = some o → H' a = some o
theorem Ex.refl (H : Hp) : Ex H H := fun _ _ h => h
theorem Ex.trans {H H1 H2 : Hp} (a : Ex H H1) (b : Ex H1 H2) : Ex H H2 := fun x o h => b x o (a x o h)
theorem Ex.new {H : Hp} {p : Addr} {o : HO} (h : H p = none) : Ex H (upd H p o) := fun a u e => by
  rw [upd_ne (ne_of_none e h)]
  exact e
theorem Ex.rd {H H' : Hp} {a : Addr} {u : HO} (e : Ex H H') (h : Rd H a u) : Rd H' a u := by
  rcases h with h | ⟨o, h⟩
  · exact .inl (e a _ h)
  · exact .inr ⟨o, e a _ h⟩
theorem Ex.sql {K : PySem.W.Frag} {H H' : Hp} {a : Addr} {xs : List V} (e : Ex H H') (h : SqL K H a xs) : SqL K H' a xs := h.imp (fun z => e.rd z) id
theorem Ex.sqt {K : PySem.W.Frag} {H H' : Hp} {a : Addr} {xs : List V} (e : Ex H H') (h : SqT K H a xs) : SqT K H' a xs := h.imp (fun z => e.rd z) id
/-- the cells' addresses only grow -/
def Pre (φ φ' : List Addr) : Prop := ∃ ψ, φ' = φ ++ ψ
theorem Pre.refl (φ : List Addr) : Pre φ φ := ⟨[], (List.append_nil φ).symm⟩
theorem Pre.at {φ φ' : List Addr} (p : Pre φ φ') {n : Nat} {a : Addr} (h : φ[n]? = some a) : φ'[n]? = some a := by
  obtain ⟨ψ, rfl⟩ := p
  rw [List.getElem?_append_left (List.getElem?_eq_some_iff.mp h).1]
  exact h
section
variable {K : PySem.W.Frag} {φ φ' : List Addr} {S S' : Hp}
mutual
theorem Rp.mono (p : Pre φ φ') (e : Ex S S') : ∀ {v : V} {d : D}, Rp K φ S v d → Rp K φ' S' v d
  | _, _, .non => .non
  | _, _, .bl b => .bl b
  | _, _, .int i => .int i
  | _, _, .str x => .str x
  | _, _, .lst h r => .lst (e _ _ h) (RpA.mono p e r)
  | _, _, .fz h r => .fz (e.sql h) (RpA.mono p e r)
  | _, _, .tup h r => .tup (e.sqt h) (RpA.mono p e r)
  | _, _, .cell h => .cell (p.at h)
  | _, _, .raw v => .raw v
  | _, _, .dct h k r => .dct (e _ _ h) k (RpA.mono p e r)
  | _, _, .obj h k r => .obj (e _ _ h) k (RpA.mono p e r)
  | _, _, .exv h r => .exv (e _ _ h) (Rp.mono p e r)
theorem RpA.mono (p : Pre φ φ') (e : Ex S S') : ∀ {vs : List V} {ds : List D}, RpA K φ S vs ds → RpA K φ' S' vs ds
  | _, _, .nil => .nil
  | _, _, .cons r t => .cons (Rp.mono p e r) (RpA.mono p e t)
end
theorem RpC.mono (p : Pre φ φ') (e : Ex S S') {c : Cell} {o : HO} (h : RpC K φ S c o) : RpC K φ' S' c o := by
  cases c with
  | lst ds => obtain ⟨vs, h1, h2⟩ := h; exact ⟨vs, h1, h2.mono p e⟩
  | dK kvs => obtain ⟨vs, h1, h2, h3⟩ := h; exact ⟨vs, h1, h2, h3.mono p e⟩
  | dF kvs => obtain ⟨od, vs, h1, h2, h3⟩ := h; exact ⟨od, vs, h1, h2, h3.mono p e⟩
  | ins C fs => obtain ⟨dx, vs, h1, h2, h3⟩ := h; exact ⟨dx, vs, h1, h2, h3.mono p e⟩
  | dN w kvs => obtain ⟨a, xs, h1, h2, h3, h4⟩ := h; exact ⟨a, xs, h1, h2, fun x hx => (h3 x hx).mono (Pre.refl []) e, h4.mono p e⟩
  | tb m n => obtain ⟨h0, ps, h1, h2, h3⟩ := h; exact ⟨p.at h0, ps, h1, h2, fun pos cv hc => let ⟨c, e1, e2⟩ := h3 pos cv hc; ⟨c, e1, e _ _ e2⟩⟩
theorem RpA.length {vs : List V} {ds : List D} : RpA K φ S vs ds → vs.length = ds.length := by
  intro h
  induction ds generalizing vs with
  | nil => cases h; rfl
  | cons d ds ih =>
    cases h with
    | cons r t => rw [List.length_cons, List.length_cons, ih t]
theorem RpA.at {vs : List V} {ds : List D} (h : RpA K φ S vs ds) {i : Nat} {d : D} (hd : ds[i]? = some d) : ∃ v, vs[i]? = some v ∧ Rp K φ S v d := by
  induction ds generalizing vs i with
  | nil => simp at hd
  | cons d' ds ih =>
    cases h with
    | cons r t =>
      cases i with
      | zero =>
        rw [List.getElem?_cons_zero] at hd ⊢
        cases hd
        exact ⟨_, rfl, r⟩
      | succ i =>
        rw [List.getElem?_cons_succ] at hd ⊢
        exact ih t hd
theorem RpA.append {vs ws : List V} {ds es : List D} (h : RpA K φ S vs ds) (k : RpA K φ S ws es) : RpA K φ S (vs ++ ws) (ds ++ es) := by
  induction ds generalizing vs with
  | nil => cases h; exact k
  | cons d ds ih =>
    cases h with
    | cons r t => exact .cons r (ih t)
theorem RpA.set {vs : List V} {ds : List D} {v : V} {d : D} (h : RpA K φ S vs ds) (r : Rp K φ S v d) (i : Nat) : RpA K φ S (vs.set i v) (ds.set i d) := by
  induction ds generalizing vs i with
  | nil => cases h; exact .nil
  | cons d' ds ih =>
    cases h with
    | cons r' t =>
      cases i with
      | zero => exact .cons r t
      | succ i => exact .cons r' (ih t i)
theorem RpA.take {vs : List V} {ds : List D} (h : RpA K φ S vs ds) (i : Nat) : RpA K φ S (vs.take i) (ds.take i) := by
  induction ds generalizing vs i with
  | nil => cases h; rw [List.take_nil, List.take_nil]; exact .nil
  | cons d' ds ih =>
    cases h with
    | cons r' t =>
      cases i with
      | zero => exact .nil
      | succ i => exact .cons r' (ih t i)
theorem RpA.drop {vs : List V} {ds : List D} (h : RpA K φ S vs ds) (i : Nat) : RpA K φ S (vs.drop i) (ds.drop i) := by
  induction ds generalizing vs i with
  | nil => cases h; rw [List.drop_nil, List.drop_nil]; exact .nil
  | cons d' ds ih =>
    cases h with
    | cons r' t =>
      cases i with
      | zero => exact .cons r' t
      | succ i => exact ih t i
theorem RpA.reverse {vs : List V} {ds : List D} (h : RpA K φ S vs ds) : RpA K φ S vs.reverse ds.reverse := by
  induction ds generalizing vs with
  | nil => cases h; exact .nil
  | cons d ds ih =>
    cases h with
    | cons r t =>
      rw [List.reverse_cons, List.reverse_cons]
      exact (ih t).append (.cons r .nil)
theorem RpA.ints {vs : List V} {ns : List Int} (h : RpA K φ S vs (ns.map .int)) : vs = ns.map .int := by
  induction ns generalizing vs with
  | nil => cases h; rfl
  | cons n ns ih =>
    cases h with
    | cons r t =>
      cases r
      rw [ih t]
      rfl
theorem RpA.of_ints (ns : List Int) : RpA K φ S (ns.map .int) (ns.map .int) := by
  induction ns with
  | nil => exact .nil
  | cons n ns ih => exact .cons (.int n) ih
end
structure Rel (K : PySem.W.Frag) (φ : List Addr) (S H : Hp) (h : Hv) : Prop where
  len : φ.length = h.length
  sub : Ex S H
  nd : φ.Nodup
  cel : ∀ (n : Nat) (a : Addr) (c : Cell), φ[n]? = some a → h[n]? = some c → S a = none ∧ ∃ o, H a = some o ∧ RpC K φ S c o
structure Step (φ : List Addr) (S H : Hp) (φ' : List Addr) (S' H' : Hp) : Prop where
  pre : ∃ ψ, φ' = φ ++ ψ ∧ ∀ a ∈ ψ, H a = none
  sub : Ex S S'
  old : ∀ a, H a ≠ none → S' a = S a
  keep : ∀ a o, H a = some o → a ∉ φ → H' a = some o
  there : ∀ a, H a ≠ none → H' a ≠ none
  frz : ∀ a od u, H a = some (.frz od u) → H' a = some (.frz od u)
theorem Step.refl (φ : List Addr) (S H : Hp) : Step φ S H φ S H := ⟨⟨[], (List.append_nil φ).symm, fun _ z => nomatch z⟩, Ex.refl S, fun _ _ => rfl, fun _ _ e _ => e, fun _ z => z, fun _ _ _ z => z⟩
theorem Step.prefix {φ φ' : List Addr} {S H S' H' : Hp} (s : Step φ S H φ' S' H') : Pre φ φ' := let ⟨ψ, e, _⟩ := s.pre; ⟨ψ, e⟩
theorem Step.trans {φ φ1 φ2 : List Addr} {S H S1 H1 S2 H2 : Hp} (a : Step φ S H φ1 S1 H1) (b : Step φ1 S1 H1 φ2 S2 H2) : Step φ S H φ2 S2 H2 := by
  obtain ⟨⟨ψ, e, hn⟩, a2, a3, a4, a5, a6⟩ := a
  obtain ⟨⟨ψ', e', hn'⟩, b2, b3, b4, b5, b6⟩ := b
  have nil : ∀ a, H1 a = none → H a = none := fun a z => by
    cases q : H a with
    | none => rfl
    | some o => exact absurd z (a5 a (by rw [q]; exact fun y => nomatch y))
  refine ⟨⟨ψ ++ ψ', by rw [e', e, List.append_assoc], fun x hx => ?_⟩, a2.trans b2, fun x hx => (b3 x (a5 x hx)).trans (a3 x hx), fun x o hx hn2 => ?_, fun x hx => b5 x (a5 x hx), fun x o u z => b6 x o u (a6 x o u z)⟩
  · rcases List.mem_append.mp hx with z | z
    · exact hn x z
    · exact nil x (hn' x z)
  · refine b4 x o (a4 x o hx hn2) fun z => ?_
    rw [e] at z
    rcases List.mem_append.mp z with z | z
    · exact hn2 z
    · have := hn x z
      rw [this] at hx
      cases hx
theorem Step.fresh {φ φ' : List Addr} {S H S' H' : Hp} (s : Step φ S H φ' S' H') {a : Addr} (h : H' a = none) : H a = none := by
  cases q : H a with
  | none => rfl
  | some o => exact absurd h (s.there a (by rw [q]; exact fun y => nomatch y))
theorem Rel.at {K : PySem.W.Frag} {φ : List Addr} {S H : Hp} {h : Hv} (r : Rel K φ S H h) {n : Nat} {a : Addr} (e : φ[n]? = some a) : ∃ c, h[n]? = some c := by
  have h1 := (List.getElem?_eq_some_iff.mp e).1
  rw [r.len] at h1
  exact ⟨_, List.getElem?_eq_getElem h1⟩
theorem Rel.mem {K : PySem.W.Frag} {φ : List Addr} {S H : Hp} {h : Hv} (r : Rel K φ S H h) {a : Addr} (e : a ∈ φ) : S a = none ∧ H a ≠ none := by
  obtain ⟨n, hn⟩ := List.getElem?_of_mem e
  obtain ⟨c, hc⟩ := r.at hn
  obtain ⟨h1, o, h2, _⟩ := r.cel n a c hn hc
  exact ⟨h1, by rw [h2]; exact fun z => nomatch z⟩
theorem Rel.snone {K : PySem.W.Frag} {φ : List Addr} {S H : Hp} {h : Hv} (r : Rel K φ S H h) {a : Addr} (e : H a = none) : S a = none := by
  cases q : S a with
  | none => rfl
  | some o =>
    rw [r.sub a o q] at e
    cases e
theorem Rel.notin {K : PySem.W.Frag} {φ : List Addr} {S H : Hp} {h : Hv} (r : Rel K φ S H h) {a : Addr} (e : H a = none) : a ∉ φ := fun z => (r.mem z).2 e
/-- a new thing that never changes -/
theorem Rel.lay {K : PySem.W.Frag} {φ : List Addr} {S H : Hp} {h : Hv} (r : Rel K φ S H h) {p : Addr} {o : HO} (hp : H p = none) : Rel K φ (upd S p o) (upd H p o) h ∧ Step φ S H φ (upd S p o) (upd H p o) := by
  have sp := r.snone hp
  refine ⟨⟨r.len, fun a u e => ?_, r.nd, fun n a c e1 e2 => ?_⟩, ⟨⟨[], (List.append_nil φ).symm, fun _ z => nomatch z⟩, Ex.new sp, fun a ha => ?_, fun a u e _ => ?_, fun a ha => ?_, fun a o' u e => by rw [upd_ne (ne_of_none e hp)]; exact e⟩⟩
  · by_cases q : a = p
    · subst q
      rw [upd_same] at e ⊢
      exact e
    · rw [upd_ne q] at e ⊢
      exact r.sub a u e
  · obtain ⟨h1, o', h2, h3⟩ := r.cel n a c e1 e2
    have q : a ≠ p := ne_of_none h2 hp
    exact ⟨by rw [upd_ne q]; exact h1, o', by rw [upd_ne q]; exact h2, h3.mono (Pre.refl φ) (Ex.new sp)⟩
  · have q : a ≠ p := fun z => ha (by rw [z]; exact hp)
    rw [upd_ne q]
  · rw [upd_ne (ne_of_none e hp)]
    exact e
  · have q : a ≠ p := fun z => ha (by rw [z]; exact hp)
    rw [upd_ne q]
    exact ha
/-- a new thing, known to the heap alone -/
theorem Rel.hold {K : PySem.W.Frag} {φ : List Addr} {S H : Hp} {h : Hv} (r : Rel K φ S H h) {p : Addr} {o : HO} (hp : H p = none) : Rel K φ S (upd H p o) h ∧ Step φ S H φ S (upd H p o) := by
  refine ⟨⟨r.len, r.sub.trans (Ex.new hp), r.nd, fun n a c e1 e2 => ?_⟩, ⟨⟨[], (List.append_nil φ).symm, fun _ z => nomatch z⟩, Ex.refl S, fun a ha => rfl, fun a u e _ => ?_, fun a ha => ?_, fun a o' u e => by rw [upd_ne (ne_of_none e hp)]; exact e⟩⟩
  · obtain ⟨h1, o', h2, h3⟩ := r.cel n a c e1 e2
    have q : a ≠ p := ne_of_none h2 hp
    exact ⟨h1, o', by rw [upd_ne q]; exact h2, h3⟩
  · rw [upd_ne (ne_of_none e hp)]
    exact e
  · have q : a ≠ p := fun z => ha (by rw [z]; exact hp)
    rw [upd_ne q]
    exact ha
/-- what is held becomes what never changes -/
theorem Rel.still {K : PySem.W.Frag} {φ : List Addr} {S H : Hp} {h : Hv} (r : Rel K φ S H h) {p : Addr} {o : HO} (hp : H p = some o) (hs : S p = none) (hn : p ∉ φ) : Rel K φ (upd S p o) H h := by
  refine ⟨r.len, fun a u e => ?_, r.nd, fun n a c e1 e2 => ?_⟩
  · by_cases q : a = p
    · subst q
      rw [upd_same] at e
      rw [hp]
      exact e
    · rw [upd_ne q] at e
      exact r.sub a u e
  · obtain ⟨h1, o', h2, h3⟩ := r.cel n a c e1 e2
    have q : a ≠ p := fun z => hn (by rw [← z]; exact List.mem_of_getElem? e1)
    exact ⟨by rw [upd_ne q]; exact h1, o', h2, h3.mono (Pre.refl φ) (Ex.new hs)⟩
/-- what is held becomes a cell -/
theorem Rel.celled {K : PySem.W.Frag} {φ : List Addr} {S H : Hp} {h : Hv} (r : Rel K φ S H h) {p : Addr} {o : HO} {c : Cell} (hp : H p = some o) (hs : S p = none) (hn : p ∉ φ) (hc : RpC K φ S c o) : Rel K (φ ++ [p]) S H (h ++ [c]) := by
  have pr : Pre φ (φ ++ [p]) := ⟨[p], rfl⟩
  refine ⟨by rw [List.length_append, List.length_append, r.len]; rfl, r.sub, List.nodup_append.mpr ⟨r.nd, List.nodup_cons.mpr ⟨List.not_mem_nil, List.nodup_nil⟩, fun a ha b hb => ?_⟩, fun n a c' e1 e2 => ?_⟩
  · rw [List.mem_singleton] at hb
    subst hb
    exact fun z => hn (by rw [← z]; exact ha)
  · by_cases hl : n < φ.length
    · rw [List.getElem?_append_left hl] at e1
      rw [List.getElem?_append_left (by rw [← r.len]; exact hl)] at e2
      obtain ⟨h1, o', h2, h3⟩ := r.cel n a c' e1 e2
      exact ⟨h1, o', h2, h3.mono pr (Ex.refl S)⟩
    · have hl2 := (List.getElem?_eq_some_iff.mp e1).1
      rw [List.length_append, List.length_singleton] at hl2
      have en : n = φ.length := by omega
      subst en
      rw [List.getElem?_append_right (Nat.le_refl _), Nat.sub_self] at e1
      rw [r.len, List.getElem?_append_right (Nat.le_refl _), Nat.sub_self] at e2
      cases e1
      cases e2
      exact ⟨hs, o, hp, hc.mono pr (Ex.refl S)⟩
/-- a cell is written -/
theorem Rel.put {K : PySem.W.Frag} {φ : List Addr} {S H : Hp} {h : Hv} (r : Rel K φ S H h) {n : Nat} {a : Addr} {o : HO} {c : Cell} (hn : φ[n]? = some a) (hc : RpC K φ S c o) {u0 : HO} (hu : H a = some u0) (nf : ∀ od u, u0 ≠ .frz od u := by exact fun _ _ z => nomatch z) : Rel K φ S (upd H a o) (h.set n c) ∧ Step φ S H φ S (upd H a o) := by
  obtain ⟨c0, hc0⟩ := r.at hn
  obtain ⟨sa, o0, ho0, _⟩ := r.cel n a c0 hn hc0
  refine ⟨⟨by rw [List.length_set]; exact r.len, fun b u e => ?_, r.nd, fun m b c' e1 e2 => ?_⟩, ⟨⟨[], (List.append_nil φ).symm, fun _ z => nomatch z⟩, Ex.refl S, fun b hb => rfl, fun b u e hb => ?_, fun b hb => ?_, fun b od u e => by rw [upd_ne (fun z => by rw [z, hu] at e; exact nf od u (Option.some.inj e))]; exact e⟩⟩
  · have q : b ≠ a := ne_of_none e sa
    rw [upd_ne q]
    exact r.sub b u e
  · by_cases q : m = n
    · subst q
      rw [hn] at e1
      cases e1
      rw [List.getElem?_set_self (List.getElem?_eq_some_iff.mp hc0).1] at e2
      cases e2
      exact ⟨sa, o, upd_same, hc⟩
    · rw [List.getElem?_set_ne (Ne.symm q)] at e2
      obtain ⟨h1, o', h2, h3⟩ := r.cel m b c' e1 e2
      have ne : b ≠ a := fun z => by
        subst z
        exact q (nd_ix r.nd e1 hn)
      exact ⟨h1, o', by rw [upd_ne ne]; exact h2, h3⟩
  · have ne : b ≠ a := fun z => hb (by rw [z]; exact List.mem_of_getElem? hn)
    rw [upd_ne ne]
    exact e
  · by_cases ne : b = a
    · subst ne
      rw [upd_same]
      exact fun z => nomatch z
    · rw [upd_ne ne]
      exact hb
structure RelS (K : PySem.W.Frag) (φ : List Addr) (S : Hp) (σv : VS) (σ : L2.St) : Prop where
  len : σ.length = σv.length
  at_ : ∀ (i : Nat) (d : D), σv[i]? = some (some d) → ∃ v, σ[i]? = some (some v) ∧ Rp K φ S v d
section
variable {K : PySem.W.Frag} {φ φ' : List Addr} {S S' : Hp} {σv : VS} {σ : L2.St}
theorem RelS.mono (r : RelS K φ S σv σ) (p : Pre φ φ') (e : Ex S S') : RelS K φ' S' σv σ := ⟨r.len, fun i d hd => let ⟨v, h1, h2⟩ := r.at_ i d hd; ⟨v, h1, h2.mono p e⟩⟩
theorem RelS.step (r : RelS K φ S σv σ) {H H' : Hp} (s : Step φ S H φ' S' H') : RelS K φ' S' σv σ := r.mono s.prefix s.sub
theorem RelS.set (r : RelS K φ S σv σ) {v : V} {d : D} (h : Rp K φ S v d) (i : Nat) : RelS K φ S (σv.set i (some d)) (σ.set i (some v)) := by
  refine ⟨by rw [List.length_set, List.length_set]; exact r.len, fun j e he => ?_⟩
  by_cases q : j = i
  · subst q
    have hl := (List.getElem?_eq_some_iff.mp he).1
    rw [List.length_set] at hl
    rw [List.getElem?_set_self hl] at he
    cases he
    exact ⟨v, List.getElem?_set_self (by rw [r.len]; exact hl), h⟩
  · rw [List.getElem?_set_ne (Ne.symm q)] at he ⊢
    exact r.at_ j e he
theorem RelS.unset (r : RelS K φ S σv σ) (i : Nat) (o : Option V) : RelS K φ S (σv.set i none) (σ.set i o) := by
  refine ⟨by rw [List.length_set, List.length_set]; exact r.len, fun j e he => ?_⟩
  by_cases q : j = i
  · subst q
    have hl := (List.getElem?_eq_some_iff.mp he).1
    rw [List.length_set] at hl
    rw [List.getElem?_set_self hl] at he
    cases he
  · rw [List.getElem?_set_ne (Ne.symm q)] at he ⊢
    exact r.at_ j e he
end
end VD
set_option Elab.async false
set_option linter.all false
set_option maxRecDepth 100000
set_option maxHeartbeats 4000000
namespace VD
open PySem PySem.Spec PyProof.Rows L2
def RpX (K : PySem.W.Frag) (φ : List Addr) (S H : Hp) (x : Xn) (cls : Value) (dd : Option Addr) : Prop :=
  cls = .ref (He.ga K x.cls) ∧ match x.pay with
    | none => dd = none
    | some (f, d) => ∃ dx v, dd = some dx ∧ S dx = some (.xd [(f, v)]) ∧ Rp K φ S v d
/-- how a result stands: the heap ahead, then cells, what is still, the heap behind -/
abbrev Rep (α β : Type) := Hp → List Addr → Hp → Hp → β → α → Prop
class Rep.Up {α β : Type} (rep : Rep α β) : Prop where
  up : ∀ {φ S H φ1 S1 H1 φ' S' H' b a}, Step φ S H φ1 S1 H1 → rep H1 φ' S' H' b a → rep H φ' S' H' b a
def repV (K : PySem.W.Frag) : Rep D V := fun _ φ' S' _ v d => Rp K φ' S' v d
def repA (K : PySem.W.Frag) : Rep (List D) (List V) := fun _ φ' S' _ v d => RpA K φ' S' v d
def repB : Rep Bool Bool := fun _ _ _ _ b a => b = a
/-- a new list -/
def repL (K : PySem.W.Frag) : Rep (List D) V := fun H φ' S' H' v ds => ∃ p vs, v = .ref p ∧ H p = none ∧ H' p = some (.lst vs) ∧ S' p = none ∧ p ∉ φ' ∧ RpA K φ' S' vs ds
instance {K : PySem.W.Frag} : Rep.Up (repV K) := ⟨fun _ h => h⟩
instance {K : PySem.W.Frag} : Rep.Up (repA K) := ⟨fun _ h => h⟩
instance : Rep.Up repB := ⟨fun _ h => h⟩
instance {K : PySem.W.Frag} : Rep.Up (repL K) := ⟨fun s ⟨p, vs, h1, h2, h3⟩ => ⟨p, vs, h1, s.fresh h2, h3⟩⟩
def Post {α β : Type} (K : PySem.W.Frag) (rep : Rep α β) (φ : List Addr) (S H : Hp) (r : R α) (Q : β → Hp → Prop) (E : XK) : Prop := match r with
  | .ok a h' => ∀ b φ' S' H', Rel K φ' S' H' h' → Step φ S H φ' S' H' → rep H φ' S' H' b a → Q b H'
  | .exc x h' => ∀ cls dd φ' S' H', Rel K φ' S' H' h' → Step φ S H φ' S' H' → RpX K φ' S' H' x cls dd → E cls dd H'
  | .stuck => False
theorem Post.up {α β : Type} {K : PySem.W.Frag} {rep : Rep α β} [Rep.Up rep] {φ φ1 : List Addr} {S H S1 H1 : Hp} {r : R α} {Q : β → Hp → Prop} {E : XK} (s : Step φ S H φ1 S1 H1) (p : Post K rep φ S H r Q E) : Post K rep φ1 S1 H1 r Q E := by
  cases r with
  | ok a h' => exact fun b φ' S' H' rl st rp => p b φ' S' H' rl (s.trans st) (Rep.Up.up s rp)
  | exc x h' => exact fun cls dd φ' S' H' rl st rp => p cls dd φ' S' H' rl (s.trans st) rp
  | stuck => exact p
theorem Post.imp {α β : Type} {K : PySem.W.Frag} {rep : Rep α β} {φ : List Addr} {S H : Hp} {r : R α} {Q Q' : β → Hp → Prop} {E E' : XK} (p : Post K rep φ S H r Q E) (h : ∀ b H', Q b H' → Q' b H') (he : ∀ c d H', E c d H' → E' c d H') : Post K rep φ S H r Q' E' := by
  cases r with
  | ok a h' => exact fun b φ' S' H' rl st rp => h _ _ (p b φ' S' H' rl st rp)
  | exc x h' => exact fun cls dd φ' S' H' rl st rp => he _ _ _ (p cls dd φ' S' H' rl st rp)
  | stuck => exact p
/-- the reading t is kept by es: in every state, what es tells comes -/
structure Sn {α β : Type} (K : PySem.W.Frag) (rep : Rep α β) (W : WX) (t : L2.St → Hp → (β → Hp → Prop) → Prop) (es : VS → Hv → R α) : Prop where
  run : ∀ {φ : List Addr} {S H : Hp} {h : Hv} {σv : VS} {σ : L2.St} {Q : β → Hp → Prop}, Rel K φ S H h → RelS K φ S σv σ → Post K rep φ S H (es σv h) Q (fun c d H' => W c d σ H') → t σ H Q
theorem Sn.bind {α β γ δ : Type} {K : PySem.W.Frag} {rep : Rep α β} {rep2 : Rep γ δ} [Rep.Up rep2] {W : WX} {t : L2.St → Hp → (β → Hp → Prop) → Prop} {ea : VS → Hv → R α} {f : α → Hv → R γ}
    {φ : List Addr} {S H : Hp} {h : Hv} {σv : VS} {σ : L2.St} {Q : δ → Hp → Prop} {Q1 : β → Hp → Prop}
    (ha : Sn K rep W t ea) (rl : Rel K φ S H h) (rs : RelS K φ S σv σ) (post : Post K rep2 φ S H ((ea σv h).bind f) Q (fun c d H' => W c d σ H'))
    (k : ∀ a h1 b φ1 S1 H1, Rel K φ1 S1 H1 h1 → RelS K φ1 S1 σv σ → Step φ S H φ1 S1 H1 → rep H φ1 S1 H1 b a → Post K rep2 φ1 S1 H1 (f a h1) Q (fun c d H' => W c d σ H') → Q1 b H1) : t σ H Q1 := by
  refine ha.run rl rs ?_
  cases q : ea σv h with
  | ok a h1 =>
    rw [q] at post
    exact fun b φ1 S1 H1 rl1 st rp => k a h1 b φ1 S1 H1 rl1 (rs.step st) st rp (Post.up st post)
  | exc x h1 =>
    rw [q] at post
    exact post
  | stuck =>
    rw [q] at post
    exact post
def SE (X : Cx) (W : WX) (e : Expr) (es : ES) : Prop := ∃ te, PE X e te ∧ Sn X.K (repV X.K) W te es
def SL (X : Cx) (W : WX) (e : Expr) (es : LS) : Prop := ∃ te, PE X e te ∧ Sn X.K (repL X.K) W te es
def ST (X : Cx) (W : WX) (e : Expr) (es : CS) : Prop := ∃ te, PT X e te ∧ Sn X.K repB W te es
def SW (X : Cx) (W : WX) (e : Expr) (es : CS) : Prop := ∃ te, PW X e te ∧ Sn X.K repB W te es
def SA (X : Cx) (W : WX) (es : List Expr) (as : LS) : Prop := ∃ te, PA X es te ∧ Sn X.K (repA X.K) W te as
theorem Step.still {φ φ1 : List Addr} {S H S1 H1 : Hp} (s : Step φ S H φ1 S1 H1) {p : Addr} {o : HO} (hp : H p = none) (hs : S1 p = none) : Step φ S H φ1 (upd S1 p o) H1 :=
  ⟨s.pre, s.sub.trans (Ex.new hs), fun a ha => by
    have q : a ≠ p := fun z => ha (by rw [z]; exact hp)
    rw [upd_ne q]
    exact s.old a ha, s.keep, s.there, s.frz⟩
theorem Step.celled {φ φ1 : List Addr} {S H S1 H1 : Hp} (s : Step φ S H φ1 S1 H1) {p : Addr} (hp : H p = none) : Step φ S H (φ1 ++ [p]) S1 H1 := by
  obtain ⟨⟨ψ, e, hn⟩, s2, s3, s4, s5, s6⟩ := s
  refine ⟨⟨ψ ++ [p], by rw [e, List.append_assoc], fun a ha => ?_⟩, s2, s3, s4, s5, s6⟩
  rcases List.mem_append.mp ha with z | z
  · exact hn a z
  · rw [List.mem_singleton.mp z]
    exact hp
/-- from one result to the next -/
theorem Post.map {α β γ δ : Type} {K : PySem.W.Frag} {rep : Rep α β} {rep2 : Rep γ δ} {φ : List Addr} {S H : Hp} {r : R α} {f : α → Hv → R γ} {Q1 : β → Hp → Prop} {Q : δ → Hp → Prop} {E : XK} (post : Post K rep2 φ S H (r.bind f) Q E)
    (k : ∀ a h1 b φ1 S1 H1, Rel K φ1 S1 H1 h1 → Step φ S H φ1 S1 H1 → rep H φ1 S1 H1 b a → Post K rep2 φ S H (f a h1) Q E → Q1 b H1) : Post K rep φ S H r Q1 E := by
  cases r with
  | ok a h1 => exact fun b φ1 S1 H1 rl st rp => k a h1 b φ1 S1 H1 rl st rp post
  | exc x h1 => exact post
  | stuck => exact post
section
variable {X : Cx} {W : WX} {e a b c : Expr} {es : List Expr} {pos : Pos} {fa fb fc : ES} {la lb : LS} {ca cb : CS}
/-- a list that is new stays as it is -/
def eV (f : LS) : ES := fun σ h => (f σ h).bind fun ds h' => .ok (.lst ds) h'
theorem se_V (h : SL X W e la) : SE X W e (eV la) := by
  obtain ⟨te, h1, h2⟩ := h
  refine ⟨te, h1, ⟨fun rl rs post => h2.run rl rs (post.map fun ds h1 v φ1 S1 H1 rl1 st rp post => ?_)⟩⟩
  obtain ⟨p, vs, rfl, hp, hp1, hs1, hn1, ra⟩ := rp
  exact post (.ref p) φ1 _ H1 (rl1.still hp1 hs1 hn1) (st.still hp hs1) (.lst upd_same (ra.mono (Pre.refl _) (Ex.new hs1)))
/-- .. or is a cell -/
def eC (f : LS) : ES := fun σ h => (f σ h).bind fun ds h' => .ok (.cell h'.length) (h' ++ [.lst ds])
theorem se_C (h : SL X W e la) : SE X W e (eC la) := by
  obtain ⟨te, h1, h2⟩ := h
  refine ⟨te, h1, ⟨fun rl rs post => h2.run rl rs (post.map fun ds h1 v φ1 S1 H1 rl1 st rp post => ?_)⟩⟩
  obtain ⟨p, vs, rfl, hp, hp1, hs1, hn1, ra⟩ := rp
  refine post (.ref p) (φ1 ++ [p]) S1 H1 (rl1.celled hp1 hs1 hn1 ⟨vs, rfl, ra⟩) (st.celled hp) (.cell ?_)
  rw [← rl1.len, List.getElem?_append_right (Nat.le_refl _), Nat.sub_self]
  rfl
def eVar (i : Nat) : ES := fun σ h => match σ[i]? with
  | some (some d) => .ok d h
  | _ => .stuck
theorem se_var {i : Nat} {x : Str} (hN : X.N[i]? = some x := by rfl) (hv : Vis X.env.scope x := by first | exact Or.inl rfl | exact Or.inr (Or.inl rfl) | exact Or.inr (Or.inr rfl)) (hd : (x == ("__debug__" : Str)) = false := by decide)
    (hcd : (x == ("__classdict__" : Str)) = false := by decide) : SE X W (.Name x pos) (eVar i) := by
  refine ⟨_, pe_var hN hv hd hcd, ⟨fun {φ S H h σv σ Q} rl rs post => ?_⟩⟩
  unfold eVar at post
  cases q : σv[i]? with
  | none => rw [q] at post; exact post.elim
  | some o =>
    cases o with
    | none => rw [q] at post; exact post.elim
    | some d =>
      rw [q] at post
      obtain ⟨v, h1, h2⟩ := rs.at_ i d q
      exact ⟨v, h1, post v φ S H rl (Step.refl _ _ _) h2⟩
def eK (d : D) : ES := fun _ h => .ok d h
theorem se_k {v : V} {d : D} (h : PE X e (tC v)) (r : ∀ K φ S, Rp K φ S v d) : SE X W e (eK d) := ⟨_, h, ⟨fun {φ S H h σv σ Q} rl rs post => post v φ S H rl (Step.refl _ _ _) (r _ _ _)⟩⟩
theorem se_int {i j} : SE X W (.Constant (.int i) j pos) (eK (.int i)) := se_k pe_int fun _ _ _ => .int i
theorem se_bl {i j} : SE X W (.Constant (.bool i) j pos) (eK (.bl i)) := se_k pe_bl fun _ _ _ => .bl i
theorem se_non {j} : SE X W (.Constant .none j pos) (eK .non) := se_k pe_non fun _ _ _ => .non
def OpS (K : PySem.W.Frag) (r : R2) (ro : D → D → Hv → R D) : Prop := ∀ {φ : List Addr} {S H : Hp} {h : Hv} {x y : D} {v u : V} {Q : VK} {E : XK}, Rel K φ S H h → Rp K φ S v x → Rp K φ S u y → Post K (repV K) φ S H (ro x y h) Q E → r v u H Q
def OpL (K : PySem.W.Frag) (r : R2) (ro : D → D → Hv → R (List D)) : Prop := ∀ {φ : List Addr} {S H : Hp} {h : Hv} {x y : D} {v u : V} {Q : VK} {E : XK}, Rel K φ S H h → Rp K φ S v x → Rp K φ S u y → Post K (repL K) φ S H (ro x y h) Q E → r v u H Q
def UnS (K : PySem.W.Frag) (r : V → Hp → VK → Prop) (ro : D → Hv → R D) : Prop := ∀ {φ : List Addr} {S H : Hp} {h : Hv} {x : D} {v : V} {Q : VK} {E : XK}, Rel K φ S H h → Rp K φ S v x → Post K (repV K) φ S H (ro x h) Q E → r v H Q
def eOp {α : Type} (ro : D → D → Hv → R α) (fa fb : ES) : VS → Hv → R α := fun σ h => (fa σ h).bind fun x h1 => (fb σ h1).bind fun y h2 => ro x y h2
def eUn (ro : D → Hv → R D) (fa : ES) : ES := fun σ h => (fa σ h).bind fun x h1 => ro x h1
theorem sn_op {ta tb : TE} {r : R2} {ro : D → D → Hv → R D} (hr : OpS X.K r ro) (h2 : Sn X.K (repV X.K) W ta fa) (k2 : Sn X.K (repV X.K) W tb fb) : Sn X.K (repV X.K) W (tOp r ta tb) (eOp ro fa fb) := ⟨fun rl rs post =>
  h2.bind rl rs post fun x h1 v φ1 S1 H1 rl1 rs1 st rp post =>
  k2.bind rl1 rs1 post fun y h2 u φ2 S2 H2 rl2 rs2 st2 rp2 post =>
  hr rl2 (Rp.mono st2.prefix st2.sub rp) rp2 post⟩
theorem sn_opL {ta tb : TE} {r : R2} {ro : D → D → Hv → R (List D)} (hr : OpL X.K r ro) (h2 : Sn X.K (repV X.K) W ta fa) (k2 : Sn X.K (repV X.K) W tb fb) : Sn X.K (repL X.K) W (tOp r ta tb) (eOp ro fa fb) := ⟨fun rl rs post =>
  h2.bind rl rs post fun x h1 v φ1 S1 H1 rl1 rs1 st rp post =>
  k2.bind rl1 rs1 post fun y h2 u φ2 S2 H2 rl2 rs2 st2 rp2 post =>
  hr rl2 (Rp.mono st2.prefix st2.sub rp) rp2 post⟩
theorem se_op {op : Operator} {r : R2} {ro : D → D → Hv → R D} (ho : OpR X (binaryOp op) r) (hr : OpS X.K r ro) (ha : SE X W a fa) (hb : SE X W b fb) : SE X W (.BinOp a op b pos) (eOp ro fa fb) := by
  obtain ⟨ta, h1, h2⟩ := ha
  obtain ⟨tb, k1, k2⟩ := hb
  exact ⟨_, pe_op ho h1 k1, sn_op hr h2 k2⟩
theorem sl_op {op : Operator} {r : R2} {ro : D → D → Hv → R (List D)} (ho : OpR X (binaryOp op) r) (hr : OpL X.K r ro) (ha : SE X W a fa) (hb : SE X W b fb) : SL X W (.BinOp a op b pos) (eOp ro fa fb) := by
  obtain ⟨ta, h1, h2⟩ := ha
  obtain ⟨tb, k1, k2⟩ := hb
  exact ⟨_, pe_op ho h1 k1, sn_opL hr h2 k2⟩
theorem se_cmp {op : CmpOp} {r : R2} {ro : D → D → Hv → R D} (ho : OpR X (compareOp op) r) (hr : OpS X.K r ro) (ha : SE X W a fa) (hb : SE X W b fb) (hm : behindInMarks op b = false) : SE X W (.Compare a [op] [b] pos) (eOp ro fa fb) := by
  obtain ⟨ta, h1, h2⟩ := ha
  obtain ⟨tb, k1, k2⟩ := hb
  exact ⟨_, pe_cmpR ho h1 k1 hm, sn_op hr h2 k2⟩
theorem sn_un {ta : TE} {r : V → Hp → VK → Prop} {ro : D → Hv → R D} (hr : UnS X.K r ro) (h2 : Sn X.K (repV X.K) W ta fa) : Sn X.K (repV X.K) W (tUn r ta) (eUn ro fa) := ⟨fun rl rs post =>
  h2.bind rl rs post fun x h1 v φ1 S1 H1 rl1 rs1 st rp post => hr rl1 rp post⟩
theorem se_un {op : UnaryOp} {r : V → Hp → VK → Prop} {ro : D → Hv → R D} (ho : UnR X (unaryOp op) r) (hr : UnS X.K r ro) (ha : SE X W a fa) : SE X W (.UnaryOp op a pos) (eUn ro fa) := by
  obtain ⟨ta, h1, h2⟩ := ha
  exact ⟨_, pe_un ho h1, sn_un hr h2⟩
/-- a bool of a value -/
def toB (f : ES) : CS := fun σ h => (f σ h).bind fun d h1 => match d with
  | .bl b => .ok b h1
  | _ => .stuck
theorem sn_B {te : TE} (h2 : Sn X.K (repV X.K) W te fa) : Sn X.K repB W (tTest te) (toB fa) := ⟨fun rl rs post =>
  h2.bind rl rs post fun x h1 v φ1 S1 H1 rl1 rs1 st rp post => by
    cases x with
    | bl b =>
      cases (show Rp _ _ _ _ _ from rp)
      exact ⟨b, rfl, post b φ1 S1 H1 rl1 (Step.refl _ _ _) rfl⟩
    | _ => exact post.elim⟩
theorem st_cmp {op : CmpOp} {r : R2} {ro : D → D → Hv → R D} (ho : OpR X (compareOp op) r) (hr : OpS X.K r ro) (ha : SE X W a fa) (hb : SE X W b fb) (hm : behindInMarks op b = false) : ST X W (.Compare a [op] [b] pos) (toB (eOp ro fa fb)) := by
  obtain ⟨ta, h1, h2⟩ := ha
  obtain ⟨tb, k1, k2⟩ := hb
  exact ⟨_, pt_cmpR ho h1 k1 hm, sn_B (sn_op hr h2 k2)⟩
/-- an expression that gives a bool, as a test -/
theorem st_val (ha : SE X W e fa) (he : ∀ whole, isTrue e X.env whole = (do let v ← whole; standAt e.pos; holding [v] (truthy v)) := by intro _; rfl) : ST X W e (toB fa) := by
  obtain ⟨ta, h1, h2⟩ := ha
  exact ⟨_, pt_val h1 he, sn_B h2⟩
end
end VD
set_option Elab.async false
set_option linter.all false
set_option maxRecDepth 100000
set_option maxHeartbeats 4000000
namespace VD
open PySem PySem.Spec PyProof.Rows L2
theorem line_eq : sizeLine = 16777216 := sizeLine_eq
section
variable {X : Cx} {W : WX} {e a b c : Expr} {es rest : List Expr} {pos : Pos} {fa fb fc : ES} {la lb : LS} {ca cb : CS}
def cAnd (f g : CS) : CS := fun σ h => (f σ h).bind fun k h1 => if k then g σ h1 else .ok false h1
def cOr (f g : CS) : CS := fun σ h => (f σ h).bind fun k h1 => if k then .ok true h1 else g σ h1
def cNot (f : CS) : CS := fun σ h => (f σ h).bind fun k h1 => .ok (!k) h1
def eIf {α : Type} (c : CS) (f g : VS → Hv → R α) : VS → Hv → R α := fun σ h => (c σ h).bind fun k h1 => if k then f σ h1 else g σ h1
theorem sw_and1 (ha : ST X W a ca) : SW X W (.BoolOp .And [a] pos) ca := by
  obtain ⟨ta, h1, h2⟩ := ha
  exact ⟨_, pw_and1 h1, h2⟩
theorem sw_or1 (ha : ST X W a ca) : SW X W (.BoolOp .Or [a] pos) ca := by
  obtain ⟨ta, h1, h2⟩ := ha
  exact ⟨_, pw_or1 h1, h2⟩
theorem sw_and (ha : ST X W a ca) (hb : SW X W (.BoolOp .And (b :: rest) pos) cb) : SW X W (.BoolOp .And (a :: b :: rest) pos) (cAnd ca cb) := by
  obtain ⟨ta, h1, h2⟩ := ha
  obtain ⟨tb, k1, k2⟩ := hb
  refine ⟨_, pw_and h1 k1, ⟨fun rl rs post => h2.bind rl rs post fun x h1 v φ1 S1 H1 rl1 rs1 st rp post => ?_⟩⟩
  cases (show v = x from rp)
  cases x with
  | true => exact k2.run rl1 rs1 post
  | false => exact post false φ1 S1 H1 rl1 (Step.refl _ _ _) rfl
theorem sw_or (ha : ST X W a ca) (hb : SW X W (.BoolOp .Or (b :: rest) pos) cb) : SW X W (.BoolOp .Or (a :: b :: rest) pos) (cOr ca cb) := by
  obtain ⟨ta, h1, h2⟩ := ha
  obtain ⟨tb, k1, k2⟩ := hb
  refine ⟨_, pw_or h1 k1, ⟨fun rl rs post => h2.bind rl rs post fun x h1 v φ1 S1 H1 rl1 rs1 st rp post => ?_⟩⟩
  cases (show v = x from rp)
  cases x with
  | false => exact k2.run rl1 rs1 post
  | true => exact post true φ1 S1 H1 rl1 (Step.refl _ _ _) rfl
theorem st_w (h : SW X W e ca) : ST X W e ca := let ⟨t, h1, h2⟩ := h; ⟨t, h1.pt, h2⟩
theorem st_not (ha : ST X W a ca) : ST X W (.UnaryOp .Not a pos) (cNot ca) := by
  obtain ⟨ta, h1, h2⟩ := ha
  refine ⟨_, pt_not h1, ⟨fun rl rs post => h2.bind rl rs post fun x h1 v φ1 S1 H1 rl1 rs1 st rp post => ?_⟩⟩
  cases (show v = x from rp)
  exact post _ φ1 S1 H1 rl1 (Step.refl _ _ _) rfl
/-- a value's truth -/
def dTru (h : Hv) : D → Option Bool
  | .non => some false
  | .bl b => some b
  | .int i => some (i != 0)
  | .lst xs => some (!xs.isEmpty)
  | .fz xs => some (!xs.isEmpty)
  | .tup xs => some (!xs.isEmpty)
  | .str x => if x.length ≤ 16777216 then some (x.length != 0) else none
  | .cell n => match h[n]? with
    | some (.lst xs) => some (!xs.isEmpty)
    | some (.dK kvs) => some (!kvs.isEmpty)
    | _ => none
  | .raw _ => none
  | .dct _ _ => none
  | .obj _ _ _ => none
  | .exv _ _ _ _ => none
theorem RpA.isEmpty {K : PySem.W.Frag} {φ : List Addr} {S : Hp} {vs : List V} {ds : List D} (h : RpA K φ S vs ds) : vs.isEmpty = ds.isEmpty := by
  cases h <;> rfl
def cTru (f : ES) : CS := fun σ h => (f σ h).bind fun d h1 => match dTru h1 d with
  | some b => .ok b h1
  | none => .stuck
def aNil : LS := fun _ h => .ok [] h
def aCons (f : ES) (g : LS) : LS := fun σ h => (f σ h).bind fun d h1 => (g σ h1).bind fun ds h2 => .ok (d :: ds) h2
theorem sa_nil : SA X W [] aNil := ⟨_, pa_nil, ⟨fun {φ S H h σv σ Q} rl rs post => post [] φ S H rl (Step.refl _ _ _) .nil⟩⟩
theorem sa_cons (ha : SE X W e fa) (hr : SA X W es la) (hs : starEach (e :: es) X.env = (false, eval e X.env) :: starEach es X.env := by rfl) : SA X W (e :: es) (aCons fa la) := by
  obtain ⟨ta, h1, h2⟩ := ha
  obtain ⟨tr, k1, k2⟩ := hr
  exact ⟨_, pa_cons h1 k1 hs, ⟨fun rl rs post => h2.bind rl rs post fun x h1 v φ1 S1 H1 rl1 rs1 st rp post =>
    k2.bind rl1 rs1 post fun ds h2 vs φ2 S2 H2 rl2 rs2 st2 rp2 post => post (v :: vs) φ2 S2 H2 rl2 (Step.refl _ _ _) (.cons (Rp.mono st2.prefix st2.sub rp) rp2)⟩⟩
def eTup (g : LS) : ES := fun σ h => (g σ h).bind fun ds h1 => if ds.length ≤ 16777216 then .ok (.tup ds) h1 else .stuck
theorem se_tup {x1} (ha : SA X W es la) : SE X W (.Tuple es x1 pos) (eTup la) := by
  obtain ⟨ta, h1, h2⟩ := ha
  refine ⟨_, pe_tup h1, ⟨fun rl rs post => h2.bind rl rs post fun ds h1 vs φ1 S1 H1 rl1 rs1 st rp post => ?_⟩⟩
  have ra : RpA X.K φ1 S1 vs ds := rp
  by_cases q : ds.length ≤ 16777216
  · rw [if_pos q] at post
    refine ⟨by rw [ra.length, line_eq]; exact q, fun p hp => ?_⟩
    obtain ⟨r2, s2⟩ := rl1.lay (o := .tup vs) hp
    exact post (.ref p) φ1 _ _ r2 s2 (.tup (.inl (.inl upd_same)) (ra.mono (Pre.refl _) s2.sub))
  · rw [if_neg q] at post
    exact post.elim
def lLst (g : LS) : LS := fun σ h => (g σ h).bind fun ds h1 => if ds.length ≤ 16777216 then .ok ds h1 else .stuck
theorem sl_lst (ha : SA X W es la) : SL X W (.List es pos) (lLst la) := by
  obtain ⟨ta, h1, h2⟩ := ha
  refine ⟨_, pe_lst h1, ⟨fun rl rs post => h2.bind rl rs post fun ds h1 vs φ1 S1 H1 rl1 rs1 st rp post => ?_⟩⟩
  have ra : RpA X.K φ1 S1 vs ds := rp
  by_cases q : ds.length ≤ 16777216
  · rw [if_pos q] at post
    refine ⟨by rw [ra.length, line_eq]; exact q, fun p hp => ?_⟩
    obtain ⟨r2, s2⟩ := rl1.hold (o := .lst vs) hp
    exact post (.ref p) φ1 _ _ r2 s2 ⟨p, vs, rfl, hp, upd_same, rl1.snone hp, rl1.notin hp, ra⟩
  · rw [if_neg q] at post
    exact post.elim
def eAndV (f g : ES) : ES := fun σ h => (f σ h).bind fun d h1 => match d with
  | .bl true => g σ h1
  | .bl false => .ok (.bl false) h1
  | _ => .stuck
def eOrV (f g : ES) : ES := fun σ h => (f σ h).bind fun d h1 => match d with
  | .bl false => g σ h1
  | .bl true => .ok (.bl true) h1
  | _ => .stuck
def eNotV (f : ES) : ES := fun σ h => (f σ h).bind fun d h1 => match d with
  | .bl b => .ok (.bl (!b)) h1
  | _ => .stuck
theorem se_one {op} (h : SE X W a fa) : SE X W (.BoolOp op [a] pos) fa := let ⟨t, h1, h2⟩ := h; ⟨t, pe_one h1, h2⟩
theorem se_and (ha : SE X W a fa) (hb : SE X W (.BoolOp .And (b :: rest) pos) fb) : SE X W (.BoolOp .And (a :: b :: rest) pos) (eAndV fa fb) := by
  obtain ⟨ta, h1, h2⟩ := ha
  obtain ⟨tb, k1, k2⟩ := hb
  refine ⟨_, pe_and h1 k1, ⟨fun rl rs post => h2.bind rl rs post fun x h1 v φ1 S1 H1 rl1 rs1 st rp post => ?_⟩⟩
  cases x with
  | bl q =>
    cases (show Rp _ _ _ _ _ from rp)
    cases q with
    | true => exact ⟨true, rfl, k2.run rl1 rs1 post⟩
    | false => exact ⟨false, rfl, post _ φ1 S1 H1 rl1 (Step.refl _ _ _) (.bl false)⟩
  | _ => exact post.elim
theorem se_or (ha : SE X W a fa) (hb : SE X W (.BoolOp .Or (b :: rest) pos) fb) : SE X W (.BoolOp .Or (a :: b :: rest) pos) (eOrV fa fb) := by
  obtain ⟨ta, h1, h2⟩ := ha
  obtain ⟨tb, k1, k2⟩ := hb
  refine ⟨_, pe_or h1 k1, ⟨fun rl rs post => h2.bind rl rs post fun x h1 v φ1 S1 H1 rl1 rs1 st rp post => ?_⟩⟩
  cases x with
  | bl q =>
    cases (show Rp _ _ _ _ _ from rp)
    cases q with
    | false => exact ⟨false, rfl, k2.run rl1 rs1 post⟩
    | true => exact ⟨true, rfl, post _ φ1 S1 H1 rl1 (Step.refl _ _ _) (.bl true)⟩
  | _ => exact post.elim
theorem se_not (ha : SE X W a fa) : SE X W (.UnaryOp .Not a pos) (eNotV fa) := by
  obtain ⟨ta, h1, h2⟩ := ha
  refine ⟨_, pe_not h1, ⟨fun rl rs post => h2.bind rl rs post fun x h1 v φ1 S1 H1 rl1 rs1 st rp post => ?_⟩⟩
  cases x with
  | bl q =>
    cases (show Rp _ _ _ _ _ from rp)
    exact ⟨q, rfl, post _ φ1 S1 H1 rl1 (Step.refl _ _ _) (.bl _)⟩
  | _ => exact post.elim
end
end VD
set_option Elab.async false
set_option linter.all false
set_option maxRecDepth 100000
set_option maxHeartbeats 4000000
namespace VD
open PySem PySem.Spec PyProof.Rows L2
noncomputable section
def optAll {α β : Type} (g : β → Option α) : List β → Option (List α)
  | [] => some []
  | d :: ds => match g d with
    | some a => (match optAll g ds with
      | some as => some (a :: as)
      | none => none)
    | none => none
def toPy (h : Hv) : Nat → D → Option PyData
  | 0, _ => none
  | _ + 1, .non => some .none
  | _ + 1, .bl b => some (.bool b)
  | _ + 1, .int i => some (.int i)
  | _ + 1, .str x => some (.str x)
  | f + 1, .lst ds => (optAll (toPy h f) ds).map .list
  | f + 1, .fz ds => (optAll (toPy h f) ds).map .list
  | f + 1, .tup ds => (optAll (toPy h f) ds).map .tuple
  | f + 1, .cell n => match h[n]? with
    | some (.lst ds) => (optAll (toPy h f) ds).map .list
    | _ => none
  | _ + 1, .raw _ => none
  | _ + 1, .dct _ _ => none
  | _ + 1, .obj _ _ _ => none
  | _ + 1, .exv _ _ _ _ => none
section
variable {K : PySem.W.Frag} {φ : List Addr} {S H : Hp} {h : Hv}
theorem dp_of (rl : Rel K φ S H h) : ∀ (f : Nat) (d : D) (v : V) (p : PyData), Rp K φ S v d → toPy h f d = some p → Dp K H v p := by
  intro f
  induction f with
  | zero => intro d v p _ e; cases e
  | succ f ih =>
    have all : ∀ (ds : List D) (vs : List V) (ps : List PyData), RpA K φ S vs ds → optAll (toPy h f) ds = some ps → DpAll K H vs ps := by
      intro ds
      induction ds with
      | nil => intro vs ps r e; cases r; cases e; exact .nil
      | cons d ds ih2 =>
        intro vs ps r e
        cases r with
        | cons r t =>
          simp only [optAll] at e
          cases q : toPy h f d with
          | none => rw [q] at e; cases e
          | some p0 =>
            rw [q] at e
            cases q2 : optAll (toPy h f) ds with
            | none => simp only [q2] at e; cases e
            | some p1 =>
              simp only [q2] at e
              cases e
              exact .cons (ih d _ p0 r q) (ih2 _ p1 t q2)
    intro d v p r e
    cases r with
    | non => cases e; exact .non
    | bl b => cases e; exact .bl b
    | int i => cases e; exact .int i
    | str x => cases e; exact .str x
    | @lst a vs ds h1 h2 =>
      obtain ⟨ps, q, rfl⟩ := Option.map_eq_some_iff.mp (show (optAll (toPy h f) ds).map .list = some p from e)
      exact .lst (.inl (.inl (rl.sub _ _ h1))) (all ds vs ps h2 q)
    | @fz a vs ds h1 h2 =>
      obtain ⟨ps, q, rfl⟩ := Option.map_eq_some_iff.mp (show (optAll (toPy h f) ds).map .list = some p from e)
      exact .lst (rl.sub.sql h1) (all ds vs ps h2 q)
    | @tup a vs ds h1 h2 =>
      obtain ⟨ps, q, rfl⟩ := Option.map_eq_some_iff.mp (show (optAll (toPy h f) ds).map .tuple = some p from e)
      exact .tup (rl.sub.sqt h1) (all ds vs ps h2 q)
    | @cell a n h1 =>
      obtain ⟨c, hc⟩ := rl.at h1
      obtain ⟨_, o, ho, rc⟩ := rl.cel _ _ _ h1 hc
      simp only [toPy] at e
      rw [hc] at e
      cases c with
      | lst ds =>
        obtain ⟨vs, rfl, ra⟩ := rc
        obtain ⟨ps, q, rfl⟩ := Option.map_eq_some_iff.mp (show (optAll (toPy h f) ds).map .list = some p from e)
        exact .lst (.inl (.inl ho)) (all ds vs ps ra q)
      | dK kvs => cases e
      | dF kvs => cases e
      | ins C fs => cases e
      | dN w kvs => cases e
      | tb q n => cases e
    | raw v => cases e
    | dct h1 h2 h3 => cases e
    | obj h1 h2 h3 => cases e
    | exv h1 h2 => cases e
/-- a list to be read, a tuple -/
def lOf (h : Hv) : D → Option (List D)
  | .lst xs => some xs
  | .fz xs => some xs
  | .cell n => match h[n]? with
    | some (.lst xs) => some xs
    | _ => none
  | _ => none
def tOf : D → Option (List D)
  | .tup xs => some xs
  | _ => none
theorem lOf_ok (rl : Rel K φ S H h) {d : D} {v : V} {ds : List D} (r : Rp K φ S v d) (e : lOf h d = some ds) : ∃ a vs, v = .ref a ∧ SqL K H a vs ∧ RpA K φ S vs ds := by
  cases r with
  | lst h1 h2 => cases e; exact ⟨_, _, rfl, .inl (.inl (rl.sub _ _ h1)), h2⟩
  | fz h1 h2 => cases e; exact ⟨_, _, rfl, rl.sub.sql h1, h2⟩
  | @cell a n h1 =>
    obtain ⟨c, hc⟩ := rl.at h1
    obtain ⟨_, o, ho, rc⟩ := rl.cel _ _ _ h1 hc
    simp only [lOf] at e
    rw [hc] at e
    cases c with
    | lst xs =>
      obtain ⟨vs, rfl, ra⟩ := rc
      cases e
      exact ⟨a, vs, rfl, .inl (.inl ho), ra⟩
    | dK kvs => cases e
    | dF kvs => cases e
    | ins C fs => cases e
    | dN w kvs => cases e
    | tb q n => cases e
  | _ => cases e
theorem tOf_ok (rl : Rel K φ S H h) {d : D} {v : V} {ds : List D} (r : Rp K φ S v d) (e : tOf d = some ds) : ∃ a vs, v = .ref a ∧ SqT K H a vs ∧ RpA K φ S vs ds := by
  cases r with
  | tup h1 h2 => cases e; exact ⟨_, _, rfl, rl.sub.sqt h1, h2⟩
  | _ => cases e
/-- a list that is tracked as it stands -/
def kOf (h : Hv) : D → Option (List D)
  | .lst xs => some xs
  | .cell n => match h[n]? with
    | some (.lst xs) => some xs
    | _ => none
  | _ => none
theorem kOf_ok (rl : Rel K φ S H h) {d : D} {v : V} {ds : List D} (r : Rp K φ S v d) (e : kOf h d = some ds) : ∃ a vs, v = .ref a ∧ H a = some (.lst vs) ∧ RpA K φ S vs ds := by
  cases r with
  | lst h1 h2 => cases e; exact ⟨_, _, rfl, rl.sub _ _ h1, h2⟩
  | @cell a n h1 =>
    obtain ⟨c, hc⟩ := rl.at h1
    obtain ⟨_, o, ho, rc⟩ := rl.cel _ _ _ h1 hc
    simp only [kOf] at e
    rw [hc] at e
    cases c with
    | lst xs =>
      obtain ⟨vs, rfl, ra⟩ := rc
      cases e
      exact ⟨a, vs, rfl, ho, ra⟩
    | dK kvs => cases e
    | dF kvs => cases e
    | ins C fs => cases e
    | dN w kvs => cases e
    | tb q n => cases e
  | _ => cases e
/-- flat values -/
def toV : D → Option V
  | .non => some .non
  | .bl b => some (.bl b)
  | .int i => some (.int i)
  | .str x => some (.str x)
  | _ => none
theorem toV_ok {d : D} {v w : V} (r : Rp K φ S v d) (e : toV d = some w) : v = w ∧ flatV v = true := by
  cases r <;> cases e <;> exact ⟨rfl, rfl⟩
theorem toVs_ok {ds : List D} {vs ws : List V} (r : RpA K φ S vs ds) (e : optAll toV ds = some ws) : vs = ws ∧ vs.all flatV = true := by
  induction ds generalizing vs ws with
  | nil => cases r; cases e; exact ⟨rfl, rfl⟩
  | cons d ds ih =>
    cases r with
    | cons r t =>
      simp only [optAll] at e
      cases q : toV d with
      | none => rw [q] at e; cases e
      | some w0 =>
        rw [q] at e
        cases q2 : optAll toV ds with
        | none => simp only [q2] at e; cases e
        | some w1 =>
          simp only [q2] at e
          cases e
          obtain ⟨e1, f1⟩ := toV_ok r q
          obtain ⟨e2, f2⟩ := ih t q2
          exact ⟨by rw [e1, e2], by rw [List.all_cons, f1, f2]; rfl⟩
def toI : D → Option Int
  | .int i => some i
  | _ => none
theorem toIs_ok {ds : List D} {vs : List V} {ns : List Int} (r : RpA K φ S vs ds) (e : optAll toI ds = some ns) : vs = ns.map V.int := by
  induction ds generalizing vs ns with
  | nil => cases r; cases e; rfl
  | cons d ds ih =>
    cases r with
    | cons r t =>
      simp only [optAll] at e
      cases q : toI d with
      | none => rw [q] at e; cases e
      | some w0 =>
        rw [q] at e
        cases q2 : optAll toI ds with
        | none => simp only [q2] at e; cases e
        | some w1 =>
          simp only [q2] at e
          cases e
          cases d with
          | int i => cases q; cases r; rw [ih t q2]; rfl
          | _ => cases q
def toBl : D → Option Bool
  | .bl i => some i
  | _ => none
theorem toBls_ok {ds : List D} {vs : List V} {ns : List Bool} (r : RpA K φ S vs ds) (e : optAll toBl ds = some ns) : vs = ns.map V.bl := by
  induction ds generalizing vs ns with
  | nil => cases r; cases e; rfl
  | cons d ds ih =>
    cases r with
    | cons r t =>
      simp only [optAll] at e
      cases q : toBl d with
      | none => rw [q] at e; cases e
      | some w0 =>
        rw [q] at e
        cases q2 : optAll toBl ds with
        | none => simp only [q2] at e; cases e
        | some w1 =>
          simp only [q2] at e
          cases e
          cases d with
          | bl i => cases q; cases r; rw [ih t q2]; rfl
          | _ => cases q
def toS : D → Option Str
  | .str i => some i
  | _ => none
end
section
variable {X : Cx} {K : PySem.W.Frag}
def oSub : D → D → Hv → R D
  | .int i, .int j, h => .ok (.int (i - j)) h
  | _, _, _ => .stuck
theorem os_sub : OpS K (rI0 fun i j => .int (i - j)) oSub := by
  intro φ S H h x y v u Q E rl rx ry post
  cases rx <;> cases ry <;> first
    | exact post.elim
    | exact ⟨_, _, rfl, rfl, post _ φ S H rl (Step.refl _ _ _) (.int _)⟩
def mulOk (i j : Int) : Bool := decide (i.natAbs.log2 + j.natAbs.log2 < 1000000)
def oMul : D → D → Hv → R D
  | .int i, .int j, h => if mulOk i j then .ok (.int (i * j)) h else .stuck
  | _, _, _ => .stuck
theorem os_mul : OpS K (rI CMulW fun i j => .int (i * j)) oMul := by
  intro φ S H h x y v u Q E rl rx ry post
  cases rx <;> cases ry <;> first
    | exact post.elim
    | skip
  next i j =>
    simp only [oMul] at post
    by_cases q : mulOk i j = true
    · rw [if_pos q] at post
      exact ⟨_, _, rfl, rfl, (show CMulW _ _ by unfold mulOk at q; exact of_decide_eq_true (p := _ < _) q), post _ φ S H rl (Step.refl _ _ _) (.int _)⟩
    · rw [if_neg q] at post
      exact post.elim
def oMod : D → D → Hv → R D
  | .int i, .int j, h => if 0 < j then .ok (.int (i % j)) h else .stuck
  | _, _, _ => .stuck
theorem os_mod : OpS K (rI (fun _ j => 0 < j) fun i j => .int (i % j)) oMod := by
  intro φ S H h x y v u Q E rl rx ry post
  cases rx <;> cases ry <;> first
    | exact post.elim
    | skip
  next i j =>
    simp only [oMod] at post
    by_cases q : 0 < j
    · rw [if_pos q] at post
      exact ⟨_, _, rfl, rfl, q, post _ φ S H rl (Step.refl _ _ _) (.int _)⟩
    · rw [if_neg q] at post
      exact post.elim
def divOk (j : Int) : Bool := decide (0 < j ∧ j.natAbs.log2 < 9000)
def oFdiv : D → D → Hv → R D
  | .int i, .int j, h => if divOk j then .ok (.int (i / j)) h else .stuck
  | _, _, _ => .stuck
theorem os_fdiv : OpS K (rI CDivW fun i j => .int (i / j)) oFdiv := by
  intro φ S H h x y v u Q E rl rx ry post
  cases rx <;> cases ry <;> first
    | exact post.elim
    | skip
  next i j =>
    simp only [oFdiv] at post
    by_cases q : divOk j = true
    · rw [if_pos q] at post
      exact ⟨_, _, rfl, rfl, (show CDivW _ _ by unfold divOk at q; exact of_decide_eq_true (p := _ ∧ _) q), post _ φ S H rl (Step.refl _ _ _) (.int _)⟩
    · rw [if_neg q] at post
      exact post.elim
def powOk (i j : Int) : Bool := decide (0 ≤ j ∧ j ≤ 1000000 ∧ i.natAbs < 2 ^ 64)
def oPow : D → D → Hv → R D
  | .int i, .int j, h => if powOk i j then .ok (.int (i ^ j.toNat)) h else .stuck
  | _, _, _ => .stuck
theorem os_pow : OpS K (rI CPow fun i j => .int (i ^ j.toNat)) oPow := by
  intro φ S H h x y v u Q E rl rx ry post
  cases rx <;> cases ry <;> first
    | exact post.elim
    | skip
  next i j =>
    simp only [oPow] at post
    by_cases q : powOk i j = true
    · rw [if_pos q] at post
      exact ⟨_, _, rfl, rfl, (show CPow _ _ by unfold powOk at q; exact of_decide_eq_true (p := _ ∧ _) q), post _ φ S H rl (Step.refl _ _ _) (.int _)⟩
    · rw [if_neg q] at post
      exact post.elim
def uNeg : D → Hv → R D
  | .int i, h => .ok (.int (-i)) h
  | _, _ => .stuck
theorem us_neg : UnS K (rU fun i => .int (-i)) uNeg := by
  intro φ S H h x v Q E rl rx post
  cases rx <;> first
    | exact post.elim
    | exact ⟨_, rfl, post _ φ S H rl (Step.refl _ _ _) (.int _)⟩
/-- + of ints, texts, tuples -/
def rAddA (K : PySem.W.Frag) : R2 := fun x y H Q => rI0 (fun i j => .int (i + j)) x y H Q ∨ (∃ i j, x = .str i ∧ y = .str j ∧ i.length + j.length ≤ sizeLine ∧ Q (.str (i ++ j)) H) ∨ rCatT K x y H Q
theorem op_addA : OpR X (binaryOp .Add) (rAddA X.K) := op_add.or (op_add_str.or op_catT)
def oAdd : D → D → Hv → R D
  | .int i, .int j, h => .ok (.int (i + j)) h
  | .str i, .str j, h => if i.length + j.length ≤ 16777216 then .ok (.str (i ++ j)) h else .stuck
  | .tup (x :: xs), .tup ys, h => if (x :: xs).length + ys.length ≤ 16777216 then .ok (.tup (x :: xs ++ ys)) h else .stuck
  | _, _, _ => .stuck
theorem os_add : OpS K (rAddA K) oAdd := by
  intro φ S H h x y v u Q E rl rx ry post
  cases rx with
  | int i =>
    cases ry with
    | int j => exact .inl ⟨_, _, rfl, rfl, post _ φ S H rl (Step.refl _ _ _) (.int _)⟩
    | _ => exact post.elim
  | str i =>
    cases ry with
    | str j =>
      simp only [oAdd] at post
      by_cases q : i.length + j.length ≤ 16777216
      · rw [if_pos q] at post
        exact .inr (.inl ⟨_, _, rfl, rfl, by rw [line_eq]; exact q, post _ φ S H rl (Step.refl _ _ _) (.str _)⟩)
      · rw [if_neg q] at post
        exact post.elim
    | _ => exact post.elim
  | tup h1 h2 =>
    cases h2 with
    | nil => cases ry <;> exact post.elim
    | @cons v0 vs d0 ds r0 rr =>
      cases ry with
      | @tup b ws es k1 k2 =>
        simp only [oAdd] at post
        by_cases q : (d0 :: ds).length + es.length ≤ 16777216
        · rw [if_pos q] at post
          refine .inr (.inr ⟨_, _, v0 :: vs, ws, rfl, rfl, rl.sub.sqt h1, rl.sub.sqt k1, List.cons_ne_nil _ _, ?_, fun e => ?_, fun e p hp => ?_⟩)
          · rw [line_eq, k2.length, List.length_cons, rr.length, ← List.length_cons (a := d0)]
            exact q
          · subst e
            cases k2
            rw [List.append_nil] at post
            exact post _ φ S H rl (Step.refl _ _ _) (.tup h1 (.cons r0 rr))
          · obtain ⟨r2, s2⟩ := rl.lay (o := .tup (v0 :: vs ++ ws)) hp
            exact post _ φ _ _ r2 s2 (.tup (.inl (.inl upd_same)) (((RpA.cons r0 rr).append k2).mono (Pre.refl _) s2.sub))
        · rw [if_neg q] at post
          exact post.elim
      | _ => exact post.elim
  | _ => exact post.elim
/-- + of lists -/
def oCat : D → D → Hv → R (List D) := fun x y h => match kOf h x, kOf h y with
  | some xs, some ys => if xs.length + ys.length ≤ 16777216 then .ok (xs ++ ys) h else .stuck
  | _, _ => .stuck
theorem ol_cat : OpL K rCat oCat := by
  intro φ S H h x y v u Q E rl rx ry post
  simp only [oCat] at post
  cases e1 : kOf h x with
  | none => simp only [e1] at post; exact post.elim
  | some xs =>
    cases e2 : kOf h y with
    | none => simp only [e1, e2] at post; exact post.elim
    | some ys =>
      simp only [e1, e2] at post
      by_cases q : xs.length + ys.length ≤ 16777216
      · rw [if_pos q] at post
        obtain ⟨a, vs, rfl, ha, ra⟩ := kOf_ok rl rx e1
        obtain ⟨b, ws, rfl, hb, rb⟩ := kOf_ok rl ry e2
        refine ⟨a, b, vs, ws, rfl, rfl, ha, hb, by rw [line_eq, ra.length, rb.length]; exact q, fun p hp => ?_⟩
        obtain ⟨r2, s2⟩ := rl.hold (o := .lst (vs ++ ws)) hp
        exact post _ φ _ _ r2 s2 ⟨p, _, rfl, hp, upd_same, rl.snone hp, rl.notin hp, ra.append rb⟩
      · rw [if_neg q] at post
        exact post.elim
/-- list * int -/
def oRep : D → D → Hv → R (List D) := fun x y h => match kOf h x, toI y with
  | some xs, some k => @ite _ (xs.length * k.toNat ≤ 16777216 ∧ -(2 ^ 63) ≤ k ∧ k < 2 ^ 63) (Classical.propDecidable _) (.ok (List.replicate k.toNat xs).flatten h) .stuck
  | _, _ => .stuck
theorem RpA.rep {φ : List Addr} {S : Hp} {vs : List V} {ds : List D} (h : RpA K φ S vs ds) : ∀ k : Nat, RpA K φ S (List.replicate k vs).flatten (List.replicate k ds).flatten
  | 0 => .nil
  | k + 1 => by
    rw [List.replicate_succ, List.replicate_succ, List.flatten_cons, List.flatten_cons]
    exact h.append (RpA.rep h k)
end
end
end VD
set_option Elab.async false
set_option linter.all false
set_option maxRecDepth 100000
set_option maxHeartbeats 4000000
namespace VD
open PySem PySem.Spec PyProof.Rows L2
noncomputable section
section
variable {X : Cx} {K : PySem.W.Frag}
def rLtA : R2 := fun x y H Q => rI0 (fun i j => .bl (decide (i < j))) x y H Q ∨ ∃ i j, x = .str i ∧ y = .str j ∧ Q (.bl (decide (i.cps.toList < j.cps.toList))) H
def rGtA : R2 := fun x y H Q => rI0 (fun i j => .bl (decide (j < i))) x y H Q ∨ ∃ i j, x = .str i ∧ y = .str j ∧ Q (.bl (decide (j.cps.toList < i.cps.toList))) H
theorem op_ltA : OpR X (compareOp .Lt) rLtA := op_lt.or op_lt_str
theorem op_gtA : OpR X (compareOp .Gt) rGtA := op_gt.or op_gt_str
def oLt : D → D → Hv → R D
  | .int i, .int j, h => .ok (.bl (decide (i < j))) h
  | .str i, .str j, h => .ok (.bl (decide (i.cps.toList < j.cps.toList))) h
  | _, _, _ => .stuck
def oGt : D → D → Hv → R D
  | .int i, .int j, h => .ok (.bl (decide (j < i))) h
  | .str i, .str j, h => .ok (.bl (decide (j.cps.toList < i.cps.toList))) h
  | _, _, _ => .stuck
def oLe : D → D → Hv → R D
  | .int i, .int j, h => .ok (.bl (decide (i ≤ j))) h
  | _, _, _ => .stuck
def oGe : D → D → Hv → R D
  | .int i, .int j, h => .ok (.bl (decide (j ≤ i))) h
  | _, _, _ => .stuck
theorem os_lt : OpS K rLtA oLt := by
  intro φ S H h x y v u Q E rl rx ry post
  cases rx <;> cases ry <;> first
    | exact post.elim
    | exact .inl ⟨_, _, rfl, rfl, post _ φ S H rl (Step.refl _ _ _) (.bl _)⟩
    | exact .inr ⟨_, _, rfl, rfl, post _ φ S H rl (Step.refl _ _ _) (.bl _)⟩
theorem os_gt : OpS K rGtA oGt := by
  intro φ S H h x y v u Q E rl rx ry post
  cases rx <;> cases ry <;> first
    | exact post.elim
    | exact .inl ⟨_, _, rfl, rfl, post _ φ S H rl (Step.refl _ _ _) (.bl _)⟩
    | exact .inr ⟨_, _, rfl, rfl, post _ φ S H rl (Step.refl _ _ _) (.bl _)⟩
theorem os_ge : OpS K (rI0 fun i j => .bl (decide (j ≤ i))) oGe := by
  intro φ S H h x y v u Q E rl rx ry post
  cases rx <;> cases ry <;> first
    | exact post.elim
    | exact ⟨_, _, rfl, rfl, post _ φ S H rl (Step.refl _ _ _) (.bl _)⟩
/-- == of data -/
def rEqP (K : PySem.W.Frag) : R2 := fun x y H Q => ∃ d e, Dp K H x d ∧ Dp K H y e ∧ (d.plain = true ∧ e.plain = true ∧ d.depth ≤ 63) ∧ Q (.bl (PyData.eqv d e)) H
def rNeP (K : PySem.W.Frag) : R2 := fun x y H Q => ∃ d e, Dp K H x d ∧ Dp K H y e ∧ (d.plain = true ∧ e.plain = true ∧ d.depth ≤ 63) ∧ Q (.bl (!PyData.eqv d e)) H
theorem op_eqP (hu : X.A.units + 64 < cLine) : OpR X (compareOp .Eq) (rEqP X.K) := by
  intro pins s σ H x y v u Q I rx ry h
  obtain ⟨d, e, hd, he, ⟨pd, pe, dd⟩, q⟩ := h
  obtain ⟨as, r1⟩ := Dp.reads I d x v hd rx
  obtain ⟨bs, r2⟩ := Dp.reads I e y u he ry
  exact PySem.SeqAt.eq_plain r1 r2 pd pe (Nat.lt_of_le_of_lt (Nat.add_le_add_left (Nat.le_trans (Nat.min_le_left _ _) dd) _) (by omega)) ⟨.bl _, H, I, rfl, q⟩
theorem op_neP (hu : X.A.units + 64 < cLine) : OpR X (compareOp .NotEq) (rNeP X.K) := by
  intro pins s σ H x y v u Q I rx ry h
  obtain ⟨d, e, hd, he, ⟨pd, pe, dd⟩, q⟩ := h
  obtain ⟨as, r1⟩ := Dp.reads I d x v hd rx
  obtain ⟨bs, r2⟩ := Dp.reads I e y u he ry
  exact PySem.SeqAt.ne_plain r1 r2 pd pe (Nat.lt_of_le_of_lt (Nat.add_le_add_left (Nat.le_trans (Nat.min_le_left _ _) dd) _) (by omega)) ⟨.bl _, H, I, rfl, q⟩
def eqD (h : Hv) (x y : D) : Option Bool := match toPy h 12 x, toPy h 12 y with
  | some d, some e => some (PyData.eqv d e)
  | _, _ => none
def oEq : D → D → Hv → R D := fun x y h => match eqD h x y with
  | some b => .ok (.bl b) h
  | none => .stuck
def oNe : D → D → Hv → R D := fun x y h => match eqD h x y with
  | some b => .ok (.bl (!b)) h
  | none => .stuck
theorem toPy_plain {h : Hv} : ∀ (f : Nat) (d : D) (p : PyData), toPy h f d = some p → p.plain = true ∧ p.depth ≤ f := by
  intro f
  induction f with
  | zero => intro d p e; cases e
  | succ f ih =>
    have all : ∀ (ds : List D) (ps : List PyData), optAll (toPy h f) ds = some ps → PyData.plainAll ps = true ∧ PyData.depthAll ps ≤ f := by
      intro ds
      induction ds with
      | nil => intro ps e; cases e; exact ⟨by simp only [PyData.plainAll], by simp only [PyData.depthAll]; exact Nat.zero_le _⟩
      | cons d ds ih2 =>
        intro ps e
        simp only [optAll] at e
        cases q : toPy h f d with
        | none => rw [q] at e; cases e
        | some p0 =>
          rw [q] at e
          cases q2 : optAll (toPy h f) ds with
          | none => simp only [q2] at e; cases e
          | some p1 =>
            simp only [q2] at e
            cases e
            obtain ⟨a1, a2⟩ := ih d p0 q
            obtain ⟨b1, b2⟩ := ih2 p1 q2
            exact ⟨by simp only [PyData.plainAll, a1, b1, Bool.and_self], by simp only [PyData.depthAll]; exact Nat.max_le.mpr ⟨a2, b2⟩⟩
    have lst : ∀ ds p, (optAll (toPy h f) ds).map PyData.list = some p → p.plain = true ∧ p.depth ≤ f + 1 := fun ds p e => by
      obtain ⟨ps, q, rfl⟩ := Option.map_eq_some_iff.mp e
      obtain ⟨a, b⟩ := all ds ps q
      exact ⟨by simp only [PyData.plain, a], by simp only [PyData.depth]; omega⟩
    have tup : ∀ ds p, (optAll (toPy h f) ds).map PyData.tuple = some p → p.plain = true ∧ p.depth ≤ f + 1 := fun ds p e => by
      obtain ⟨ps, q, rfl⟩ := Option.map_eq_some_iff.mp e
      obtain ⟨a, b⟩ := all ds ps q
      exact ⟨by simp only [PyData.plain, a], by simp only [PyData.depth]; omega⟩
    intro d p e
    cases d with
    | non => cases e; exact ⟨by simp only [PyData.plain], by simp only [PyData.depth]; exact Nat.zero_le _⟩
    | bl b => cases e; exact ⟨by simp only [PyData.plain], by simp only [PyData.depth]; exact Nat.zero_le _⟩
    | int b => cases e; exact ⟨by simp only [PyData.plain], by simp only [PyData.depth]; exact Nat.zero_le _⟩
    | str b => cases e; exact ⟨by simp only [PyData.plain], by simp only [PyData.depth]; exact Nat.zero_le _⟩
    | lst ds => exact lst ds p e
    | fz ds => exact lst ds p e
    | tup ds => exact tup ds p e
    | cell n =>
      simp only [toPy] at e
      split at e
      · exact lst _ p e
      · cases e
    | dct _ _ => cases e
    | obj _ _ _ => cases e
    | exv _ _ _ _ => cases e
    | raw v => cases e
theorem eqD_ok {φ : List Addr} {S H : Hp} {h : Hv} {x y : D} {v u : V} {b : Bool} (rl : Rel K φ S H h) (rx : Rp K φ S v x) (ry : Rp K φ S u y) (e : eqD h x y = some b) :
    ∃ d e, Dp K H v d ∧ Dp K H u e ∧ (d.plain = true ∧ e.plain = true ∧ d.depth ≤ 63) ∧ PyData.eqv d e = b := by
  unfold eqD at e
  cases e1 : toPy h 12 x with
  | none => simp only [e1] at e; cases e
  | some d =>
    cases e2 : toPy h 12 y with
    | none => simp only [e1, e2] at e; cases e
    | some d2 =>
      simp only [e1, e2] at e
      obtain ⟨p1, q1⟩ := toPy_plain _ _ _ e1
      obtain ⟨p2, q2⟩ := toPy_plain _ _ _ e2
      exact ⟨d, d2, dp_of rl _ _ _ _ rx e1, dp_of rl _ _ _ _ ry e2, ⟨p1, p2, by omega⟩, Option.some.inj e⟩
theorem os_eq : OpS K (rEqP K) oEq := by
  intro φ S H h x y v u Q E rl rx ry post
  simp only [oEq] at post
  cases e : eqD h x y with
  | none => simp only [e] at post; exact post.elim
  | some b =>
    simp only [e] at post
    obtain ⟨d, d2, h1, h2, h3, h5⟩ := eqD_ok rl rx ry e
    exact ⟨d, d2, h1, h2, h3, by rw [h5]; exact post _ φ S H rl (Step.refl _ _ _) (.bl _)⟩
theorem os_ne : OpS K (rNeP K) oNe := by
  intro φ S H h x y v u Q E rl rx ry post
  simp only [oNe] at post
  cases e : eqD h x y with
  | none => simp only [e] at post; exact post.elim
  | some b =>
    simp only [e] at post
    obtain ⟨d, d2, h1, h2, h3, h5⟩ := eqD_ok rl rx ry e
    exact ⟨d, d2, h1, h2, h3, by rw [h5]; exact post _ φ S H rl (Step.refl _ _ _) (.bl _)⟩
/-- is None, is True -/
def rIsA : R2 := fun x y H Q => (y = .non ∧ Q (.bl (decide (x = .non))) H) ∨ rIsB x y H Q
def rNotA : R2 := fun x y H Q => (y = .non ∧ Q (.bl (!decide (x = .non))) H) ∨ rNotB x y H Q
theorem op_isA : OpR X (compareOp .Is) rIsA := op_isN.or op_isBl
theorem op_notA : OpR X (compareOp .IsNot) rNotA := op_notN.or op_notBl
def isD : D → D → Option Bool
  | .non, .non => some true
  | .raw _, .non => none
  | _, .non => some false
  | .bl a, .bl b => some (decide (a = b))
  | _, _ => none
def oIs : D → D → Hv → R D := fun x y h => match isD x y with
  | some b => .ok (.bl b) h
  | none => .stuck
def oIsNot : D → D → Hv → R D := fun x y h => match isD x y with
  | some b => .ok (.bl (!b)) h
  | none => .stuck
theorem isD_ok {φ : List Addr} {S : Hp} {x y : D} {v u : V} {b : Bool} (rx : Rp K φ S v x) (ry : Rp K φ S u y) (e : isD x y = some b) :
    (u = .non ∧ decide (v = .non) = b) ∨ ∃ p q, v = .bl p ∧ u = .bl q ∧ decide (p = q) = b := by
  cases ry with
  | non => refine .inl ⟨rfl, ?_⟩; cases rx <;> first | (cases e; done) | (cases e; rfl) | (cases e; exact decide_eq_false (fun z => nomatch z))
  | bl q => cases rx <;> first | (cases e; done) | (exact .inr ⟨_, _, rfl, rfl, Option.some.inj e⟩)
  | _ => cases rx <;> cases e
theorem os_is : OpS K rIsA oIs := by
  intro φ S H h x y v u Q E rl rx ry post
  simp only [oIs] at post
  cases e : isD x y with
  | none => simp only [e] at post; exact post.elim
  | some b =>
    simp only [e] at post
    have fin := post _ φ S H rl (Step.refl _ _ _) (.bl b)
    rcases isD_ok rx ry e with ⟨h1, h2⟩ | ⟨p, q, h1, h2, h3⟩
    · exact .inl ⟨h1, by rw [h2]; exact fin⟩
    · exact .inr ⟨p, q, h1, h2, by rw [h3]; exact fin⟩
theorem os_isNot : OpS K rNotA oIsNot := by
  intro φ S H h x y v u Q E rl rx ry post
  simp only [oIsNot] at post
  cases e : isD x y with
  | none => simp only [e] at post; exact post.elim
  | some b =>
    simp only [e] at post
    have fin := post _ φ S H rl (Step.refl _ _ _) (.bl (!b))
    rcases isD_ok rx ry e with ⟨h1, h2⟩ | ⟨p, q, h1, h2, h3⟩
    · exact .inl ⟨h1, by rw [h2]; exact fin⟩
    · exact .inr ⟨p, q, h1, h2, by rw [h3]; exact fin⟩
/-- one sign in a text, a flat value in a list or tuple -/
def rInA (K : PySem.W.Frag) : R2 := fun x y H Q => (∃ (c : Nat) (z : Str), x = .str ⟨#[c]⟩ ∧ y = .str z ∧ Q (.bl (decide (c ∈ z.cps.toList))) H) ∨ rIn K false x y H Q
def rNotInA (K : PySem.W.Frag) : R2 := fun x y H Q => (∃ (c : Nat) (z : Str), x = .str ⟨#[c]⟩ ∧ y = .str z ∧ Q (.bl (!decide (c ∈ z.cps.toList))) H) ∨ rIn K true x y H Q
theorem op_inA : OpR X (compareOp .In) (rInA X.K) := op_in_sign.or op_in_seq
theorem op_notInA : OpR X (compareOp .NotIn) (rNotInA X.K) := op_notIn_sign.or op_notIn_seq
def sqOf (h : Hv) (d : D) : Option (List D) := match lOf h d with
  | some xs => some xs
  | none => tOf d
def inD (h : Hv) (x y : D) : Option Bool := match x, y with
  | .str s, .str z => match s.cps.toList with
    | [c] => some (decide (c ∈ z.cps.toList))
    | _ => none
  | x, y => match toV x, (sqOf h y).bind (optAll toV) with
    | some v, some vs => some (inV v vs)
    | _, _ => none
def oIn : D → D → Hv → R D := fun x y h => match inD h x y with
  | some b => .ok (.bl b) h
  | none => .stuck
def oNotIn : D → D → Hv → R D := fun x y h => match inD h x y with
  | some b => .ok (.bl (!b)) h
  | none => .stuck
theorem sqOf_ok {φ : List Addr} {S H : Hp} {h : Hv} {d : D} {v : V} {ds : List D} (rl : Rel K φ S H h) (r : Rp K φ S v d) (e : sqOf h d = some ds) : ∃ a vs, v = .ref a ∧ (SqL K H a vs ∨ SqT K H a vs) ∧ RpA K φ S vs ds := by
  unfold sqOf at e
  cases q : lOf h d with
  | some xs =>
    simp only [q] at e
    cases e
    obtain ⟨a, vs, h1, h2, h3⟩ := lOf_ok rl r q
    exact ⟨a, vs, h1, .inl h2, h3⟩
  | none =>
    simp only [q] at e
    obtain ⟨a, vs, h1, h2, h3⟩ := tOf_ok rl r e
    exact ⟨a, vs, h1, .inr h2, h3⟩
theorem inD_ok {φ : List Addr} {S H : Hp} {h : Hv} {x y : D} {v u : V} {b : Bool} (rl : Rel K φ S H h) (rx : Rp K φ S v x) (ry : Rp K φ S u y) (e : inD h x y = some b) :
    (∃ (c : Nat) (z : Str), v = .str ⟨#[c]⟩ ∧ u = .str z ∧ decide (c ∈ z.cps.toList) = b) ∨ ∃ p xs, u = .ref p ∧ (SqL K H p xs ∨ SqT K H p xs) ∧ flatV v = true ∧ xs.all flatV = true ∧ inV v xs = b := by
  have gen : (match toV x, (sqOf h y).bind (optAll toV) with
    | some v, some vs => some (inV v vs)
    | _, _ => none) = some b → ∃ p xs, u = .ref p ∧ (SqL K H p xs ∨ SqT K H p xs) ∧ flatV v = true ∧ xs.all flatV = true ∧ inV v xs = b := by
    intro e
    cases q1 : toV x with
    | none => simp only [q1] at e; cases e
    | some w =>
      cases q2 : sqOf h y with
      | none => simp only [q1, q2, Option.bind_none] at e; cases e
      | some ds =>
        cases q3 : optAll toV ds with
        | none => simp only [q1, q2, Option.bind_some, q3] at e; cases e
        | some ws =>
          simp only [q1, q2, Option.bind_some, q3] at e
          obtain ⟨e1, f1⟩ := toV_ok rx q1
          obtain ⟨a, vs, rfl, h2, h3⟩ := sqOf_ok rl ry q2
          obtain ⟨e2, f2⟩ := toVs_ok h3 q3
          exact ⟨a, vs, rfl, h2, f1, f2, by rw [e1, e2]; exact Option.some.inj e⟩
  unfold inD at e
  split at e
  · next s z =>
    split at e
    · next c hc =>
      cases rx
      cases ry
      refine .inl ⟨c, z, ?_, rfl, Option.some.inj e⟩
      have : s = ⟨#[c]⟩ := Str.ext' (Array.toList_inj.mp (by rw [hc]))
      rw [this]
    · cases e
  · exact .inr (gen e)
theorem os_in : OpS K (rInA K) oIn := by
  intro φ S H h x y v u Q E rl rx ry post
  simp only [oIn] at post
  cases e : inD h x y with
  | none => simp only [e] at post; exact post.elim
  | some b =>
    simp only [e] at post
    have fin := post _ φ S H rl (Step.refl _ _ _) (.bl b)
    rcases inD_ok rl rx ry e with ⟨c, z, h1, h2, h3⟩ | ⟨p, xs, h1, h2, h3, h4, h5⟩
    · exact .inl ⟨c, z, h1, h2, by rw [h3]; exact fin⟩
    · exact .inr ⟨p, xs, h1, h2, h3, h4, by rw [if_neg Bool.false_ne_true, h5]; exact fin⟩
theorem os_notIn : OpS K (rNotInA K) oNotIn := by
  intro φ S H h x y v u Q E rl rx ry post
  simp only [oNotIn] at post
  cases e : inD h x y with
  | none => simp only [e] at post; exact post.elim
  | some b =>
    simp only [e] at post
    have fin := post _ φ S H rl (Step.refl _ _ _) (.bl (!b))
    rcases inD_ok rl rx ry e with ⟨c, z, h1, h2, h3⟩ | ⟨p, xs, h1, h2, h3, h4, h5⟩
    · exact .inl ⟨c, z, h1, h2, by rw [h3]; exact fin⟩
    · exact .inr ⟨p, xs, h1, h2, h3, h4, by rw [if_pos rfl, h5]; exact fin⟩
def ixD (h : Hv) (x : D) (i : Int) : Option D := match x with
  | .str z => if z.length ≤ 16777216 then (match atI z.cps.toList i with
    | some c => some (.str ⟨#[c]⟩)
    | none => none) else none
  | x => match sqOf h x with
    | some ds => atI ds i
    | none => none
def oIx : D → D → Hv → R D := fun x y h => match y with
  | .int i => match ixD h x i with
    | some d => .ok d h
    | none => .stuck
  | _ => .stuck
theorem RpA.atI {φ : List Addr} {S : Hp} {vs : List V} {ds : List D} (r : RpA K φ S vs ds) {i : Int} {d : D} (e : L2.atI ds i = some d) : ∃ v, L2.atI vs i = some v ∧ Rp K φ S v d := by
  unfold L2.atI at e ⊢
  rw [r.length]
  cases q : ixN ds.length i with
  | none => rw [q] at e; cases e
  | some j =>
    rw [q] at e
    exact r.at e
theorem os_ix : OpS K (rIx K) oIx := by
  intro φ S H h x y v u Q E rl rx ry post
  simp only [oIx] at post
  cases y with
  | int i =>
    cases ry
    cases e : ixD h x i with
    | none => simp only [e] at post; exact post.elim
    | some d =>
      simp only [e] at post
      unfold ixD at e
      split at e
      · next z =>
        cases rx
        split at e
        · next hz =>
          split at e
          · next c hc =>
            cases e
            exact .inr (.inr ⟨z, i, c, rfl, rfl, by rw [line_eq]; exact hz, hc, post _ φ S H rl (Step.refl _ _ _) (.str _)⟩)
          · cases e
        · cases e
      · split at e
        · next ds hd =>
          obtain ⟨a, vs, rfl, h2, h3⟩ := sqOf_ok rl rx hd
          obtain ⟨w, hw, rw_⟩ := h3.atI e
          have fin := post _ φ S H rl (Step.refl _ _ _) rw_
          rcases h2 with h2 | h2
          · exact .inl ⟨a, vs, i, w, rfl, rfl, h2, hw, fin⟩
          · exact .inr (.inl ⟨a, vs, i, w, rfl, rfl, h2, hw, fin⟩)
        · cases e
  | _ => exact post.elim
variable {W : WX} {e a b : Expr} {pos p2 : Pos} {fa fb fl fh : ES}
theorem se_ix (ha : SE X W a fa) (hb : SE X W b fb) (hs : PlainIx b := by exact fun _ _ => rfl) : SE X W (.Subscript a b pos) (eOp oIx fa fb) := by
  obtain ⟨ta, h1, h2⟩ := ha
  obtain ⟨tb, k1, k2⟩ := hb
  exact ⟨_, pe_ix ix_seq h1 k1 hs, sn_op os_ix h2 k2⟩
def cutD (xs : List D) (lo hi : Option Int) : List D := (xs.drop (HT.sIx xs.length 0 lo)).take (HT.sIx xs.length xs.length hi - HT.sIx xs.length 0 lo)
/-- a part of a slice -/
abbrev OS := VS → Hv → R (Option Int)
def repO : Rep (Option Int) (Option Int) := fun _ _ _ _ b a => b = a
instance : Rep.Up repO := ⟨fun _ h => h⟩
def pNo : OS := fun _ h => .ok none h
def pAt (f : ES) : OS := fun σ h => (f σ h).bind fun d h1 => match d with
  | .int i => .ok (some i) h1
  | _ => .stuck
/-- a list's slice: new -/
def lSl (f : ES) (lo hi : OS) : LS := fun σ h => (f σ h).bind fun d h1 => (lo σ h1).bind fun l h2 => (hi σ h2).bind fun u h3 => match lOf h3 d with
  | some xs => .ok (cutD xs l u) h3
  | none => .stuck
theorem tup_of {K : PySem.W.Frag} {φ : List Addr} {S : Hp} {v : V} {ds : List D} (r : Rp K φ S v (.tup ds)) : ∃ a vs, v = .ref a ∧ SqT K S a vs ∧ RpA K φ S vs ds := by
  cases r with
  | tup g1 g2 => exact ⟨_, _, rfl, g1, g2⟩
/-- a text's, a tuple's slice -/
def slD (d : D) (l u : Option Int) : Option D := match d with
  | .str z => if z.length ≤ 16777216 then some (.str (cutS z l u)) else none
  | .tup xs => some (.tup (cutD xs l u))
  | _ => none
def eSl (f : ES) (lo hi : OS) : ES := fun σ h => (f σ h).bind fun d h1 => (lo σ h1).bind fun l h2 => (hi σ h2).bind fun u h3 => match slD d l u with
  | some d' => .ok d' h3
  | none => .stuck
end
end
end VD
set_option Elab.async false
set_option linter.all false
set_option maxRecDepth 100000
set_option maxHeartbeats 4000000
namespace VD
open PySem PySem.Spec PyProof.Rows L2
noncomputable section
def CaS (K : PySem.W.Frag) (r : List V → Hp → VK → Prop) (ro : List D → Hv → R D) : Prop := ∀ {φ : List Addr} {S H : Hp} {h : Hv} {ds : List D} {vs : List V} {Q : VK} {E : XK}, Rel K φ S H h → RpA K φ S vs ds → Post K (repV K) φ S H (ro ds h) Q E → r vs H Q
def CaL (K : PySem.W.Frag) (r : List V → Hp → VK → Prop) (ro : List D → Hv → R (List D)) : Prop := ∀ {φ : List Addr} {S H : Hp} {h : Hv} {ds : List D} {vs : List V} {Q : VK} {E : XK}, Rel K φ S H h → RpA K φ S vs ds → Post K (repL K) φ S H (ro ds h) Q E → r vs H Q
def eCa {α : Type} (ro : List D → Hv → R α) (g : LS) : VS → Hv → R α := fun σ h => (g σ h).bind fun ds h1 => ro ds h1
section
variable {X : Cx} {W : WX} {e : Expr} {es : List Expr} {p pos : Pos} {la : LS} {x : Str} {id T : String} {r : List V → Hp → VK → Prop}
theorem sn_ca {t : TA} {ro : List D → Hv → R D} (hr : CaS X.K r ro) (h2 : Sn X.K (repA X.K) W t la) : Sn X.K (repV X.K) W (tCB r t) (eCa ro la) := ⟨fun rl rs post => h2.bind rl rs post fun x h1 v φ1 S1 H1 rl1 rs1 st rp post => hr rl1 rp post⟩
theorem sn_caL {t : TA} {ro : List D → Hv → R (List D)} (hr : CaL X.K r ro) (h2 : Sn X.K (repA X.K) W t la) : Sn X.K (repL X.K) W (tCB r t) (eCa ro la) := ⟨fun rl rs post => h2.bind rl rs post fun x h1 v φ1 S1 H1 rl1 rs1 st rp post => hr rl1 rp post⟩
theorem se_callB {ro : List D → Hv → R D} (hc : CallR X (.builtin id) r) (hr : CaS X.K r ro) (hm : X.mg x = none) (hv : bootBuiltins x = some (.builtin id)) (ha : SA X W (e :: es) la) (hg : Gl X x := by rfl) (hn : x ≠ "__name__" := by decide) (hdb : (x == ("__debug__" : Str)) = false := by decide)
    (he : starEach (e :: es) X.env = (false, eval e X.env) :: starEach es X.env := by rfl) (hpl : (backTo pos (starEach es X.env)).any (·.1) = false := by rfl) : SE X W (.Call (.Name x p) (e :: es) [] pos) (eCa ro la) := by
  obtain ⟨ta, h1, h2⟩ := ha
  exact ⟨_, pe_callB hc hg hm hv h1 hn hdb he hpl, sn_ca hr h2⟩
theorem sl_callB {ro : List D → Hv → R (List D)} (hc : CallR X (.builtin id) r) (hr : CaL X.K r ro) (hm : X.mg x = none) (hv : bootBuiltins x = some (.builtin id)) (ha : SA X W (e :: es) la) (hg : Gl X x := by rfl) (hn : x ≠ "__name__" := by decide) (hdb : (x == ("__debug__" : Str)) = false := by decide)
    (he : starEach (e :: es) X.env = (false, eval e X.env) :: starEach es X.env := by rfl) (hpl : (backTo pos (starEach es X.env)).any (·.1) = false := by rfl) : SL X W (.Call (.Name x p) (e :: es) [] pos) (eCa ro la) := by
  obtain ⟨ta, h1, h2⟩ := ha
  exact ⟨_, pe_callB hc hg hm hv h1 hn hdb he hpl, sn_caL hr h2⟩
theorem sl_callT {ro : List D → Hv → R (List D)} (hc : CallR X (.type T) r) (hr : CaL X.K r ro) (hm : X.mg x = none) (hv : bootBuiltins x = some (.type T)) (ha : SA X W (e :: es) la) (hg : Gl X x := by rfl) (hn : x ≠ "__name__" := by decide) (hdb : (x == ("__debug__" : Str)) = false := by decide)
    (he : starEach (e :: es) X.env = (false, eval e X.env) :: starEach es X.env := by rfl) (hpl : (backTo pos (starEach es X.env)).any (·.1) = false := by rfl) : SL X W (.Call (.Name x p) (e :: es) [] pos) (eCa ro la) := by
  obtain ⟨ta, h1, h2⟩ := ha
  exact ⟨_, pe_callTy hc hg hm hv h1 hn hdb he hpl, sn_caL hr h2⟩
end
section
variable {X : Cx} {K : PySem.W.Frag}
theorem RpA.one {φ : List Addr} {S : Hp} {vs : List V} {d : D} (r : RpA K φ S vs [d]) : ∃ v, vs = [v] ∧ Rp K φ S v d := by
  cases r with
  | cons r t => cases t; exact ⟨_, rfl, r⟩
theorem RpA.two {φ : List Addr} {S : Hp} {vs : List V} {d e : D} (r : RpA K φ S vs [d, e]) : ∃ v w, vs = [v, w] ∧ Rp K φ S v d ∧ Rp K φ S w e := by
  cases r with
  | cons r t =>
    obtain ⟨w, rfl, r2⟩ := t.one
    exact ⟨_, w, rfl, r, r2⟩
/-- len -/
def lenD (h : Hv) (d : D) : Option Int := match d with
  | .str z => if z.length ≤ 16777216 then some (z.length : Int) else none
  | d => (sqOf h d).map fun xs => (xs.length : Int)
def bLen : List D → Hv → R D := fun ds h => match ds with
  | [d] => (match lenD h d with
    | some n => .ok (.int n) h
    | none => .stuck)
  | _ => .stuck
def rLenA (K : PySem.W.Frag) : List V → Hp → VK → Prop := fun xs H Q => ∃ x n, xs = [x] ∧ LenV K x H n ∧ Q (.int n) H
theorem cs_len : CaS K (rLenA K) bLen := by
  intro φ S H h ds vs Q E rl ra post
  unfold bLen at post
  split at post
  · next d =>
    obtain ⟨v, rfl, r⟩ := ra.one
    cases q : lenD h d with
    | none => simp only [q] at post; exact post.elim
    | some n =>
      simp only [q] at post
      unfold lenD at q
      split at q
      · next z =>
        split at q
        · next hz =>
          cases q
          cases r
          exact ⟨.str z, z.length, rfl, ⟨by rw [line_eq]; exact hz, rfl⟩, post _ φ S H rl (Step.refl _ _ _) (.int _)⟩
        · cases q
      · obtain ⟨xs, q1, q2⟩ := Option.map_eq_some_iff.mp q
        subst q2
        obtain ⟨a, vs, rfl, h2, h3⟩ := sqOf_ok rl r q1
        refine ⟨.ref a, vs.length, rfl, ?_, by rw [h3.length]; exact post _ φ S H rl (Step.refl _ _ _) (.int _)⟩
        rcases h2 with h2 | h2
        · exact .inl ⟨vs, h2, rfl⟩
        · exact .inr ⟨vs, h2, rfl⟩
  · exact post.elim
/-- int -> int -/
def bAbs : List D → Hv → R D := fun ds h => match ds with
  | [.int i] => .ok (.int (if i < 0 then -i else i)) h
  | _ => .stuck
def bMax2 : List D → Hv → R D := fun ds h => match ds with
  | [.int i, .int j] => .ok (.int (if j > i then j else i)) h
  | _ => .stuck
def bMin2 : List D → Hv → R D := fun ds h => match ds with
  | [.int i, .int j] => .ok (.int (if j < i then j else i)) h
  | _ => .stuck
/-- sum, max, min of ints; any, all of bools -/
def bInts (f : List Int → Option D) : List D → Hv → R D := fun ds h => match ds with
  | [d] => (match (lOf h d).bind (optAll toI) with
    | some ns => (match f ns with
      | some z => .ok z h
      | none => .stuck)
    | none => .stuck)
  | _ => .stuck
theorem bInts_ok {f : List Int → Option D} {φ : List Addr} {S H : Hp} {h : Hv} {ds : List D} {vs : List V} {Q : VK} {E : XK} (rl : Rel K φ S H h) (ra : RpA K φ S vs ds) (post : Post K (repV K) φ S H (bInts f ds h) Q E) :
    ∃ a ns z, vs = [.ref a] ∧ SqL K H a (ns.map V.int) ∧ f ns = some z ∧ ∀ v, Rp K φ S v z → Q v H := by
  unfold bInts at post
  split at post
  · next d =>
    obtain ⟨v, rfl, r⟩ := ra.one
    split at post
    · next ns hn =>
      split at post
      · next z hz =>
        obtain ⟨xs, q1, q2⟩ := Option.bind_eq_some_iff.mp hn
        obtain ⟨a, vs, rfl, h2, h3⟩ := lOf_ok rl r q1
        rw [toIs_ok h3 q2] at h2
        exact ⟨a, ns, z, rfl, h2, hz, fun v rv => post v φ S H rl (Step.refl _ _ _) rv⟩
      · exact post.elim
    · exact post.elim
  · exact post.elim
def bSum := bInts fun ns => some (.int ns.sum)
theorem cs_sum : CaS K (rSum K) bSum := by
  intro φ S H h ds vs Q E rl ra post
  obtain ⟨a, ns, z, rfl, h1, h2, h3⟩ := bInts_ok rl ra post
  cases h2
  exact ⟨a, ns, rfl, h1, h3 _ (.int _)⟩
def minI : List Int → Option Int
  | [] => none
  | x :: xs => some (xs.foldl min x)
theorem foldl_min_le : ∀ (xs : List Int) (x : Int), xs.foldl min x ≤ x ∧ (∀ y ∈ xs, xs.foldl min x ≤ y) ∧ (xs.foldl min x = x ∨ xs.foldl min x ∈ xs)
  | [], x => ⟨Int.le_refl _, fun _ z => (nomatch z), .inl rfl⟩
  | y :: ys, x => by
    obtain ⟨h1, h2, h3⟩ := foldl_min_le ys (min x y)
    rw [List.foldl_cons]
    refine ⟨by omega, fun z hz => ?_, ?_⟩
    · rcases List.mem_cons.mp hz with rfl | hz
      · omega
      · exact h2 z hz
    · rcases h3 with h3 | h3
      · rw [h3]
        rcases Int.le_total x y with q | q
        · rw [Int.min_eq_left q]; exact .inl rfl
        · rw [Int.min_eq_right q]; exact .inr List.mem_cons_self
      · exact .inr (List.mem_cons_of_mem _ h3)
theorem minI_ok {ns : List Int} {m : Int} (h : minI ns = some m) : m ∈ ns ∧ ∀ y ∈ ns, m ≤ y := by
  cases ns with
  | nil => cases h
  | cons x xs =>
    cases h
    obtain ⟨h1, h2, h3⟩ := foldl_min_le xs x
    refine ⟨?_, fun y hy => ?_⟩
    · rcases h3 with h3 | h3
      · rw [h3]; exact List.mem_cons_self
      · exact List.mem_cons_of_mem _ h3
    · rcases List.mem_cons.mp hy with rfl | hy
      · exact h1
      · exact h2 y hy
def bMin := bInts fun ns => (minI ns).map D.int
theorem cs_min : CaS K (rMin K) bMin := by
  intro φ S H h ds vs Q E rl ra post
  obtain ⟨a, ns, z, rfl, h1, h2, h3⟩ := bInts_ok rl ra post
  obtain ⟨m, hm, rfl⟩ := Option.map_eq_some_iff.mp h2
  obtain ⟨m1, m2⟩ := minI_ok hm
  refine ⟨a, ns, rfl, h1, List.length_pos_of_mem m1, fun k k1 k2 => ?_⟩
  have e : k = m := Int.le_antisymm (k2 m m1) (m2 k k1)
  rw [e]
  exact h3 _ (.int _)
def bBools (f : List Bool → Bool) : List D → Hv → R D := fun ds h => match ds with
  | [d] => (match (lOf h d).bind (optAll toBl) with
    | some ns => .ok (.bl (f ns)) h
    | none => .stuck)
  | _ => .stuck
theorem bBools_ok {f : List Bool → Bool} {φ : List Addr} {S H : Hp} {h : Hv} {ds : List D} {vs : List V} {Q : VK} {E : XK} (rl : Rel K φ S H h) (ra : RpA K φ S vs ds) (post : Post K (repV K) φ S H (bBools f ds h) Q E) :
    ∃ a ns, vs = [.ref a] ∧ SqL K H a (ns.map V.bl) ∧ Q (.bl (f ns)) H := by
  unfold bBools at post
  split at post
  · next d =>
    obtain ⟨v, rfl, r⟩ := ra.one
    split at post
    · next ns hn =>
      obtain ⟨xs, q1, q2⟩ := Option.bind_eq_some_iff.mp hn
      obtain ⟨a, vs, rfl, h2, h3⟩ := lOf_ok rl r q1
      rw [toBls_ok h3 q2] at h2
      exact ⟨a, ns, rfl, h2, post _ φ S H rl (Step.refl _ _ _) (.bl _)⟩
    · exact post.elim
  · exact post.elim
def bAll := bBools fun bs => bs.all id
def bAny := bBools fun bs => bs.any id
theorem cs_all : CaS K (rAll K) bAll := by
  intro φ S H h ds vs Q E rl ra post
  obtain ⟨a, ns, rfl, h1, h2⟩ := bBools_ok rl ra post
  exact ⟨a, ns, rfl, h1, h2⟩
/-- list(xs): new -/
def bList : List D → Hv → R (List D) := fun ds h => match ds with
  | [d] => (match sqOf h d with
    | some xs => .ok xs h
    | none => .stuck)
  | _ => .stuck
theorem cl_list : CaL K (fun xs H Q => ∃ p ys, xs = [.ref p] ∧ (SqL K H p ys ∨ SqT K H p ys) ∧ ∀ l, H l = none → Q (.ref l) (upd H l (.lst ys))) bList := by
  intro φ S H h ds vs Q E rl ra post
  unfold bList at post
  split at post
  · next d =>
    obtain ⟨v, rfl, r⟩ := ra.one
    split at post
    · next xs hx =>
      obtain ⟨a, vs, rfl, h2, h3⟩ := sqOf_ok rl r hx
      refine ⟨a, vs, rfl, h2, fun p hp => ?_⟩
      obtain ⟨r2, s2⟩ := rl.hold (o := .lst vs) hp
      exact post _ φ _ _ r2 s2 ⟨p, _, rfl, hp, upd_same, rl.snone hp, rl.notin hp, h3⟩
    · exact post.elim
  · exact post.elim
/-- sorted(ints): new -/
def sortI (ns : List Int) : List Int := ns.mergeSort fun a b => decide (a ≤ b)
theorem sortI_perm (ns : List Int) : (sortI ns).Perm ns := List.mergeSort_perm _ _
theorem sortI_rises (ns : List Int) : (sortI ns).Pairwise (· ≤ ·) := by
  have h := List.pairwise_mergeSort (le := fun (a b : Int) => decide (a ≤ b)) (fun a b c h1 h2 => by
    have := of_decide_eq_true h1
    have := of_decide_eq_true h2
    exact decide_eq_true (by omega)) (fun a b => by
    rcases Int.le_total a b with q | q
    · rw [decide_eq_true q]; rfl
    · rw [decide_eq_true q, Bool.or_true]) ns
  exact h.imp fun h => of_decide_eq_true h
theorem sort_one {xs ys : List Int} (hp : xs.Perm ys) (h1 : xs.Pairwise (· ≤ ·)) (h2 : ys.Pairwise (· ≤ ·)) : xs = ys := hp.eq_of_pairwise (le := (· ≤ ·)) (fun a b _ _ x y => Int.le_antisymm x y) h1 h2
end
end
end VD
set_option Elab.async false
set_option linter.all false
set_option maxRecDepth 100000
set_option maxHeartbeats 4000000
namespace VD
open PySem PySem.Spec PyProof.Rows L2
noncomputable section
def PostS (K : PySem.W.Frag) (φ : List Addr) (S H : Hp) (r : RS) (D : Ends) (W : WX) : Prop := match r with
  | .next σv h' => ∀ σ φ' S' H', Rel K φ' S' H' h' → RelS K φ' S' σv σ → Step φ S H φ' S' H' → D.nx σ H'
  | .brk σv h' => ∀ σ φ' S' H', Rel K φ' S' H' h' → RelS K φ' S' σv σ → Step φ S H φ' S' H' → D.bk σ H'
  | .cont σv h' => ∀ σ φ' S' H', Rel K φ' S' H' h' → RelS K φ' S' σv σ → Step φ S H φ' S' H' → D.ct σ H'
  | .ret d h' => ∀ v φ' S' H', Rel K φ' S' H' h' → Step φ S H φ' S' H' → Rp K φ' S' v d → D.rt v H'
  | .exc x σv h' => ∀ σ cls dd φ' S' H', Rel K φ' S' H' h' → RelS K φ' S' σv σ → Step φ S H φ' S' H' → RpX K φ' S' H' x cls dd → W cls dd σ H'
  | .stuck => False
theorem PostS.up {K : PySem.W.Frag} {φ φ1 : List Addr} {S H S1 H1 : Hp} {r : RS} {D : Ends} {W : WX} (s : Step φ S H φ1 S1 H1) (p : PostS K φ S H r D W) : PostS K φ1 S1 H1 r D W := by
  cases r with
  | next σv h' => exact fun σ φ' S' H' a b c => p σ φ' S' H' a b (s.trans c)
  | brk σv h' => exact fun σ φ' S' H' a b c => p σ φ' S' H' a b (s.trans c)
  | cont σv h' => exact fun σ φ' S' H' a b c => p σ φ' S' H' a b (s.trans c)
  | ret d h' => exact fun v φ' S' H' a b c => p v φ' S' H' a (s.trans b) c
  | exc x σv h' => exact fun σ cls dd φ' S' H' a b c d => p σ cls dd φ' S' H' a b (s.trans c) d
  | stuck => exact p
structure SnS (K : PySem.W.Frag) (W : WX) (ts : TS) (ss : SS) : Prop where
  run : ∀ {φ : List Addr} {S H : Hp} {h : Hv} {σv : VS} {σ : L2.St} {D : Ends}, Rel K φ S H h → RelS K φ S σv σ → PostS K φ S H (ss σv h) D W → ts D σ H
/-- a value, then a statement's end -/
def R.then {α : Type} (r : R α) (σ : VS) (f : α → Hv → RS) : RS := match r with
  | .ok a h => f a h
  | .exc x h => .exc x σ h
  | .stuck => .stuck
@[simp] theorem R.then_ok {α : Type} (a : α) (h : Hv) (σ : VS) (f : α → Hv → RS) : (R.ok a h).then σ f = f a h := rfl
@[simp] theorem R.then_exc {α : Type} (x : Xn) (h : Hv) (σ : VS) (f : α → Hv → RS) : (R.exc x h : R α).then σ f = .exc x σ h := rfl
@[simp] theorem R.then_stuck {α : Type} (σ : VS) (f : α → Hv → RS) : (R.stuck : R α).then σ f = .stuck := rfl
theorem Sn.thenS {α β : Type} {K : PySem.W.Frag} {rep : Rep α β} {W : WX} {t : L2.St → Hp → (β → Hp → Prop) → Prop} {ea : VS → Hv → R α} {f : α → Hv → RS}
    {φ : List Addr} {S H : Hp} {h : Hv} {σv : VS} {σ : L2.St} {D : Ends} {Q1 : β → Hp → Prop}
    (ha : Sn K rep W t ea) (rl : Rel K φ S H h) (rs : RelS K φ S σv σ) (post : PostS K φ S H ((ea σv h).then σv f) D W)
    (k : ∀ a h1 b φ1 S1 H1, Rel K φ1 S1 H1 h1 → RelS K φ1 S1 σv σ → Step φ S H φ1 S1 H1 → rep H φ1 S1 H1 b a → PostS K φ1 S1 H1 (f a h1) D W → Q1 b H1) : t σ H Q1 := by
  refine ha.run rl rs ?_
  cases q : ea σv h with
  | ok a h1 =>
    rw [q] at post
    exact fun b φ1 S1 H1 rl1 st rp => k a h1 b φ1 S1 H1 rl1 (rs.step st) st rp (PostS.up st post)
  | exc x h1 =>
    rw [q] at post
    exact fun cls dd φ' S' H' a b c => post σ cls dd φ' S' H' a (rs.step b) b c
  | stuck =>
    rw [q] at post
    exact post.elim
def QS (X : Cx) (W : WX) (st : Stmt) (ss : SS) : Prop := ∃ t, PS X st t ∧ SnS X.K W t ss
def QB (X : Cx) (W : WX) (st : List Stmt) (ss : SS) : Prop := ∃ t, PSs X st t ∧ SnS X.K W t ss
def sNext : SS := fun σ h => .next σ h
def sSeq (f g : SS) : SS := fun σ h => match f σ h with
  | .next σ' h' => g σ' h'
  | r => r
section
variable {X : Cx} {W : WX} {e a b c : Expr} {st : Stmt} {rest : List Stmt} {pos pos' : Pos} {fa fb fc : ES} {la lb : LS} {ca cb : CS} {s1 s2 s3 : SS}
theorem qb_nil : QB X W [] sNext := ⟨_, pss_nil, ⟨fun {φ S H h σv σ D} rl rs post => post σ φ S H rl rs (Step.refl _ _ _)⟩⟩
theorem qb_cons (h1 : QS X W st s1) (h2 : QB X W rest s2) : QB X W (st :: rest) (sSeq s1 s2) := by
  obtain ⟨t1, a1, b1⟩ := h1
  obtain ⟨t2, a2, b2⟩ := h2
  refine ⟨_, pss_cons a1 a2, ⟨fun {φ S H h σv σ D} rl rs post => b1.run rl rs ?_⟩⟩
  unfold sSeq at post
  cases q : s1 σv h with
  | next σ' h' =>
    rw [q] at post
    exact fun σ1 φ1 S1 H1 rl1 rs1 st1 => b2.run rl1 rs1 (PostS.up st1 post)
  | _ => rw [q] at post; exact post
theorem qb_one (h1 : QS X W st s1) : QB X W [st] s1 := by
  obtain ⟨t1, a1, b1⟩ := h1
  exact ⟨_, pss_one a1, b1⟩
def sDrop (f : ES) : SS := fun σ h => (f σ h).then σ fun _ h' => .next σ h'
theorem qs_expr (he : SE X W e fa) (hs : swapsWith e none pos.line X.env = pure false := by rfl) : QS X W (.Expr e pos) (sDrop fa) := by
  obtain ⟨ta, h1, h2⟩ := he
  exact ⟨_, ps_expr h1 hs, ⟨fun rl rs post => h2.thenS rl rs post fun x h1 v φ1 S1 H1 rl1 rs1 st rp post => post _ φ1 S1 H1 rl1 rs1 (Step.refl _ _ _)⟩⟩
def sRet (f : ES) : SS := fun σ h => (f σ h).then σ fun d h' => .ret d h'
theorem qs_ret (he : SE X W e fa) : QS X W (.Return (some e) pos) (sRet fa) := by
  obtain ⟨ta, h1, h2⟩ := he
  exact ⟨_, ps_ret h1, ⟨fun rl rs post => h2.thenS rl rs post fun x h1 v φ1 S1 H1 rl1 rs1 st rp post => post v φ1 S1 H1 rl1 (Step.refl _ _ _) rp⟩⟩
def sIf (c : CS) (f g : SS) : SS := fun σ h => (c σ h).then σ fun k h' => if k then f σ h' else g σ h'
theorem qs_if {x y : List Stmt} (hc : ST X W c ca) (ha : QB X W x s1) (hb : QB X W y s2) : QS X W (.If c x y pos) (sIf ca s1 s2) := by
  obtain ⟨tc, h1, h2⟩ := hc
  obtain ⟨ta, k1, k2⟩ := ha
  obtain ⟨tb, l1, l2⟩ := hb
  refine ⟨_, ps_if h1 k1 l1, ⟨fun rl rs post => h2.thenS rl rs post fun x h1 v φ1 S1 H1 rl1 rs1 st rp post => ?_⟩⟩
  cases (show v = x from rp)
  cases x with
  | true => exact k2.run rl1 rs1 post
  | false => exact l2.run rl1 rs1 post
def sSet (i : Nat) (f : ES) : SS := fun σ h => (f σ h).then σ fun d h' => .next (σ.set i (some d)) h'
theorem qs_set {i : Nat} {x : Str} (nd : X.N.Nodup) (he : SE X W e fa) (hi : X.N[i]? = some x := by rfl) (hx : Loc X.env.scope x := by first | exact Or.inl rfl | exact Or.inr rfl) (hs : swapsWith e (some (.Name x pos')) pos.line X.env = pure false := by rfl)
    (hf : X.fn x = true ∨ X.env.scope.names.lookup x = some .local := by first | exact .inl rfl | exact .inr rfl | assumption) : QS X W (.Assign [.Name x pos'] e pos) (sSet i fa) := by
  obtain ⟨ta, h1, h2⟩ := he
  exact ⟨_, ps_set nd hi hx h1 hs hf, ⟨fun rl rs post => h2.thenS rl rs post fun d h1 v φ1 S1 H1 rl1 rs1 st rp post => post _ φ1 S1 H1 rl1 (rs1.set rp i) (Step.refl _ _ _)⟩⟩
/-- a, b = x, y -/
def sPar (i j : Nat) (g : LS) : SS := fun σ h => (g σ h).then σ fun ds h' => match ds with
  | [x, y] => .next ((σ.set i (some x)).set j (some y)) h'
  | _ => .stuck
end
abbrev GD := D → VS → Option VS
abbrev GDs := List D → VS → Option VS
structure SnG (K : PySem.W.Frag) (g : TG) (gs : GD) (own : List Nat) : Prop where
  run : ∀ {φ : List Addr} {S H : Hp} {d : D} {v : V} {σv σv' : VS} {σ : L2.St} {Q : L2.St → Hp → Prop}, Ex S H → RelS K φ S σv σ → Rp K φ S v d → gs d σv = some σv' →
    (∀ σ', RelS K φ S σv' σ' → σ'.length = σ.length → (∀ j, j ∉ own → σ'[j]? = σ[j]?) → Q σ' H) → g v σ H Q
structure SnGs (K : PySem.W.Frag) (g : TGs) (gs : GDs) (own : List Nat) : Prop where
  run : ∀ {φ : List Addr} {S H : Hp} {d : List D} {v : List V} {σv σv' : VS} {σ : L2.St} {Q : L2.St → Hp → Prop}, Ex S H → RelS K φ S σv σ → RpA K φ S v d → gs d σv = some σv' →
    (∀ σ', RelS K φ S σv' σ' → σ'.length = σ.length → (∀ j, j ∉ own → σ'[j]? = σ[j]?) → Q σ' H) → g v σ H Q
def QG (X : Cx) (tg : Expr) (gs : GD) (own : List Nat) : Prop := ∃ g, PG X tg g ∧ SnG X.K g gs own
def QGs (X : Cx) (ts : List Expr) (gs : GDs) (own : List Nat) : Prop := ∃ g, PGs X ts g ∧ SnGs X.K g gs own
def gN (i : Nat) : GD := fun d σ => some (σ.set i (some d))
def gsNil : GDs := fun ds σ => match ds with
  | [] => some σ
  | _ => none
def gsCons (g : GD) (gs : GDs) : GDs := fun ds σ => match ds with
  | d :: r => (match g d σ with
    | some σ' => gs r σ'
    | none => none)
  | _ => none
def gT (n : Nat) (gs : GDs) : GD := fun d σ => match d with
  | .tup ds => if ds.length = n then gs ds σ else none
  | _ => none
section
variable {X : Cx} {pos : Pos} {e : Expr} {es : List Expr} {g : GD} {gs : GDs} {own own2 : List Nat}
theorem sng_name {K : PySem.W.Frag} (i : Nat) : SnG K (gName i) (gN i) [i] := ⟨fun {φ S H d v σv σv' σ Q} ex rs rp h k => by
  cases h
  refine k _ (rs.set rp i) (List.length_set) fun j hj => ?_
  exact List.getElem?_set_ne (fun z => hj (by rw [← z]; exact List.mem_singleton.mpr rfl))⟩
theorem qg_name {i : Nat} {x : Str} (nd : X.N.Nodup) (hi : X.N[i]? = some x := by rfl) (hx : Loc X.env.scope x := by first | exact Or.inl rfl | exact Or.inr rfl)
    (hf : X.fn x = true ∨ X.env.scope.names.lookup x = some .local := by first | exact .inl rfl | exact .inr rfl | assumption) : QG X (.Name x pos) (gN i) [i] := ⟨_, pg_name nd hi hx hf, sng_name i⟩
theorem qgs_nil : QGs X [] gsNil [] := ⟨_, pgs_nil, ⟨fun {φ S H d v σv σv' σ Q} ex rs rp h k => by
  cases d with
  | nil =>
    cases h
    cases rp
    exact ⟨rfl, k σ rs rfl fun _ _ => rfl⟩
  | cons _ _ => cases h⟩⟩
theorem qgs_cons (h1 : QG X e g own) (h2 : QGs X es gs own2) (hs : (assignEach (e :: es) X.env).map (·.2) = assign e X.env :: (assignEach es X.env).map (·.2) := by rfl) : QGs X (e :: es) (gsCons g gs) (own ++ own2) := by
  obtain ⟨t1, a1, b1⟩ := h1
  obtain ⟨t2, a2, b2⟩ := h2
  refine ⟨_, pgs_cons a1 a2 hs, ⟨fun {φ S H d v σv σv' σ Q} ex rs rp h k => ?_⟩⟩
  cases d with
  | nil => cases h
  | cons d r =>
    cases rp with
    | cons rv rr =>
      simp only [gsCons] at h
      cases q : g d σv with
      | none => rw [q] at h; cases h
      | some σ1 =>
        rw [q] at h
        refine ⟨_, _, rfl, b1.run ex rs rv q fun σ' rs1 l1 f1 => b2.run ex rs1 rr h fun σ2 rs2 l2 f2 => k σ2 rs2 (l2.trans l1) fun j hj => ?_⟩
        have hj' : ¬ (j ∈ own ∨ j ∈ own2) := fun z => hj (List.mem_append.mpr z)
        exact (f2 j fun z => hj' (.inr z)).trans (f1 j fun z => hj' (.inl z))
theorem qg_tup {k : Nat} {n : Nat} (h : QGs X es gs own) (hc : X.calm = true := by rfl) (hn : (assignEach es X.env).length = n := by rfl) (hst : (assignEach es X.env).findIdx? (·.1) = none := by rfl) : QG X (.Tuple es k pos) (gT n gs) own := by
  obtain ⟨t1, a1, b1⟩ := h
  refine ⟨_, pg_tup hc a1 hn hst, ⟨fun {φ S H d v σv σv' σ Q} ex rs rp h k => ?_⟩⟩
  cases rp with
  | @tup a vs ds h1 h2 =>
    simp only [gT] at h
    split at h
    · next q => exact ⟨a, vs, rfl, ex.sqt h1, by rw [h2.length]; exact q, b1.run ex rs h2 h k⟩
    · cases h
  | _ => cases h
end
/-- target = value -/
def sAsg (f : ES) (g : GD) : SS := fun σ h => (f σ h).then σ fun d h' => match g d σ with
  | some σ' => .next σ' h'
  | none => .stuck
theorem qs_asg {X : Cx} {W : WX} {tg e : Expr} {pos : Pos} {fa : ES} {g : GD} {own : List Nat} (he : SE X W e fa) (hg : QG X tg g own) (hs : swapsWithSole [tg] e pos.line X.env = pure false := by rfl) (hw : swappedStores [tg] e X.env = pure none := by rfl)
    (h1 : (assignEach [tg] X.env).map (·.2) = [assign tg X.env] := by rfl) : QS X W (.Assign [tg] e pos) (sAsg fa g) := by
  obtain ⟨ta, k1, k2⟩ := he
  obtain ⟨tg, l1, l2⟩ := hg
  refine ⟨_, ps_asg k1 l1 hs hw h1, ⟨fun rl rs post => k2.thenS rl rs post fun d h1 v φ1 S1 H1 rl1 rs1 st rp post => ?_⟩⟩
  split at post
  · next σ' q => exact l2.run rl1.sub rs1 rp q fun σ2 rs2 _ _ => post σ2 φ1 S1 H1 rl1 rs2 (Step.refl _ _ _)
  · exact post.elim
structure ItOk (K : PySem.W.Frag) (φ0 : List Addr) (S0 H0 : Hp) (J : It) (ds : List D) (chk : Hv → Bool) : Prop where
  go : ∀ {i φ S H h} {fz : ∀ a od u, H0 a = some (HO.frz od u) → H a = some (.frz od u)}, Rel K φ S H h → Pre φ0 φ → Ex S0 S → chk h = true → i < ds.length → J.go i H ∧ ∀ x H', J.yld i H x H' → ∃ S' d, ds[i]? = some d ∧ Rel K φ S' H' h ∧ Step φ S H φ S' H' ∧ Rp K φ S' x d
  stop : ∀ {φ S H h} {fz : ∀ a od u, H0 a = some (HO.frz od u) → H a = some (.frz od u)}, Rel K φ S H h → Pre φ0 φ → Ex S0 S → chk h = true → J.stop ds.length H
abbrev IS := VS → Hv → R (List D × (Hv → Bool))
def repI (K : PySem.W.Frag) : Rep (List D × (Hv → Bool)) It := fun _ φ' S' H' J p => ItOk K φ' S' H' J p.1 p.2
instance {K : PySem.W.Frag} : Rep.Up (repI K) := ⟨fun _ h => h⟩
def QI (X : Cx) (W : WX) (tg iter : Expr) (is : IS) : Prop := ∃ wi, PI X tg iter wi ∧ Sn X.K (repI X.K) W wi is
def always : Hv → Bool := fun _ => true
section
variable {X : Cx} {W : WX} {tg e e2 : Expr} {p pos : Pos} {fa : ES} {la : LS}
/-- a list; a tuple -/
def iL (f : ES) : IS := fun σ h => (f σ h).bind fun d h1 => match d with
  | .lst ds => .ok (ds, always) h1
  | .fz ds => .ok (ds, always) h1
  | _ => .stuck
theorem itl_ok {K : PySem.W.Frag} {φ0 : List Addr} {S0 H0 : Hp} {a : Addr} {vs : List V} {ds : List D} (h2 : SqL K S0 a vs) (h3 : RpA K φ0 S0 vs ds) : ItOk K φ0 S0 H0 (Itl K a) ds always where
  go := fun {i φ S H h fz} r2 pr ex _ hi => by
    have hS : SqL K S a vs := ex.sql h2
    obtain ⟨w, hw, rw_⟩ := h3.at (List.getElem?_eq_getElem hi)
    refine ⟨⟨vs, w, r2.sub.sql hS, hw⟩, fun x H' y => ?_⟩
    obtain ⟨rfl, y⟩ := y
    have ew := y vs (r2.sub.sql hS)
    rw [hw] at ew
    cases ew
    exact ⟨S, _, List.getElem?_eq_getElem hi, r2, Step.refl _ _ _, Rp.mono pr ex rw_⟩
  stop := fun {φ S H h fz} r2 pr ex _ => ⟨vs, r2.sub.sql (ex.sql h2), Nat.le_of_eq h3.length⟩
theorem qi_list (he : SE X W e fa) : QI X W tg e (iL fa) := by
  obtain ⟨ta, h1, h2⟩ := he
  refine ⟨_, pi_list h1, ⟨fun rl rs post => h2.bind rl rs post fun d h1 v φ1 S1 H1 rl1 rs1 st rp post => ?_⟩⟩
  cases d with
  | lst ds =>
    cases (show Rp _ _ _ _ _ from rp) with
    | lst g1 g2 => exact ⟨_, rfl, ⟨_, .inl (.inl (rl1.sub _ _ g1))⟩, post _ φ1 S1 H1 rl1 (Step.refl _ _ _) (itl_ok (.inl (.inl g1)) g2)⟩
  | fz ds =>
    cases (show Rp _ _ _ _ _ from rp) with
    | fz g1 g2 => exact ⟨_, rfl, ⟨_, rl1.sub.sql g1⟩, post _ φ1 S1 H1 rl1 (Step.refl _ _ _) (itl_ok g1 g2)⟩
  | _ => exact post.elim
/-- a list that is a cell: it stays while it is walked -/
noncomputable def isCell (n : Nat) (ds : List D) (h : Hv) : Bool := @decide (h[n]? = some (.lst ds)) (Classical.propDecidable _)
theorem isCell_of {n : Nat} {ds : List D} {h : Hv} (e : h[n]? = some (.lst ds)) : isCell n ds h = true := by
  unfold isCell
  exact @decide_eq_true _ (Classical.propDecidable _) e
noncomputable def iC (f : ES) : IS := fun σ h => (f σ h).bind fun d h1 => match d with
  | .cell n => (match h1[n]? with
    | some (.lst ds) => .ok (ds, isCell n ds) h1
    | _ => .stuck)
  | _ => .stuck
theorem qi_cell (he : SE X W e fa) : QI X W tg e (iC fa) := by
  obtain ⟨ta, h1, h2⟩ := he
  refine ⟨_, pi_list h1, ⟨fun rl rs post => h2.bind rl rs post fun d h1 v φ1 S1 H1 rl1 rs1 st rp post => ?_⟩⟩
  split at post
  · next n =>
    split at post
    · next ds hds =>
      cases (show Rp _ _ _ _ _ from rp) with
      | @cell a _ ha =>
        have look : ∀ {φ S H h}, Rel X.K φ S H h → Pre φ1 φ → isCell n ds h = true → ∃ vs, H a = some (.lst vs) ∧ RpA X.K φ S vs ds := fun {φ S H h} r2 pr ck => by
          have e : h[n]? = some (.lst ds) := by
            unfold isCell at ck
            exact @of_decide_eq_true _ (Classical.propDecidable _) ck
          obtain ⟨_, o, ho, vs, rfl, ra⟩ := r2.cel n a _ (pr.at ha) e
          exact ⟨vs, ho, ra⟩
        obtain ⟨vs0, hv0, _⟩ := look rl1 (Pre.refl _) (isCell_of hds)
        refine ⟨a, rfl, ⟨vs0, .inl (.inl hv0)⟩, post _ φ1 S1 H1 rl1 (Step.refl _ _ _) ⟨fun {i φ S H h fz} r2 pr ex ck hi => ?_, fun {φ S H h fz} r2 pr ex ck => ?_⟩⟩
        · obtain ⟨vs, hv, ra⟩ := look r2 pr ck
          obtain ⟨w, hw, rw_⟩ := ra.at (List.getElem?_eq_getElem hi)
          refine ⟨⟨vs, w, .inl (.inl hv), hw⟩, fun x H' y => ?_⟩
          obtain ⟨rfl, y⟩ := y
          have ew := y vs (.inl (.inl hv))
          rw [hw] at ew
          cases ew
          exact ⟨S, _, List.getElem?_eq_getElem hi, r2, Step.refl _ _ _, rw_⟩
        · obtain ⟨vs, hv, ra⟩ := look r2 pr ck
          exact ⟨vs, .inl (.inl hv), Nat.le_of_eq ra.length⟩
    · exact post.elim
  · exact post.elim
def iT (f : ES) : IS := fun σ h => (f σ h).bind fun d h1 => match d with
  | .tup ds => .ok (ds, always) h1
  | _ => .stuck
def rgD (lo : Int) (n : Nat) : List D := (List.range n).map fun i => .int (lo + (i : Nat))
theorem itr_ok {K : PySem.W.Frag} {φ0 : List Addr} {S0 H0 : Hp} (lo : Int) (n : Nat) : ItOk K φ0 S0 H0 (Itr lo n) (rgD lo n) always where
  go := fun {i φ S H h fz} r2 pr ex _ hi => by
    unfold rgD at hi ⊢
    rw [List.length_map, List.length_range] at hi
    refine ⟨hi, fun x H' y => ?_⟩
    obtain ⟨rfl, rfl⟩ := y
    exact ⟨S, .int (lo + (i : Nat)), by rw [List.getElem?_map, List.getElem?_range hi]; rfl, r2, Step.refl _ _ _, .int _⟩
  stop := fun {φ S H h fz} r2 pr ex _ => by
    unfold rgD
    rw [List.length_map, List.length_range]
    exact Nat.le_refl _
def iR1 (g : LS) : IS := fun σ h => (g σ h).bind fun ds h1 => match ds with
  | [.int n] => @ite _ (-(2 ^ 62) ≤ n ∧ n < 2 ^ 62) (Classical.propDecidable _) (.ok (rgD 0 n.toNat, always) h1) .stuck
  | _ => .stuck
theorem qi_range1 {a : Expr} (hm : X.mg "range" = none) (ha : SA X W [a] la) (hg : Gl X "range" := by rfl) (hs : starEach [a] X.env = [(false, eval a X.env)] := by rfl) : QI X W tg (.Call (.Name "range" p) [a] [] pos) (iR1 la) := by
  obtain ⟨ta, h1, h2⟩ := ha
  refine ⟨_, pi_range1 hg hm h1 hs, ⟨fun rl rs post => h2.bind rl rs post fun ds h1 vs φ1 S1 H1 rl1 rs1 st rp post => ?_⟩⟩
  have ra : RpA X.K φ1 S1 vs ds := rp
  split at post
  · next n =>
    obtain ⟨v, rfl, r⟩ := ra.one
    cases r
    split at post
    · next q => exact ⟨n, rfl, q.1, q.2, post (Itr 0 n.toNat) φ1 S1 H1 rl1 (Step.refl _ _ _) (itr_ok 0 n.toNat)⟩
    · exact post.elim
  · exact post.elim
def iR2 (g : LS) : IS := fun σ h => (g σ h).bind fun ds h1 => match ds with
  | [.int m, .int n] => @ite _ ((-(2 ^ 62) ≤ m ∧ m < 2 ^ 62) ∧ (-(2 ^ 62) ≤ n ∧ n < 2 ^ 62)) (Classical.propDecidable _) (.ok (rgD m (n - m).toNat, always) h1) .stuck
  | _ => .stuck
/-- zip of two lists -/
def zipD : List D → List D → List D
  | x :: xs, y :: ys => .tup [x, y] :: zipD xs ys
  | _, _ => []
def lsOf : D → Option (List D)
  | .lst xs => some xs
  | .fz xs => some xs
  | _ => none
def iZ (g : LS) : IS := fun σ h => (g σ h).bind fun ds h1 => match ds with
  | [x, y] => (match lsOf x, lsOf y with
    | some xs, some ys => if xs.length = ys.length then .ok (zipD xs ys, always) h1 else .stuck
    | _, _ => .stuck)
  | _ => .stuck
end
def forD (chk : Hv → Bool) (g : GD) (body : SS) : List D → VS → Hv → RS
  | [], σ, h => if chk h then .next σ h else .stuck
  | d :: ds, σ, h => if chk h then (match g d σ with
    | some σ1 => (match body σ1 h with
      | .next σ2 h2 => forD chk g body ds σ2 h2
      | .cont σ2 h2 => forD chk g body ds σ2 h2
      | .brk σ2 h2 => .next σ2 h2
      | r => r)
    | none => .stuck) else .stuck
def sFor (is : IS) (g : GD) (body : SS) : SS := fun σ h => (is σ h).then σ fun p h1 => forD p.2 g body p.1 σ h1
theorem qs_for {X : Cx} {W : WX} {tg iter : Expr} {body : List Stmt} {is : IS} {g : GD} {own : List Nat} {s1 : SS} {pos : Pos} (hp : PassesOwn (model X.prog X.w) X.A X.env X.xe) (hi : QI X W tg iter is) (hg : QG X tg g own) (hb : QB X W body s1) (hc : X.calm = true := by rfl)
    (hs : ∀ x, foldedSetIterable iter X.env x = pure x := by intro _; rfl) : QS X W (.For tg iter body [] pos) (sFor is g s1) := by
  obtain ⟨wi, a1, a2⟩ := hi
  obtain ⟨tg', b1, b2⟩ := hg
  obtain ⟨tb, c1, c2⟩ := hb
  refine ⟨_, ps_for hp hc a1 b1 c1 hs, ⟨fun {φ S H h σv σ D} rl rs post => a2.thenS rl rs post fun pr h1 J φ1 S1 H1 rl1 rs1 st rp post => ?_⟩⟩
  obtain ⟨ds, chk⟩ := pr
  have ok : ItOk X.K φ1 S1 H1 J ds chk := rp
  refine ⟨fun i m σ' H' => m = ds.length - i ∧ i ≤ ds.length ∧ ∃ φ' S' h' σv', Rel X.K φ' S' H' h' ∧ RelS X.K φ' S' σv' σ' ∧ Step φ1 S1 H1 φ' S' H' ∧ PostS X.K φ' S' H' (forD chk g s1 (ds.drop i) σv' h') D W,
    ⟨ds.length, rfl, Nat.zero_le _, φ1, S1, h1, σv, rl1, rs1, Step.refl _ _ _, post⟩, ?_⟩
  rintro i m σ' H' ⟨rfl, hi, φ', S', h', σv', r2, rs2, st2, post⟩
  by_cases hlt : i < ds.length
  · rw [List.drop_eq_getElem_cons hlt] at post
    by_cases hck : chk h' = true
    · simp only [forD, hck, if_true] at post
      obtain ⟨go, yl⟩ := ok.go (fz := st2.frz) r2 st2.prefix st2.sub hck hlt
      cases q : g ds[i] σv' with
      | none => simp only [q] at post; exact post.elim
      | some σ1 =>
        simp only [q] at post
        refine .inr ⟨go, fun σ2 H2 => ∃ φ2 S2 h2 σv2, Rel X.K φ2 S2 H2 h2 ∧ RelS X.K φ2 S2 σv2 σ2 ∧ Step φ1 S1 H1 φ2 S2 H2 ∧ PostS X.K φ2 S2 H2 (forD chk g s1 (ds.drop (i + 1)) σv2 h2) D W, fun σ2 H2 hN => ⟨ds.length - (i + 1), by omega, rfl, hlt, hN⟩, fun x H3 hy => ?_⟩
        obtain ⟨S3, d, hd, r3, st3, rx⟩ := yl x H3 hy
        rw [List.getElem?_eq_getElem hlt] at hd
        cases hd
        refine b2.run r3.sub (rs2.step st3) rx q fun σ4 rs4 _ _ => c2.run r3 rs4 ?_
        cases qb : s1 σ1 h' with
        | next σ5 h5 =>
          simp only [qb] at post
          exact fun σ6 φ6 S6 H6 r6 rs6 st6 => ⟨φ6, S6, h5, σ5, r6, rs6, (st2.trans st3).trans st6, PostS.up (st3.trans st6) post⟩
        | cont σ5 h5 =>
          simp only [qb] at post
          exact fun σ6 φ6 S6 H6 r6 rs6 st6 => ⟨φ6, S6, h5, σ5, r6, rs6, (st2.trans st3).trans st6, PostS.up (st3.trans st6) post⟩
        | brk σ5 h5 =>
          simp only [qb] at post
          exact fun σ6 φ6 S6 H6 r6 rs6 st6 => post σ6 φ6 S6 H6 r6 rs6 (st3.trans st6)
        | ret d h5 =>
          simp only [qb] at post
          exact fun v φ6 S6 H6 r6 st6 rv => post v φ6 S6 H6 r6 (st3.trans st6) rv
        | exc x σ5 h5 =>
          simp only [qb] at post
          exact fun σ6 cls dd φ6 S6 H6 r6 rs6 st6 rx => post σ6 cls dd φ6 S6 H6 r6 rs6 (st3.trans st6) rx
        | stuck => simp only [qb] at post; exact post.elim
    · simp only [forD, hck] at post
      exact post.elim
  · have e : i = ds.length := by omega
    subst e
    rw [List.drop_length] at post
    by_cases hck : chk h' = true
    · simp only [forD, hck, if_true] at post
      exact .inl ⟨ok.stop (fz := st2.frz) r2 st2.prefix st2.sub hck, post σ' φ' S' H' r2 rs2 (Step.refl _ _ _)⟩
    · simp only [forD, hck] at post
      exact post.elim
def whileD (c : CS) (body : SS) : Nat → VS → Hv → RS
  | 0, _, _ => .stuck
  | n + 1, σ, h => (c σ h).then σ fun k h1 => if k then (match body σ h1 with
    | .next σ2 h2 => whileD c body n σ2 h2
    | .cont σ2 h2 => whileD c body n σ2 h2
    | .brk σ2 h2 => .next σ2 h2
    | r => r) else .next σ h1
/-- fuel: what one's own proof knows to be enough -/
def sWhile (fuel : VS → Hv → Nat) (c : CS) (body : SS) : SS := fun σ h => whileD c body (fuel σ h) σ h
theorem qs_while {X : Cx} {W : WX} {c : Expr} {body : List Stmt} {ca : CS} {s1 : SS} {pos : Pos} (fuel : VS → Hv → Nat) (hp : PassesOwn (model X.prog X.w) X.A X.env X.xe) (hc : ST X W c ca) (hb : QB X W body s1) : QS X W (.While c body [] pos) (sWhile fuel ca s1) := by
  obtain ⟨tc, a1, a2⟩ := hc
  obtain ⟨tb, c1, c2⟩ := hb
  refine ⟨_, ps_while hp a1 c1, ⟨fun {φ S H h σv σ D} rl rs post => ?_⟩⟩
  refine ⟨fun m σ' H' => ∃ φ' S' h' σv', Rel X.K φ' S' H' h' ∧ RelS X.K φ' S' σv' σ' ∧ PostS X.K φ' S' H' (whileD ca s1 m σv' h') D W, ⟨_, φ, S, h, σv, rl, rs, post⟩, ?_⟩
  rintro m σ' H' ⟨φ', S', h', σv', r2, rs2, post⟩
  cases m with
  | zero => exact post.elim
  | succ m =>
    refine a2.thenS r2 rs2 post fun k h1 k' φ1 S1 H1 rl1 rs1 st rp post => ?_
    cases (show k' = k from rp)
    cases k with
    | true =>
      rw [if_pos rfl] at post
      refine (if_pos rfl : (if true = true then _ else _) = _) ▸ ⟨fun σ2 H2 => ∃ φ2 S2 h2 σv2, Rel X.K φ2 S2 H2 h2 ∧ RelS X.K φ2 S2 σv2 σ2 ∧ PostS X.K φ2 S2 H2 (whileD ca s1 m σv2 h2) D W, fun σ2 H2 hN => ⟨m, Nat.lt_succ_self m, hN⟩, c2.run rl1 rs1 ?_⟩
      cases qb : s1 σv' h1 with
      | next σ5 h5 =>
        simp only [qb] at post
        exact fun σ6 φ6 S6 H6 r6 rs6 st6 => ⟨φ6, S6, h5, σ5, r6, rs6, PostS.up st6 post⟩
      | cont σ5 h5 =>
        simp only [qb] at post
        exact fun σ6 φ6 S6 H6 r6 rs6 st6 => ⟨φ6, S6, h5, σ5, r6, rs6, PostS.up st6 post⟩
      | brk σ5 h5 => simp only [qb] at post; exact post
      | ret d h5 => simp only [qb] at post; exact post
      | exc x σ5 h5 => simp only [qb] at post; exact post
      | stuck => simp only [qb] at post; exact post.elim
    | false =>
      exact post σ' φ1 S1 H1 rl1 rs1 (Step.refl _ _ _)
/-- fuel enough, where some is -/
def fuelC (c : CS) (body : SS) (σ : VS) (h : Hv) : Nat := @dite Nat (∃ n, whileD c body n σ h ≠ .stuck) (Classical.propDecidable _) (fun z => Classical.choose z) (fun _ => 0)
def sLoop (c : CS) (body : SS) : SS := sWhile (fuelC c body) c body
theorem qs_loop {X : Cx} {W : WX} {c : Expr} {body : List Stmt} {ca : CS} {s1 : SS} {pos : Pos} (hp : PassesOwn (model X.prog X.w) X.A X.env X.xe) (hc : ST X W c ca) (hb : QB X W body s1) : QS X W (.While c body [] pos) (sLoop ca s1) := qs_while (fuelC ca s1) hp hc hb
theorem whileD_up {c : CS} {body : SS} : ∀ (n : Nat) (σ : VS) (h : Hv), whileD c body n σ h ≠ .stuck → ∀ m, n ≤ m → whileD c body m σ h = whileD c body n σ h
  | 0, σ, h, q, m, hm => absurd rfl q
  | n + 1, σ, h, q, 0, hm => absurd hm (by omega)
  | n + 1, σ, h, q, m + 1, hm => by
    have ih := fun σ h q => whileD_up (c := c) (body := body) n σ h q m (by omega)
    simp only [whileD] at q ⊢
    cases e1 : c σ h with
    | ok k h1 =>
      simp only [e1, R.then_ok] at q ⊢
      cases k with
      | false => rfl
      | true =>
        simp only [if_true] at q ⊢
        cases e2 : body σ h1 with
        | next σ2 h2 => simp only [e2] at q ⊢; exact ih _ _ q
        | cont σ2 h2 => simp only [e2] at q ⊢; exact ih _ _ q
        | brk σ2 h2 => rfl
        | ret d h2 => rfl
        | exc x σ2 h2 => rfl
        | stuck => rfl
    | exc x h1 => rfl
    | stuck => rfl
theorem sLoop_at {c : CS} {body : SS} {n : Nat} {σ : VS} {h : Hv} (q : whileD c body n σ h ≠ .stuck) : sLoop c body σ h = whileD c body n σ h := by
  have z : ∃ n, whileD c body n σ h ≠ .stuck := ⟨n, q⟩
  show whileD c body (fuelC c body σ h) σ h = _
  unfold fuelC
  rw [dif_pos z]
  have z2 := Classical.choose_spec z
  rcases Nat.le_total (Classical.choose z) n with hh | hh
  · exact (whileD_up _ _ _ z2 _ hh).symm
  · exact whileD_up _ _ _ q _ hh
end
end VD
set_option Elab.async false
set_option linter.all false
set_option maxRecDepth 100000
set_option maxHeartbeats 4000000
namespace VD
open PySem PySem.Spec PyProof.Rows L2
noncomputable section
/-- no exception leaves here -/
abbrev W0 : WX := fun _ _ _ _ => False
def R.calm {α : Type} (r : R α) : R α := match r with
  | .ok a h => .ok a h
  | _ => .stuck
@[simp] theorem R.calm_ok {α : Type} (a : α) (h : Hv) : (R.ok a h).calm = .ok a h := rfl
@[simp] theorem R.calm_stuck {α : Type} : (R.stuck : R α).calm = .stuck := rfl
/-- the slots of a block's own names -/
def wipeV (σ : VS) : List Nat → VS
  | [] => σ
  | v :: vs => (wipeV σ vs).set v none
def lcD (chk : Hv → Bool) (g : GD) (c : CS) (elt : ES) : List D → VS → Hv → R (List D)
  | [], _, h => if chk h then .ok [] h else .stuck
  | d :: ds, σ, h => if chk h then (match g d σ with
    | some σ1 => (c σ1 h).calm.bind fun b h1 => if b then (elt σ1 h1).calm.bind fun y h2 => (lcD chk g c elt ds σ h2).bind fun ys h3 => .ok (y :: ys) h3 else lcD chk g c elt ds σ h1
    | none => .stuck) else .stuck
def lLc (is : IS) (g : GD) (c : CS) (elt : ES) (own : List Nat) : LS := fun σ h => (is σ h).bind fun p h1 => if p.1.length ≤ 16777216 then lcD p.2 g c elt p.1 (wipeV σ own) h1 else .stuck
theorem wipe_at {σ : L2.St} : ∀ {vs : List Nat} {j : Nat}, (wipe σ vs)[j]? = if j ∈ vs then (if j < σ.length then some none else none) else σ[j]?
  | [], j => by simp [wipe]
  | v :: vs, j => by
    unfold wipe
    by_cases q : v = j
    · subst q
      rw [if_pos List.mem_cons_self]
      by_cases hl : v < σ.length
      · rw [if_pos hl, List.getElem?_set_self (by rw [wipe_length]; exact hl)]
      · rw [if_neg hl, List.getElem?_eq_none (by rw [List.length_set, wipe_length]; omega)]
    · rw [List.getElem?_set_ne q, wipe_at (vs := vs) (j := j)]
      by_cases hm : j ∈ vs
      · rw [if_pos hm, if_pos (List.mem_cons_of_mem _ hm)]
      · rw [if_neg hm, if_neg (fun z => (List.mem_cons.mp z).elim (fun z => q z.symm) hm)]
theorem wipe_same {σ σ' : L2.St} {own vs : List Nat} (hl : σ'.length = (wipe σ vs).length) (h : ∀ j, j ∉ own → σ'[j]? = (wipe σ vs)[j]?) (hs : ∀ j ∈ own, j ∈ vs) : wipe σ' vs = wipe σ vs := by
  refine List.ext_getElem? fun j => ?_
  rw [wipe_at, wipe_at]
  have hl2 : σ'.length = σ.length := by rw [hl, wipe_length]
  by_cases hm : j ∈ vs
  · rw [if_pos hm, if_pos hm, hl2]
  · rw [if_neg hm, if_neg hm, h j (fun z => hm (hs j z)), wipe_at, if_neg hm]
theorem RelS.wipe {K : PySem.W.Frag} {φ : List Addr} {S : Hp} {σv : VS} {σ : L2.St} (r : RelS K φ S σv σ) : ∀ vs : List Nat, RelS K φ S (wipeV σv vs) (L2.wipe σ vs)
  | [] => r
  | v :: vs => (RelS.wipe r vs).unset v none
def tS {α β : Type} (K : PySem.W.Frag) (rep : Rep α β) (W : WX) (es : VS → Hv → R α) : L2.St → Hp → (β → Hp → Prop) → Prop := fun σ H Q => ∃ φ S h σv, Rel K φ S H h ∧ RelS K φ S σv σ ∧ Post K rep φ S H (es σv h) Q (fun c d H' => W c d σ H')
def SCs (X : Cx) (W : WX) (ifs : List Expr) (c : CS) : Prop := ∃ t, PTs X ifs t ∧ Sn X.K repB W t c
section
variable {X : Cx} {W : WX} {e : Expr} {es : List Expr} {fa : ES} {ca : CS}
theorem SE.can (h : SE X W e fa) : PE X e (tS X.K (repV X.K) W fa) := by
  obtain ⟨t, h1, h2⟩ := h
  exact ⟨fun pins s σ H Q I ⟨φ, S, h, σv, rl, rs, post⟩ => h1.run pins s σ H Q I (h2.run rl rs post)⟩
theorem SCs.can (h : SCs X W es ca) : PTs X es (tS X.K repB W ca) := by
  obtain ⟨t, h1, h2⟩ := h
  exact ⟨fun pins s σ H Q I ⟨φ, S, h, σv, rl, rs, post⟩ => h1.run pins s σ H Q I (h2.run rl rs post)⟩
def cYes : CS := fun _ h => .ok true h
theorem scs_nil : SCs X W [] cYes := ⟨_, pts_nil, ⟨fun {φ S H h σv σ Q} rl rs post => post true φ S H rl (Step.refl _ _ _) rfl⟩⟩
theorem scs_one (h : ST X W e ca) : SCs X W [e] ca := let ⟨t, h1, h2⟩ := h; ⟨t, pts_one h1, h2⟩
end
def tGd (K : PySem.W.Frag) (gs : GD) (own : List Nat) : TG := fun v σ H Q => ∃ φ S σv σv' d, Ex S H ∧ RelS K φ S σv σ ∧ Rp K φ S v d ∧ gs d σv = some σv' ∧ ∀ σ', RelS K φ S σv' σ' → σ'.length = σ.length → (∀ j, j ∉ own → σ'[j]? = σ[j]?) → Q σ' H
theorem QG.can {X : Cx} {tg : Expr} {gs : GD} {own : List Nat} (h : QG X tg gs own) : PG X tg (tGd X.K gs own) := by
  obtain ⟨t, h1, h2⟩ := h
  exact ⟨fun pins s σ H v u Q I r ⟨φ, S, σv, σv', d, ex, rs, rp, e, k⟩ => h1.run pins s σ H v u Q I r (h2.run ex rs rp e k)⟩
section
variable {X : Cx} {W : WX} {elt tg iter : Expr} {ifs : List Expr} {scope : Scope} {own : List (Str × Nat)} {is : IS} {g : GD} {gown : List Nat} {c : CS} {el : ES} {pos spos : Pos}
theorem sn_lc {wi : TI} (h2 : Sn X.K (repI X.K) W wi is) (hown : ∀ j ∈ gown, j ∈ own.map (·.2)) :
    Sn X.K (repL X.K) W (tLc wi (tGd X.K g gown) (tS X.K repB W0 c) (tS X.K (repV X.K) W0 el) (own.map (·.2))) (lLc is g c el (own.map (·.2))) := by
  refine ⟨fun {φ S H h σv σ Q} rl rs post => h2.run rl rs (post.map fun pr h1 J φ1 S1 H1 rl1 st rp post => ?_)⟩
  obtain ⟨ds, chk⟩ := pr
  have ok : ItOk X.K φ1 S1 H1 J ds chk := rp
  have hz : ds.length ≤ 16777216 := by
    refine Classical.byContradiction fun hz => ?_
    simp only [hz, if_false] at post
    exact post.elim
  simp only [hz, if_true] at post
  intro D hD
  have rs1 : RelS X.K φ1 S1 σv σ := rs.step st
  have hD0 : H D = none := st.fresh hD
  generalize hvs : own.map (·.2) = vs at post hown ⊢
  -- what is still to come, put behind what is made
  refine ⟨fun i m H' => m = ds.length - i ∧ i ≤ ds.length ∧ ∃ φ' S' h' acc da, Rel X.K φ' S' H' h' ∧ Step φ1 S1 H1 φ' S' H' ∧ S' D = none ∧ D ∉ φ' ∧ H' D = some (.lst acc) ∧ RpA X.K φ' S' acc da ∧ da.length ≤ i ∧
      Post X.K (repL X.K) φ S H ((lcD chk g c el (ds.drop i) (wipeV σv vs) h').bind fun ys h3 => .ok (da ++ ys) h3) Q (fun c d H' => W c d σ H'), ?_, ?_⟩
  · obtain ⟨r2, s2⟩ := rl1.hold (o := .lst []) hD
    refine ⟨ds.length, rfl, Nat.zero_le _, φ1, S1, h1, [], [], r2, s2, rl1.snone hD, rl1.notin hD, upd_same, .nil, Nat.le_refl _, ?_⟩
    rw [List.drop_zero]
    cases q : lcD chk g c el ds (wipeV σv vs) h1 with
    | ok a h => rw [q] at post; exact post
    | exc x h => rw [q] at post; exact post
    | stuck => rw [q] at post; exact post
  · rintro i m H' ⟨rfl, hi, φ', S', h', acc, da, r2, st2, sD, nD, hDl, ra, hda, post⟩
    have s12 : Step φ1 S1 H1 φ' S' H' := st2
    by_cases hlt : i < ds.length
    · rw [List.drop_eq_getElem_cons hlt] at post
      have hck : chk h' = true := by
        refine Classical.byContradiction fun hck => ?_
        simp only [lcD, hck] at post
        exact post.elim
      simp only [lcD, hck, if_true] at post
      obtain ⟨go, yl⟩ := ok.go (fz := st2.frz) r2 st2.prefix st2.sub hck hlt
      cases q : g ds[i] (wipeV σv vs) with
      | none => simp only [q] at post; exact post.elim
      | some σ1 =>
        simp only [q] at post
        refine .inr ⟨go, fun H2 => ∃ φ2 S2 h2 acc2 da2, Rel X.K φ2 S2 H2 h2 ∧ Step φ1 S1 H1 φ2 S2 H2 ∧ S2 D = none ∧ D ∉ φ2 ∧ H2 D = some (.lst acc2) ∧ RpA X.K φ2 S2 acc2 da2 ∧ da2.length ≤ i + 1 ∧
          Post X.K (repL X.K) φ S H ((lcD chk g c el (ds.drop (i + 1)) (wipeV σv vs) h2).bind fun ys h3 => .ok (da2 ++ ys) h3) Q (fun c d H' => W c d σ H'), fun H2 hN => ⟨ds.length - (i + 1), by omega, rfl, hlt, hN⟩, fun x H3 hy => ?_⟩
        obtain ⟨S3, d, hd, r3, st3, rx⟩ := yl x H3 hy
        rw [List.getElem?_eq_getElem hlt] at hd
        cases hd
        have rsw : RelS X.K φ' S3 (wipeV σv vs) (wipe σ vs) := ((rs1.step s12).step st3).wipe vs
        refine ⟨φ', S3, _, _, _, r3.sub, rsw, rx, q, fun σ4 rs4 l4 f4 => ⟨wipe_same l4 f4 hown, ?_⟩⟩
        refine ⟨φ', S3, h', σ1, r3, rs4, ?_⟩
        cases qc : c σ1 h' with
        | stuck => simp only [qc, R.calm_stuck, R.bind_stuck] at post; exact post.elim
        | exc x h => simp only [qc, R.calm, R.bind_stuck] at post; exact post.elim
        | ok b h5 =>
          simp only [qc, R.calm_ok, R.bind_ok] at post
          intro b' φ5 S5 H5 r5 st5 eb
          cases (show b' = b from eb)
          have s15 : Step φ1 S1 H1 φ5 S5 H5 := (st2.trans st3).trans st5
          have nD' : H' D ≠ none := by rw [hDl]; exact fun z => nomatch z
          have S3D : S3 D = none := (st3.old D nD').trans sD
          have H3D : H3 D = some (.lst acc) := st3.keep D _ hDl nD
          have S5D : S5 D = none := (st5.old D (by rw [H3D]; exact fun z => nomatch z)).trans S3D
          have H5D : H5 D = some (.lst acc) := st5.keep D _ H3D nD
          have n5D : D ∉ φ5 := fun z => by
            obtain ⟨ψ, e, hn⟩ := st5.pre
            rw [e] at z
            rcases List.mem_append.mp z with z | z
            · exact nD z
            · rw [hn D z] at H3D; cases H3D
          have ra5 : RpA X.K φ5 S5 acc da := ra.mono (st3.trans st5).prefix (st3.trans st5).sub
          cases b with
          | false =>
            rw [if_neg Bool.false_ne_true]
            exact ⟨φ5, S5, h5, acc, da, r5, s15, S5D, n5D, H5D, ra5, by omega, post⟩
          | true =>
            rw [if_pos rfl]
            simp only [if_true] at post
            refine ⟨φ5, S5, h5, σ1, r5, rs4.step st5, ?_⟩
            cases qe : el σ1 h5 with
            | stuck => simp only [qe, R.calm_stuck, R.bind_stuck] at post; exact post.elim
            | exc x h => simp only [qe, R.calm, R.bind_stuck] at post; exact post.elim
            | ok y h6 =>
              simp only [qe, R.calm_ok, R.bind_ok] at post
              intro v φ6 S6 H6 r6 st6 rv
              have S6D : S6 D = none := (st6.old D (by rw [H5D]; exact fun z => nomatch z)).trans S5D
              have H6D : H6 D = some (.lst acc) := st6.keep D _ H5D n5D
              have n6D : D ∉ φ6 := fun z => by
                obtain ⟨ψ, e, hn⟩ := st6.pre
                rw [e] at z
                rcases List.mem_append.mp z with z | z
                · exact n5D z
                · rw [hn D z] at H5D; cases H5D
              have ra6 : RpA X.K φ6 S6 acc da := ra5.mono st6.prefix st6.sub
              refine ⟨acc, H6D, by rw [ra.length, line_eq]; omega, φ6, S6, h6, acc ++ [v], da ++ [y], ?_, ?_, S6D, n6D, upd_same, ra6.append (.cons rv .nil), by rw [List.length_append, List.length_singleton]; omega, ?_⟩
              · refine ⟨r6.len, fun a o e => ?_, r6.nd, fun n a c e1 e2 => ?_⟩
                · rw [upd_ne (ne_of_none e S6D)]; exact r6.sub a o e
                · obtain ⟨h1, o', h2, h3⟩ := r6.cel n a c e1 e2
                  exact ⟨h1, o', by rw [upd_ne (fun z => n6D (by rw [← z]; exact List.mem_of_getElem? e1))]; exact h2, h3⟩
              · have s16 := s15.trans st6
                refine ⟨s16.pre, s16.sub, s16.old, fun a o e hn => ?_, fun a ha => ?_, fun a od u e => by rw [upd_ne (ne_of_none e hD)]; exact s16.frz a od u e⟩
                · rw [upd_ne (ne_of_none e hD)]; exact s16.keep a o e hn
                · rw [upd_ne (fun z => ha (by rw [z]; exact hD))]; exact s16.there a ha
              · cases ql : lcD chk g c el (ds.drop (i + 1)) (wipeV σv vs) h6 with
                | ok ys h7 => simp only [ql, R.bind_ok, List.append_assoc, List.singleton_append] at post ⊢; exact post
                | exc x h7 => simp only [ql, R.bind_exc] at post ⊢; exact post
                | stuck => simp only [ql, R.bind_stuck] at post; exact post.elim
    · have e : i = ds.length := by omega
      subst e
      rw [List.drop_length] at post
      have hck : chk h' = true := by
        refine Classical.byContradiction fun hck => ?_
        simp only [lcD, hck] at post
        exact post.elim
      simp only [lcD, hck, if_true, R.bind_ok, List.append_nil] at post
      exact .inl ⟨ok.stop (fz := st2.frz) r2 st2.prefix st2.sub hck, post (.ref D) φ' S' H' r2 (st.trans s12) ⟨D, acc, rfl, hD0, hDl, sD, nD, ra⟩⟩
theorem sn_V {K : PySem.W.Frag} {W : WX} {te : TE} {f : LS} (h : Sn K (repL K) W te f) : Sn K (repV K) W te (eV f) := ⟨fun rl rs post => h.run rl rs (post.map fun ds h1 v φ1 S1 H1 rl1 st rp post => by
  obtain ⟨p, vs, rfl, hp, hp1, hs1, hn1, ra⟩ := rp
  exact post (.ref p) φ1 _ H1 (rl1.still hp1 hs1 hn1) (st.still hp hs1) (.lst upd_same (ra.mono (Pre.refl _) (Ex.new hs1))))⟩
theorem sl_lc (nd : X.N.Nodup) (hi : QI X W tg iter is) (ok : BlkOk X.N X.env.scope scope own)
    (hg : ∀ (s : Shared) (H : Hp) (C : Addr) (cl : List (Str × Addr)) (fp : List Addr), QG (X.blk s H scope (compEnvC scope cl C X.env) fp) tg g gown) (hown : ∀ j ∈ gown, j ∈ own.map (·.2))
    (ht : ∀ (s : Shared) (H : Hp) (C : Addr) (cl : List (Str × Addr)) (fp : List Addr), SCs (X.blk s H scope (compEnvC scope cl C X.env) fp) W0 ifs c)
    (he : ∀ (s : Shared) (H : Hp) (C : Addr) (cl : List (Str × Addr)) (fp : List Addr), SE (X.blk s H scope (compEnvC scope cl C X.env) fp) W0 elt el) (hc : X.calm = true := by rfl) (hs : ∀ x, foldedSetIterable iter X.env x = pure x := by intro _; rfl) :
    SL X W (.ListComp elt [⟨tg, iter, ifs, 0⟩] scope pos) (lLc is g c el (own.map (·.2))) := by
  obtain ⟨wi, h1, h2⟩ := hi
  exact ⟨_, pe_lc hc nd h1 ok (fun s H C cl fp => (hg s H C cl fp).can) (fun s H C cl fp => (ht s H C cl fp).can) (fun s H C cl fp => (he s H C cl fp).can) hs, sn_lc h2 hown⟩
theorem sns_set {K : PySem.W.Frag} {W : WX} {te : TE} {f : ES} {i : Nat} (h : Sn K (repV K) W te f) : SnS K W (tAsg te (gName i)) (sSet i f) := ⟨fun rl rs post => h.thenS rl rs post fun d h1 v φ1 S1 H1 rl1 rs1 st rp post => post _ φ1 S1 H1 rl1 (rs1.set rp i) (Step.refl _ _ _)⟩
/-- y = [..] -/
theorem qs_setLc {i : Nat} {y : Str} {py : Pos} {f : LS → ES} (hf : ∀ {K : PySem.W.Frag} {W : WX} {te : TE} {l : LS}, Sn K (repL K) W te l → Sn K (repV K) W te (f l)) (nd : X.N.Nodup)
    (hsw : swapsWith (.ListComp elt [⟨tg, iter, ifs, 0⟩] scope pos) (some (.Name y py)) spos.line X.env = pure true) (hi : QI X W tg iter is) (ok : BlkOk X.N X.env.scope scope own)
    (hg : ∀ (s : Shared) (H : Hp) (C : Addr) (cl : List (Str × Addr)) (fp : List Addr), QG (X.blk s H scope (compEnvC scope cl C X.env) fp) tg g gown) (hown : ∀ j ∈ gown, j ∈ own.map (·.2))
    (ht : ∀ (s : Shared) (H : Hp) (C : Addr) (cl : List (Str × Addr)) (fp : List Addr), SCs (X.blk s H scope (compEnvC scope cl C X.env) fp) W0 ifs c)
    (he : ∀ (s : Shared) (H : Hp) (C : Addr) (cl : List (Str × Addr)) (fp : List Addr), SE (X.blk s H scope (compEnvC scope cl C X.env) fp) W0 elt el)
    (hy : X.N[i]? = some y := by rfl) (hyl : X.env.scope.names.lookup y = some .local := by rfl) (hc : X.calm = true := by rfl) (hs : ∀ x, foldedSetIterable iter X.env x = pure x := by intro _; rfl) :
    QS X W (.Assign [.Name y py] (.ListComp elt [⟨tg, iter, ifs, 0⟩] scope pos) spos) (sSet i (f (lLc is g c el (own.map (·.2))))) := by
  obtain ⟨wi, h1, h2⟩ := hi
  exact ⟨_, ps_setLc hc nd hy hyl hsw h1 ok (fun s H C cl fp => (hg s H C cl fp).can) (fun s H C cl fp => (ht s H C cl fp).can) (fun s H C cl fp => (he s H C cl fp).can) hs, sns_set (hf (sn_lc h2 hown))⟩
end
end
end VD
set_option Elab.async false
set_option linter.all false
set_option maxRecDepth 100000
set_option maxHeartbeats 4000000
namespace VD
open PySem PySem.Spec PyProof.Rows L2
noncomputable section
def frz (n0 : Nat) (h : Hv) : Nat → D → Option D
  | 0, _ => none
  | _ + 1, .non => some .non
  | _ + 1, .bl b => some (.bl b)
  | _ + 1, .int i => some (.int i)
  | _ + 1, .str x => some (.str x)
  | f + 1, .lst ds => (optAll (frz n0 h f) ds).map .lst
  | f + 1, .fz ds => (optAll (frz n0 h f) ds).map .fz
  | f + 1, .tup ds => (optAll (frz n0 h f) ds).map .tup
  | f + 1, .cell n => if n < n0 then some (.cell n) else match h[n]? with
    | some (.lst ds) => (optAll (frz n0 h f) ds).map .lst
    | some (.dF kvs) => (optAll (frz n0 h f) (kvs.map (·.2))).map (.dct (kvs.map (·.1)))
    | some (.ins c fs) => (optAll (frz n0 h f) (fs.map (·.2))).map (.obj c (fs.map (·.1)))
    | _ => none
  | _ + 1, .raw v => some (.raw v)
  | f + 1, .dct ks ds => (optAll (frz n0 h f) ds).map (.dct ks)
  | f + 1, .obj c ks ds => (optAll (frz n0 h f) ds).map (.obj c ks)
  | _ + 1, .exv _ _ _ _ => none
def still (φ : List Addr) (n0 : Nat) (S H : Hp) : Hp := fun a => if a ∈ φ.drop n0 then H a else S a
section
variable {K : PySem.W.Frag} {φ : List Addr} {S H : Hp} {h : Hv} {n0 : Nat}
theorem still_ex (rl : Rel K φ S H h) : Ex S (still φ n0 S H) := fun a o e => by
  unfold still
  rw [if_neg]
  · exact e
  · intro z
    have := (rl.mem (List.mem_of_mem_drop z)).1
    rw [this] at e
    cases e
theorem still_sub (rl : Rel K φ S H h) : Ex (still φ n0 S H) H := fun a o e => by
  unfold still at e
  split at e
  · exact e
  · exact rl.sub a o e
theorem frzA_of {f : Nat} {K : PySem.W.Frag} {φ φ' : List Addr} {S S' : Hp} (ih : ∀ (d : D) (v : V) (d' : D), Rp K φ S v d → frz n0 h f d = some d' → Rp K φ' S' v d') :
    ∀ (ds : List D) (vs : List V) (ds' : List D), RpA K φ S vs ds → optAll (frz n0 h f) ds = some ds' → RpA K φ' S' vs ds' := by
  intro ds
  induction ds with
  | nil => intro vs ps r e; cases r; cases e; exact .nil
  | cons d ds ih2 =>
    intro vs ps r e
    cases r with
    | cons r t =>
      simp only [optAll] at e
      cases q : frz n0 h f d with
      | none => rw [q] at e; cases e
      | some p0 =>
        rw [q] at e
        cases q2 : optAll (frz n0 h f) ds with
        | none => simp only [q2] at e; cases e
        | some p1 =>
          simp only [q2] at e
          cases e
          exact .cons (ih d _ p0 r q) (ih2 _ p1 t q2)
theorem frz_ok (rl : Rel K φ S H h) : ∀ (f : Nat) (d : D) (v : V) (d' : D), Rp K φ S v d → frz n0 h f d = some d' → Rp K (φ.take n0) (still φ n0 S H) v d' := by
  intro f
  induction f with
  | zero => intro d v p _ e; cases e
  | succ f ih =>
    have all := frzA_of (K := K) (n0 := n0) (h := h) ih
    intro d v p r e
    cases r with
    | non => cases e; exact .non
    | bl b => cases e; exact .bl b
    | int i => cases e; exact .int i
    | str x => cases e; exact .str x
    | @lst a vs ds h1 h2 =>
      obtain ⟨ps, q, rfl⟩ := Option.map_eq_some_iff.mp (show (optAll (frz n0 h f) ds).map .lst = some p from e)
      exact .lst (still_ex rl _ _ h1) (all ds vs ps h2 q)
    | @fz a vs ds h1 h2 =>
      obtain ⟨ps, q, rfl⟩ := Option.map_eq_some_iff.mp (show (optAll (frz n0 h f) ds).map .fz = some p from e)
      exact .fz ((still_ex rl).sql h1) (all ds vs ps h2 q)
    | @tup a vs ds h1 h2 =>
      obtain ⟨ps, q, rfl⟩ := Option.map_eq_some_iff.mp (show (optAll (frz n0 h f) ds).map .tup = some p from e)
      exact .tup ((still_ex rl).sqt h1) (all ds vs ps h2 q)
    | @cell a n h1 =>
      simp only [frz] at e
      by_cases hn : n < n0
      · rw [if_pos hn] at e
        cases e
        refine .cell ?_
        rw [List.getElem?_take]
        rw [if_pos hn]
        exact h1
      · rw [if_neg hn] at e
        obtain ⟨c, hc⟩ := rl.at h1
        obtain ⟨_, o, ho, rc⟩ := rl.cel _ _ _ h1 hc
        rw [hc] at e
        cases c with
        | lst ds =>
          obtain ⟨vs, rfl, ra⟩ := rc
          obtain ⟨ps, q, rfl⟩ := Option.map_eq_some_iff.mp (show (optAll (frz n0 h f) ds).map .lst = some p from e)
          refine .lst (vs := vs) ?_ (all ds vs ps ra q)
          unfold still
          rw [if_pos]
          · exact ho
          · refine List.mem_of_getElem? (i := n - n0) ?_
            rw [List.getElem?_drop, show n0 + (n - n0) = n by omega]
            exact h1
        | dK kvs => cases e
        | dF kvs =>
          obtain ⟨od, kv, rfl, ek, ra⟩ := rc
          obtain ⟨ps, q, rfl⟩ := Option.map_eq_some_iff.mp (show (optAll (frz n0 h f) (kvs.map (·.2))).map (.dct (kvs.map (·.1))) = some p from e)
          refine .dct (kv := kv) (od := od) ?_ ek (all _ _ ps ra q)
          unfold still
          rw [if_pos]
          · exact ho
          · refine List.mem_of_getElem? (i := n - n0) ?_
            rw [List.getElem?_drop, show n0 + (n - n0) = n by omega]
            exact h1
        | dN w kvs => cases e
        | tb q n => cases e
        | ins c fs =>
          obtain ⟨dx, kv, rfl, ek, ra⟩ := rc
          obtain ⟨ps, q, rfl⟩ := Option.map_eq_some_iff.mp (show (optAll (frz n0 h f) (fs.map (·.2))).map (.obj c (fs.map (·.1))) = some p from e)
          refine .obj (fv := kv) (dx := dx) ?_ ek (all _ _ ps ra q)
          unfold still
          rw [if_pos]
          · exact ho
          · refine List.mem_of_getElem? (i := n - n0) ?_
            rw [List.getElem?_drop, show n0 + (n - n0) = n by omega]
            exact h1
    | raw v => cases e; exact .raw v
    | @dct a od kv ks ds h1 h2 h3 =>
      obtain ⟨ps, q, rfl⟩ := Option.map_eq_some_iff.mp (show (optAll (frz n0 h f) ds).map (.dct ks) = some p from e)
      exact .dct (still_ex rl _ _ h1) h2 (all ds _ ps h3 q)
    | @obj a dx fv c ks ds h1 h2 h3 =>
      obtain ⟨ps, q, rfl⟩ := Option.map_eq_some_iff.mp (show (optAll (frz n0 h f) ds).map (.obj c ks) = some p from e)
      exact .obj (still_ex rl _ _ h1) h2 (all ds _ ps h3 q)
    | exv h1 h2 => cases e
def frzC (n0 : Nat) (h : Hv) : Cell → Option Cell
  | .lst ds => (optAll (frz n0 h 12) ds).map .lst
  | .dK kvs => (optAll (fun kv : Key × D => (frz n0 h 12 kv.2).map fun d => (kv.1, d)) kvs).map .dK
  | .dF kvs => (optAll (fun kv : Key × D => (frz n0 h 12 kv.2).map fun d => (kv.1, d)) kvs).map .dF
  | .ins C fs => (optAll (fun kv : Str × D => (frz n0 h 12 kv.2).map fun d => (kv.1, d)) fs).map (.ins C)
  | .dN w kvs => (optAll (fun kv : NestedKey × D => (frz n0 h 12 kv.2).map fun d => (kv.1, d)) kvs).map (.dN w)
  | .tb p n => if n < n0 then some (.tb p n) else none
theorem frzP_of {κ : Type} (rl : Rel K φ S H h) : ∀ (fs fs' : List (κ × D)) (fv : List (κ × V)), optAll (fun kv : κ × D => (frz n0 h 12 kv.2).map fun d => (kv.1, d)) fs = some fs' → fv.map (·.1) = fs.map (·.1) → RpA K φ S (fv.map (·.2)) (fs.map (·.2)) →
    fv.map (·.1) = fs'.map (·.1) ∧ RpA K (φ.take n0) (still φ n0 S H) (fv.map (·.2)) (fs'.map (·.2))
  | [], fs', fv, e, ek, ra => by
    cases e
    cases fv with
    | nil => exact ⟨rfl, .nil⟩
    | cons _ _ => cases ek
  | (k, d) :: fs, fs', fv, e, ek, ra => by
    cases fv with
    | nil => cases ek
    | cons p fv =>
      rw [List.map_cons, List.map_cons] at ek ra
      cases ra with
      | cons r t =>
        simp only [optAll] at e
        cases q : frz n0 h 12 d with
        | none => rw [q] at e; simp at e
        | some d1 =>
          rw [q] at e
          simp only [Option.map_some] at e
          cases q2 : optAll (fun kv : κ × D => (frz n0 h 12 kv.2).map fun d => (kv.1, d)) fs with
          | none => rw [q2] at e; cases e
          | some r1 =>
            rw [q2] at e
            cases e
            injection ek with e1 e2
            obtain ⟨a1, a2⟩ := frzP_of rl fs r1 fv q2 e2 t
            refine ⟨?_, ?_⟩
            · rw [List.map_cons, List.map_cons, e1, a1]
            · rw [List.map_cons, List.map_cons]
              exact .cons (frz_ok rl _ _ _ _ r q) a2
theorem frzC_ok (rl : Rel K φ S H h) {c c' : Cell} {o : HO} (r : RpC K φ S c o) (e : frzC n0 h c = some c') : RpC K (φ.take n0) (still φ n0 S H) c' o := by
  cases c with
  | lst ds =>
    obtain ⟨vs, rfl, ra⟩ := r
    obtain ⟨ps, q, rfl⟩ := Option.map_eq_some_iff.mp (show (optAll (frz n0 h 12) ds).map Cell.lst = some c' from e)
    exact ⟨vs, rfl, frzA_of (fun d v d' r e => frz_ok rl _ d v d' r e) ds vs ps ra q⟩
  | dK kvs =>
    obtain ⟨kv, rfl, ek, ra⟩ := r
    obtain ⟨ps, q, rfl⟩ := Option.map_eq_some_iff.mp (show (optAll _ kvs).map Cell.dK = some c' from e)
    obtain ⟨a1, a2⟩ := frzP_of rl kvs ps kv q ek ra
    exact ⟨kv, rfl, a1, a2⟩
  | dF kvs =>
    obtain ⟨od, kv, rfl, ek, ra⟩ := r
    obtain ⟨ps, q, rfl⟩ := Option.map_eq_some_iff.mp (show (optAll _ kvs).map Cell.dF = some c' from e)
    obtain ⟨a1, a2⟩ := frzP_of rl kvs ps kv q ek ra
    exact ⟨od, kv, rfl, a1, a2⟩
  | ins C fs =>
    obtain ⟨dx, fv, rfl, ek, ra⟩ := r
    obtain ⟨ps, q, rfl⟩ := Option.map_eq_some_iff.mp (show (optAll _ fs).map (Cell.ins C) = some c' from e)
    obtain ⟨a1, a2⟩ := frzP_of rl fs ps fv q ek ra
    exact ⟨dx, fv, rfl, a1, a2⟩
  | dN w kvs =>
    obtain ⟨a, xs, rfl, ek, h3, ra⟩ := r
    obtain ⟨ps, q, rfl⟩ := Option.map_eq_some_iff.mp (show (optAll _ kvs).map (Cell.dN w) = some c' from e)
    have m1 : (xs.map fun x => (x.1, x.2.2)).map (·.1) = kvs.map (·.1) := by rw [List.map_map]; exact ek
    have m2 : (xs.map fun x => (x.1, x.2.2)).map (·.2) = xs.map (·.2.2) := by rw [List.map_map]; rfl
    obtain ⟨a1, a2⟩ := frzP_of rl kvs ps (xs.map fun x => (x.1, x.2.2)) q m1 (by rw [m2]; exact ra)
    rw [m2] at a2
    rw [List.map_map] at a1
    exact ⟨a, xs, rfl, a1, fun x hx => (h3 x hx).mono (Pre.refl []) (still_ex rl), a2⟩
  | tb p n =>
    obtain ⟨h0, ps, h1, h2, h3⟩ := r
    by_cases hn : n < n0
    · rw [show frzC n0 h (.tb p n) = some (.tb p n) from if_pos hn] at e
      cases e
      exact ⟨by rw [List.getElem?_take, if_pos hn]; exact h0, ps, h1, h2, fun pos cv hc => let ⟨c, e1, e2⟩ := h3 pos cv hc; ⟨c, e1, still_ex rl _ _ e2⟩⟩
    · rw [show frzC n0 h (.tb p n) = none from if_neg hn] at e
      cases e
theorem optAll_at {α β : Type} {g : β → Option α} : ∀ {xs : List β} {ys : List α}, optAll g xs = some ys → xs.length = ys.length ∧ ∀ (i : Nat) (y : α), ys[i]? = some y → ∃ x, xs[i]? = some x ∧ g x = some y
  | [], ys, e => by
    cases e
    exact ⟨rfl, fun i y h => by simp at h⟩
  | x :: xs, ys, e => by
    simp only [optAll] at e
    cases q : g x with
    | none => rw [q] at e; cases e
    | some y0 =>
      rw [q] at e
      cases q2 : optAll g xs with
      | none => simp only [q2] at e; cases e
      | some ys0 =>
        simp only [q2] at e
        cases e
        obtain ⟨h1, h2⟩ := optAll_at q2
        refine ⟨by rw [List.length_cons, List.length_cons, h1], fun i y h => ?_⟩
        cases i with
        | zero =>
          rw [List.getElem?_cons_zero] at h ⊢
          cases h
          exact ⟨x, rfl, q⟩
        | succ i =>
          rw [List.getElem?_cons_succ] at h ⊢
          exact h2 i y h
/-- behind the def: the heap as the caller has it -/
theorem exit_rel (rl : Rel K φ S H h) {h' : Hv} (hn : n0 ≤ h.length) (e : optAll (frzC n0 h) (h.take n0) = some h') : Rel K (φ.take n0) (still φ n0 S H) H h' := by
  obtain ⟨el, ea⟩ := optAll_at e
  rw [List.length_take] at el
  refine ⟨?_, still_sub rl, List.Nodup.sublist (List.take_sublist _ _) rl.nd, fun n a c e1 e2 => ?_⟩
  · rw [List.length_take, rl.len]
    omega
  · obtain ⟨c0, hc0, q⟩ := ea n c e2
    have hl := (List.getElem?_eq_some_iff.mp e2).1
    have hn2 : n < n0 := by omega
    rw [List.getElem?_take, if_pos hn2] at e1 hc0
    obtain ⟨sa, o, ho, rc⟩ := rl.cel n a c0 e1 hc0
    refine ⟨?_, o, ho, frzC_ok rl rc q⟩
    unfold still
    rw [if_neg]
    · exact sa
    · intro z
      obtain ⟨m, hm⟩ := List.getElem?_of_mem z
      rw [List.getElem?_drop] at hm
      have := nd_ix rl.nd e1 hm
      omega
theorem exit_step {φ0 : List Addr} {S0 H0 : Hp} (st : Step φ0 S0 H0 φ S H) (rl : Rel K φ S H h) : Step φ0 S0 H0 (φ.take φ0.length) (still φ φ0.length S H) H ∧ φ.take φ0.length = φ0 := by
  obtain ⟨ψ, rfl, hn⟩ := st.pre
  have e : (φ0 ++ ψ).take φ0.length = φ0 := by rw [List.take_append_of_le_length (Nat.le_refl _), List.take_length]
  refine ⟨?_, e⟩
  rw [e]
  refine ⟨⟨[], (List.append_nil _).symm, fun _ z => nomatch z⟩, st.sub.trans (still_ex rl), fun a ha => ?_, st.keep, st.there, st.frz⟩
  unfold still
  rw [if_neg]
  · exact st.old a ha
  · intro z
    rw [List.drop_append_of_le_length (Nat.le_refl _), List.drop_length, List.nil_append] at z
    exact ha (hn a z)
end
def exitD (n0 : Nat) (d : D) (h : Hv) : R D := match frz n0 h 12 d, optAll (frzC n0 h) (h.take n0) with
  | some d', some h' => if n0 ≤ h.length then .ok d' h' else .stuck
  | _, _ => .stuck
def exitX (n0 : Nat) (x : Xn) (h : Hv) : R D := match x.pay with
  | none => (match optAll (frzC n0 h) (h.take n0) with
    | some h' => if n0 ≤ h.length then .exc x h' else .stuck
    | none => .stuck)
  | some (f, d) => (match frz n0 h 12 d, optAll (frzC n0 h) (h.take n0) with
    | some d', some h' => if n0 ≤ h.length then .exc ⟨x.cls, some (f, d')⟩ h' else .stuck
    | _, _ => .stuck)
/-- what a def computes: np parameters, nl other names -/
def fnS (np nl : Nat) (body : SS) : List D → Hv → R D := fun ds h => if ds.length = np then (match body (ds.map some ++ List.replicate nl none) h with
  | .ret d h' => exitD h.length d h'
  | .next _ h' => exitD h.length .non h'
  | .exc x _ h' => exitX h.length x h'
  | _ => .stuck) else .stuck
/-- a def keeps what sem tells -/
def spOf (K : PySem.W.Frag) (sem : List D → Hv → R D) : Sp := fun vs H Q E => ∃ φ S h ds, Rel K φ S H h ∧ RpA K φ S vs ds ∧ Post K (repV K) φ S H (sem ds h) Q E
theorem fnS_len {np nl : Nat} {body : SS} {ds : List D} {h : Hv} (e : fnS np nl body ds h ≠ .stuck) : ds.length = np := by
  unfold fnS at e
  split at e
  · next q => exact q
  · exact absurd rfl e
theorem relS_start {K : PySem.W.Frag} {φ : List Addr} {S : Hp} {vs : List V} {ds : List D} (ra : RpA K φ S vs ds) (nl : Nat) (N : List Str) (hN : N.length = ds.length + nl) : RelS K φ S (ds.map some ++ List.replicate nl none) (L2.start N vs) := by
  have hl := ra.length
  unfold L2.start
  rw [hN, hl, Nat.add_sub_cancel_left]
  refine ⟨by rw [List.length_append, List.length_append, List.length_map, List.length_map, hl, List.length_replicate, List.length_replicate], fun i d hd => ?_⟩
  by_cases hi : i < ds.length
  · rw [List.getElem?_append_left (by rw [List.length_map]; exact hi), List.getElem?_map] at hd
    cases q : ds[i]? with
    | none => rw [q] at hd; cases hd
    | some d0 =>
      rw [q] at hd
      cases hd
      obtain ⟨v, hv, rv⟩ := ra.at q
      refine ⟨v, ?_, rv⟩
      rw [List.getElem?_append_left (by rw [List.length_map, hl]; exact hi), List.getElem?_map, hv]
      rfl
  · rw [List.getElem?_append_right (by rw [List.length_map]; omega), List.getElem?_replicate] at hd
    split at hd <;> cases hd
section
variable {P : Program} {w : World} {K : PySem.W.Frag} {mg : Str → Option Value} {base : Heap}
theorem fn_ok {x qual : Str} {st : Stmt} {f : Addr} {fd : FuncData} {N ps : List Str} {k np nl : Nat} {body : SS} (F : Fun K x qual st f fd) (Sc : FnScope N ps (defScope st)) (hps : ps.length = np) (hN : N.length = np + nl)
    (hbody : ∀ (cdv : Value) (A : Around) (outer : List Env) (s : Shared) (H : Hp) (E : XK), Room k (A.deeper (envOfC qual (defScope st) s.heap.objs.size f cdv)) →
      QB (cxOf (L2.CX P w) P w K mg base N qual (defScope st) f cdv A outer s H E) (fun cls d _ H' => E cls d H') (defBody st) body) : FnOk P w K mg base (L2.CX P w) (k + 1) f fd ps (spOf K (fnS np nl body)) := by
  refine F.okX Sc (fun vs H Q E h => ?_) (fun cdv A outer s H vs Q E hr h => ?_)
  · obtain ⟨φ, S, h, ds, rl, ra, post⟩ := h
    rw [ra.length, hps]
    refine fnS_len (nl := nl) (body := body) (h := h) fun z => ?_
    rw [z] at post
    exact post.elim
  · obtain ⟨φ, S, h, ds, rl, ra, post⟩ := h
    obtain ⟨t, h1, h2⟩ := hbody cdv A outer s H E hr
    refine ⟨t, h1, h2.run rl (relS_start ra nl N (by
      have hl : ds.length = np := fnS_len (nl := nl) (body := body) (h := h) fun z => by
        rw [z] at post
        exact post.elim
      rw [hl]
      exact hN)) ?_⟩
    unfold fnS at post
    have hl : ds.length = np := by
      refine Classical.byContradiction fun z => ?_
      rw [if_neg z] at post
      exact post.elim
    rw [if_pos hl] at post
    have en : h.length = φ.length := rl.len.symm
    have out : ∀ {φ' S' H' h' d v}, Rel K φ' S' H' h' → Step φ S H φ' S' H' → Rp K φ' S' v d → Post K (repV K) φ S H (exitD h.length d h') Q E → Q v H' := fun {φ' S' H' h' d v} r2 st rv post => by
      unfold exitD at post
      split at post
      · next d' h'' q1 q2 =>
        split at post
        · next hn =>
          rw [en] at q1 q2 hn
          obtain ⟨s2, _⟩ := exit_step st r2
          exact post v _ _ H' (exit_rel r2 hn q2) s2 (frz_ok r2 _ _ _ _ rv q1)
        · exact post.elim
      · exact post.elim
    cases hb : body (ds.map some ++ List.replicate nl none) h with
    | next σ' h' =>
      rw [hb] at post
      exact fun σ1 φ' S' H' r2 _ st => out r2 st .non post
    | ret d h' =>
      rw [hb] at post
      exact fun v φ' S' H' r2 st rv => out r2 st rv post
    | brk σ' h' => rw [hb] at post; exact post.elim
    | cont σ' h' => rw [hb] at post; exact post.elim
    | stuck => rw [hb] at post; exact post.elim
    | exc x σ' h' =>
      rw [hb] at post
      intro σ1 cls dd φ' S' H' r2 _ st rx
      simp only [exitX] at post
      obtain ⟨s2, _⟩ := exit_step st r2
      obtain ⟨e1, rx⟩ := rx
      cases hp : x.pay with
      | none =>
        simp only [hp] at post rx
        split at post
        · next h'' q2 =>
          split at post
          · next hn =>
            rw [en] at q2 hn
            exact post cls dd _ _ H' (exit_rel r2 hn q2) s2 ⟨e1, by rw [hp]; exact rx⟩
          · exact post.elim
        · exact post.elim
      | some p =>
        obtain ⟨fl, d⟩ := p
        simp only [hp] at post rx
        obtain ⟨dx, v, e2, e3, rv⟩ := rx
        split at post
        · next d' h'' q1 q2 =>
          split at post
          · next hn =>
            rw [en] at q1 q2 hn
            exact post cls dd _ _ H' (exit_rel r2 hn q2) s2 ⟨e1, dx, v, e2, still_ex r2 _ _ e3, frz_ok r2 _ _ _ _ rv q1⟩
          · exact post.elim
        · exact post.elim
end
/-- data without cells -/
def pureD (ds : List D) : Option (List D) := optAll (frz 0 [] 12) ds
theorem frz0_ok {K : PySem.W.Frag} {φ : List Addr} {S : Hp} : ∀ (f : Nat) (d : D) (v : V) (d' : D), Rp K φ S v d → frz 0 [] f d = some d' → Rp K [] S v d' := by
  intro f
  induction f with
  | zero => intro d v p _ e; cases e
  | succ f ih =>
    have all := frzA_of (K := K) (n0 := 0) (h := []) ih
    intro d v p r e
    cases r with
    | non => cases e; exact .non
    | bl b => cases e; exact .bl b
    | int i => cases e; exact .int i
    | str x => cases e; exact .str x
    | @lst a vs ds h1 h2 =>
      obtain ⟨ps, q, rfl⟩ := Option.map_eq_some_iff.mp (show (optAll (frz 0 [] f) ds).map .lst = some p from e)
      exact .lst h1 (all ds vs ps h2 q)
    | @fz a vs ds h1 h2 =>
      obtain ⟨ps, q, rfl⟩ := Option.map_eq_some_iff.mp (show (optAll (frz 0 [] f) ds).map .fz = some p from e)
      exact .fz h1 (all ds vs ps h2 q)
    | @tup a vs ds h1 h2 =>
      obtain ⟨ps, q, rfl⟩ := Option.map_eq_some_iff.mp (show (optAll (frz 0 [] f) ds).map .tup = some p from e)
      exact .tup h1 (all ds vs ps h2 q)
    | cell h1 => simp [frz] at e
    | raw v => cases e; exact .raw v
    | @dct a od kv ks ds h1 h2 h3 =>
      obtain ⟨ps, q, rfl⟩ := Option.map_eq_some_iff.mp (show (optAll (frz 0 [] f) ds).map (.dct ks) = some p from e)
      exact .dct h1 h2 (all ds _ ps h3 q)
    | @obj a dx fv c ks ds h1 h2 h3 =>
      obtain ⟨ps, q, rfl⟩ := Option.map_eq_some_iff.mp (show (optAll (frz 0 [] f) ds).map (.obj c ks) = some p from e)
      exact .obj h1 h2 (all ds _ ps h3 q)
    | exv h1 h2 => cases e
theorem Rel.bare {K : PySem.W.Frag} {S H : Hp} (e : Ex S H) : Rel K [] S H [] := ⟨rfl, e, List.nodup_nil, fun n a c h => by simp at h⟩
/-- the callee's steps are the caller's -/
theorem Rel.frame {K : PySem.W.Frag} {φ φ' : List Addr} {S H S' H' : Hp} {h : Hv} (rl : Rel K φ S H h) (r2 : Rel K φ' S' H' []) (st : Step [] S H φ' S' H') : φ' = [] ∧ Rel K φ S' H' h ∧ Step φ S H φ S' H' := by
  have e : φ' = [] := List.length_eq_zero_iff.mp r2.len
  subst e
  refine ⟨rfl, ⟨rl.len, r2.sub, rl.nd, fun n a c e1 e2 => ?_⟩, ⟨⟨[], (List.append_nil _).symm, fun _ z => nomatch z⟩, st.sub, st.old, fun a o e _ => st.keep a o e (fun z => nomatch z), st.there, st.frz⟩⟩
  obtain ⟨h1, o, h2, h3⟩ := rl.cel n a c e1 e2
  exact ⟨(st.old a (by rw [h2]; exact fun z => nomatch z)).trans h1, o, st.keep a o h2 (fun z => nomatch z), h3.mono (Pre.refl _) st.sub⟩
def callP (sem : List D → Hv → R D) (ds : List D) (h : Hv) : R D := match pureD ds with
  | some ds' => (match sem ds' [] with
    | .ok d [] => .ok d h
    | .exc x [] => .exc x h
    | _ => .stuck)
  | none => .stuck
theorem spOf_P {K : PySem.W.Frag} {sem : List D → Hv → R D} {φ : List Addr} {S H : Hp} {h : Hv} {ds : List D} {vs : List V} {Q : VK} {E : XK} (rl : Rel K φ S H h) (ra : RpA K φ S vs ds) (post : Post K (repV K) φ S H (callP sem ds h) Q E) : spOf K sem vs H Q E := by
  unfold callP at post
  split at post
  · next ds' q =>
    refine ⟨[], S, [], ds', Rel.bare rl.sub, frzA_of (n0 := 0) (h := []) (fun d v d' r e => frz0_ok 12 d v d' r e) ds vs ds' ra q, ?_⟩
    split at post
    · next d hs =>
      rw [hs]
      intro v φ' S' H' r2 st rv
      obtain ⟨rfl, r3, s3⟩ := rl.frame r2 st
      exact post v φ S' H' r3 s3 (Rp.mono ⟨φ, rfl⟩ (Ex.refl _) rv)
    · next x hs =>
      rw [hs]
      intro cls dd φ' S' H' r2 st rx
      obtain ⟨rfl, r3, s3⟩ := rl.frame r2 st
      refine post cls dd φ S' H' r3 s3 ⟨rx.1, ?_⟩
      have rx2 := rx.2
      cases hp : x.pay with
      | none => rw [hp] at rx2; exact rx2
      | some p =>
        rw [hp] at rx2
        obtain ⟨dx, v, e2, e3, rv⟩ := rx2
        exact ⟨dx, v, e2, e3, Rp.mono ⟨φ, rfl⟩ (Ex.refl _) rv⟩
    · exact post.elim
  · exact post.elim
mutual
def isScal : D → Bool
  | .non => true
  | .bl _ => true
  | .int _ => true
  | .str _ => true
  | .tup ds => isScalL ds
  | .lst _ => false
  | .fz _ => false
  | .cell _ => false
  | .raw _ => false
  | .dct _ _ => false
  | .obj _ _ _ => false
  | .exv _ _ _ _ => false
def isScalL : List D → Bool
  | [] => true
  | d :: ds => isScal d && isScalL ds
end
/-- the objects that are still, but those of the caller's cells -/
def offS (φ : List Addr) (S S' : Hp) : Hp := fun a => if a ∈ φ then S a else S' a
section
variable {K : PySem.W.Frag} {φ : List Addr} {S S' : Hp}
theorem offS_sqt (nt : ∀ (a : Addr) (vs : List V), Rd S' a (.tup vs) → a ∉ φ) {a : Addr} {vs : List V} (h : SqT K S' a vs) : SqT K (offS φ S S') a vs := by
  refine h.imp (fun z => ?_) id
  have na := nt a vs z
  unfold Rd offS at *
  rw [if_neg na]
  exact z
mutual
theorem scal_tr (nt : ∀ (a : Addr) (vs : List V), Rd S' a (.tup vs) → a ∉ φ) : ∀ {v : V} {d : D}, isScal d = true → Rp K [] S' v d → Rp K φ (offS φ S S') v d
  | _, _, _, .non => .non
  | _, _, _, .bl b => .bl b
  | _, _, _, .int i => .int i
  | _, _, _, .str x => .str x
  | _, .tup ds, hs, .tup h r => .tup (offS_sqt nt h) (scalA_tr nt (by rw [isScal] at hs; exact hs) r)
  | _, _, hs, .lst _ _ => by rw [isScal] at hs; cases hs
  | _, _, hs, .fz _ _ => by rw [isScal] at hs; cases hs
  | _, _, hs, .cell _ => by rw [isScal] at hs; cases hs
  | _, _, hs, .raw _ => by rw [isScal] at hs; cases hs
  | _, _, hs, .dct _ _ _ => by rw [isScal] at hs; cases hs
  | _, _, hs, .obj _ _ _ => by rw [isScal] at hs; cases hs
  | _, _, hs, .exv _ _ => by rw [isScal] at hs; cases hs
theorem scalA_tr (nt : ∀ (a : Addr) (vs : List V), Rd S' a (.tup vs) → a ∉ φ) : ∀ {vs : List V} {ds : List D}, isScalL ds = true → RpA K [] S' vs ds → RpA K φ (offS φ S S') vs ds
  | _, _, _, .nil => .nil
  | _, d :: ds, hs, .cons r t => by
    rw [isScalL, Bool.and_eq_true] at hs
    exact .cons (scal_tr nt hs.1 r) (scalA_tr nt hs.2 t)
end
end
/-- a call that only looks: its arguments may hold cells, its answer is a plain value -/
def callB (sem : List D → Hv → R D) (ds : List D) (h : Hv) : R D := match optAll (frz 0 h 12) ds with
  | some ds' => (match sem ds' [] with
    | .ok d [] => if isScal d then .ok d h else .stuck
    | .exc x [] => (match x.pay with
      | none => .exc x h
      | some (_, d) => if isScal d then .exc x h else .stuck)
    | _ => .stuck)
  | none => .stuck
theorem rel_B {K : PySem.W.Frag} {φ : List Addr} {S H S' H' : Hp} {h : Hv} (rl : Rel K φ S H h) (r2 : Rel K [] S' H' []) (st : Step [] (still φ 0 S H) H [] S' H') :
    (∀ (a : Addr) (vs : List V), Rd S' a (.tup vs) → a ∉ φ) ∧ (∀ (a : Addr) (vs : List (Str × V)), S' a = some (.xd vs) → a ∉ φ) ∧ Rel K φ (offS φ S S') H' h ∧ Step φ S H φ (offS φ S S') H' := by
  have kp : ∀ a o, H a = some o → H' a = some o := fun a o e => st.keep a o e (fun z => nomatch z)
  have sS : ∀ a o, S a = some o → a ∉ φ := fun a o e z => by rw [(rl.mem z).1] at e; cases e
  have nt : ∀ (a : Addr) (vs : List V), Rd S' a (.tup vs) → a ∉ φ := fun a vs z hm => by
    obtain ⟨n, hn⟩ := List.getElem?_of_mem hm
    obtain ⟨c, hc⟩ := rl.at hn
    obtain ⟨_, o, ho, rc⟩ := rl.cel n a c hn hc
    have ho' := kp a o ho
    rcases z with z | ⟨u, z⟩
    · have := r2.sub _ _ z
      rw [ho'] at this
      cases this
      cases c with
      | lst ds => obtain ⟨_, e, _⟩ := rc; cases e
      | dK kvs => obtain ⟨_, e, _⟩ := rc; cases e
      | dF kvs => obtain ⟨_, _, e, _⟩ := rc; cases e
      | ins C fs => obtain ⟨_, _, e, _⟩ := rc; cases e
      | dN w kvs => obtain ⟨_, _, e, _⟩ := rc; cases e
      | tb q n => obtain ⟨_, _, e, _⟩ := rc; cases e
    · have := r2.sub _ _ z
      rw [ho'] at this
      cases this
      cases c with
      | lst ds => obtain ⟨_, e, _⟩ := rc; cases e
      | dK kvs => obtain ⟨_, e, _⟩ := rc; cases e
      | dF kvs => obtain ⟨_, _, e, _⟩ := rc; cases e
      | ins C fs => obtain ⟨_, _, e, _⟩ := rc; cases e
      | dN w kvs => obtain ⟨_, _, e, _⟩ := rc; cases e
      | tb q n => obtain ⟨_, _, e, _⟩ := rc; cases e
  have nx : ∀ (a : Addr) (vs : List (Str × V)), S' a = some (.xd vs) → a ∉ φ := fun a vs z hm => by
    obtain ⟨n, hn⟩ := List.getElem?_of_mem hm
    obtain ⟨c, hc⟩ := rl.at hn
    obtain ⟨_, o, ho, rc⟩ := rl.cel n a c hn hc
    have ho' := kp a o ho
    have := r2.sub _ _ z
    rw [ho'] at this
    cases this
    cases c with
    | lst ds => obtain ⟨_, e, _⟩ := rc; cases e
    | dK kvs => obtain ⟨_, e, _⟩ := rc; cases e
    | dF kvs => obtain ⟨_, _, e, _⟩ := rc; cases e
    | ins C fs => obtain ⟨_, _, e, _⟩ := rc; cases e
    | dN w kvs => obtain ⟨_, _, e, _⟩ := rc; cases e
    | tb q n => obtain ⟨_, _, e, _⟩ := rc; cases e
  have ex : Ex S (offS φ S S') := fun a o e => by
    unfold offS
    rw [if_neg (sS a o e)]
    exact st.sub a o (still_ex rl a o e)
  refine ⟨nt, nx, ⟨rl.len, fun a o e => ?_, rl.nd, fun n a c e1 e2 => ?_⟩, ⟨⟨[], (List.append_nil _).symm, fun _ z => nomatch z⟩, ex, fun a ha => ?_, fun a o e _ => kp a o e, st.there, st.frz⟩⟩
  · unfold offS at e
    split at e
    · exact kp a o (rl.sub a o e)
    · exact r2.sub a o e
  · obtain ⟨h1, o, h2, h3⟩ := rl.cel n a c e1 e2
    refine ⟨?_, o, kp a o h2, h3.mono ⟨[], (List.append_nil _).symm⟩ ex⟩
    unfold offS
    rw [if_pos (List.mem_of_getElem? e1)]
    exact h1
  · unfold offS
    split
    · rfl
    · next na =>
      rw [st.old a ha]
      unfold still
      rw [if_neg (fun z => na (List.mem_of_mem_drop z))]
theorem spOf_B {K : PySem.W.Frag} {sem : List D → Hv → R D} {φ : List Addr} {S H : Hp} {h : Hv} {ds : List D} {vs : List V} {Q : VK} {E : XK} (rl : Rel K φ S H h) (ra : RpA K φ S vs ds) (post : Post K (repV K) φ S H (callB sem ds h) Q E) : spOf K sem vs H Q E := by
  unfold callB at post
  split at post
  · next ds' q =>
    refine ⟨[], still φ 0 S H, [], ds', Rel.bare (still_sub rl), ?_, ?_⟩
    · have := frzA_of (n0 := 0) (h := h) (fun d v d' r e => frz_ok rl 12 d v d' r e) ds vs ds' ra q
      rw [List.take_zero] at this
      exact this
    split at post
    · next d hs =>
      rw [hs]
      split at post
      · next hsc =>
        intro v φ' S' H' r2 st rv
        have e : φ' = [] := List.length_eq_zero_iff.mp r2.len
        subst e
        obtain ⟨nt, _, r3, s3⟩ := rel_B rl r2 st
        exact post v φ (offS φ S S') H' r3 s3 (scal_tr nt hsc rv)
      · exact post.elim
    · next x hs =>
      rw [hs]
      intro cls dd φ' S' H' r2 st rx
      have e : φ' = [] := List.length_eq_zero_iff.mp r2.len
      subst e
      obtain ⟨nt, nx, r3, s3⟩ := rel_B rl r2 st
      have rx2 := rx.2
      split at post
      · next hp =>
        refine post cls dd φ (offS φ S S') H' r3 s3 ⟨rx.1, ?_⟩
        rw [hp] at rx2 ⊢
        exact rx2
      · next f d hp =>
        split at post
        · next hsc =>
          refine post cls dd φ (offS φ S S') H' r3 s3 ⟨rx.1, ?_⟩
          rw [hp] at rx2 ⊢
          obtain ⟨dx, v, e2, e3, rv⟩ := rx2
          refine ⟨dx, v, e2, ?_, scal_tr nt hsc rv⟩
          unfold offS
          rw [if_neg (nx _ _ e3)]
          exact e3
        · exact post.elim
    · exact post.elim
  · exact post.elim
section
variable {X : Cx} {W : WX} {k : Nat} {f : Addr} {fd : FuncData} {ps : List Str} {sem sem' : List D → Hv → R D} {x : Str} {p pos : Pos} {e : Expr} {es : List Expr} {la : LS}
theorem se_call (hsem : ∀ {φ : List Addr} {S H : Hp} {h : Hv} {ds : List D} {vs : List V} {Q : VK} {E : XK}, Rel X.K φ S H h → RpA X.K φ S vs ds → Post X.K (repV X.K) φ S H (sem' ds h) Q E → spOf X.K sem vs H Q E)
    (F : FnOk X.prog X.w X.K X.mg X.base (L2.CX X.prog X.w) k f fd ps (spOf X.K sem)) (hr : Room k X.A) (tk : Takes X W) (hm : X.mg x = some (.ref f)) (hk : PySem.W.keepIn X.K (.ref f) = true) (hb : Binds X.K fd ps []) (ha : SA X W (e :: es) la)
    (hg : Gl X x := by rfl) (hdb : (x == ("__debug__" : Str)) = false := by decide) (he : starEach (e :: es) X.env = (false, eval e X.env) :: starEach es X.env := by rfl) (hpl : (backTo pos (starEach es X.env)).any (·.1) = false := by rfl) :
    SE X W (.Call (.Name x p) (e :: es) [] pos) (eCa sem' la) := by
  obtain ⟨t, h1, h2⟩ := ha
  exact ⟨_, pe_callS F hr hg hm hk hb (fun σ => passAt tk σ) h1 hdb he hpl, ⟨fun rl rs post => h2.bind rl rs post fun ds h1 vs φ1 S1 H1 rl1 rs1 st rp post => hsem rl1 rp post⟩⟩
end
def callM (sem : List D → Hv → R D) : List D → Hv → R D := sem
theorem spOf_M {K : PySem.W.Frag} {sem : List D → Hv → R D} {φ : List Addr} {S H : Hp} {h : Hv} {ds : List D} {vs : List V} {Q : VK} {E : XK} (rl : Rel K φ S H h) (ra : RpA K φ S vs ds) (post : Post K (repV K) φ S H (callM sem ds h) Q E) : spOf K sem vs H Q E := ⟨φ, S, h, ds, rl, ra, post⟩
end
end VD
set_option Elab.async false
set_option linter.all false
set_option maxRecDepth 100000
set_option maxHeartbeats 4000000
namespace VD
open PySem PySem.Spec PyProof.Rows L2
noncomputable section
def MtS (K : PySem.W.Frag) (r : V → List V → Hp → VK → Prop) (ro : D → List D → Hv → R D) : Prop :=
  ∀ {φ : List Addr} {S H : Hp} {h : Hv} {x : D} {v : V} {ds : List D} {vs : List V} {Q : VK} {E : XK}, Rel K φ S H h → Rp K φ S v x → RpA K φ S vs ds → Post K (repV K) φ S H (ro x ds h) Q E → r v vs H Q
def eBM (ro : D → List D → Hv → R D) (fo : ES) (la : LS) : ES := fun σ h => (fo σ h).bind fun x h1 => match lOf h1 x with
  | some _ => (la σ h1).bind fun ds h2 => ro x ds h2
  | none => .stuck
theorem Rel.cell {K : PySem.W.Frag} {φ : List Addr} {S H : Hp} {h : Hv} (rl : Rel K φ S H h) {n : Nat} {v : V} {xs : List D} (r : Rp K φ S v (.cell n)) (e : h[n]? = some (.lst xs)) : ∃ a vs, v = .ref a ∧ φ[n]? = some a ∧ H a = some (.lst vs) ∧ RpA K φ S vs xs := by
  cases r with
  | @cell a n h1 =>
    obtain ⟨_, o, ho, vs, rfl, ra⟩ := rl.cel _ _ _ h1 e
    exact ⟨a, vs, rfl, h1, ho, ra⟩
section
variable {X : Cx} {W : WX} {K : PySem.W.Frag} {o e : Expr} {es : List Expr} {fo fv fi : ES} {la : LS} {name : Str} {apos cpos pos tpos : Pos} {id : String} {r : V → List V → Hp → VK → Prop} {ro : D → List D → Hv → R D}
theorem se_bm (slot : Slot "list" name id) (hty : typeOf (.builtin id) = pure (.type "method_descriptor")) (hm : MtR X id r) (hr : MtS X.K r ro) (ho : SE X W o fo) (ha : SA X W (e :: es) la)
    (hbase : attributeBase o name X.env (eval o X.env) = eval o X.env := by rfl)
    (hfew : ((backTo cpos (starEach (e :: es) X.env)).all (fun x => !x.1) && (backToKw cpos (keywordEach [] X.env)).all (fun x => x.1.isSome)
      && decide ((e :: es).length + ([] : List Keyword).length + (if ([] : List Keyword).isEmpty then 0 else 1) < 30)) = true := by rfl)
    (hline : (apos.endLine == cpos.line) = true := by rfl) (hs : starEach (e :: es) X.env = (false, eval e X.env) :: starEach es X.env := by rfl) (hplain : (backTo cpos (starEach es X.env)).any (·.1) = false := by rfl) :
    SE X W (.Call (.Attribute o name apos) (e :: es) [] cpos) (eBM ro fo la) := by
  obtain ⟨to, h1, h2⟩ := ho
  obtain ⟨ta, k1, k2⟩ := ha
  refine ⟨_, pe_bm PySem.F.plainAttrs_list slot hty hm h1 k1 hbase hfew hline hs hplain, ⟨fun rl rs post => h2.bind rl rs post fun x h1 v φ1 S1 H1 rl1 rs1 st rp post => ?_⟩⟩
  cases q : lOf h1 x with
  | none => simp only [q] at post; exact post.elim
  | some xs =>
    simp only [q] at post
    obtain ⟨a, vs, rfl, g2, g3⟩ := lOf_ok rl1 rp q
    exact ⟨.inl ⟨rfl, vs, g2⟩, k2.bind rl1 rs1 post fun ds h2 us φ2 S2 H2 rl2 rs2 st2 rp2 post => hr rl2 (Rp.mono st2.prefix st2.sub rp) rp2 post⟩
theorem se_bm0 (slot : Slot "list" name id) (hty : typeOf (.builtin id) = pure (.type "method_descriptor")) (hm : MtR X id r) (hr : MtS X.K r ro) (ho : SE X W o fo)
    (hbase : attributeBase o name X.env (eval o X.env) = eval o X.env := by rfl) (hline : (apos.endLine == cpos.line) = true := by rfl) : SE X W (.Call (.Attribute o name apos) [] [] cpos) (eBM ro fo aNil) := by
  obtain ⟨to, h1, h2⟩ := ho
  refine ⟨_, pe_bm0 PySem.F.plainAttrs_list slot hty hm h1 hbase hline, ⟨fun rl rs post => h2.bind rl rs post fun x h1 v φ1 S1 H1 rl1 rs1 st rp post => ?_⟩⟩
  cases q : lOf h1 x with
  | none => simp only [q] at post; exact post.elim
  | some xs =>
    simp only [q] at post
    obtain ⟨a, vs, rfl, g2, g3⟩ := lOf_ok rl1 rp q
    exact ⟨.inl ⟨rfl, vs, g2⟩, hr rl1 rp .nil post⟩
def mAppend : D → List D → Hv → R D := fun x ds h => match x, ds with
  | .cell n, [d] => (match h[n]? with
    | some (.lst xs) => if xs.length < 16777216 then .ok .non (h.set n (.lst (xs ++ [d]))) else .stuck
    | _ => .stuck)
  | _, _ => .stuck
theorem ms_append : MtS K rAppend mAppend := by
  intro φ S H h x v ds vs Q E rl rx ra post
  unfold mAppend at post
  split at post
  · next n d =>
    split at post
    · next xs hx =>
      split at post
      · next hz =>
        obtain ⟨a, ws, rfl, hn, ho, rw_⟩ := rl.cell rx hx
        obtain ⟨u, rfl, ru⟩ := ra.one
        obtain ⟨r2, s2⟩ := rl.put hn (c := .lst (xs ++ [d])) (o := .lst (ws ++ [u])) ⟨_, rfl, rw_.append (.cons ru .nil)⟩ ho
        exact ⟨a, ws, u, rfl, rfl, ho, by rw [rw_.length, line_eq]; exact hz, post _ φ S _ r2 s2 .non⟩
      · exact post.elim
    · exact post.elim
  · exact post.elim
def mReverse : D → List D → Hv → R D := fun x ds h => match x, ds with
  | .cell n, [] => (match h[n]? with
    | some (.lst xs) => .ok .non (h.set n (.lst xs.reverse))
    | _ => .stuck)
  | _, _ => .stuck
def mInsert : D → List D → Hv → R D := fun x ds h => match x, ds with
  | .cell n, [.int i, d] => (match h[n]? with
    | some (.lst xs) => @ite _ ((0 ≤ i ∧ i < 2 ^ 63) ∧ xs.length < 16777216) (Classical.propDecidable _) (.ok .non (h.set n (.lst (xs.take i.toNat ++ [d] ++ xs.drop i.toNat)))) .stuck
    | _ => .stuck)
  | _, _ => .stuck
def rInsert : V → List V → Hp → VK → Prop := fun x vs H Q => ∃ (l : Addr) (xs : List V) (i : Int) (y : V), x = .ref l ∧ vs = [.int i, y] ∧ H l = some (.lst xs) ∧ xs.length < sizeLine ∧ 0 ≤ i ∧ i < 2 ^ 63 ∧
    Q .non (upd H l (.lst (xs.take i.toNat ++ [y] ++ xs.drop i.toNat)))
theorem mt_insertR : MtR X "list.insert" rInsert := mt_insert
theorem ms_insert : MtS K rInsert mInsert := by
  intro φ S H h x v ds vs Q E rl rx ra post
  unfold mInsert at post
  split at post
  · next n i d =>
    split at post
    · next xs hx =>
      split at post
      · next hz =>
        obtain ⟨a, ws, rfl, hn, ho, rw_⟩ := rl.cell rx hx
        obtain ⟨u, u2, rfl, ru, ru2⟩ := ra.two
        cases ru
        obtain ⟨r2, s2⟩ := rl.put hn (c := .lst (xs.take i.toNat ++ [d] ++ xs.drop i.toNat)) (o := .lst (ws.take i.toNat ++ [u2] ++ ws.drop i.toNat)) ⟨_, rfl, ((rw_.take _).append (.cons ru2 .nil)).append (rw_.drop _)⟩ ho
        exact ⟨a, ws, i, u2, rfl, rfl, ho, by rw [rw_.length, line_eq]; exact hz.2, hz.1.1, hz.1.2, post _ φ S _ r2 s2 .non⟩
      · exact post.elim
    · exact post.elim
  · exact post.elim
def sSetIx (fv fo fi : ES) : SS := fun σ h => (fv σ h).then σ fun d h1 => (fo σ h1).then σ fun x h2 => (fi σ h2).then σ fun i h3 => match x, i with
  | .cell n, .int k => (match h3[n]? with
    | some (.lst xs) => (match ixN xs.length k with
      | some j => .next σ (h3.set n (.lst (xs.set j d)))
      | none => .stuck)
    | _ => .stuck)
  | _, _ => .stuck
theorem qs_setIx {i : Expr} {ve : Expr} (hv : SE X W ve fv) (ho : SE X W o fo) (hi : SE X W i fi) (hs : swapsWithSole [.Subscript o i tpos] ve pos.line X.env = pure false := by rfl) (hw : swappedStores [.Subscript o i tpos] ve X.env = pure none := by rfl)
    (h1 : (assignEach [.Subscript o i tpos] X.env).map (·.2) = [assign (.Subscript o i tpos) X.env] := by rfl)
    (ha : ∀ v, assign (.Subscript o i tpos) X.env v = (do
      let ov ← holding [v] (eval o X.env)
      let iv ← holding [v, ov] (eval i X.env)
      standAt tpos
      holding [v, ov, iv] (setItem ov iv v)
      release [v, ov, iv] []) := by intro _; rfl) (htk : Takes X W := by assumption) : QS X W (.Assign [.Subscript o i tpos] ve pos) (sSetIx fv fo fi) := by
  obtain ⟨tv, a1, a2⟩ := hv
  obtain ⟨to, b1, b2⟩ := ho
  obtain ⟨ti, c1, c2⟩ := hi
  refine ⟨_, ps_asg a1 (pg_sub b1 c1 set_list ha) hs hw h1, ⟨fun rl rs post => a2.thenS rl rs post fun d h1 v φ1 S1 H1 rl1 rs1 st1 r1 post => b2.thenS rl1 rs1 post fun x h2 u φ2 S2 H2 rl2 rs2 st2 r2 post => c2.thenS rl2 rs2 post fun y h3 w φ3 S3 H3 rl3 rs3 st3 r3 post => ?_⟩⟩
  cases x with
  | cell n =>
    cases y with
    | int k =>
      simp only at post
      split at post
      · next xs hx =>
        split at post
        · next j hj =>
          have r2' : Rp X.K φ3 S3 u (.cell n) := Rp.mono st3.prefix st3.sub r2
          have r1' : Rp X.K φ3 S3 v d := Rp.mono (st2.trans st3).prefix (st2.trans st3).sub r1
          obtain ⟨a, ws, rfl, hn, ho, rw_⟩ := rl3.cell r2' hx
          cases (show Rp _ _ _ _ _ from r3)
          obtain ⟨q1, q2⟩ := rl3.put hn (c := .lst (xs.set j d)) (o := .lst (ws.set j v)) ⟨_, rfl, rw_.set r1' j⟩ ho
          exact ⟨a, ws, k, j, rfl, rfl, ho, by rw [rw_.length]; exact hj, post _ φ3 S3 _ q1 rs3 q2⟩
        · exact post.elim
      · exact post.elim
    | _ => exact post.elim
  | _ => exact post.elim
end
theorem law_sp {K : PySem.W.Frag} {sem : List D → Hv → R D} {n : Nat} (hs : ∀ ns : List Int, ns.length ≤ n → sem [.fz (ns.map .int)] [] = .ok (.bl true) []) (H : Hp) (a : Addr) (ns : List Int) (hl : ns.length ≤ n) (hS : SqL K H a (ns.map V.int)) :
    spOf K sem [.ref a] H (fun v _ => v = .bl true) fun _ _ _ => False := by
  refine ⟨[], H, [], [.fz (ns.map .int)], Rel.bare (Ex.refl H), .cons (.fz hS (.of_ints ns)) .nil, ?_⟩
  rw [hs ns hl]
  intro v φ' S' H' r2 st rv
  cases (show Rp _ _ _ _ _ from rv)
  rfl
end
end VD
set_option Elab.async false
set_option linter.all false
set_option maxRecDepth 100000
set_option maxHeartbeats 4000000
namespace VD
open PySem PySem.Spec PyProof.Rows L2
noncomputable section
def tyName (h : Hv) : D → Option String
  | .non => some "NoneType"
  | .bl _ => some "bool"
  | .int _ => some "int"
  | .str _ => some "str"
  | .lst _ => some "list"
  | .fz _ => some "list"
  | .tup _ => some "tuple"
  | .cell n => match h[n]? with
    | some (.lst _) => some "list"
    | some (.dK _) => some "dict"
    | _ => none
  | .dct _ _ => some "dict"
  | _ => none
theorem tyx_l {K : PySem.W.Frag} {H : Hp} {a : Addr} {vs : List V} (h : SqL K H a vs) : TyX K H (.ref a) (.type "list") := by
  rcases h with (h | ⟨o, h⟩) | ⟨o, its, n, h1, h2, _⟩
  · exact .base (.lst h)
  · exact .base (.frz h)
  · exact .kList h1 h2
theorem tyx_t {K : PySem.W.Frag} {H : Hp} {a : Addr} {vs : List V} (h : SqT K H a vs) : TyX K H (.ref a) (.type "tuple") := by
  rcases h with (h | ⟨o, h⟩) | ⟨o, its, n, h1, h2, _⟩
  · exact .base (.tup h)
  · exact .fTuple h
  · exact .kTuple h1 h2
theorem tyName_ok {K : PySem.W.Frag} {φ : List Addr} {S H : Hp} {h : Hv} {d : D} {v : V} {t : String} (rl : Rel K φ S H h) (r : Rp K φ S v d) (e : tyName h d = some t) : TyX K H v (.type t) := by
  cases r with
  | non => cases e; exact .base .non
  | bl b => cases e; exact .base (.bl b)
  | int i => cases e; exact .base (.int i)
  | str x => cases e; exact .base (.str x)
  | lst h1 h2 => cases e; exact .base (.lst (rl.sub _ _ h1))
  | fz h1 h2 => cases e; exact tyx_l (rl.sub.sql h1)
  | tup h1 h2 => cases e; exact tyx_t (rl.sub.sqt h1)
  | @cell a n h1 =>
    obtain ⟨c, hc⟩ := rl.at h1
    obtain ⟨_, o, ho, rc⟩ := rl.cel _ _ _ h1 hc
    simp only [tyName] at e
    rw [hc] at e
    cases c with
    | lst ds =>
      obtain ⟨vs, rfl, ra⟩ := rc
      cases e
      exact .base (.lst ho)
    | dK kvs =>
      obtain ⟨vs, rfl, _⟩ := rc
      cases e
      exact .base (.dK ho)
    | dF kvs => cases e
    | ins C fs => cases e
    | dN w kvs => cases e
    | tb q n => cases e
  | dct h1 h2 h3 => cases e; exact .fDict (rl.sub _ _ h1)
  | _ => cases e
section
variable {X : Cx} {W : WX} {K : PySem.W.Frag} {a b c e : Expr} {fa fb fc : ES} {pos p p2 apos : Pos}
def eIsi (T : String) (f : ES) : ES := fun σ h => (f σ h).bind fun d h1 => match (tyName h1 d).bind fun t => kitB t T with
  | some r => .ok (.bl r) h1
  | none => .stuck
theorem se_isi {T : String} {tx : Str} (hm : X.mg "isinstance" = none) (hm2 : X.mg tx = none) (hv : bootBuiltins tx = some (.type T)) (ha : SE X W a fa) (hg : Gl X "isinstance" := by rfl) (hg2 : Gl X tx := by rfl) (hn : tx ≠ "__name__" := by decide) (hdb : (tx == ("__debug__" : Str)) = false := by decide)
    (h1 : starEach [.Name tx p2] X.env = (false, eval (.Name tx p2) X.env) :: starEach [] X.env := by rfl)
    (he : starEach (a :: [.Name tx p2]) X.env = (false, eval a X.env) :: starEach [.Name tx p2] X.env := by rfl) (hpl : (backTo pos (starEach [.Name tx p2] X.env)).any (·.1) = false := by rfl) :
    SE X W (.Call (.Name "isinstance" p) [a, .Name tx p2] [] pos) (eIsi T fa) := by
  obtain ⟨ta, k1, k2⟩ := ha
  have hT : PE X (.Name tx p2) (tC (.ty T)) := pe_bltn hg2 hm2 hv rfl hn hdb
  have hA : PA X [a, .Name tx p2] (tCons ta (tCons (tC (.ty T)) tNil)) := pa_cons k1 (pa_cons hT pa_nil h1) he
  refine ⟨_, pe_callB call_isi hg hm (by decide +kernel) hA (by decide) (by decide) he hpl, ⟨fun rl rs post => k2.bind rl rs post fun d h1 v φ1 S1 H1 rl1 rs1 st rp post => ?_⟩⟩
  cases q : tyName h1 d with
  | none => simp only [q, Option.bind_none] at post; exact post.elim
  | some t =>
    simp only [q, Option.bind_some] at post
    cases q2 : kitB t T with
    | none => simp only [q2] at post; exact post.elim
    | some r =>
      simp only [q2] at post
      exact ⟨v, .ty T, .type t, .type T, r, rfl, .ty T, tyName_ok rl1 rp q, kit_ty q2, post _ φ1 S1 H1 rl1 (Step.refl _ _ _) (.bl r)⟩
def eChain (o1 o2 : D → D → Hv → R D) (fa fb fc : ES) : ES := fun σ h => (fa σ h).bind fun x h1 => (fb σ h1).bind fun y h2 => (o1 x y h2).bind fun z h3 => match z with
  | .bl true => (fc σ h3).bind fun u h4 => o2 y u h4
  | .bl false => .ok (.bl false) h3
  | _ => .stuck
def signsD (x : Str) : List D := x.cps.toList.map fun c => .str ⟨#[c]⟩
def iS (f : ES) : IS := fun σ h => (f σ h).bind fun d h1 => match d with
  | .str x => .ok (signsD x, always) h1
  | _ => .stuck
def eStr1 (ro : D → D → Hv → R D) (fa fb : ES) : ES := fun σ h => (fa σ h).bind fun x h1 => match x with
      | .str _ => (fb σ h1).bind fun y h2 => ro x y h2
      | _ => .stuck
end
def OkF (P : Program) (w : World) (K : PySem.W.Frag) (mg : Str → Option Value) (base : Heap) (k : Nat) (x : Str) (ps : List Str) (sem : List D → Hv → R D) : Prop :=
  ∃ fd, (∃ oc od osl, K.lookup (He.ga K x) = some ⟨oc, od, .func fd, osl⟩) ∧ FnOk P w K mg base (L2.CX P w) k (He.ga K x) fd ps (spOf K sem) ∧ Binds K fd ps [] ∧ mg x = some (.ref (He.ga K x)) ∧ PySem.W.keepIn K (.ref (He.ga K x)) = true
section
variable {P : Program} {w : World} {K : PySem.W.Frag} {mg : Str → Option Value} {base : Heap}
theorem okF_mk {x : Str} {st : Stmt} {fd : FuncData} {N ps : List Str} {k np nl : Nat} {body : SS} (F : Fun K x x st (He.ga K x) fd) (Sc : FnScope N ps (defScope st)) (hps : ps.length = np) (hN : N.length = np + nl) (g : mg x = some (.ref (He.ga K x))) (b : Binds K fd ps [])
    (hbody : ∀ (cdv : Value) (A : Around) (outer : List Env) (s : Shared) (H : Hp) (E : XK), Room k (A.deeper (envOfC x (defScope st) s.heap.objs.size (He.ga K x) cdv)) →
      QB (cxOf (L2.CX P w) P w K mg base N x (defScope st) (He.ga K x) cdv A outer s H E) (fun cls d _ H' => E cls d H') (defBody st) body) : OkF P w K mg base (k + 1) x ps (fnS np nl body) := ⟨fd, let ⟨oc, od, _, _, _, _, _, _, osl, _, lk, _⟩ := F.ex; ⟨oc, od, osl, lk⟩, fn_ok F Sc hps hN hbody, b, g, F.kp⟩
theorem takes_fn {N : List Str} {qual : Str} {scope : Scope} {f : Addr} {cd : Value} {A : Around} {outer : List Env} {s : Shared} {H : Hp} {E : XK} : Takes (cxOf (L2.CX P w) P w K mg base N qual scope f cd A outer s H E) (fun cls d _ H' => E cls d H') := takes_of rfl rfl rfl rfl
theorem passes_fn {N : List Str} {qual : Str} {scope : Scope} {f : Addr} {cd : Value} {A : Around} {outer : List Env} {s : Shared} {H : Hp} {E : XK} :
    PassesOwn (model (cxOf (L2.CX P w) P w K mg base N qual scope f cd A outer s H E).prog (cxOf (L2.CX P w) P w K mg base N qual scope f cd A outer s H E).w) (cxOf (L2.CX P w) P w K mg base N qual scope f cd A outer s H E).A (cxOf (L2.CX P w) P w K mg base N qual scope f cd A outer s H E).env (cxOf (L2.CX P w) P w K mg base N qual scope f cd A outer s H E).xe :=
  passes_of (X := cxOf (L2.CX P w) P w K mg base N qual scope f cd A outer s H E) (K := fun e s'' => L2.CX P w outer H s E e s'') (E₁ := fun e' s'' => L2.CX P w outer H s E e' s'') rfl
end
/-- how a call is told -/
inductive Cm where
  | P | B | M
def Cm.f : Cm → (List D → Hv → R D) → List D → Hv → R D
  | .P => callP
  | .B => callB
  | .M => callM
theorem cm_ok (c : Cm) {K : PySem.W.Frag} {sem : List D → Hv → R D} {φ : List Addr} {S H : Hp} {h : Hv} {ds : List D} {vs : List V} {Q : VK} {E : XK} (rl : Rel K φ S H h) (ra : RpA K φ S vs ds) (post : Post K (repV K) φ S H (c.f sem ds h) Q E) : spOf K sem vs H Q E := by
  cases c with
  | P => exact spOf_P rl ra post
  | B => exact spOf_B rl ra post
  | M => exact spOf_M rl ra post
theorem se_fn {X : Cx} {W : WX} {k : Nat} {ps : List Str} {sem : List D → Hv → R D} {x : Str} {p pos : Pos} {e : Expr} {es : List Expr} {la : LS} (c : Cm)
    (o : OkF X.prog X.w X.K X.mg X.base k x ps sem) (hr : Room k X.A) (tk : Takes X W) (ha : SA X W (e :: es) la)
    (hg : Gl X x := by rfl) (hdb : (x == ("__debug__" : Str)) = false := by decide) (he : starEach (e :: es) X.env = (false, eval e X.env) :: starEach es X.env := by rfl) (hpl : (backTo pos (starEach es X.env)).any (·.1) = false := by rfl) :
    SE X W (.Call (.Name x p) (e :: es) [] pos) (eCa (c.f sem) la) := by
  obtain ⟨fd, _, F, b, g, kp⟩ := o
  exact se_call (cm_ok c) F hr tk g kp b ha hg hdb he hpl
theorem cx_false {P : Program} {w : World} {outer : List Env} {H : Hp} {s : Shared} {e : Value} {s' : Shared} (z : L2.CX P w outer H s (fun _ _ _ => False) e s') : False := by
  obtain ⟨_, _, _, _, _, _, _, _, _, _, _, _, z⟩ := z
  exact z
theorem law_end {P : Program} {w : World} {K : PySem.W.Frag} {mg : Str → Option Value} {h : Heap} {x : Str} {k n : Nat} {fa : Addr} {sem : List D → Hv → R D} {st : Stmt} (KX : K.In h) (hF : ∃ fd, Fun K "law" "law" st (He.ga K "law") fd) (g : mg "law" = some (.ref (He.ga K "law"))) (hmg : mg "law" = some (.ref fa))
    (hb : ∀ fd : FuncData, Fun K "law" "law" st (He.ga K "law") fd → ∀ (s : Shared) (u : Value), BindsTo s fd ⟨[u], []⟩ [(x, u)])
    (o : ∀ base : Heap, OkF P w K mg base k "law" [x] sem) (hs : ∀ ns : List Int, ns.length ≤ n → sem [.fz (ns.map .int)] [] = .ok (.bl true) []) :
    ∃ (K : PySem.W.Frag) (fd : FuncData) (sp : Sp), K.In h ∧ (∀ (s : Shared) (u : Value), BindsTo s fd ⟨[u], []⟩ [(x, u)]) ∧
        (∀ (H : Hp) (a : Addr) (ns : List Int), ns.length ≤ n → Only H → SqL K H a (ns.map V.int) → sp [.ref a] H (fun v _ => v = .bl true) fun _ _ _ => False) ∧
        ∀ base : Heap, K.In base → base.Ns mainGlobals mg → FnOk P w K mg base (L2.CX P w) k fa fd [x] sp := by
  obtain ⟨fd, F⟩ := hF
  have e := g.symm.trans hmg
  cases e
  refine ⟨K, fd, spOf K sem, KX, hb fd F, fun H a ns hl _ hS => law_sp hs H a ns hl hS, fun base _ _ => ?_⟩
  obtain ⟨fd', ⟨oc, od, osl, lk⟩, F', _⟩ := o base
  obtain ⟨oc2, od2, _, _, _, _, _, _, osl2, _, lk2, _⟩ := F.ex
  rw [lk] at lk2
  have e2 : fd' = fd := by
    injection lk2 with lk2
    injection lk2 with _ _ lk2 _
    injection lk2
  subst e2
  exact F'
/-- list(range(n)) -/
noncomputable def lRg1 (f : ES) : LS := fun σ h => (f σ h).bind fun d h1 => match d with
  | .int n => @ite _ ((-(2 ^ 62) ≤ n ∧ n < 2 ^ 62) ∧ n.toNat ≤ 2 ^ 24) (Classical.propDecidable _) (.ok (rgD 0 n.toNat) h1) .stuck
  | _ => .stuck
/-- a law's end, where what a raise leaves may lean on the world -/
theorem walk_own {lw : PySem.W.OpenLaw} {num lev : Nat} {pr : Program} {ls : List Str} {X1 : (Str → Option Value) → Heap → Prop} {Y1 : World → Heap → Prop} {dr : DefRec} {CC : World → CXT} {nm : Str} (e1 : lw.most = some num) (e2 : num ≤ sizeLine) (e3 : dr.params.defaults = []) (e4 : Room lev callerA)
    (body : ∀ (w : World) (mg : Str → Option Value) (fa : Addr) (h : Heap), Y1 w h → h.Ns mainGlobals mg → mg dr.name = some (.ref fa) → ∃ (K : PySem.W.Frag) (fd : FuncData) (sp : Sp), K.In h ∧ (∀ (s : Shared) (u : Value), BindsTo s fd ⟨[u], []⟩ [(nm, u)]) ∧ (∀ (H : Hp) (a : Addr) (ns : List Int), ns.length ≤ num → Only H → SqL K H a (ns.map V.int) → sp [.ref a] H (fun v _ => v = .bl true) fun _ _ _ => False) ∧ ∀ base : Heap, K.In base → base.Ns mainGlobals mg → FnOk lw.prog w K mg base (CC w) lev fa fd [nm] sp)
    (noX : ∀ (w : World) (H : Hp) (s : Shared) (e : Value) (s' : Shared), CC w [] H s (fun _ _ _ => False) e s' → False) : PySem.W.WalkO pr ls X1 Y1 lw.row.toRowW dr [] (fun f vs => PySem.call f vs) := by
  refine Att.attach_call e1 e3 fun w s0 s1 mg mb fa ob pm cdv doc ad vals nms gg yy q1 q2 q3 q4 q5 q6 q7 q8 => ?_
  obtain ⟨K, fd, sp, kx, kb, ks, kf⟩ := body w mg fa _ yy gg.T.g q4
  exact law_call kx gg.T.g gg.T.b gg.T.builtins gg.T.nolimit q8 q5 q6 (Nat.le_trans q7 e2) e4 kf kb (fun H hO hS => ks H ad nms q7 hO hS) fun H e s' => noX w H s1 e s'
end
end VD
set_option Elab.async false
set_option linter.all false
set_option maxRecDepth 100000
set_option maxHeartbeats 4000000
namespace VD
open PySem PySem.Spec PyProof.Rows L2
noncomputable section
mutual
def shD (n : Nat) : D → D
  | .lst ds => .lst (shL n ds)
  | .fz ds => .fz (shL n ds)
  | .tup ds => .tup (shL n ds)
  | .cell m => .cell (n + m)
  | .non => .non
  | .bl b => .bl b
  | .int i => .int i
  | .str x => .str x
  | .raw v => .raw v
  | .dct ks ds => .dct ks (shL n ds)
  | .obj c ks ds => .obj c ks (shL n ds)
  | .exv a dd f d => .exv a dd f (shD n d)
def shL (n : Nat) : List D → List D
  | [] => []
  | d :: ds => shD n d :: shL n ds
end
def shP {κ : Type} (n : Nat) (kvs : List (κ × D)) : List (κ × D) := kvs.map fun p => (p.1, shD n p.2)
def shC (n : Nat) : Cell → Cell
  | .lst ds => .lst (shL n ds)
  | .dK kvs => .dK (shP n kvs)
  | .dF kvs => .dF (shP n kvs)
  | .ins C fs => .ins C (shP n fs)
  | .dN w kvs => .dN w (shP n kvs)
  | .tb p m => .tb p (n + m)
theorem shL_eq (n : Nat) : ∀ ds : List D, shL n ds = ds.map (shD n)
  | [] => rfl
  | d :: ds => by rw [shL, shL_eq n ds]; rfl
section
variable {K : PySem.W.Frag} {φ ψ : List Addr} {S : Hp}
mutual
theorem Rp.sh : ∀ {v : V} {d : D}, Rp K ψ S v d → Rp K (φ ++ ψ) S v (shD φ.length d)
  | _, _, .non => .non
  | _, _, .bl b => .bl b
  | _, _, .int i => .int i
  | _, _, .str x => .str x
  | _, _, .lst h r => .lst h (RpA.sh r)
  | _, _, .fz h r => .fz h (RpA.sh r)
  | _, _, .tup h r => .tup h (RpA.sh r)
  | _, _, .cell (n := n) h => .cell (by rw [List.getElem?_append_right (Nat.le_add_right _ _), Nat.add_sub_cancel_left]; exact h)
  | _, _, .raw v => .raw v
  | _, _, .dct h k r => .dct h k (RpA.sh r)
  | _, _, .obj h k r => .obj h k (RpA.sh r)
  | _, _, .exv h r => .exv h (Rp.sh r)
theorem RpA.sh : ∀ {vs : List V} {ds : List D}, RpA K ψ S vs ds → RpA K (φ ++ ψ) S vs (shL φ.length ds)
  | _, _, .nil => .nil
  | _, _, .cons r t => .cons (Rp.sh r) (RpA.sh t)
end
theorem shP_1 {κ : Type} (n : Nat) (kvs : List (κ × D)) : (shP n kvs).map (·.1) = kvs.map (·.1) := by
  unfold shP
  rw [List.map_map]
  rfl
theorem shP_2 {κ : Type} (n : Nat) (kvs : List (κ × D)) : (shP n kvs).map (·.2) = shL n (kvs.map (·.2)) := by
  unfold shP
  rw [List.map_map, shL_eq, List.map_map]
  rfl
theorem RpC.sh {c : Cell} {o : HO} (h : RpC K ψ S c o) : RpC K (φ ++ ψ) S (shC φ.length c) o := by
  cases c with
  | lst ds =>
    obtain ⟨vs, h1, h2⟩ := h
    exact ⟨vs, h1, h2.sh⟩
  | dK kvs =>
    obtain ⟨vs, h1, h2, h3⟩ := h
    exact ⟨vs, h1, by rw [shP_1]; exact h2, by rw [shP_2]; exact h3.sh⟩
  | dF kvs =>
    obtain ⟨od, vs, h1, h2, h3⟩ := h
    exact ⟨od, vs, h1, by rw [shP_1]; exact h2, by rw [shP_2]; exact h3.sh⟩
  | ins C fs =>
    obtain ⟨dx, vs, h1, h2, h3⟩ := h
    exact ⟨dx, vs, h1, by rw [shP_1]; exact h2, by rw [shP_2]; exact h3.sh⟩
  | dN w kvs =>
    obtain ⟨a, xs, h1, h2, h3, h4⟩ := h
    exact ⟨a, xs, h1, by rw [shP_1]; exact h2, h3, by rw [shP_2]; exact h4.sh⟩
  | tb p m =>
    obtain ⟨h0, h1⟩ := h
    exact ⟨by rw [List.getElem?_append_right (Nat.le_add_right _ _), Nat.add_sub_cancel_left]; exact h0, h1⟩
end
/-- the call: run on no objects, its new ones behind the caller's -/
def callC (sem : List D → Hv → R D) (ds : List D) (h : Hv) : R D := match pureD ds with
  | some ds' => (match sem ds' [] with
    | .ok d h' => .ok (shD h.length d) (h ++ h'.map (shC h.length))
    | .exc x [] => .exc x h
    | _ => .stuck)
  | none => .stuck
theorem join_rel {K : PySem.W.Frag} {φ φ' : List Addr} {S H S' H' : Hp} {h h' : Hv} (rl : Rel K φ S H h) (r2 : Rel K φ' S' H' h') (st : Step [] S H φ' S' H') : Rel K (φ ++ φ') S' H' (h ++ h'.map (shC h.length)) ∧ Step φ S H (φ ++ φ') S' H' := by
  obtain ⟨ψ, e, hn⟩ := st.pre
  rw [List.nil_append] at e
  subst e
  have dis : ∀ a ∈ φ, a ∉ φ' := fun a ha hb => by
    have := (rl.mem ha).2
    exact this (hn a hb)
  refine ⟨⟨by rw [List.length_append, List.length_append, List.length_map, rl.len, r2.len], r2.sub, List.nodup_append.mpr ⟨rl.nd, r2.nd, fun a ha b hb e => dis a ha (e ▸ hb)⟩, fun n a c e1 e2 => ?_⟩, ⟨⟨φ', rfl, hn⟩, st.sub, st.old, fun a o e _ => st.keep a o e (fun z => nomatch z), st.there, st.frz⟩⟩
  by_cases q : n < φ.length
  · rw [List.getElem?_append_left q] at e1
    rw [List.getElem?_append_left (by rw [← rl.len]; exact q)] at e2
    obtain ⟨h1, o, h2, h3⟩ := rl.cel n a c e1 e2
    exact ⟨(st.old a (by rw [h2]; exact fun z => nomatch z)).trans h1, o, st.keep a o h2 (fun z => nomatch z), h3.mono ⟨φ', rfl⟩ st.sub⟩
  · rw [List.getElem?_append_right (by omega)] at e1
    rw [List.getElem?_append_right (by rw [← rl.len]; omega), ← rl.len, List.getElem?_map] at e2
    obtain ⟨c0, hc0, rfl⟩ := Option.map_eq_some_iff.mp e2
    obtain ⟨h1, o, h2, h3⟩ := r2.cel _ a c0 e1 hc0
    exact ⟨h1, o, h2, h3.sh⟩
def fnU (np nl : Nat) (body : SS) : List D → Hv → R D := fun ds h => if ds.length = np then (match body (ds.map some ++ List.replicate nl none) h with
  | .ret d h' => .ok d h'
  | .exc x _ h' => exitX h.length x h'
  | _ => .stuck) else .stuck
theorem fnU_len {np nl : Nat} {body : SS} {ds : List D} {h : Hv} (e : fnU np nl body ds h ≠ .stuck) : ds.length = np := by
  unfold fnU at e
  split at e
  · next q => exact q
  · exact absurd rfl e
section
variable {P : Program} {w : World} {K : PySem.W.Frag} {mg : Str → Option Value} {base : Heap}
theorem fnU_ok {x qual : Str} {st : Stmt} {f : Addr} {fd : FuncData} {N ps : List Str} {k np nl : Nat} {body : SS} (F : Fun K x qual st f fd) (Sc : FnScope N ps (defScope st)) (hps : ps.length = np) (hN : N.length = np + nl)
    (hbody : ∀ (cdv : Value) (A : Around) (outer : List Env) (s : Shared) (H : Hp) (E : XK), Room k (A.deeper (envOfC qual (defScope st) s.heap.objs.size f cdv)) →
      QB (cxOf (L2.CX P w) P w K mg base N qual (defScope st) f cdv A outer s H E) (fun cls d _ H' => E cls d H') (defBody st) body) : FnOk P w K mg base (L2.CX P w) (k + 1) f fd ps (spOf K (fnU np nl body)) := by
  refine F.okX Sc (fun vs H Q E h => ?_) (fun cdv A outer s H vs Q E hr h => ?_)
  · obtain ⟨φ, S, h, ds, rl, ra, post⟩ := h
    rw [ra.length, hps]
    refine fnU_len (nl := nl) (body := body) (h := h) fun z => ?_
    rw [z] at post
    exact post.elim
  · obtain ⟨φ, S, h, ds, rl, ra, post⟩ := h
    obtain ⟨t, h1, h2⟩ := hbody cdv A outer s H E hr
    refine ⟨t, h1, h2.run rl (relS_start ra nl N (by
      have hl : ds.length = np := fnU_len (nl := nl) (body := body) (h := h) fun z => by
        rw [z] at post
        exact post.elim
      rw [hl]
      exact hN)) ?_⟩
    unfold fnU at post
    have hl : ds.length = np := by
      refine Classical.byContradiction fun z => ?_
      rw [if_neg z] at post
      exact post.elim
    rw [if_pos hl] at post
    have en : h.length = φ.length := rl.len.symm
    cases hb : body (ds.map some ++ List.replicate nl none) h with
    | next σ' h' => rw [hb] at post; exact post.elim
    | ret d h' =>
      rw [hb] at post
      exact fun v φ' S' H' r2 st rv => post v φ' S' H' r2 st rv
    | brk σ' h' => rw [hb] at post; exact post.elim
    | cont σ' h' => rw [hb] at post; exact post.elim
    | stuck => rw [hb] at post; exact post.elim
    | exc x σ' h' =>
      rw [hb] at post
      intro σ1 cls dd φ' S' H' r2 _ st rx
      simp only [exitX] at post
      obtain ⟨s2, _⟩ := exit_step st r2
      obtain ⟨e1, rx⟩ := rx
      cases hp : x.pay with
      | none =>
        simp only [hp] at post rx
        split at post
        · next h'' q2 =>
          split at post
          · next hn =>
            rw [en] at q2 hn
            exact post cls dd _ _ H' (exit_rel r2 hn q2) s2 ⟨e1, by rw [hp]; exact rx⟩
          · exact post.elim
        · exact post.elim
      | some p =>
        obtain ⟨fl, d⟩ := p
        simp only [hp] at post rx
        obtain ⟨dx, v, e2, e3, rv⟩ := rx
        split at post
        · next d' h'' q1 q2 =>
          split at post
          · next hn =>
            rw [en] at q1 q2 hn
            exact post cls dd _ _ H' (exit_rel r2 hn q2) s2 ⟨e1, dx, v, e2, still_ex r2 _ _ e3, frz_ok r2 _ _ _ _ rv q1⟩
          · exact post.elim
        · exact post.elim
theorem okU_mk {x : Str} {st : Stmt} {fd : FuncData} {N ps : List Str} {k np nl : Nat} {body : SS} (F : Fun K x x st (He.ga K x) fd) (Sc : FnScope N ps (defScope st)) (hps : ps.length = np) (hN : N.length = np + nl) (g : mg x = some (.ref (He.ga K x))) (b : Binds K fd ps [])
    (hbody : ∀ (cdv : Value) (A : Around) (outer : List Env) (s : Shared) (H : Hp) (E : XK), Room k (A.deeper (envOfC x (defScope st) s.heap.objs.size (He.ga K x) cdv)) →
      QB (cxOf (L2.CX P w) P w K mg base N x (defScope st) (He.ga K x) cdv A outer s H E) (fun cls d _ H' => E cls d H') (defBody st) body) : OkF P w K mg base (k + 1) x ps (fnU np nl body) := ⟨fd, let ⟨oc, od, _, _, _, _, _, _, osl, _, lk, _⟩ := F.ex; ⟨oc, od, osl, lk⟩, fnU_ok F Sc hps hN hbody, b, g, F.kp⟩
end
end
end VD
set_option Elab.async false
set_option linter.all false
set_option maxRecDepth 100000
set_option maxHeartbeats 4000000
namespace VD
open PySem PySem.Spec PyProof.Rows L2
noncomputable section
/-- a slot forgotten behind the suite -/
def wipeR (i : Nat) (r : RS) : RS := match r with
  | .next σ h => .next (σ.set i none) h
  | .brk σ h => .brk (σ.set i none) h
  | .cont σ h => .cont (σ.set i none) h
  | .ret d h => .ret d h
  | _ => .stuck
/-- what the slot of a caught error holds -/
def exD (a dd : Addr) : Option (Str × D) → D
  | none => .raw (.ref a)
  | some (f, d) => .exv a dd f d
abbrev exM (a dd : Addr) (p : Option (Str × D)) : Option D := some (exD a dd p)
/-- a suite's end, where it is the same whatever address the error has -/
def tryA (i : Nat) (p : Option (Str × D)) (s : Addr → Addr → SS) (σ : VS) (h : Hv) : RS := @dite RS (∃ r, ∀ a dd, wipeR i (s a dd (σ.set i (exM a dd p)) h) = r) (Classical.propDecidable _) (fun z => Classical.choose z) (fun _ => .stuck)
/-- try: body; except y as (slot i): suite; tb tells whether a class is under another -/
def sTryAs (tb : Str → Str → Option Bool) (y : Str) (i : Nat) (suite : Xn → Addr → Addr → SS) (body : SS) : SS := fun σ h => match body σ h with
  | .exc x σ' h' => (match tb x.cls y with
    | some true => tryA i x.pay (suite x) σ' h'
    | some false => .exc x σ' h'
    | none => .stuck)
  | r => r
/-- try: body; except y: suite -/
def sTryO (tb : Str → Str → Option Bool) (y : Str) (suite : SS) (body : SS) : SS := fun σ h => match body σ h with
  | .exc x σ' h' => (match tb x.cls y with
    | some true => (match suite σ' h' with
      | .exc _ _ _ => .stuck
      | r => r)
    | some false => .exc x σ' h'
    | none => .stuck)
  | r => r
/-- what is asked of the classes: one's own exceptions; one under another; isinstance -/
inductive Ef where
  | exc (x : Str)
  | sub (x y : Str) (b : Bool)
  | isa (x y : Str) (b : Bool)
  | isT (x : Str) (T : String) (b : Bool)
  | oex (x : Str)
  | nof (x f : Str)
  | bi (x : Str)
def excB (K : PySem.W.Frag) (D : Addr) : Bool := decide (PySem.W.findIn K (.ref D) "__getattribute__" = some (some (.builtin "BaseException.__getattribute__"))) && (decide (PySem.W.findIn K (.ref D) "__getattr__" = some none) && (decide (PySem.W.subIn K (.ref D) (.type "BaseException") = some true) && (PySem.W.hasDictIn K D && (decide (PySem.W.findIn K (.ref D) "__class__" = some (some (.builtin "object.__class__"))) && (decide (PySem.W.specialIn K (.builtin "object.__class__") "__get__" = some (some (.builtin "getset_descriptor.__get__"))) && (decide (PySem.W.takesIn K (.builtin "object.__class__") = some true) && decide (PySem.W.mroIn K D (.type "object") = some true)))))))
theorem and_of {a b : Bool} (h : (a && b) = true) : a = true ∧ b = true := by
  cases a <;> cases b <;> first | exact ⟨rfl, rfl⟩ | cases h
/-- a class of errors with an __init__ of its own -/
def oexB (K : PySem.W.Frag) (C : Addr) : Bool := (match K.lookup C with
  | some ⟨.type "type", _, .cls cd, sl⟩ => (match cd.mro, sl.toList with
    | .ref C' :: bm, [_, _, _, _, some (.builtin n), _] => decide (C' = C) && (decide (n = "ValueError.__new__") && (!cd.hasDel && (cd.hasDict && PySem.HandSPX.refsVE bm)))
    | _, _ => false)
  | _ => false) && (decide (PySem.W.findIn K (.ref C) "__setattr__" = some (some (.builtin "object.__setattr__"))) && (decide (PySem.W.subIn K (.ref C) (.type "BaseException") = some true) && (decide (PySem.W.typeIn K (.ref C) = some (.type "type")) && PySem.W.keepIn K (.ref C))))
theorem oexB_ok {K : PySem.W.Frag} {C : Addr} (h : oexB K C = true) : OexC K C := by
  obtain ⟨q, h⟩ := and_of h
  obtain ⟨h1, h⟩ := and_of h
  obtain ⟨h2, h⟩ := and_of h
  obtain ⟨h3, h4⟩ := and_of h
  refine ⟨?_, of_decide_eq_true h1, of_decide_eq_true h2, of_decide_eq_true h3, h4⟩
  split at q
  · rename_i dd cd sl ho
    split at q
    · rename_i C' bm k0 k1 k2 k3 n k5 hm hs
      obtain ⟨q1, q⟩ := and_of q
      obtain ⟨q2, q⟩ := and_of q
      obtain ⟨q3, q⟩ := and_of q
      obtain ⟨q4, q5⟩ := and_of q
      cases of_decide_eq_true q1
      cases of_decide_eq_true q2
      obtain ⟨cn, cb, cm, cns, cq, chd, csn, csub, cab, ccol, cdl⟩ := cd
      dsimp only at hm q3 q4
      subst hm q4
      have q3 : cdl = false := by cases cdl <;> first | rfl | cases q3
      subst q3
      have esl : sl = #[k0, k1, k2, k3, some (.builtin "ValueError.__new__"), k5] := Array.toList_inj.mp hs
      subst esl
      exact ⟨cn, cq, cns, cb, bm, csn, csub, cab, ccol, dd, k0, k1, k2, k3, k5, ho, q5⟩
    · cases q
  · cases q
/-- a class whose __init__ is ValueError's -/
def biB (K : PySem.W.Frag) (C : Addr) : Bool := PySem.W.readsIn K C (.type "type") && (decide (PySem.W.specialIn K (.ref C) "__getattribute__" = some (some (.builtin "type.__getattribute__"))) && (match PySem.W.findCls K (.ref C) (.type "type") "__init__" with
  | some (.val (.builtin s)) => decide (s = "ValueError.__init__")
  | _ => false))
def Ef.ok (K : PySem.W.Frag) : Ef → Bool
  | .exc x => excB K (He.ga K x)
  | .sub x y b => decide (PySem.W.exmOne K (.ref (He.ga K x)) (.ref (He.ga K y)) = some b)
  | .isa x y b => decide (PySem.W.kitOne K (.ref (He.ga K x)) (.ref (He.ga K y)) = some b)
  | .isT x T b => decide (PySem.W.kitOne K (.ref (He.ga K x)) (.type T) = some b)
  | .oex x => oexB K (He.ga K x)
  | .nof x f => decide (PySem.W.findIn K (.ref (He.ga K x)) f = some none)
  | .bi x => biB K (He.ga K x)
/-- what the top's names come to, each address once (the seen ones as bits) -/
def ddA : List Addr → Nat → List Addr → (Nat → List Addr → List Addr) → List Addr
  | [], m, acc, k => k m acc
  | a :: r, m, acc, k => match Nat.beq (Nat.land (Nat.shiftRight m a) 1) 1 with
    | true => ddA r m acc k
    | false => HandSHeadRun.frNat (Nat.lor m (Nat.shiftLeft 1 a)) fun m' => ddA r m' (a :: acc) k
def bfsA (g : Addr → Option Obj) : Nat → List Addr → Nat → List Addr → List Addr
  | 0, _, _, al => al
  | n + 1, fr, m, al => ddA (fr.flatMap fun a => match g a with | some o => He.refsD o | none => []) m [] fun m' l => bfsA g n l m' (al ++ l)
def asF (g : Addr → Option Obj) (n : Nat) : List Addr := bfsA g n [mainGlobals] (Nat.shiftLeft 1 mainGlobals) [mainGlobals]
def obsE (n : Nat) (fa : List He.Fa) (fn : List He.DefD) (ef : List Ef) (g : Addr → Option Obj) : He.AlD × Bool := (He.obsD fa fn (He.frG g (cStatics :: asF g n)), ef.all fun f => f.ok (He.frG g (cStatics :: asF g n)))
def hookE (n : Nat) (fa : List He.Fa) (fn : List He.DefD) (ef : List Ef) : PySem.W.Hook where
  α := He.AlD × Bool
  obs := fun s => obsE n fa fn ef s.heap.get?
  val := fun _ => (He.valD fn, true)
  says := fun _ h => ∃ K : PySem.W.Frag, K.In h ∧ He.SaysD fa fn K ∧ (ef.all fun f => f.ok K) = true
  of := fun _ _ e => ⟨_, He.frG_in, congrArg (fun z : He.AlD × Bool => z.1) e, congrArg (fun z : He.AlD × Bool => z.2) e⟩
  keeps := fun _ _ _ z k => by
    obtain ⟨K, hK, c, d⟩ := z
    exact ⟨K, PySem.W.Frag.In.keeps hK k, c, d⟩
theorem obsE_eq {n : Nat} {fa : List He.Fa} {fn : List He.DefD} {ef : List Ef} {g : Addr → Option Obj} {s : Shared} (h : ∀ a, g a = s.heap.get? a) : obsE n fa fn ef g = (hookE n fa fn ef).obs s := by
  have e : g = s.heap.get? := funext h
  rw [e] <;> rfl
def RunL (r : PySem.W.OpenRow) (q : Program) (M : Nat) (loose : List Str) (w : World) : Prop :=
  ∀ os : OsState, (HandSHeadRun.endF (HandSHeadRun.stepQ (HandSHeadRun.denQ HandSHeadRun.tabQ) r.prog w) M r.prog w os).map (fun s => (HandSHeadRun.looksF r.prog (open PySem.W PySem.Calls PyProof.Rows in boot_heap w.params) s.abs, HandSHeadRun.seenQ q loose (importedModules r.prog.main.body) (fun s => PySem.W.xlAt q [] s && PySem.W.recOk r.toRowW.records s) s.abs)) = some (true, PySem.W.openGood q loose)
def RunO {α : Type} (r : PySem.W.OpenRow) (f : PySem.W.SharedT → α) (v : World → α) (M : Nat) (w : World) : Prop :=
  ∀ os : OsState, (HandSHeadRun.endF (HandSHeadRun.stepQ (HandSHeadRun.denQ HandSHeadRun.tabQ) r.prog w) M r.prog w os).map f = some (v w)
theorem map_3 {σ α β γ : Type} {X : Option σ} {f : σ → α} {g : σ → β} {k : σ → γ} {a : α} {b : β} {c : γ} (h1 : X.map (fun s => (f s, g s)) = some (a, b)) (h2 : X.map k = some c) : X.map (fun s => (f s, g s, k s)) = some (a, b, c) := by
  cases X with
  | none => cases h1
  | some s =>
    cases h2
    have e := Option.some.inj h1
    have e1 : f s = a := congrArg (fun z => z.1) e
    have e2 : g s = b := congrArg (fun z => z.2) e
    show some (f s, g s, k s) = _
    rw [e1, e2]
theorem run_of {r : PySem.W.OpenRow} {q : Program} {H : PySem.W.Hook} {ob : PySem.W.SharedT → H.α} {M : Nat} {loose : List Str} {w : World} (h1 : RunL r q M loose w) (h2 : RunO r ob H.val M w) : HandSHeadRun.RunEq r q H ob M loose w := fun os => map_3 (h1 os) (h2 os)
theorem ef_at {K : PySem.W.Frag} {ef : List Ef} (h : (ef.all fun f => f.ok K) = true) {f : Ef} (hm : f ∈ ef) : f.ok K = true := List.all_eq_true.mp h f hm
/-- the slot still holds what was caught -/
def isEx (a dd : Addr) (p : Option (Str × D)) (d : D) : Bool := match p, d with
  | none, .raw (.ref b) => decide (b = a)
  | some _, .exv b d0 _ _ => decide (b = a) && decide (d0 = dd)
  | _, _ => false
/-- what the suite asks of what it caught: o, where the slot holds it -/
def eIsO (i : Nat) (x : Xn) (a dd : Addr) (o : Option Bool) : ES := fun σ h => (eVar i σ h).bind fun d h1 => if isEx a dd x.pay d = true then (match o with
    | some r => .ok (.bl r) h1
    | none => .stuck) else .stuck
end
end VD
set_option Elab.async false
set_option linter.all false
set_option maxRecDepth 100000
set_option maxHeartbeats 4000000
namespace VD
open PySem PySem.Spec PyProof.Rows L2
noncomputable section
/-- a method's statement -/
def clsS : Stmt → Nat → Stmt
  | .ClassDef _ _ _ b _ _ _ _ _ _ _, j => b.getD j (.Pass ⟨0, 0, 0, 0⟩)
  | s, _ => s
/-- what such an __init__ does -/
def spPay (K : PySem.W.Frag) (C : Addr) (f : Str) : Sp := fun vs H Q _ => ∃ (a : Addr) (v : V), vs = [.ref a, v] ∧ H a = some (exo a C none) ∧ OexC K C ∧ PySem.W.findIn K (.ref C) f = some none ∧
  ∀ dx, H dx = none → dx ≠ a → Q .non (upd (upd H dx (exd dx [(f, v)])) a (exo a C (some dx)))
section
variable {X : Cx} {e : Expr} {es : List Expr} {ta : TA} {b : Str} {B : Addr} {p1 p2 pos : Pos}
theorem biB_ok {K : PySem.W.Frag} {C : Addr} (h : biB K C = true) : PySem.W.readsIn K C (.type "type") = true ∧ PySem.W.specialIn K (.ref C) "__getattribute__" = some (some (.builtin "type.__getattribute__")) ∧ PySem.W.findCls K (.ref C) (.type "type") "__init__" = some (.val (.builtin "ValueError.__init__")) := by
  unfold biB at h
  obtain ⟨h1, h⟩ := and_of h
  obtain ⟨h2, h3⟩ := and_of h
  refine ⟨h1, of_decide_eq_true h2, ?_⟩
  split at h3
  · next s q =>
    rw [q, of_decide_eq_true h3]
  · cases h3
theorem pe_ceinit {pl : Sem Bool} (hg : Gl X b) (hm : X.mg b = some (.ref B)) (bi : biB X.K B = true) (ha : PA X (e :: es) ta) (hdb : (b == ("__debug__" : Str)) = false := by decide)
    (hc : eval (.Call (.Attribute (.Name b p1) "__init__" p2) (e :: es) [] pos) X.env = (do
      let ov ← eval (.Name b p1) X.env
      standAt p2.atName
      let (f, first) ← holding [ov] (getMethod ov "__init__" pl)
      callWith pos f first (backTo pos (starEach (e :: es) X.env)) (backToKw pos (keywordEach [] X.env))) := by rfl)
    (he : starEach (e :: es) X.env = (false, eval e X.env) :: starEach es X.env := by rfl) (hpl : (backTo pos (starEach es X.env)).any (·.1) = false := by rfl) :
    PE X (.Call (.Attribute (.Name b p1) "__init__" p2) (e :: es) [] pos) (tVeI X.K ta) := by
  obtain ⟨b1, b2, b3⟩ := biB_ok bi
  have fin : ∀ {pins : List (Addr × Obj)} {s1 : Shared} {σ : L2.St} {H1 : Hp} {Q : VK} {us : List Value} {vs : List V}, Inv X pins σ H1 s1 → Vals vs us → (∃ (x Y : Addr) (more : List V), vs = .ref x :: more ∧ more.length ≤ 1000 ∧ OexC X.K Y ∧ H1 x = some (exo x Y none) ∧ Q .non H1) →
      wpAny (model X.prog X.w) X.A (call (.builtin "ValueError.__init__") us) (EP X pins σ Q) X.xe s1 := fun {pins s1 σ H1 Q us vs} J rv z => by
    obtain ⟨x, Y, more, rfl, few, oy, at_, done⟩ := z
    cases rv with
    | cons r0 rt =>
      cases r0
      refine oinit_ok oy J at_ ?_ fun s2 J2 => ⟨.non, H1, J2, rfl, done⟩
      have e := Paired.length rt
      rw [sizeLine_eq]
      omega
  constructor
  intro pins s σ H Q I0 rd
  exact PySem.W.methodCall_KW (ld_glob I0 hg hm (PySem.W.method_cls I0.kIn b2 (PySem.W.cls_value I0.kIn b1 b3 (by decide +kernel)
    (PyProof.Rows.callWith_method1 (thn (ha.run pos pins _ σ H _ (I0.tok _) rd) fun us s1 ⟨vs, H1, I1, rv, z⟩ => fin I1 rv z) he hpl))) hdb) hc
end
section
variable {P : Program} {w : World} {K : PySem.W.Frag} {mg : Str → Option Value} {base : Heap}
theorem payInit_ok {x qual z fl : Str} {st : Stmt} {f C : Addr} {fd : FuncData} {N ps : List Str} {k : Nat} (F : Fun K x qual st f fd) (Sc : FnScope N ps (defScope st)) (hps : ps.length = 2) (hN : N.length = 2)
    (hbody : ∀ (cdv : Value) (A : Around) (outer : List Env) (s : Shared) (H : Hp) (E : XK), Room k (A.deeper (envOfC qual (defScope st) s.heap.objs.size f cdv)) →
      PSs (cxOf (L2.CX P w) P w K mg base N qual (defScope st) f cdv A outer s H E) (defBody st) (tSeq (tDrop (tVeI K (tCons (tVar 0) (tCons (tC (.str z)) tNil)))) (tOst K fl (tVar 0) (tVar 1)))) : FnOk P w K mg base (L2.CX P w) (k + 1) f fd ps (spPay K C fl) := by
  refine F.okX Sc (fun vs H Q E h => ?_) (fun cdv A outer s H vs Q E hr h => ?_)
  · obtain ⟨a, v, rfl, _⟩ := h
    exact hps.symm
  · obtain ⟨a, v, rfl, ea, ox, no, q⟩ := h
    refine ⟨_, hbody cdv A outer s H E hr, ?_⟩
    have es : L2.start N [.ref a, v] = [some (.ref a), some v] := by
      unfold L2.start
      rw [hN]
      rfl
    rw [es]
    refine ⟨.ref a, rfl, a, C, [.str z], rfl, by simp, ox, ea, v, rfl, .ref a, rfl, a, C, rfl, ox, no, .inl ⟨ea, q⟩⟩
/-- a class of errors that bear a value in the field f -/
structure PayT (P : Program) (w : World) (K : PySem.W.Frag) (mg : Str → Option Value) (base : Heap) (k : Nat) (x f : Str) : Prop where
  g : mg x = some (.ref (He.ga K x))
  ox : OexC K (He.ga K x)
  no : PySem.W.findIn K (.ref (He.ga K x)) f = some none
  ini : ∃ (fI : Addr) (fd : FuncData) (ps : List Str), PySem.W.findIn K (.ref (He.ga K x)) "__init__" = some (some (.ref fI)) ∧ PySem.W.typeIn K (.ref fI) = some (.type "function") ∧ FnOk P w K mg base (L2.CX P w) k fI fd ps (spPay K (He.ga K x) f) ∧ Binds K fd ps []
end
def sRaiseP (C f : Str) (fe : ES) : SS := fun σ h => (fe σ h).then σ fun d h' => .exc ⟨C, some (f, d)⟩ σ h'
theorem del_upd {H : Hp} {a dx : Addr} {o1 o2 o3 u : HO} (ha : H a = none) (hd : dx ≠ a) : upd (del (upd (upd (upd H a o1) dx o2) a o3) a) dx u = upd H dx u := by
  funext b
  by_cases q : b = dx
  · subst q
    rw [upd_same, upd_same]
  · rw [upd_ne q, upd_ne q]
    by_cases q2 : b = a
    · subst q2
      rw [del_same, ha]
    · rw [del_ne q2, upd_ne q2, upd_ne q, upd_ne q2]
section
variable {X : Cx} {W : WX} {e : Expr} {fe : ES} {x f : Str} {k : Nat} {p pos p3 : Pos}
theorem qs_raiseP (T : PayT X.prog X.w X.K X.mg X.base k x f) (hr : Room (k + 1) X.A) (tk : Takes X W) (ha : SE X W e fe) (hg : Gl X x := by rfl) (hdb : (x == ("__debug__" : Str)) = false := by decide) (hc : X.calm = true := by rfl)
    (he : starEach [e] X.env = (false, eval e X.env) :: starEach [] X.env := by rfl) (hpl : (backTo pos (starEach [] X.env)).any (·.1) = false := by rfl) :
    QS X W (.Raise (some (.Call (.Name x p) [e] [] pos)) none p3) (sRaiseP x f fe) := by
  obtain ⟨fI, fd, ps, iC, tI, F1, hb⟩ := T.ini
  obtain ⟨te, k1, k2⟩ := ha
  refine ⟨_, ps_raise hc tk (pmk_oex (ds := []) (dvs := []) T.ox iC tI F1 hr hb .nil (fun _ _ _ _ _ _ _ h => (cx_false h).elim) hg T.g (pa_cons k1 pa_nil he) hdb he hpl), ⟨fun {φ S H h σv σ D} rl rs post => ?_⟩⟩
  · refine k2.thenS rl rs post fun d h1 v φ1 S1 H1 rl1 rs1 st rp post => ?_
    refine ⟨by simp, fun a ha => ⟨a, v, rfl, upd_same, T.ox, T.no, fun dx hdx hne => ?_⟩⟩
    have hdx' : H1 dx = none := by rw [upd_ne hne] at hdx; exact hdx
    refine ⟨rfl, dx, [(f, v)], upd_same, by rw [upd_ne hne, upd_same], hdx', ?_⟩
    rw [del_upd ha hne]
    obtain ⟨r2, s2⟩ := rl1.lay (o := .xd [(f, v)]) hdx'
    exact post σ (.ref (He.ga X.K x)) (some dx) φ1 _ _ r2 (rs1.step s2) s2 ⟨rfl, dx, v, rfl, upd_same, Rp.mono s2.prefix s2.sub rp⟩
end
end
end VD
set_option Elab.async false
set_option linter.all false
set_option maxRecDepth 100000
set_option maxHeartbeats 4000000
namespace VD
open PySem PySem.Spec PyProof.Rows L2
end VD
set_option Elab.async false
set_option linter.all false
set_option maxRecDepth 100000
set_option maxHeartbeats 4000000
namespace VD
open PySem PySem.Spec PyProof.Rows L2
noncomputable section
def keyOf : D → Option Key
  | .int i => some (.inl i)
  | .str x => some (.inr x)
  | _ => none
def keyD : Key → D
  | .inl i => .int i
  | .inr x => .str x
theorem keyOf_ok {K : PySem.W.Frag} {φ : List Addr} {S : Hp} {v : V} {d : D} {k : Key} (r : Rp K φ S v d) (e : keyOf d = some k) : v = kV k := by
  cases r <;> cases e <;> rfl
def getD (kvs : List (Key × D)) (k : Key) : Option D := (kvs.find? fun p => decide (p.1 = k)).map (·.2)
def putD (kvs : List (Key × D)) (k : Key) (d : D) : List (Key × D) := if (kvs.any fun p => decide (p.1 = k)) = true then kvs.map (fun p => if p.1 = k then (p.1, d) else p) else kvs ++ [(k, d)]
def dropD (kvs : List (Key × D)) (k : Key) : List (Key × D) := kvs.filter fun p => decide (p.1 ≠ k)
inductive RpK (K : PySem.W.Frag) (φ : List Addr) (S : Hp) : List (Key × V) → List (Key × D) → Prop where
  | nil : RpK K φ S [] []
  | cons {k : Key} {v : V} {d : D} {kv : List (Key × V)} {kd : List (Key × D)} : Rp K φ S v d → RpK K φ S kv kd → RpK K φ S ((k, v) :: kv) ((k, d) :: kd)
section
variable {K : PySem.W.Frag} {φ : List Addr} {S H : Hp} {h : Hv} {kv : List (Key × V)} {kd : List (Key × D)}
theorem RpK.of : ∀ {kv : List (Key × V)} {kd : List (Key × D)}, kv.map (·.1) = kd.map (·.1) → RpA K φ S (kv.map (·.2)) (kd.map (·.2)) → RpK K φ S kv kd
  | [], [], _, _ => .nil
  | [], _ :: _, e, _ => nomatch e
  | _ :: _, [], e, _ => nomatch e
  | (k, v) :: kv, (j, d) :: kd, e, r => by
    rw [List.map_cons, List.map_cons] at e r
    injection e with e1 e2
    have e1 : k = j := e1
    subst e1
    cases r with
    | cons r t => exact .cons r (RpK.of e2 t)
theorem RpK.to (r : RpK K φ S kv kd) : kv.map (·.1) = kd.map (·.1) ∧ RpA K φ S (kv.map (·.2)) (kd.map (·.2)) := by
  induction r with
  | nil => exact ⟨rfl, .nil⟩
  | cons r _ ih => exact ⟨by rw [List.map_cons, List.map_cons, ih.1], .cons r ih.2⟩
theorem RpK.len (r : RpK K φ S kv kd) : kv.length = kd.length := by
  have := congrArg List.length r.to.1
  rw [List.length_map, List.length_map] at this
  exact this
theorem RpK.get (r : RpK K φ S kv kd) (k : Key) : (getD kd k = none ∧ valV kv k = none) ∨ ∃ d v, getD kd k = some d ∧ valV kv k = some v ∧ Rp K φ S v d := by
  induction r with
  | nil => exact .inl ⟨rfl, rfl⟩
  | @cons j v d kv kd r _ ih =>
    by_cases q : j = k
    · refine .inr ⟨d, v, ?_, ?_, r⟩
      · unfold getD; rw [List.find?_cons_of_pos (by exact decide_eq_true q)]; rfl
      · unfold valV; rw [List.find?_cons_of_pos (by exact decide_eq_true q)]; rfl
    · unfold getD valV at ih ⊢
      rw [List.find?_cons_of_neg (by exact fun z => q (of_decide_eq_true z)), List.find?_cons_of_neg (by exact fun z => q (of_decide_eq_true z))]
      exact ih
theorem RpK.any (r : RpK K φ S kv kd) (k : Key) : (kv.any fun p => decide (p.1 = k)) = (kd.any fun p => decide (p.1 = k)) := by
  induction r with
  | nil => rfl
  | cons r _ ih => rw [List.any_cons, List.any_cons, ih]
theorem RpK.rep (r : RpK K φ S kv kd) (k : Key) {v : V} {d : D} (rv : Rp K φ S v d) : RpK K φ S (kv.map fun p => if p.1 = k then (p.1, v) else p) (kd.map fun p => if p.1 = k then (p.1, d) else p) := by
  induction r with
  | nil => exact .nil
  | @cons j w e kv kd r _ ih =>
    rw [List.map_cons, List.map_cons]
    by_cases q : j = k
    · rw [if_pos q, if_pos q]
      exact .cons rv ih
    · rw [if_neg q, if_neg q]
      exact .cons r ih
theorem RpK.snoc (r : RpK K φ S kv kd) (k : Key) {v : V} {d : D} (rv : Rp K φ S v d) : RpK K φ S (kv ++ [(k, v)]) (kd ++ [(k, d)]) := by
  induction r with
  | nil => exact .cons rv .nil
  | cons r _ ih => exact .cons r ih
theorem RpK.put (r : RpK K φ S kv kd) (k : Key) {v : V} {d : D} (rv : Rp K φ S v d) : RpK K φ S (putK kv k v) (putD kd k d) := by
  unfold putK putD
  rw [r.any k]
  split
  · exact r.rep k rv
  · exact r.snoc k rv
theorem RpK.drop (r : RpK K φ S kv kd) (k : Key) : RpK K φ S (dropK kv k) (dropD kd k) := by
  unfold dropK dropD
  induction r with
  | nil => exact .nil
  | @cons j w e kv kd r _ ih =>
    by_cases q : j = k
    · rw [List.filter_cons_of_neg (by simp [q]), List.filter_cons_of_neg (by simp [q])]
      exact ih
    · rw [List.filter_cons_of_pos (by simp [q]), List.filter_cons_of_pos (by simp [q])]
      exact .cons r ih
theorem RpK.at (r : RpK K φ S kv kd) {i : Nat} {k : Key} {d : D} (e : kd[i]? = some (k, d)) : ∃ v, kv[i]? = some (k, v) ∧ Rp K φ S v d := by
  induction r generalizing i with
  | nil => simp at e
  | cons r _ ih =>
    cases i with
    | zero =>
      rw [List.getElem?_cons_zero] at e ⊢
      cases e
      exact ⟨_, rfl, r⟩
    | succ i =>
      rw [List.getElem?_cons_succ] at e ⊢
      exact ih e
/-- a dict to be read -/
def kvOf (h : Hv) : D → Option (List (Key × D))
  | .cell n => match h[n]? with
    | some (.dK kvs) => some kvs
    | some (.dF kvs) => some kvs
    | _ => none
  | .dct ks ds => if ks.length = ds.length then some (ks.zip ds) else none
  | _ => none
theorem zip_1 : ∀ {ks : List Key} {ds : List D}, ks.length = ds.length → (ks.zip ds).map (·.1) = ks ∧ (ks.zip ds).map (·.2) = ds
  | [], [], _ => ⟨rfl, rfl⟩
  | [], _ :: _, e => nomatch e
  | _ :: _, [], e => nomatch e
  | k :: ks, d :: ds, e => by
    obtain ⟨a, b⟩ := zip_1 (ks := ks) (ds := ds) (Nat.succ.inj e)
    exact ⟨by rw [List.zip_cons_cons, List.map_cons, a], by rw [List.zip_cons_cons, List.map_cons, b]⟩
theorem kvOf_ok (rl : Rel K φ S H h) {d : D} {v : V} (r : Rp K φ S v d) (e : kvOf h d = some kd) : ∃ a kv, v = .ref a ∧ Rd H a (.dK kv) ∧ RpK K φ S kv kd := by
  cases r with
  | @cell a n h1 =>
    obtain ⟨c, hc⟩ := rl.at h1
    obtain ⟨_, o, ho, rc⟩ := rl.cel _ _ _ h1 hc
    simp only [kvOf] at e
    rw [hc] at e
    cases c with
    | dK kvs =>
      obtain ⟨kv, rfl, ek, ra⟩ := rc
      cases e
      exact ⟨a, kv, rfl, .inl ho, .of ek ra⟩
    | dF kvs =>
      obtain ⟨od, kv, rfl, ek, ra⟩ := rc
      cases e
      exact ⟨a, kv, rfl, .inr ⟨od, ho⟩, .of ek ra⟩
    | lst xs => cases e
    | ins C fs => cases e
    | dN w kvs => cases e
    | tb q n => cases e
  | @dct a od kv ks ds h1 h2 h3 =>
    simp only [kvOf] at e
    split at e
    · next q =>
      cases e
      obtain ⟨z1, z2⟩ := zip_1 q
      exact ⟨a, kv, rfl, .inr ⟨od, rl.sub _ _ h1⟩, .of (by rw [z1]; exact h2) (by rw [z2]; exact h3)⟩
    · cases e
  | _ => cases e
def oDget : D → D → Hv → R D := fun x y h => match kvOf h x, keyOf y with
  | some kd, some k => (match getD kd k with
    | some d => .ok d h
    | none => .stuck)
  | _, _ => .stuck
def oDin : D → D → Hv → R D := fun y x h => match kvOf h x, keyOf y with
  | some kd, some k => .ok (.bl (getD kd k).isSome) h
  | _, _ => .stuck
def oDnin : D → D → Hv → R D := fun y x h => match kvOf h x, keyOf y with
  | some kd, some k => .ok (.bl (!(getD kd k).isSome)) h
  | _, _ => .stuck
end
section
variable {X : Cx} {W : WX} {o i e f value : Expr} {fo fi fe fv : ES} {pos pos' apos cpos : Pos}
theorem sn_din {ty td : TE} {neg : Bool} (h2 : Sn X.K (repV X.K) W ty fi) (k2 : Sn X.K (repV X.K) W td fo) : Sn X.K (repV X.K) W (fun σ H Q => ty σ H fun y H1 => td σ H1 fun x H2 => ∃ a o, x = .ref a ∧ DGet H2 a y o ∧ Q (.bl (if neg then !o.isSome else o.isSome)) H2) (eOp (if neg then oDnin else oDin) fi fo) := ⟨fun rl rs post =>
  h2.bind rl rs post fun y h1 v φ1 S1 H1 rl1 rs1 st rp post =>
  k2.bind rl1 rs1 post fun x h2 u φ2 S2 H2 rl2 rs2 st2 rp2 post => by
    have rv : Rp X.K φ2 S2 v y := Rp.mono st2.prefix st2.sub rp
    cases qx : kvOf h2 x with
    | none => cases neg <;> simp only [Bool.false_eq_true, if_false, if_true, oDin, oDnin, qx] at post <;> exact post.elim
    | some kd =>
      cases qk : keyOf y with
      | none => cases neg <;> simp only [Bool.false_eq_true, if_false, if_true, oDin, oDnin, qx, qk] at post <;> exact post.elim
      | some k =>
        obtain ⟨a, kv, rfl, ha, rk⟩ := kvOf_ok rl2 rp2 qx
        have ev := keyOf_ok rv qk
        subst ev
        refine ⟨a, valV kv k, rfl, .inl ⟨kv, k, ha, rfl, rfl⟩, ?_⟩
        have ei : (valV kv k).isSome = (getD kd k).isSome := by
          rcases rk.get k with ⟨g1, g2⟩ | ⟨d, w, g1, g2, _⟩
          · rw [g1, g2]; rfl
          · rw [g1, g2]; rfl
        cases neg with
        | false =>
          simp only [oDin, qx, qk, Bool.false_eq_true, if_false] at post ⊢
          rw [ei]
          exact post _ φ2 S2 H2 rl2 (Step.refl _ _ _) (.bl _)
        | true =>
          simp only [oDnin, qx, qk, if_true] at post ⊢
          rw [ei]
          exact post _ φ2 S2 H2 rl2 (Step.refl _ _ _) (.bl _)⟩
theorem st_din (hu : X.A.units + 1 < cLine) (hi : SE X W i fi) (ho : SE X W o fo) (hm : behindInMarks .In o = false := by rfl) : ST X W (.Compare i [.In] [o] pos) (toB (eOp oDin fi fo)) := by
  obtain ⟨ti, h1, h2⟩ := hi
  obtain ⟨to, k1, k2⟩ := ho
  exact ⟨_, pt_cmp (pc_din hu h1 k1) hm, sn_B (sn_din (neg := false) h2 k2)⟩
theorem st_dnin (hu : X.A.units + 1 < cLine) (hi : SE X W i fi) (ho : SE X W o fo) (hm : behindInMarks .NotIn o = false := by rfl) : ST X W (.Compare i [.NotIn] [o] pos) (toB (eOp oDnin fi fo)) := by
  obtain ⟨ti, h1, h2⟩ := hi
  obtain ⟨to, k1, k2⟩ := ho
  exact ⟨_, pt_cmp (pc_dnotin hu h1 k1) hm, sn_B (sn_din (neg := true) h2 k2)⟩
theorem se_dget (hu : X.A.units + 1 < cLine) (ho : SE X W o fo) (hi : SE X W i fi) (hs : NoSl i := by intro _ _; rfl) : SE X W (.Subscript o i pos) (eOp oDget fo fi) := by
  obtain ⟨to, h1, h2⟩ := ho
  obtain ⟨ti, k1, k2⟩ := hi
  refine ⟨_, pe_dget hu h1 k1 hs, ⟨fun rl rs post =>
    h2.bind rl rs post fun x h1 v φ1 S1 H1 rl1 rs1 st rp post =>
    k2.bind rl1 rs1 post fun y h2 u φ2 S2 H2 rl2 rs2 st2 rp2 post => ?_⟩⟩
  have rv : Rp X.K φ2 S2 v x := Rp.mono st2.prefix st2.sub rp
  cases qx : kvOf h2 x with
  | none => simp only [oDget, qx] at post; exact post.elim
  | some kd =>
    cases qk : keyOf y with
    | none => simp only [oDget, qx, qk] at post; exact post.elim
    | some k =>
      obtain ⟨a, kv, rfl, ha, rk⟩ := kvOf_ok rl2 rv qx
      have ev := keyOf_ok rp2 qk
      subst ev
      rcases rk.get k with ⟨g1, g2⟩ | ⟨d, w, g1, g2, rd⟩
      · simp only [oDget, qx, qk, g1] at post; exact post.elim
      · simp only [oDget, qx, qk, g1] at post
        refine ⟨a, w, rfl, ?_, post w φ2 S2 H2 rl2 (Step.refl _ _ _) rd⟩
        exact .inl ⟨kv, k, ha, rfl, g2.symm⟩
/-- d[i] = v -/
def sDput (fv fo fi : ES) : SS := fun σ h => (fv σ h).then σ fun d h1 => (fo σ h1).then σ fun x h2 => (fi σ h2).then σ fun y h3 => match x, keyOf y with
  | .cell n, some k => (match h3[n]? with
    | some (.dK kd) => if kd.length < 16777216 then .next σ (h3.set n (.dK (putD kd k d))) else .stuck
    | _ => .stuck)
  | _, _ => .stuck
theorem qs_dput (hu : X.A.units + 1 < cLine) (hv : SE X W value fv) (ho : SE X W o fo) (hi : SE X W i fi) (hs : swapsWith value (some (.Subscript o i pos')) pos.line X.env = pure false := by rfl) : QS X W (.Assign [.Subscript o i pos'] value pos) (sDput fv fo fi) := by
  obtain ⟨tv, h1, h2⟩ := hv
  obtain ⟨to, k1, k2⟩ := ho
  obtain ⟨ti, l1, l2⟩ := hi
  refine ⟨_, ps_dput hu k1 l1 h1 hs, ⟨fun rl rs post =>
    h2.thenS rl rs post fun d h1 v φ1 S1 H1 rl1 rs1 st1 rp1 post =>
    k2.thenS rl1 rs1 post fun x h2 u φ2 S2 H2 rl2 rs2 st2 rp2 post =>
    l2.thenS rl2 rs2 post fun y h3 w φ3 S3 H3 rl3 rs3 st3 rp3 post => ?_⟩⟩
  cases qk : keyOf y with
  | none =>
    cases x <;> (simp only [qk] at post; exact post.elim)
  | some k =>
    cases x with
    | cell n =>
      cases hx : h3[n]? with
      | none => simp only [qk, hx] at post; exact post.elim
      | some c =>
        cases c with
        | lst xs => simp only [qk, hx] at post; exact post.elim
        | dF kd => simp only [qk, hx] at post; exact post.elim
        | ins c fs => simp only [qk, hx] at post; exact post.elim
        | dN w kvs => simp only [qk, hx] at post; exact post.elim
        | tb q n => simp only [qk, hx] at post; exact post.elim
        | dK kd =>
          simp only [qk, hx] at post
          by_cases hl : kd.length < 16777216
          · rw [if_pos hl] at post
            cases (show Rp X.K φ2 S2 u (.cell n) from rp2) with
            | @cell a _ ha =>
              have ha3 := st3.prefix.at ha
              obtain ⟨_, o', ho', rc⟩ := rl3.cel n a (.dK kd) ha3 hx
              obtain ⟨kv, rfl, ek, ra⟩ := rc
              have rk : RpK X.K φ3 S3 kv kd := .of ek ra
              have ev := keyOf_ok rp3 qk
              subst ev
              have rv : Rp X.K φ3 S3 v d := Rp.mono st3.prefix st3.sub (Rp.mono st2.prefix st2.sub rp1)
              have rk2 := (rk.put k rv).to
              obtain ⟨r4, s4⟩ := rl3.put (o := .dK (putK kv k v)) (c := .dK (putD kd k d)) ha3 ⟨_, rfl, rk2.1, rk2.2⟩ ho'
              exact ⟨a, _, rfl, DPut.k ho' (by rw [rk.len, line_eq]; exact hl), post _ φ3 S3 _ r4 (rs3.step s4) s4⟩
          · rw [if_neg hl] at post
            exact post.elim
    | _ => simp only [qk] at post; exact post.elim
/-- {} -/
def eDnew : ES := fun _ h => .ok (.cell h.length) (h ++ [.dK []])
/-- a dict that changes no more -/
def eLock (f : ES) : ES := fun σ h => (f σ h).bind fun d h1 => match d with
  | .cell n => (match h1[n]? with
    | some (.dK kd) => .ok (.cell n) (h1.set n (.dF kd))
    | _ => .stuck)
  | _ => .stuck
theorem pe_lockP {t : TE} (he : PE X e t) : PE X e (fun σ H Q => t σ H fun v H1 => ∃ d u, H1 d = some u ∧ Mut (some u) ∧ ∀ od, Q v (upd H1 d (.frz od u))) := by
  constructor
  intro pins s σ H Q I rd
  refine thn (he.run pins s σ H _ I rd) fun v s1 z => ?_
  obtain ⟨x, H1, I1, rx, d, u, hd, mu, q⟩ := z
  obtain ⟨od, I2⟩ := I1.lock hd mu
  exact ⟨x, _, I2, rx, q od⟩
theorem se_lock (he : SE X W e fe) : SE X W e (eLock fe) := by
  obtain ⟨te, h1, h2⟩ := he
  refine ⟨_, pe_lockP h1, ⟨fun rl rs post => h2.bind rl rs post fun d h1 v φ1 S1 H1 rl1 rs1 st rp post => ?_⟩⟩
  cases d with
  | cell n =>
    cases hx : h1[n]? with
    | none => simp only [hx] at post; exact post.elim
    | some c =>
      cases c with
      | dK kd =>
        simp only [hx] at post
        cases (show Rp X.K φ1 S1 v (.cell n) from rp) with
        | @cell a _ ha =>
          obtain ⟨_, o', ho', kv, rfl, ek, ra⟩ := rl1.cel n a (.dK kd) ha hx
          refine ⟨a, _, ho', True.intro, fun od => ?_⟩
          obtain ⟨r4, s4⟩ := rl1.put (o := .frz od (.dK kv)) (c := .dF kd) ha ⟨od, kv, rfl, ek, ra⟩ ho'
          exact post (.ref a) φ1 S1 _ r4 s4 (.cell ha)
      | _ => simp only [hx] at post; exact post.elim
  | _ => exact post.elim
/-- the keys of a dict that changes no more -/
def iD (f : ES) : IS := fun σ h => (f σ h).bind fun d h1 => match d with
  | .dct ks ds => .ok (ks.map keyD, always) h1
  | _ => .stuck
abbrev PSd := VS → Hv → R (List (D × D))
def repP (K : PySem.W.Frag) : Rep (List (D × D)) (List (V × V)) := fun _ φ' S' _ b a => RpA K φ' S' (b.map (·.1)) (a.map (·.1)) ∧ RpA K φ' S' (b.map (·.2)) (a.map (·.2))
instance {K : PySem.W.Frag} : Rep.Up (repP K) := ⟨fun _ h => h⟩
def SP (X : Cx) (W : WX) (pos : Pos) (ks : List (Option Expr)) (vs : List Expr) (g : PSd) : Prop := ∃ trs, PPs X pos ks vs trs ∧ Sn X.K (repP X.K) W (tPairs trs) g
def pNil : PSd := fun _ h => .ok [] h
def pCons (fk fv : ES) (g : PSd) : PSd := fun σ h => (fk σ h).bind fun k h1 => (fv σ h1).bind fun v h2 => (g σ h2).bind fun r h3 => .ok ((k, v) :: r) h3
theorem sp_nil : SP X W pos [] [] pNil := ⟨[], pps_nil, ⟨fun {φ S H h σv σ Q} rl rs post => post [] φ S H rl (Step.refl _ _ _) ⟨.nil, .nil⟩⟩⟩
theorem sp_cons {ks : List (Option Expr)} {vs : List Expr} {g : PSd} (hk : SE X W i fi) (hv : SE X W value fv) (hr : SP X W pos ks vs g) : SP X W pos (some i :: ks) (value :: vs) (pCons fi fv g) := by
  obtain ⟨tk, a1, a2⟩ := hk
  obtain ⟨tv, b1, b2⟩ := hv
  obtain ⟨trs, c1, c2⟩ := hr
  exact ⟨_, pps_cons a1 b1 c1, ⟨fun rl rs post =>
    a2.bind rl rs post fun k h1 u φ1 S1 H1 rl1 rs1 st rp post =>
    b2.bind rl1 rs1 post fun v h2 w φ2 S2 H2 rl2 rs2 st2 rp2 post =>
    c2.bind rl2 rs2 post fun r h3 z φ3 S3 H3 rl3 rs3 st3 rp3 post =>
      post ((u, w) :: z) φ3 S3 H3 rl3 (Step.refl _ _ _) ⟨.cons (Rp.mono st3.prefix st3.sub (Rp.mono st2.prefix st2.sub rp)) rp3.1, .cons (Rp.mono st3.prefix st3.sub rp2) rp3.2⟩⟩⟩
def mergeD (kd more : List (Key × D)) : List (Key × D) := more.foldl (fun acc p => putD acc p.1 p.2) kd
theorem RpK.merge {K : PySem.W.Frag} {φ : List Addr} {S : Hp} {more : List (Key × V)} {mored : List (Key × D)} (r2 : RpK K φ S more mored) : ∀ {kv : List (Key × V)} {kd : List (Key × D)}, RpK K φ S kv kd → RpK K φ S (mergeK kv more) (mergeD kd mored) := by
  induction r2 with
  | nil => intro kv kd r; exact r
  | cons r _ ih => intro kv kd r0; exact ih (r0.put _ r)
def keyP (p : D × D) : Option (Key × D) := (keyOf p.1).map fun k => (k, p.2)
theorem keyPs_ok {K : PySem.W.Frag} {φ : List Addr} {S : Hp} : ∀ {b : List (V × V)} {a : List (D × D)} {kd : List (Key × D)}, RpA K φ S (b.map (·.1)) (a.map (·.1)) → RpA K φ S (b.map (·.2)) (a.map (·.2)) → optAll keyP a = some kd → ∃ kv : List (Key × V), b = kv.map (fun p => (kV p.1, p.2)) ∧ RpK K φ S kv kd
  | [], [], kd, _, _, e => by
    cases e
    exact ⟨[], rfl, .nil⟩
  | [], _ :: _, _, r, _, _ => by cases r
  | _ :: _, [], _, r, _, _ => by cases r
  | (u, w) :: b, (k, d) :: a, kd, r1, r2, e => by
    rw [List.map_cons, List.map_cons] at r1 r2
    cases r1 with
    | cons q1 t1 =>
      cases r2 with
      | cons q2 t2 =>
        simp only [optAll] at e
        cases hk : keyOf k with
        | none => simp only [keyP, hk, Option.map_none] at e; cases e
        | some k0 =>
          simp only [keyP, hk, Option.map_some] at e
          cases hr : optAll keyP a with
          | none => simp only [hr] at e; cases e
          | some kd0 =>
            simp only [hr] at e
            cases e
            obtain ⟨kv, rfl, rk⟩ := keyPs_ok t1 t2 hr
            have ev : u = kV k0 := keyOf_ok q1 hk
            refine ⟨(k0, w) :: kv, ?_, .cons q2 rk⟩
            rw [List.map_cons, ev]
def eDisp (g : PSd) : ES := fun σ h => (g σ h).bind fun ps h1 => match optAll keyP ps with
  | some kd => if kd.length ≤ 15 then .ok (.cell h1.length) (h1 ++ [.dK (mergeD [] kd)]) else .stuck
  | none => .stuck
theorem sn_disp {trs : List (TE × TE)} {g : PSd} {α : Type} {rep : Rep α V} {fin : List (Key × D) → Hv → R α} {φ : List Addr} {S H : Hp} {h : Hv} {σv : VS} {σ : L2.St} {E : XK} {T : V → Hp → Prop} {p : Addr} (h2 : Sn X.K (repP X.K) W (tPairs trs) g) (rl : Rel X.K φ S H h) (rs : RelS X.K φ S σv σ) (hp : H p = none)
    (post : ∀ cls dd φ' S' H' h' x, g σv h = .exc x h' → Rel X.K φ' S' H' h' → Step φ S H φ' S' H' → RpX X.K φ' S' H' x cls dd → W cls dd σ H')
    (ok : ∀ ps h' kd (kv : List (Key × V)) φ' S' H', g σv h = .ok ps h' → optAll keyP ps = some kd → Rel X.K φ' S' H' h' → Step φ S (upd H p (.dK [])) φ' S' H' → RpK X.K φ' S' kv kd → S' p = none → p ∉ φ' → H' p = some (.dK []) → kv.length ≤ 15 ∧ T (.ref p) (upd H' p (.dK (mergeK [] kv))))
    (good : ∃ ps h' kd, g σv h = .ok ps h' ∧ optAll keyP ps = some kd ∨ ∃ x, g σv h = .exc x h') :
    tPairs trs σ (upd H p (.dK [])) fun ps H2 => H2 p = some (.dK []) ∧ ∃ kvs : List (Key × V), ps = kvs.map (fun kv => (kV kv.1, kv.2)) ∧ kvs.length ≤ 15 ∧ T (.ref p) (upd H2 p (.dK (mergeK [] kvs))) := by
  obtain ⟨r0, s0⟩ := rl.hold (o := .dK []) hp
  have sp := rl.snone hp
  have np := rl.notin hp
  refine h2.run r0 (rs.step s0) ?_
  cases hg : g σv h with
  | stuck =>
    obtain ⟨ps, h', kd, ⟨e, _⟩ | ⟨x, e⟩⟩ := good
    · rw [hg] at e; cases e
    · rw [hg] at e; cases e
  | exc x h' => exact fun cls dd φ' S' H' r2 st rx => post cls dd φ' S' H' h' x hg r2 (s0.trans st) rx
  | ok ps h' =>
    intro b φ' S' H' r2 st rp
    obtain ⟨ps2, h2', kd, ⟨e, hk⟩ | ⟨x, e⟩⟩ := good
    · rw [hg] at e
      cases e
      obtain ⟨kv, rfl, rk⟩ := keyPs_ok rp.1 rp.2 hk
      have np' : p ∉ φ' := by
        obtain ⟨ψ, e, hn⟩ := st.pre
        rw [e]
        intro z
        rcases List.mem_append.mp z with z | z
        · exact np z
        · have := hn p z
          rw [upd_same] at this
          cases this
      have hp' : H' p = some (.dK []) := st.keep p _ upd_same np
      have sp' : S' p = none := (st.old p (by rw [upd_same]; exact fun z => nomatch z)).trans sp
      obtain ⟨z1, z2⟩ := ok ps h' kd kv φ' S' H' hg hk r2 st rk sp' np' hp'
      exact ⟨hp', kv, rfl, z1, z2⟩
    · rw [hg] at e; cases e
theorem upd_rel {K : PySem.W.Frag} {φ : List Addr} {S H : Hp} {h : Hv} (r : Rel K φ S H h) {p : Addr} {o : HO} (sp : S p = none) (np : p ∉ φ) : Rel K φ S (upd H p o) h := ⟨r.len, fun c u e => by
    have q : c ≠ p := fun z => by rw [z, sp] at e; cases e
    rw [upd_ne q]
    exact r.sub c u e, r.nd, fun n c x e1 e2 => by
    obtain ⟨z1, o, z2, z3⟩ := r.cel n c x e1 e2
    have q : c ≠ p := fun z => np (by rw [← z]; exact List.mem_of_getElem? e1)
    exact ⟨z1, o, by rw [upd_ne q]; exact z2, z3⟩⟩
theorem upd_step {φ φ' : List Addr} {S H S' H' : Hp} (st : Step φ S H φ' S' H') {p : Addr} {o : HO} (hp : H p = none) : Step φ S H φ' S' (upd H' p o) := ⟨st.pre, st.sub, st.old, fun a u e hn => by
    have q : a ≠ p := ne_of_none e hp
    rw [upd_ne q]
    exact st.keep a u e hn, fun a ha => by
    by_cases q : a = p
    · rw [q, upd_same]; exact fun z => nomatch z
    · rw [upd_ne q]; exact st.there a ha, fun a od u e => by rw [upd_ne (ne_of_none e hp)]; exact st.frz a od u e⟩
theorem se_disp {ks : List (Option Expr)} {vs : List Expr} {g : PSd} (h : SP X W pos ks vs g) (hall : ks.all (·.isSome) = true := by rfl) (hl : ks.length = vs.length := by rfl) (h0 : ks ≠ [] := by exact fun z => nomatch z) (h15 : ks.length ≤ 15 := by decide) : SE X W (.Dict ks vs pos) (eDisp g) := by
  obtain ⟨trs, h1, h2⟩ := h
  refine ⟨_, pe_disp h1 hall hl h0 h15, ⟨fun {φ S H h σv σ Q} rl rs post p hp => ?_⟩⟩
  obtain ⟨_, s0⟩ := rl.hold (o := .dK []) hp
  unfold eDisp at post
  refine sn_disp (rep := repV X.K) (fin := fun _ _ => .stuck) (E := fun c d H' => W c d σ H') h2 rl rs hp (fun cls dd φ' S' H' h' x e r2 st rx => ?_) (fun ps h' kd kv φ' S' H' e hk r2 st rk sp' np' hp' => ?_) ?_
  · rw [e] at post
    exact post cls dd φ' S' H' r2 st rx
  · rw [e, R.bind_ok] at post
    simp only [hk] at post
    by_cases hz : kd.length ≤ 15
    · rw [if_pos hz] at post
      have rm := ((rk.merge .nil).to : _)
      have r4 := (upd_rel (o := .dK (mergeK [] kv)) r2 sp' np').celled (c := .dK (mergeD [] kd)) upd_same sp' np' ⟨_, rfl, rm.1, rm.2⟩
      exact ⟨by rw [rk.len]; exact hz, post (.ref p) _ _ _ r4 ((upd_step (s0.trans st) hp).celled hp) (.cell (by rw [← r2.len, List.getElem?_append_right (Nat.le_refl _), Nat.sub_self]; rfl))⟩
    · rw [if_neg hz] at post
      exact post.elim
  · cases hg : g σv h with
    | stuck => rw [hg] at post; exact post.elim
    | exc x h' => exact ⟨[], h', [], .inr ⟨x, rfl⟩⟩
    | ok ps h' =>
      rw [hg, R.bind_ok] at post
      cases hk : optAll keyP ps with
      | none => simp only [hk] at post; exact post.elim
      | some kd => exact ⟨ps, h', kd, .inl ⟨rfl, hk⟩⟩
/-- a display that changes no more -/
def eDispF (g : PSd) : ES := fun σ h => (g σ h).bind fun ps h1 => match optAll keyP ps with
  | some kd => if kd.length ≤ 15 then .ok (.dct ((mergeD [] kd).map (·.1)) ((mergeD [] kd).map (·.2))) h1 else .stuck
  | none => .stuck
def eDpop (fo fi : ES) : ES := fun σ h => (fo σ h).bind fun x h1 => match kvOf h1 x with
  | some _ => (fi σ h1).bind fun y h2 => (match x, keyOf y with
    | .cell n, some k => (match h2[n]? with
      | some (.dK kd) => (match getD kd k with
        | some d => .ok d (h2.set n (.dK (dropD kd k)))
        | none => .stuck)
      | _ => .stuck)
    | _, _ => .stuck)
  | none => .stuck
end
def intK : Key → Option Int
  | .inl i => some i
  | .inr _ => none
def bSortDI : List D → Hv → R (List D) := fun ds h => match ds with
  | [d] => (match (kvOf h d).bind fun kd => optAll intK (kd.map (·.1)) with
    | some ns => if ns.length < 64 then .ok ((sortI ns).map .int) h else .stuck
    | none => .stuck)
  | _ => .stuck
def rSortDI (K : PySem.W.Frag) : List V → Hp → VK → Prop := fun xs H Q => ∃ (a : Addr) (kvs : List (Key × V)) (ks : List Int), xs = [.ref a] ∧ Rd H a (.dK kvs) ∧ kvs.map (·.1) = ks.map Sum.inl ∧ ks.length < 64 ∧ ∀ (ys : List Int) (p : Addr), ys.Perm ks → ys.Pairwise (· ≤ ·) → H p = none → Q (.ref p) (upd H p (.lst (ys.map V.int)))
theorem intKs : ∀ {ks : List Key} {ns : List Int}, optAll intK ks = some ns → ks = ns.map Sum.inl
  | [], ns, e => by cases e; rfl
  | k :: ks, ns, e => by
    simp only [optAll] at e
    cases k with
    | inr x => cases e
    | inl i =>
      simp only [intK] at e
      cases q : optAll intK ks with
      | none =>
        simp only [q] at e
        cases e
      | some ns' =>
        simp only [q] at e
        cases e
        rw [intKs q]; rfl
theorem cl_sortDI {K : PySem.W.Frag} : CaL K (rSortDI K) bSortDI := by
  intro φ S H h ds vs Q E rl ra post
  unfold bSortDI at post
  split at post
  · next d =>
    obtain ⟨v, rfl, r⟩ := ra.one
    split at post
    · next ns hn =>
      obtain ⟨kd, q1, q2⟩ := Option.bind_eq_some_iff.mp hn
      split at post
      · next hl =>
        obtain ⟨a, kv, rfl, h2, rk⟩ := kvOf_ok rl r q1
        refine ⟨a, kv, ns, rfl, h2, by rw [rk.to.1]; exact intKs q2, hl, fun ns' p hperm hs hp => ?_⟩
        have e : ns' = sortI ns := sort_one (hperm.trans (sortI_perm ns).symm) hs (sortI_rises ns)
        rw [e]
        obtain ⟨r2, s2⟩ := rl.hold (o := .lst ((sortI ns).map V.int)) hp
        exact post _ φ _ _ r2 s2 ⟨p, _, rfl, hp, upd_same, rl.snone hp, rl.notin hp, .of_ints _⟩
      · exact post.elim
    · exact post.elim
  · exact post.elim
theorem cr_sortDI {X : Cx} (hc : X.calm = true := by rfl) : CallR X (.builtin "sorted") (rSortDI X.K) := call_sortedDI hc
end
end VD
set_option Elab.async false
set_option linter.all false
set_option maxRecDepth 100000
set_option maxHeartbeats 4000000
namespace VD
open PySem PySem.Spec PyProof.Rows L2
noncomputable section
section
variable {K : PySem.W.Frag}
/-- str of a whole number or a text, int of a whole number, a truth or a text -/
def bStrA : List D → Hv → R D := fun ds h => match ds with
  | [.int i] => if i.natAbs.log2 < 1920 then .ok (.str (toString i)) h else .stuck
  | [.str a] => .ok (.str a) h
  | _ => .stuck
def bIntA : List D → Hv → R D := fun ds h => match ds with
  | [.int i] => .ok (.int i) h
  | [.bl b] => .ok (.int (if b then 1 else 0)) h
  | [.str a] => (match PySem.intText? a with
    | some n => if a.length ≤ 640 then .ok (.int n) h else .stuck
    | none => .stuck)
  | _ => .stuck
@[simp] theorem bStrA_str {a : Str} {h : Hv} : bStrA [.str a] h = .ok (.str a) h := rfl
@[simp] theorem bIntA_int {i : Int} {h : Hv} : bIntA [.int i] h = .ok (.int i) h := rfl
@[simp] theorem bIntA_bl {b : Bool} {h : Hv} : bIntA [.bl b] h = .ok (.int (if b then 1 else 0)) h := rfl
end
def seqP : PyData → Option (List PyData)
  | .list xs => some xs
  | .tuple xs => some xs
  | _ => none
def inP (h : Hv) (x y : D) : Option Bool := match toPy h 12 x, (toPy h 12 y).bind seqP with
  | some d, some xs => some (xs.any fun z => PyData.eqv z d)
  | _, _ => none
def oInP : D → D → Hv → R D := fun x y h => match inP h x y with
  | some b => .ok (.bl b) h
  | none => .stuck
def oNotInP : D → D → Hv → R D := fun x y h => match inP h x y with
  | some b => .ok (.bl (!b)) h
  | none => .stuck
def rInP (K : PySem.W.Frag) (neg : Bool) : R2 := fun x y H Q => ∃ d e xs, Dp K H x d ∧ Dp K H y e ∧ seqP e = some xs ∧ (d.plain = true ∧ e.plain = true ∧ d.depth ≤ 63) ∧ Q (.bl (if neg then !xs.any fun z => PyData.eqv z d else xs.any fun z => PyData.eqv z d)) H
theorem op_notInP {X : Cx} (hu : X.A.units + 64 < cLine) : OpR X (compareOp .NotIn) (rInP X.K true) := by
  intro pins s σ H x y v u Q I rx ry h
  obtain ⟨d, e, xs, hd, he, es, ⟨pd, pe, dd⟩, q⟩ := h
  obtain ⟨as, r1⟩ := Dp.reads I d x v hd rx
  obtain ⟨bs, r2⟩ := Dp.reads I e y u he ry
  have line : ∀ ys : List PyData, X.A.units + 1 + min (PyData.depthAll ys) d.depth < cLine := fun ys => by
    have := Nat.min_le_right (PyData.depthAll ys) d.depth
    omega
  cases e with
  | list ys =>
    cases es
    exact PySem.SeqAt.notIn_list_data r2 r1 (by simpa only [PyData.plain] using pe) pd (line _) ⟨.bl _, H, I, rfl, q⟩
  | tuple ys =>
    cases es
    exact PySem.SeqAt.notIn_tuple_data r2 r1 (by simpa only [PyData.plain] using pe) pd (line _) ⟨.bl _, H, I, rfl, q⟩
  | _ => cases es
theorem inP_ok {K : PySem.W.Frag} {φ : List Addr} {S H : Hp} {h : Hv} {x y : D} {v u : V} {b : Bool} (rl : Rel K φ S H h) (rx : Rp K φ S v x) (ry : Rp K φ S u y) (e : inP h x y = some b) :
    ∃ d e xs, Dp K H v d ∧ Dp K H u e ∧ seqP e = some xs ∧ (d.plain = true ∧ e.plain = true ∧ d.depth ≤ 63) ∧ (xs.any fun z => PyData.eqv z d) = b := by
  unfold inP at e
  cases e1 : toPy h 12 x with
  | none => simp only [e1] at e; cases e
  | some d =>
    cases e2 : toPy h 12 y with
    | none => simp only [e1, e2, Option.bind_none] at e; cases e
    | some d2 =>
      simp only [e1, e2, Option.bind_some] at e
      cases e3 : seqP d2 with
      | none => simp only [e3] at e; cases e
      | some xs =>
        simp only [e3] at e
        obtain ⟨p1, p2⟩ := toPy_plain 12 x d e1
        obtain ⟨q1, q2⟩ := toPy_plain 12 y d2 e2
        exact ⟨d, d2, xs, dp_of rl _ _ _ _ rx e1, dp_of rl _ _ _ _ ry e2, e3, ⟨p1, q1, by omega⟩, Option.some.inj e⟩
theorem os_notInP {K : PySem.W.Frag} : OpS K (rInP K true) oNotInP := by
  intro φ S H h x y v u Q E rl rx ry post
  simp only [oNotInP] at post
  cases e : inP h x y with
  | none => simp only [e] at post; exact post.elim
  | some b =>
    simp only [e] at post
    have fin := post _ φ S H rl (Step.refl _ _ _) (.bl (!b))
    obtain ⟨d, e', xs, h1, h2, h3, h4, h5⟩ := inP_ok rl rx ry e
    exact ⟨d, e', xs, h1, h2, h3, h4, by rw [if_pos rfl, h5]; exact fin⟩
def frzR (n0 : Nat) (r : R D) : R D := match r with
  | .ok d h => exitD n0 d h
  | _ => .stuck
def eFrz (f : ES) : ES := fun σ h => frzR h.length (f σ h)
end
end VD
set_option Elab.async false
set_option linter.all false
set_option maxRecDepth 100000
set_option maxHeartbeats 4000000
namespace VD
open PySem PySem.Spec PyProof.Rows L2
noncomputable section
@[simp high] theorem at0 {α : Type} (a : α) (l : List α) : (a :: l)[0]? = some a := rfl
section
variable {σ : VS} {h : Hv} {i j : Nat} {d : D} {f g k : ES} {l : LS} {c c2 : CS} {α : Type}
@[simp] theorem eVar_ap : eVar i σ h = (match σ[i]? with
  | some (some d) => .ok d h
  | _ => .stuck) := rfl
@[simp] theorem eK_ap : eK d σ h = .ok d h := rfl
@[simp] theorem eV_ap : eV l σ h = (l σ h).bind fun ds h' => .ok (.lst ds) h' := rfl
@[simp] theorem eC_ap : eC l σ h = (l σ h).bind fun ds h' => .ok (.cell h'.length) (h' ++ [.lst ds]) := rfl
def kOp (ro : D → D → Hv → R α) (g : ES) (σ : VS) (x : D) (h : Hv) : R α := (g σ h).bind (ro x)
@[simp] theorem eOp_ap {ro : D → D → Hv → R α} : eOp ro f g σ h = (f σ h).bind (kOp ro g σ) := rfl
@[simp] theorem kOp_ap {ro : D → D → Hv → R α} {x : D} : kOp ro g σ x h = (g σ h).bind (ro x) := rfl
@[simp] theorem eUn_ap {ro : D → Hv → R D} : eUn ro f σ h = (f σ h).bind ro := rfl
@[simp] theorem toB_ap : toB f σ h = (f σ h).bind fun d h1 => (match d with
  | .bl b => .ok b h1
  | _ => .stuck) := rfl
@[simp] theorem cTru_ap : cTru f σ h = (f σ h).bind fun d h1 => (match dTru h1 d with
  | some b => .ok b h1
  | none => .stuck) := rfl
def kAnd (c2 : CS) (σ : VS) (k : Bool) (h : Hv) : R Bool := if k then c2 σ h else .ok false h
@[simp] theorem cAnd_ap : cAnd c c2 σ h = (c σ h).bind (kAnd c2 σ) := rfl
@[simp] theorem kAnd_ap {k : Bool} : kAnd c2 σ k h = if k then c2 σ h else .ok false h := rfl
def kOr (c2 : CS) (σ : VS) (k : Bool) (h : Hv) : R Bool := if k then .ok true h else c2 σ h
@[simp] theorem cOr_ap : cOr c c2 σ h = (c σ h).bind (kOr c2 σ) := rfl
@[simp] theorem kOr_ap {k : Bool} : kOr c2 σ k h = if k then .ok true h else c2 σ h := rfl
@[simp] theorem cNot_ap : cNot c σ h = (c σ h).bind fun k h1 => .ok (!k) h1 := rfl
def kIf (u v : VS → Hv → R α) (σ : VS) (k : Bool) (h : Hv) : R α := if k then u σ h else v σ h
@[simp] theorem eIf_ap {u v : VS → Hv → R α} : eIf c u v σ h = (c σ h).bind (kIf u v σ) := rfl
@[simp] theorem kIf_ap {u v : VS → Hv → R α} {k : Bool} : kIf u v σ k h = if k then u σ h else v σ h := rfl
@[simp] theorem aNil_ap : aNil σ h = .ok [] h := rfl
def kCons (l : LS) (σ : VS) (d : D) (h : Hv) : R (List D) := (l σ h).bind fun ds h2 => .ok (d :: ds) h2
@[simp] theorem aCons_ap : aCons f l σ h = (f σ h).bind (kCons l σ) := rfl
@[simp] theorem kCons_ap : kCons l σ d h = (l σ h).bind fun ds h2 => .ok (d :: ds) h2 := rfl
@[simp] theorem eTup_ap : eTup l σ h = (l σ h).bind fun ds h1 => if ds.length ≤ 16777216 then .ok (.tup ds) h1 else .stuck := rfl
@[simp] theorem lLst_ap : lLst l σ h = (l σ h).bind fun ds h1 => if ds.length ≤ 16777216 then .ok ds h1 else .stuck := rfl
def kAndV (g : ES) (σ : VS) (d : D) (h : Hv) : R D := match d with
  | .bl true => g σ h
  | .bl false => .ok (.bl false) h
  | _ => .stuck
@[simp] theorem eAndV_ap : eAndV f g σ h = (f σ h).bind (kAndV g σ) := by
  show (f σ h).bind _ = _
  cases f σ h with
  | ok d h1 => cases d with
    | bl b => cases b <;> rfl
    | _ => rfl
  | exc x h1 => rfl
  | stuck => rfl
@[simp] theorem kAndV_ap {k : Bool} : kAndV g σ (.bl k) h = if k then g σ h else .ok (.bl false) h := by cases k <;> rfl
def kOrV (g : ES) (σ : VS) (d : D) (h : Hv) : R D := match d with
  | .bl true => .ok (.bl true) h
  | .bl false => g σ h
  | _ => .stuck
@[simp] theorem eOrV_ap : eOrV f g σ h = (f σ h).bind (kOrV g σ) := by
  show (f σ h).bind _ = _
  cases f σ h with
  | ok d h1 => cases d with
    | bl b => cases b <;> rfl
    | _ => rfl
  | exc x h1 => rfl
  | stuck => rfl
@[simp] theorem kOrV_ap {k : Bool} : kOrV g σ (.bl k) h = if k then .ok (.bl true) h else g σ h := by cases k <;> rfl
@[simp] theorem eNotV_ap : eNotV f σ h = (f σ h).bind fun d h1 => (match d with
  | .bl b => .ok (.bl (!b)) h1
  | _ => .stuck) := rfl
@[simp] theorem eCa_ap {ro : List D → Hv → R α} : eCa ro l σ h = (l σ h).bind ro := rfl
@[simp] theorem eIsi_ap {T : String} : eIsi T f σ h = (f σ h).bind fun d h1 => (match (tyName h1 d).bind fun t => kitB t T with
  | some r => .ok (.bl r) h1
  | none => .stuck) := rfl
@[simp] theorem eChain_ap {o1 o2 : D → D → Hv → R D} : eChain o1 o2 f g k σ h = (f σ h).bind fun x h1 => (g σ h1).bind fun y h2 => (o1 x y h2).bind fun z h3 => (match z with
  | .bl true => (k σ h3).bind fun u h4 => o2 y u h4
  | .bl false => .ok (.bl false) h3
  | _ => .stuck) := rfl
def kStr1 (ro : D → D → Hv → R D) (g : ES) (σ : VS) (x : D) (h : Hv) : R D := match x with
      | .str _ => (g σ h).bind fun y h2 => ro x y h2
      | _ => .stuck
@[simp] theorem eStr1_ap {ro : D → D → Hv → R D} : eStr1 ro f g σ h = (f σ h).bind (kStr1 ro g σ) := rfl
@[simp] theorem kStr1_ap {ro : D → D → Hv → R D} {x : Str} : kStr1 ro g σ (.str x) h = (g σ h).bind (ro (.str x)) := rfl
def kBM (ro : D → List D → Hv → R D) (l : LS) (σ : VS) (x : D) (h : Hv) : R D := match lOf h x with
  | some _ => (l σ h).bind fun ds h2 => ro x ds h2
  | none => .stuck
@[simp] theorem eBM_ap {ro : D → List D → Hv → R D} : eBM ro f l σ h = (f σ h).bind (kBM ro l σ) := rfl
@[simp] theorem kBM_ap {ro : D → List D → Hv → R D} {x : D} : kBM ro l σ x h = match lOf h x with
  | some _ => (l σ h).bind (ro x)
  | none => .stuck := rfl
@[simp] theorem pNo_ap : pNo σ h = .ok none h := rfl
@[simp] theorem pAt_ap : pAt f σ h = (f σ h).bind fun d h1 => (match d with
  | .int i => .ok (some i) h1
  | _ => .stuck) := rfl
def kSl (d : D) (l u : Option Int) (h : Hv) : R (List D) := match lOf h d with
  | some xs => .ok (cutD xs l u) h
  | none => .stuck
def kSl1 (hi : OS) (σ : VS) (d : D) (l : Option Int) (h : Hv) : R (List D) := (hi σ h).bind (kSl d l)
def kSl2 (lo hi : OS) (σ : VS) (d : D) (h : Hv) : R (List D) := (lo σ h).bind (kSl1 hi σ d)
@[simp] theorem lSl_ap {lo hi : OS} : lSl f lo hi σ h = (f σ h).bind (kSl2 lo hi σ) := rfl
@[simp] theorem kSl2_ap {lo hi : OS} : kSl2 lo hi σ d h = (lo σ h).bind (kSl1 hi σ d) := rfl
@[simp] theorem kSl1_ap {hi : OS} {u : Option Int} : kSl1 hi σ d u h = (hi σ h).bind (kSl d u) := rfl
@[simp] theorem kSl_ap {u v : Option Int} : kSl d u v h = match lOf h d with
  | some xs => .ok (cutD xs u v) h
  | none => .stuck := rfl
def kSe (d : D) (l u : Option Int) (h : Hv) : R D := match slD d l u with
  | some d' => .ok d' h
  | none => .stuck
def kSe1 (hi : OS) (σ : VS) (d : D) (l : Option Int) (h : Hv) : R D := (hi σ h).bind (kSe d l)
def kSe2 (lo hi : OS) (σ : VS) (d : D) (h : Hv) : R D := (lo σ h).bind (kSe1 hi σ d)
@[simp] theorem eSl_ap {lo hi : OS} : eSl f lo hi σ h = (f σ h).bind (kSe2 lo hi σ) := rfl
@[simp] theorem kSe2_ap {lo hi : OS} : kSe2 lo hi σ d h = (lo σ h).bind (kSe1 hi σ d) := rfl
@[simp] theorem kSe1_ap {hi : OS} {u : Option Int} : kSe1 hi σ d u h = (hi σ h).bind (kSe d u) := rfl
@[simp] theorem kSe_ap {u v : Option Int} : kSe d u v h = match slD d u v with
  | some d' => .ok d' h
  | none => .stuck := rfl
theorem lLc_ap {is : IS} {gd : GD} {el : ES} {own : List Nat} : lLc is gd c el own σ h = (is σ h).bind fun p h1 => if p.1.length ≤ 16777216 then lcD p.2 gd c el p.1 (wipeV σ own) h1 else .stuck := rfl
@[simp] theorem cYes_ap : cYes σ h = .ok true h := rfl
@[simp] theorem wipeV_nil : wipeV σ [] = σ := rfl
@[simp] theorem wipeV_cons {vs : List Nat} : wipeV σ (i :: vs) = (wipeV σ vs).set i none := rfl
@[simp] theorem cmP {sem : List D → Hv → R D} : Cm.f .P sem = callP sem := rfl
@[simp] theorem cmB {sem : List D → Hv → R D} : Cm.f .B sem = callB sem := rfl
@[simp] theorem cmM {sem : List D → Hv → R D} : Cm.f .M sem = sem := rfl
@[simp] theorem oAdd_int {a b : Int} : oAdd (.int a) (.int b) h = .ok (.int (a + b)) h := rfl
theorem oAdd_str {a b : Str} : oAdd (.str a) (.str b) h = if a.length + b.length ≤ 16777216 then .ok (.str (a ++ b)) h else .stuck := rfl
@[simp] theorem oSub_int {a b : Int} : oSub (.int a) (.int b) h = .ok (.int (a - b)) h := rfl
theorem oMul_int {a b : Int} : oMul (.int a) (.int b) h = if mulOk a b then .ok (.int (a * b)) h else .stuck := rfl
@[simp] theorem oMod_int {a b : Int} : oMod (.int a) (.int b) h = if 0 < b then .ok (.int (a % b)) h else .stuck := rfl
theorem oFdiv_int {a b : Int} : oFdiv (.int a) (.int b) h = if divOk b then .ok (.int (a / b)) h else .stuck := rfl
@[simp] theorem oPow_int {a b : Int} : oPow (.int a) (.int b) h = if powOk a b then .ok (.int (a ^ b.toNat)) h else .stuck := rfl
@[simp] theorem uNeg_int {a : Int} : uNeg (.int a) h = .ok (.int (-a)) h := rfl
@[simp] theorem oLt_int {a b : Int} : oLt (.int a) (.int b) h = .ok (.bl (decide (a < b))) h := rfl
@[simp] theorem oGt_int {a b : Int} : oGt (.int a) (.int b) h = .ok (.bl (decide (b < a))) h := rfl
@[simp] theorem oLe_int {a b : Int} : oLe (.int a) (.int b) h = .ok (.bl (decide (a ≤ b))) h := rfl
@[simp] theorem oGe_int {a b : Int} : oGe (.int a) (.int b) h = .ok (.bl (decide (b ≤ a))) h := rfl
theorem oLt_str {a b : Str} : oLt (.str a) (.str b) h = .ok (.bl (decide (a.cps.toList < b.cps.toList))) h := rfl
@[simp] theorem toPy_int {n : Nat} {a : Int} : toPy h (n + 1) (.int a) = some (.int a) := rfl
@[simp] theorem toPy_bl {n : Nat} {a : Bool} : toPy h (n + 1) (.bl a) = some (.bool a) := rfl
@[simp] theorem toPy_str {n : Nat} {a : Str} : toPy h (n + 1) (.str a) = some (.str a) := rfl
@[simp] theorem toPy_non {n : Nat} : toPy h (n + 1) .non = some .none := rfl
@[simp] theorem toPy_lst {n : Nat} {xs : List D} : toPy h (n + 1) (.lst xs) = (optAll (toPy h n) xs).map .list := rfl
@[simp] theorem toPy_fz {n : Nat} {xs : List D} : toPy h (n + 1) (.fz xs) = (optAll (toPy h n) xs).map .list := rfl
@[simp] theorem toPy_tup {n : Nat} {xs : List D} : toPy h (n + 1) (.tup xs) = (optAll (toPy h n) xs).map .tuple := rfl
@[simp] theorem toPy_cell {n m : Nat} : toPy h (n + 1) (.cell m) = (match h[m]? with
    | some (.lst ds) => (optAll (toPy h n) ds).map .list
    | _ => none) := rfl
@[simp] theorem optAll_nil {β : Type} {g : β → Option α} : optAll g [] = some [] := rfl
@[simp] theorem optAll_cons {β : Type} {g : β → Option α} {x : β} {xs : List β} : optAll g (x :: xs) = (match g x with
    | some a => (match optAll g xs with
      | some as => some (a :: as)
      | none => none)
    | none => none) := rfl
theorem optAll_map {β γ : Type} {g : β → Option α} {e : γ → β} {e' : γ → α} : ∀ {xs : List γ}, (∀ x ∈ xs, g (e x) = some (e' x)) → optAll g (xs.map e) = some (xs.map e')
  | [], _ => rfl
  | x :: xs, q => by
    rw [List.map_cons, optAll_cons, q x List.mem_cons_self, optAll_map (xs := xs) fun y hy => q y (List.mem_cons_of_mem _ hy)]
    rfl
@[simp] theorem frz_int {n0 n : Nat} {a : Int} : frz n0 h (n + 1) (.int a) = some (.int a) := rfl
@[simp] theorem frz_bl {n0 n : Nat} {a : Bool} : frz n0 h (n + 1) (.bl a) = some (.bl a) := rfl
@[simp] theorem frz_str {n0 n : Nat} {a : Str} : frz n0 h (n + 1) (.str a) = some (.str a) := rfl
@[simp] theorem frz_non {n0 n : Nat} : frz n0 h (n + 1) .non = some .non := rfl
@[simp] theorem frz_lst {n0 n : Nat} {xs : List D} : frz n0 h (n + 1) (.lst xs) = (optAll (frz n0 h n) xs).map .lst := rfl
@[simp] theorem frz_fz {n0 n : Nat} {xs : List D} : frz n0 h (n + 1) (.fz xs) = (optAll (frz n0 h n) xs).map .fz := rfl
@[simp] theorem frz_tup {n0 n : Nat} {xs : List D} : frz n0 h (n + 1) (.tup xs) = (optAll (frz n0 h n) xs).map .tup := rfl
@[simp] theorem frz_cell {n0 n m : Nat} : frz n0 h (n + 1) (.cell m) = (if m < n0 then some (.cell m) else match h[m]? with
    | some (.lst ds) => (optAll (frz n0 h n) ds).map .lst
    | some (.dF kvs) => (optAll (frz n0 h n) (kvs.map (·.2))).map (.dct (kvs.map (·.1)))
    | some (.ins c fs) => (optAll (frz n0 h n) (fs.map (·.2))).map (.obj c (fs.map (·.1)))
    | _ => none) := rfl
@[simp] theorem frz_dct {n0 n : Nat} {ks : List Key} {xs : List D} : frz n0 h (n + 1) (.dct ks xs) = (optAll (frz n0 h n) xs).map (.dct ks) := rfl
@[simp] theorem frz_obj {n0 n : Nat} {c : Str} {ks : List Str} {xs : List D} : frz n0 h (n + 1) (.obj c ks xs) = (optAll (frz n0 h n) xs).map (.obj c ks) := rfl
@[simp] theorem eqD_int {a b : Int} : eqD h (.int a) (.int b) = some (decide (a = b)) := by
  show some (PyData.eqv (.int a) (.int b)) = _
  simp only [PyData.eqv]
  exact congrArg some (by rw [Bool.beq_eq_decide_eq])
@[simp] theorem eqD_str {a b : Str} : eqD h (.str a) (.str b) = some (decide (a = b)) := by
  show some (PyData.eqv (.str a) (.str b)) = _
  simp only [PyData.eqv]
  exact congrArg some (by rw [Bool.eq_iff_iff, beq_iff_eq, decide_eq_true_eq])
@[simp] theorem eqD_bl {a b : Bool} : eqD h (.bl a) (.bl b) = some (decide (a = b)) := by
  show some (PyData.eqv (.bool a) (.bool b)) = _
  simp only [PyData.eqv]
  exact congrArg some (by cases a <;> cases b <;> rfl)
@[simp] theorem oEq_ap {x y : D} : oEq x y h = (match eqD h x y with
  | some b => .ok (.bl b) h
  | none => .stuck) := rfl
@[simp] theorem oNe_ap {x y : D} : oNe x y h = (match eqD h x y with
  | some b => .ok (.bl (!b)) h
  | none => .stuck) := rfl
@[simp] theorem oIs_ap {x y : D} : oIs x y h = (match isD x y with
  | some b => .ok (.bl b) h
  | none => .stuck) := rfl
@[simp] theorem oIsNot_ap {x y : D} : oIsNot x y h = (match isD x y with
  | some b => .ok (.bl (!b)) h
  | none => .stuck) := rfl
@[simp] theorem isD_nn : isD .non .non = some true := rfl
@[simp] theorem isD_in {a : Int} : isD (.int a) .non = some false := rfl
@[simp] theorem isD_sn {a : Str} : isD (.str a) .non = some false := rfl
@[simp] theorem isD_bn {a : Bool} : isD (.bl a) .non = some false := rfl
@[simp] theorem isD_ln {a : List D} : isD (.lst a) .non = some false := rfl
@[simp] theorem isD_tn {a : List D} : isD (.tup a) .non = some false := rfl
@[simp] theorem isD_cn {n : Nat} : isD (.cell n) .non = some false := rfl
@[simp] theorem isD_bb {a b : Bool} : isD (.bl a) (.bl b) = some (decide (a = b)) := rfl
@[simp] theorem lOf_lst {xs : List D} : lOf h (.lst xs) = some xs := rfl
@[simp] theorem lOf_fz {xs : List D} : lOf h (.fz xs) = some xs := rfl
@[simp] theorem lOf_tup {xs : List D} : lOf h (.tup xs) = none := rfl
@[simp] theorem lOf_str {x : Str} : lOf h (.str x) = none := rfl
@[simp] theorem lOf_cell {n : Nat} : lOf h (.cell n) = (match h[n]? with
    | some (.lst xs) => some xs
    | _ => none) := rfl
@[simp] theorem kOf_lst {xs : List D} : kOf h (.lst xs) = some xs := rfl
@[simp] theorem kOf_cell {n : Nat} : kOf h (.cell n) = (match h[n]? with
    | some (.lst xs) => some xs
    | _ => none) := rfl
@[simp] theorem tOf_tup {xs : List D} : tOf (.tup xs) = some xs := rfl
@[simp] theorem sqOf_ap {x : D} : sqOf h x = (match lOf h x with
  | some xs => some xs
  | none => tOf x) := rfl
@[simp] theorem oIx_ap {x : D} {a : Int} : oIx x (.int a) h = (match ixD h x a with
    | some d => .ok d h
    | none => .stuck) := rfl
@[simp] theorem ixD_lst {xs : List D} {a : Int} : ixD h (.lst xs) a = atI xs a := rfl
@[simp] theorem ixD_fz {xs : List D} {a : Int} : ixD h (.fz xs) a = atI xs a := rfl
@[simp] theorem ixD_tup {xs : List D} {a : Int} : ixD h (.tup xs) a = atI xs a := rfl
theorem ixD_str {x : Str} {a : Int} : ixD h (.str x) a = if x.length ≤ 16777216 then (match atI x.cps.toList a with
    | some c => some (.str ⟨#[c]⟩)
    | none => none) else none := rfl
@[simp] theorem ixD_cell {n : Nat} {a : Int} : ixD h (.cell n) a = (match h[n]? with
    | some (.lst xs) => atI xs a
    | _ => none) := by
  show (match sqOf h (.cell n) with
    | some ds => atI ds a
    | none => none) = _
  simp only [sqOf_ap, lOf_cell]
  cases q : h[n]? with
  | none => rfl
  | some c => cases c <;> rfl
@[simp] theorem bLen_one {x : D} : bLen [x] h = (match lenD h x with
    | some n => .ok (.int n) h
    | none => .stuck) := rfl
@[simp] theorem lenD_lst {xs : List D} : lenD h (.lst xs) = some (xs.length : Int) := rfl
@[simp] theorem lenD_fz {xs : List D} : lenD h (.fz xs) = some (xs.length : Int) := rfl
@[simp] theorem lenD_tup {xs : List D} : lenD h (.tup xs) = some (xs.length : Int) := rfl
theorem lenD_str {x : Str} : lenD h (.str x) = if x.length ≤ 16777216 then some (x.length : Int) else none := rfl
@[simp] theorem lenD_cell {n : Nat} : lenD h (.cell n) = (match h[n]? with
    | some (.lst xs) => some (xs.length : Int)
    | _ => none) := by
  show (sqOf h (.cell n)).map (fun xs : List D => (xs.length : Int)) = _
  simp only [sqOf_ap, lOf_cell]
  cases q : h[n]? with
  | none => rfl
  | some c => cases c <;> rfl
@[simp] theorem bAbs_int {a : Int} : bAbs [.int a] h = .ok (.int (if a < 0 then -a else a)) h := rfl
@[simp] theorem bMax2_int {a b : Int} : bMax2 [.int a, .int b] h = .ok (.int (if b > a then b else a)) h := rfl
@[simp] theorem bMin2_int {a b : Int} : bMin2 [.int a, .int b] h = .ok (.int (if b < a then b else a)) h := rfl
@[simp] theorem bList_one {x : D} : bList [x] h = (match sqOf h x with
    | some xs => .ok xs h
    | none => .stuck) := rfl
theorem toI_map (ns : List Int) : optAll toI (ns.map .int) = some ns := by
  have := optAll_map (g := toI) (e := D.int) (e' := id) (xs := ns) fun _ _ => rfl
  rw [List.map_id] at this
  exact this
theorem toBl_map (ns : List Bool) : optAll toBl (ns.map .bl) = some ns := by
  have := optAll_map (g := toBl) (e := D.bl) (e' := id) (xs := ns) fun _ _ => rfl
  rw [List.map_id] at this
  exact this
@[simp] theorem tyName_non : tyName h .non = some "NoneType" := rfl
@[simp] theorem tyName_bl {b : Bool} : tyName h (.bl b) = some "bool" := rfl
@[simp] theorem tyName_int {b : Int} : tyName h (.int b) = some "int" := rfl
@[simp] theorem tyName_str {b : Str} : tyName h (.str b) = some "str" := rfl
@[simp] theorem tyName_lst {b : List D} : tyName h (.lst b) = some "list" := rfl
@[simp] theorem tyName_tup {b : List D} : tyName h (.tup b) = some "tuple" := rfl
end
section
variable {σ : VS} {h : Hv} {f g k : ES} {l : LS} {c : CS} {s1 s2 : SS} {i : Nat}
@[simp] theorem sNext_ap : sNext σ h = .next σ h := rfl
theorem sSeq_ap : sSeq s1 s2 σ h = (match s1 σ h with
  | .next σ' h' => s2 σ' h'
  | r => r) := rfl
@[simp] theorem sDrop_ap : sDrop f σ h = (f σ h).then σ fun _ h' => .next σ h' := rfl
@[simp] theorem sRet_ap : sRet f σ h = (f σ h).then σ fun d h' => .ret d h' := rfl
@[simp] theorem sSet_ap : sSet i f σ h = (f σ h).then σ fun d h' => .next (σ.set i (some d)) h' := rfl
@[simp] theorem sPar_ap {j : Nat} : sPar i j l σ h = (l σ h).then σ fun ds h' => (match ds with
  | [x, y] => .next ((σ.set i (some x)).set j (some y)) h'
  | _ => .stuck) := rfl
@[simp] theorem sAsg_ap {gd : GD} : sAsg f gd σ h = (f σ h).then σ fun d h' => (match gd d σ with
  | some σ' => .next σ' h'
  | none => .stuck) := rfl
theorem sFor_ap {is : IS} {gd : GD} : sFor is gd s1 σ h = (is σ h).then σ fun p h1 => forD p.2 gd s1 p.1 σ h1 := rfl
def kSI3 (d x i : D) (σ : VS) (h : Hv) : RS := match x, i with
  | .cell n, .int k => (match h[n]? with
    | some (.lst xs) => (match ixN xs.length k with
      | some j => .next σ (h.set n (.lst (xs.set j d)))
      | none => .stuck)
    | _ => .stuck)
  | _, _ => .stuck
def kSI2 (k : ES) (σ : VS) (d x : D) (h : Hv) : RS := (k σ h).then σ fun i h3 => kSI3 d x i σ h3
def kSI1 (g k : ES) (σ : VS) (d : D) (h : Hv) : RS := (g σ h).then σ (kSI2 k σ d)
@[simp] theorem sSetIx_ap : sSetIx f g k σ h = (f σ h).then σ (kSI1 g k σ) := rfl
@[simp] theorem kSI1_ap {d : D} : kSI1 g k σ d h = (g σ h).then σ (kSI2 k σ d) := rfl
@[simp] theorem kSI2_ap {d x : D} : kSI2 k σ d x h = (k σ h).then σ fun i h3 => kSI3 d x i σ h3 := rfl
@[simp] theorem kSI3_ap {d : D} {n : Nat} {i : Int} : kSI3 d (.cell n) (.int i) σ h = (match h[n]? with
    | some (.lst xs) => (match ixN xs.length i with
      | some j => .next σ (h.set n (.lst (xs.set j d)))
      | none => .stuck)
    | _ => .stuck) := rfl
@[simp] theorem gN_ap {d : D} : gN i d σ = some (σ.set i (some d)) := rfl
@[simp] theorem gsNil_ap : gsNil [] σ = some σ := rfl
@[simp] theorem gsCons_ap {gd : GD} {gs : GDs} {d : D} {r : List D} : gsCons gd gs (d :: r) σ = (match gd d σ with
    | some σ' => gs r σ'
    | none => none) := rfl
@[simp] theorem gT_ap {n : Nat} {gs : GDs} {ds : List D} : gT n gs (.tup ds) σ = if ds.length = n then gs ds σ else none := rfl
@[simp] theorem iL_ap : iL f σ h = (f σ h).bind fun d h1 => (match d with
  | .lst ds => .ok (ds, always) h1
  | .fz ds => .ok (ds, always) h1
  | _ => .stuck) := rfl
@[simp] theorem iC_ap : iC f σ h = (f σ h).bind fun d h1 => (match d with
  | .cell n => (match h1[n]? with
    | some (.lst ds) => .ok (ds, isCell n ds) h1
    | _ => .stuck)
  | _ => .stuck) := rfl
@[simp] theorem iT_ap : iT f σ h = (f σ h).bind fun d h1 => (match d with
  | .tup ds => .ok (ds, always) h1
  | _ => .stuck) := rfl
@[simp] theorem iS_ap : iS f σ h = (f σ h).bind fun d h1 => (match d with
  | .str x => .ok (signsD x, always) h1
  | _ => .stuck) := rfl
def kR1 (ds : List D) (h1 : Hv) : R (List D × (Hv → Bool)) := match ds with
  | [.int n] => @ite _ (-(2 ^ 62) ≤ n ∧ n < 2 ^ 62) (Classical.propDecidable _) (.ok (rgD 0 n.toNat, always) h1) .stuck
  | _ => .stuck
def kR2 (ds : List D) (h1 : Hv) : R (List D × (Hv → Bool)) := match ds with
  | [.int m, .int n] => @ite _ ((-(2 ^ 62) ≤ m ∧ m < 2 ^ 62) ∧ (-(2 ^ 62) ≤ n ∧ n < 2 ^ 62)) (Classical.propDecidable _) (.ok (rgD m (n - m).toNat, always) h1) .stuck
  | _ => .stuck
@[simp] theorem iR1_ap : iR1 l σ h = (l σ h).bind kR1 := rfl
@[simp] theorem iR2_ap : iR2 l σ h = (l σ h).bind kR2 := rfl
@[simp] theorem kR1_ap {n : Int} (h0 : -4000000000000000000 ≤ n) (h1 : n ≤ 4000000000000000000) : kR1 [.int n] h = .ok (rgD 0 n.toNat, always) h := if_pos ⟨Int.le_trans (by decide) h0, Int.lt_of_le_of_lt h1 (by decide)⟩
@[simp] theorem kR2_ap {m n : Int} (h0 : -4000000000000000000 ≤ m) (h1 : m ≤ 4000000000000000000) (h2 : -4000000000000000000 ≤ n) (h3 : n ≤ 4000000000000000000) : kR2 [.int m, .int n] h = .ok (rgD m (n - m).toNat, always) h := if_pos ⟨⟨Int.le_trans (by decide) h0, Int.lt_of_le_of_lt h1 (by decide)⟩, ⟨Int.le_trans (by decide) h2, Int.lt_of_le_of_lt h3 (by decide)⟩⟩
def kRg (d : D) (h1 : Hv) : R (List D) := match d with
  | .int n => @ite _ ((-(2 ^ 62) ≤ n ∧ n < 2 ^ 62) ∧ n.toNat ≤ 2 ^ 24) (Classical.propDecidable _) (.ok (rgD 0 n.toNat) h1) .stuck
  | _ => .stuck
@[simp] theorem lRg1_ap : lRg1 f σ h = (f σ h).bind kRg := rfl
@[simp] theorem kRg_ap {n : Int} (h0 : -16000000 ≤ n) (h1 : n ≤ 16000000) : kRg (.int n) h = .ok (rgD 0 n.toNat) h := if_pos ⟨⟨Int.le_trans (by decide) h0, Int.lt_of_le_of_lt h1 (by decide)⟩, by omega⟩
@[simp] theorem iZ_ap : iZ l σ h = (l σ h).bind fun ds h1 => (match ds with
  | [x, y] => (match lsOf x, lsOf y with
    | some xs, some ys => if xs.length = ys.length then .ok (zipD xs ys, always) h1 else .stuck
    | _, _ => .stuck)
  | _ => .stuck) := rfl
@[simp] theorem lsOf_lst {xs : List D} : lsOf (.lst xs) = some xs := rfl
@[simp] theorem lsOf_fz {xs : List D} : lsOf (.fz xs) = some xs := rfl
@[simp] theorem always_ap : always h = true := rfl
@[simp] theorem forD_nil {chk : Hv → Bool} {gd : GD} : forD chk gd s1 [] σ h = if chk h then .next σ h else .stuck := rfl
theorem forD_cons {chk : Hv → Bool} {gd : GD} {d : D} {ds : List D} : forD chk gd s1 (d :: ds) σ h = if chk h then (match gd d σ with
    | some σ1 => (match s1 σ1 h with
      | .next σ2 h2 => forD chk gd s1 ds σ2 h2
      | .cont σ2 h2 => forD chk gd s1 ds σ2 h2
      | .brk σ2 h2 => .next σ2 h2
      | r => r)
    | none => .stuck) else .stuck := rfl
end
theorem callP_ok {sem : List D → Hv → R D} {ds ds' : List D} {h : Hv} {d : D} (hp : pureD ds = some ds') (e : sem ds' [] = .ok d []) : callP sem ds h = .ok d h := by
  unfold callP
  rw [hp]
  simp only [e]
theorem callB_ok {sem : List D → Hv → R D} {ds ds' : List D} {h : Hv} {d : D} (hp : optAll (frz 0 h 12) ds = some ds') (e : sem ds' [] = .ok d []) (hs : isScal d = true) : callB sem ds h = .ok d h := by
  unfold callB
  rw [hp]
  simp only [e]
  rw [if_pos hs]
/-- a def without cells of others -/
theorem fnS_ret {np nl : Nat} {body : SS} {ds : List D} {d d' : D} {h' : Hv} (hl : ds.length = np) (hb : body (ds.map some ++ List.replicate nl none) [] = .ret d h') (hf : frz 0 h' 12 d = some d') : fnS np nl body ds [] = .ok d' [] := by
  unfold fnS
  rw [if_pos hl, hb]
  show exitD 0 d h' = _
  unfold exitD
  rw [hf, List.take_zero]
  simp only [optAll_nil, Nat.zero_le, if_true]
theorem fnS_next {np nl : Nat} {body : SS} {ds : List D} {σ : VS} {h' : Hv} (hl : ds.length = np) (hb : body (ds.map some ++ List.replicate nl none) [] = .next σ h') : fnS np nl body ds [] = .ok .non [] := by
  unfold fnS
  rw [if_pos hl, hb]
  show exitD 0 .non h' = _
  unfold exitD
  rw [frz_non, List.take_zero]
  simp only [optAll_nil, Nat.zero_le, if_true]
theorem fnS_exc {np nl : Nat} {body : SS} {ds : List D} {σ : VS} {h' : Hv} {C : Str} (hl : ds.length = np) (hb : body (ds.map some ++ List.replicate nl none) [] = .exc ⟨C, none⟩ σ h') : fnS np nl body ds [] = .exc ⟨C, none⟩ [] := by
  unfold fnS
  rw [if_pos hl, hb]
  show exitX 0 ⟨C, none⟩ h' = _
  unfold exitX
  rw [List.take_zero]
  simp only [optAll_nil, Nat.zero_le, if_true]
theorem fnS_excP {np nl : Nat} {body : SS} {ds : List D} {σ : VS} {h' : Hv} {C f : Str} {d d' : D} (hl : ds.length = np) (hb : body (ds.map some ++ List.replicate nl none) [] = .exc ⟨C, some (f, d)⟩ σ h') (hf : frz 0 h' 12 d = some d') : fnS np nl body ds [] = .exc ⟨C, some (f, d')⟩ [] := by
  unfold fnS
  rw [if_pos hl, hb]
  show exitX 0 ⟨C, some (f, d)⟩ h' = _
  unfold exitX
  dsimp only
  rw [hf, List.take_zero]
  simp only [optAll_nil, List.length_nil, Nat.zero_le, if_true]
theorem lcD_filter {α : Type} {chk : Hv → Bool} {gd : GD} {c : CS} {el : ES} {σ : VS} {h : Hv} (enc : α → D) (p : α → Bool) (f : α → D) (hc : chk h = true) : ∀ (xs : List α),
    (∀ a ∈ xs, ∃ σ1, gd (enc a) σ = some σ1 ∧ c σ1 h = .ok (p a) h ∧ (p a = true → el σ1 h = .ok (f a) h)) → lcD chk gd c el (xs.map enc) σ h = .ok ((xs.filter p).map f) h
  | [], _ => by
    rw [List.map_nil]
    simp only [lcD, hc, if_true, List.filter_nil, List.map_nil]
  | a :: xs, q => by
    obtain ⟨σ1, e1, e2, e3⟩ := q a List.mem_cons_self
    have ih := lcD_filter enc p f hc xs fun b hb => q b (List.mem_cons_of_mem _ hb)
    rw [List.map_cons]
    simp only [lcD, hc, if_true, e1, e2, R.calm_ok, R.bind_ok]
    cases pa : p a with
    | true =>
      simp only [if_true, e3 pa, R.calm_ok, R.bind_ok, ih, List.filter_cons, pa, List.map_cons]
    | false =>
      simp only [Bool.false_eq_true, if_false, ih, List.filter_cons, pa]
theorem lcD_map {α : Type} {chk : Hv → Bool} {gd : GD} {el : ES} {σ : VS} {h : Hv} (enc : α → D) (f : α → D) (hc : chk h = true) (xs : List α) (q : ∀ a ∈ xs, ∃ σ1, gd (enc a) σ = some σ1 ∧ el σ1 h = .ok (f a) h) : lcD chk gd cYes el (xs.map enc) σ h = .ok (xs.map f) h := by
  have := lcD_filter (c := cYes) enc (fun _ => true) f hc xs fun a ha => let ⟨σ1, e1, e2⟩ := q a ha; ⟨σ1, e1, rfl, fun _ => e2⟩
  rw [this, List.filter_eq_self.mpr (fun _ _ => rfl)]
class En (α : Type) [DecidableEq α] [PySem.W.Datum α] where
  enc : α → D
  py : ∀ (h : Hv) (f : Nat) (a : α), PySem.W.Datum.depth α < f → toPy h f (enc a) = some (PySem.W.Datum.toD a)
  fr : ∀ (n0 : Nat) (h : Hv) (f : Nat) (a : α), PySem.W.Datum.depth α < f → frz n0 h f (enc a) = some (enc a)
instance : En Int := ⟨.int, fun h f a hf => by cases f; exact absurd hf (Nat.not_lt_zero _); rfl, fun n0 h f a hf => by cases f; exact absurd hf (Nat.not_lt_zero _); rfl⟩
instance : En Bool := ⟨.bl, fun h f a hf => by cases f; exact absurd hf (Nat.not_lt_zero _); rfl, fun n0 h f a hf => by cases f; exact absurd hf (Nat.not_lt_zero _); rfl⟩
instance : En Str := ⟨.str, fun h f a hf => by cases f; exact absurd hf (Nat.not_lt_zero _); rfl, fun n0 h f a hf => by cases f; exact absurd hf (Nat.not_lt_zero _); rfl⟩
section
variable {α β γ δ : Type} [DecidableEq α] [PySem.W.Datum α] [En α] [DecidableEq β] [PySem.W.Datum β] [En β] [DecidableEq γ] [PySem.W.Datum γ] [En γ] [DecidableEq δ] [PySem.W.Datum δ] [En δ]
open PySem.W (Datum T3 T4 Tup)
theorem toPy_all {h : Hv} {f : Nat} (hf : Datum.depth α < f) (xs : List α) : optAll (toPy h f) (xs.map En.enc) = some (xs.map Datum.toD) := optAll_map fun x _ => En.py h f x hf
theorem frz_all {n0 : Nat} {h : Hv} {f : Nat} (hf : Datum.depth α < f) (xs : List α) : optAll (frz n0 h f) (xs.map En.enc) = some (xs.map En.enc) := optAll_map fun x _ => En.fr n0 h f x hf
instance : En (List α) where
  enc xs := .lst (xs.map En.enc)
  py h f xs hf := by
    cases f with
    | zero => exact absurd hf (Nat.not_lt_zero _)
    | succ f =>
      have hf' : Datum.depth α + 1 < f + 1 := hf
      rw [toPy_lst, toPy_all (by omega)]
      rfl
  fr n0 h f xs hf := by
    cases f with
    | zero => exact absurd hf (Nat.not_lt_zero _)
    | succ f =>
      have hf' : Datum.depth α + 1 < f + 1 := hf
      rw [frz_lst, frz_all (by omega)]
      rfl
instance : En (α × β) where
  enc p := .tup [En.enc p.1, En.enc p.2]
  py h f p hf := by
    cases f with
    | zero => exact absurd hf (Nat.not_lt_zero _)
    | succ f =>
      have hf' : max (Datum.depth α) (Datum.depth β) + 1 < f + 1 := hf
      rw [toPy_tup, optAll_cons, optAll_cons, En.py h f p.1 (by omega), En.py h f p.2 (by omega)]
      rfl
  fr n0 h f p hf := by
    cases f with
    | zero => exact absurd hf (Nat.not_lt_zero _)
    | succ f =>
      have hf' : max (Datum.depth α) (Datum.depth β) + 1 < f + 1 := hf
      rw [frz_tup, optAll_cons, optAll_cons, En.fr n0 h f p.1 (by omega), En.fr n0 h f p.2 (by omega)]
      rfl
instance : En (T3 α β γ) where
  enc p := .tup [En.enc p.a, En.enc p.b, En.enc p.c]
  py h f p hf := by
    cases f with
    | zero => exact absurd hf (Nat.not_lt_zero _)
    | succ f =>
      have hf' : max (max (Datum.depth α) (Datum.depth β)) (Datum.depth γ) + 1 < f + 1 := hf
      rw [toPy_tup, optAll_cons, optAll_cons, optAll_cons, En.py h f p.a (by omega), En.py h f p.b (by omega), En.py h f p.c (by omega)]
      rfl
  fr n0 h f p hf := by
    cases f with
    | zero => exact absurd hf (Nat.not_lt_zero _)
    | succ f =>
      have hf' : max (max (Datum.depth α) (Datum.depth β)) (Datum.depth γ) + 1 < f + 1 := hf
      rw [frz_tup, optAll_cons, optAll_cons, optAll_cons, En.fr n0 h f p.a (by omega), En.fr n0 h f p.b (by omega), En.fr n0 h f p.c (by omega)]
      rfl
instance : En (T4 α β γ δ) where
  enc p := .tup [En.enc p.a, En.enc p.b, En.enc p.c, En.enc p.d]
  py h f p hf := by
    cases f with
    | zero => exact absurd hf (Nat.not_lt_zero _)
    | succ f =>
      have hf' : max (max (max (Datum.depth α) (Datum.depth β)) (Datum.depth γ)) (Datum.depth δ) + 1 < f + 1 := hf
      rw [toPy_tup, optAll_cons, optAll_cons, optAll_cons, optAll_cons, En.py h f p.a (by omega), En.py h f p.b (by omega), En.py h f p.c (by omega), En.py h f p.d (by omega)]
      rfl
  fr n0 h f p hf := by
    cases f with
    | zero => exact absurd hf (Nat.not_lt_zero _)
    | succ f =>
      have hf' : max (max (max (Datum.depth α) (Datum.depth β)) (Datum.depth γ)) (Datum.depth δ) + 1 < f + 1 := hf
      rw [frz_tup, optAll_cons, optAll_cons, optAll_cons, optAll_cons, En.fr n0 h f p.a (by omega), En.fr n0 h f p.b (by omega), En.fr n0 h f p.c (by omega), En.fr n0 h f p.d (by omega)]
      rfl
theorem eqD_en (h : Hv) (a b : α) (hd : Datum.depth α < 12 := by decide) : eqD h (En.enc a) (En.enc b) = some (decide (a = b)) := by
  unfold eqD
  rw [En.py h 12 a hd, En.py h 12 b hd]
  exact congrArg some (Datum.eqv a b)
@[simp] theorem eFrz_ap {f : ES} {σ : VS} {h : Hv} : eFrz f σ h = frzR h.length (f σ h) := rfl
@[simp] theorem frzR_ok {n0 : Nat} {d : D} {h : Hv} : frzR n0 (.ok d h) = exitD n0 d h := rfl
theorem oInP_en {h : Hv} {a : α} {xs : List α} (hd : Datum.depth α < 11 := by decide) : oInP (En.enc a) (.lst (xs.map En.enc)) h = .ok (.bl (decide (a ∈ xs))) h := by
  have e1 := En.py h 12 a (Nat.lt_succ_of_lt hd)
  have e2 : toPy h 12 (.lst (xs.map En.enc)) = some (.list (xs.map Datum.toD)) := by
    rw [toPy_lst, toPy_all hd]; rfl
  unfold oInP inP
  rw [e1, e2]
  simp only [Option.bind_some, seqP]
  congr 2
  rw [List.any_map, Bool.eq_iff_iff, List.any_eq_true, decide_eq_true_eq]
  constructor
  · rintro ⟨b, hb, q⟩
    have q : PyData.eqv (Datum.toD b) (Datum.toD a) = true := q
    rw [Datum.eqv] at q
    have := of_decide_eq_true q
    rw [← this]; exact hb
  · intro ha
    refine ⟨a, ha, ?_⟩
    show PyData.eqv (Datum.toD a) (Datum.toD a) = true
    rw [Datum.eqv]; exact decide_eq_true rfl
theorem oNotInP_en {h : Hv} {a : α} {xs : List α} (hd : Datum.depth α < 11 := by decide) : oNotInP (En.enc a) (.lst (xs.map En.enc)) h = .ok (.bl (!decide (a ∈ xs))) h := by
  have := oInP_en (h := h) (a := a) (xs := xs) hd
  unfold oInP at this
  unfold oNotInP
  cases e : inP h (En.enc a) (.lst (xs.map En.enc)) with
  | none => rw [e] at this; cases this
  | some b =>
    rw [e] at this
    simp only at this ⊢
    injection this with this _
    injection this with this
    rw [this]
end
@[simp] theorem enc_int (i : Int) : (En.enc i : D) = .int i := rfl
@[simp] theorem enc_bl (i : Bool) : (En.enc i : D) = .bl i := rfl
@[simp] theorem enc_str (i : Str) : (En.enc i : D) = .str i := rfl
theorem ixN_nat {n : Nat} {k : Int} (h0 : 0 ≤ k) (h1 : k < n) : ixN n k = some k.toNat := by
  unfold ixN
  rw [if_pos h0, if_pos h1]
theorem ixN_some {n : Nat} {k : Int} {j : Nat} (e : k = j) (h1 : j < n) : ixN n k = some j := by
  subst e
  rw [ixN_nat (by omega) (by omega)]
  rfl
theorem atI_at {α : Type} {xs : List α} {k : Int} {j : Nat} {a : α} (e : k = j) (h : xs[j]? = some a) : atI xs k = some a := by
  unfold atI
  rw [ixN_some e (List.getElem?_eq_some_iff.mp h).1]
  exact h
theorem atI_map {α β : Type} {xs : List α} {e : α → β} {k : Int} {a : α} (h : atI xs k = some a) : atI (xs.map e) k = some (e a) := by
  unfold atI at h ⊢
  rw [List.length_map]
  cases q : ixN xs.length k with
  | none => rw [q] at h; cases h
  | some j =>
    rw [q] at h
    have h' : xs[j]? = some a := h
    show (xs.map e)[j]? = some (e a)
    rw [List.getElem?_map, h']
    rfl
theorem atI_get {α : Type} {xs : List α} {k : Int} (h0 : 0 ≤ k) (h1 : k < xs.length) : ∃ a, a ∈ xs ∧ xs[k.toNat]? = some a ∧ atI xs k = some a := by
  have h2 : k.toNat < xs.length := by omega
  exact ⟨xs[k.toNat], List.getElem_mem h2, List.getElem?_eq_getElem h2, atI_at (by omega) (List.getElem?_eq_getElem h2)⟩
theorem atI_getD {xs : List Int} {k : Int} (h0 : 0 ≤ k) (h1 : k < xs.length) : atI xs k = some (xs.getD k.toNat 0) := by
  obtain ⟨a, _, h2, h3⟩ := atI_get h0 h1
  rw [h3, List.getD_eq_getElem?_getD, h2]
  rfl
theorem mulOk_of {i j : Int} {a b : Nat} (ha : i.natAbs < 2 ^ a) (hb : j.natAbs < 2 ^ b) (h0 : 0 < a) (h1 : 0 < b) (h : a + b ≤ 1000000) : mulOk i j = true := decide_eq_true (wide_mul ha hb h0 h1 h)
theorem lt_2_256 {i : Int} (h1 : -(10 ^ 77) < i) (h2 : i < 10 ^ 77) : i.natAbs < 2 ^ 256 := by
  have e : (10 : Int) ^ 77 = 100000000000000000000000000000000000000000000000000000000000000000000000000000 := by decide
  have e2 : (2 : Nat) ^ 256 = 115792089237316195423570985008687907853269984665640564039457584007913129639936 := by decide
  rw [e] at h1 h2
  rw [e2]
  omega
/-- a product of numbers of at most 77 figures -/
theorem mulOk77 {i j : Int} (h1 : -(10 ^ 77) < i) (h2 : i < 10 ^ 77) (h3 : -(10 ^ 77) < j) (h4 : j < 10 ^ 77) : mulOk i j = true := mulOk_of (lt_2_256 h1 h2) (lt_2_256 h3 h4) (by decide) (by decide) (by decide)
theorem divOk77 {j : Int} (h1 : 0 < j) (h2 : j < 10 ^ 77) : divOk j = true := decide_eq_true (wide_div (i := 0) h1 (lt_2_256 (by omega) h2) (by decide) (by decide))
@[simp] theorem oMul77 {i j : Int} {h : Hv} (h1 : -(10 ^ 77) < i) (h2 : i < 10 ^ 77) (h3 : -(10 ^ 77) < j) (h4 : j < 10 ^ 77) : oMul (.int i) (.int j) h = .ok (.int (i * j)) h := by rw [oMul_int, if_pos (mulOk77 h1 h2 h3 h4)]
@[simp] theorem oFdiv77 {i j : Int} {h : Hv} (h1 : 0 < j) (h2 : j < 10 ^ 77) : oFdiv (.int i) (.int j) h = .ok (.int (i / j)) h := by rw [oFdiv_int, if_pos (divOk77 h1 h2)]
section
variable {σ : VS} {h : Hv} {f g k : ES} {d : D}
@[simp] theorem keyOf_int {i : Int} : keyOf (.int i) = some (.inl i) := rfl
@[simp] theorem keyOf_str {x : Str} : keyOf (.str x) = some (.inr x) := rfl
@[simp] theorem kvOf_cell {n : Nat} : kvOf h (.cell n) = (match h[n]? with
    | some (.dK kvs) => some kvs
    | some (.dF kvs) => some kvs
    | _ => none) := rfl
@[simp] theorem kvOf_dct {ks : List Key} {ds : List D} : kvOf h (.dct ks ds) = if ks.length = ds.length then some (ks.zip ds) else none := rfl
@[simp] theorem oDget_ap {x y : D} : oDget x y h = (match kvOf h x, keyOf y with
  | some kd, some k => (match getD kd k with
    | some d => .ok d h
    | none => .stuck)
  | _, _ => .stuck) := rfl
@[simp] theorem oDin_ap {x y : D} : oDin y x h = (match kvOf h x, keyOf y with
  | some kd, some k => .ok (.bl (getD kd k).isSome) h
  | _, _ => .stuck) := rfl
@[simp] theorem oDnin_ap {x y : D} : oDnin y x h = (match kvOf h x, keyOf y with
  | some kd, some k => .ok (.bl (!(getD kd k).isSome)) h
  | _, _ => .stuck) := rfl
def kDp3 (d x y : D) (σ : VS) (h : Hv) : RS := match x, keyOf y with
  | .cell n, some k => (match h[n]? with
    | some (.dK kd) => if kd.length < 16777216 then .next σ (h.set n (.dK (putD kd k d))) else .stuck
    | _ => .stuck)
  | _, _ => .stuck
def kDp2 (k : ES) (σ : VS) (d x : D) (h : Hv) : RS := (k σ h).then σ fun y h3 => kDp3 d x y σ h3
def kDp1 (g k : ES) (σ : VS) (d : D) (h : Hv) : RS := (g σ h).then σ (kDp2 k σ d)
@[simp] theorem sDput_ap : sDput f g k σ h = (f σ h).then σ (kDp1 g k σ) := rfl
@[simp] theorem kDp1_ap : kDp1 g k σ d h = (g σ h).then σ (kDp2 k σ d) := rfl
@[simp] theorem kDp2_ap {x : D} : kDp2 k σ d x h = (k σ h).then σ fun y h3 => kDp3 d x y σ h3 := rfl
@[simp] theorem kDp3_ap {n : Nat} {y : D} : kDp3 d (.cell n) y σ h = (match keyOf y with
  | some k => (match h[n]? with
    | some (.dK kd) => if kd.length < 16777216 then .next σ (h.set n (.dK (putD kd k d))) else .stuck
    | _ => .stuck)
  | none => .stuck) := by
  show (match D.cell n, keyOf y with
  | .cell n, some k => (match h[n]? with
    | some (.dK kd) => if kd.length < 16777216 then RS.next σ (h.set n (.dK (putD kd k d))) else .stuck
    | _ => .stuck)
  | _, _ => .stuck) = _
  cases keyOf y <;> rfl
@[simp] theorem eDnew_ap : eDnew σ h = .ok (.cell h.length) (h ++ [.dK []]) := rfl
@[simp] theorem eLock_ap : eLock f σ h = (f σ h).bind fun d h1 => (match d with
  | .cell n => (match h1[n]? with
    | some (.dK kd) => .ok (.cell n) (h1.set n (.dF kd))
    | _ => .stuck)
  | _ => .stuck) := rfl
@[simp] theorem iD_ap : iD f σ h = (f σ h).bind fun d h1 => (match d with
  | .dct ks ds => .ok (ks.map keyD, always) h1
  | _ => .stuck) := rfl
@[simp] theorem pNil_ap : pNil σ h = .ok [] h := rfl
def kPc2 (gp : PSd) (σ : VS) (k v : D) (h : Hv) : R (List (D × D)) := (gp σ h).bind fun r h3 => .ok ((k, v) :: r) h3
def kPc1 (g : ES) (gp : PSd) (σ : VS) (k : D) (h : Hv) : R (List (D × D)) := (g σ h).bind (kPc2 gp σ k)
@[simp] theorem pCons_ap {gp : PSd} : pCons f g gp σ h = (f σ h).bind (kPc1 g gp σ) := rfl
@[simp] theorem kPc1_ap {gp : PSd} {x : D} : kPc1 g gp σ x h = (g σ h).bind (kPc2 gp σ x) := rfl
@[simp] theorem kPc2_ap {gp : PSd} {x y : D} : kPc2 gp σ x y h = (gp σ h).bind fun r h3 => .ok ((x, y) :: r) h3 := rfl
@[simp] theorem keyP_ap {p : D × D} : keyP p = (keyOf p.1).map fun k => (k, p.2) := rfl
@[simp] theorem eDisp_ap {gp : PSd} : eDisp gp σ h = (gp σ h).bind fun ps h1 => (match optAll keyP ps with
  | some kd => if kd.length ≤ 15 then .ok (.cell h1.length) (h1 ++ [.dK (mergeD [] kd)]) else .stuck
  | none => .stuck) := rfl
@[simp] theorem eDispF_ap {gp : PSd} : eDispF gp σ h = (gp σ h).bind fun ps h1 => (match optAll keyP ps with
  | some kd => if kd.length ≤ 15 then .ok (.dct ((mergeD [] kd).map (·.1)) ((mergeD [] kd).map (·.2))) h1 else .stuck
  | none => .stuck) := rfl
def kDpop2 (x y : D) (h2 : Hv) : R D := match x, keyOf y with
    | .cell n, some k => (match h2[n]? with
      | some (.dK kd) => (match getD kd k with
        | some d => .ok d (h2.set n (.dK (dropD kd k)))
        | none => .stuck)
      | _ => .stuck)
    | _, _ => .stuck
def kDpop1 (g : ES) (σ : VS) (x : D) (h1 : Hv) : R D := match kvOf h1 x with
  | some _ => (g σ h1).bind (kDpop2 x)
  | none => .stuck
@[simp] theorem eDpop_ap : eDpop f g σ h = (f σ h).bind (kDpop1 g σ) := rfl
@[simp] theorem kDpop1_ap {x : D} : kDpop1 g σ x h = (match kvOf h x with
  | some _ => (g σ h).bind (kDpop2 x)
  | none => .stuck) := rfl
@[simp] theorem kDpop2_int {n : Nat} {i : Int} : kDpop2 (.cell n) (.int i) h = (match h[n]? with
      | some (.dK kd) => (match getD kd (.inl i) with
        | some d => .ok d (h.set n (.dK (dropD kd (.inl i))))
        | none => .stuck)
      | _ => .stuck) := rfl
@[simp] theorem getD_nil {k : Key} : getD [] k = none := rfl
theorem getD_cons {k j : Key} {kd : List (Key × D)} : getD ((j, d) :: kd) k = if j = k then some d else getD kd k := by
  unfold getD
  by_cases q : j = k
  · rw [List.find?_cons_of_pos (by exact decide_eq_true q), if_pos q]; rfl
  · rw [List.find?_cons_of_neg (by exact fun z => q (of_decide_eq_true z)), if_neg q]
end
end
end VD
set_option Elab.async false
set_option linter.all false
set_option maxRecDepth 100000
set_option maxHeartbeats 4000000
namespace VD
open PySem PySem.Spec PyProof.Rows L2
noncomputable section
structure Wp (Q : RS → Prop) (r : RS) : Prop where
  run : Q r
theorem Wp.eq (Q : RS → Prop) (r : RS) : Wp Q r = Q r := propext ⟨Wp.run, Wp.mk⟩
def Sq (Q : RS → Prop) (b : SS) (r : RS) : Prop := match r with
  | .next σ h => Wp Q (b σ h)
  | r => Wp Q r
def Br (Q : RS → Prop) (a b : SS) (σ : VS) (r : R Bool) : Prop := Wp Q (r.then σ fun k h => if k then a σ h else b σ h)
section
variable {Q : RS → Prop} {a b : SS} {σ : VS} {h : Hv} {d : D} {c : CS} {x : Xn} {p : Prop} [Decidable p] {r1 r2 : R Bool} {s1 s2 : RS} {k k2 : Bool}
@[simp] theorem Wp_seq : Wp Q (sSeq a b σ h) = Wp (Sq Q b) (a σ h) := by
  rw [sSeq_ap]
  cases a σ h <;> (rw [Wp.eq (Sq Q b)]; rfl)
@[simp] theorem Wp_sq_next : Wp (Sq Q b) (.next σ h) = Wp Q (b σ h) := Wp.eq _ _
@[simp] theorem Wp_sq_ret : Wp (Sq Q b) (.ret d h) = Wp Q (.ret d h) := Wp.eq _ _
@[simp] theorem Wp_sq_brk : Wp (Sq Q b) (.brk σ h) = Wp Q (.brk σ h) := Wp.eq _ _
@[simp] theorem Wp_sq_cont : Wp (Sq Q b) (.cont σ h) = Wp Q (.cont σ h) := Wp.eq _ _
@[simp] theorem Wp_sq_exc : Wp (Sq Q b) (.exc x σ h) = Wp Q (.exc x σ h) := Wp.eq _ _
@[simp] theorem Wp_sq_stuck : Wp (Sq Q b) .stuck = Wp Q .stuck := Wp.eq _ _
@[simp] theorem Wp_if : Wp Q (sIf c a b σ h) = Br Q a b σ (c σ h) := rfl
@[simp] theorem Br_t : Br Q a b σ (.ok true h) = Wp Q (a σ h) := rfl
@[simp] theorem Br_f : Br Q a b σ (.ok false h) = Wp Q (b σ h) := rfl
@[simp] theorem Br_exc : Br Q a b σ (.exc x h) = Wp Q (.exc x σ h) := rfl
@[simp] theorem Br_stuck : Br Q a b σ .stuck = Wp Q .stuck := rfl
@[simp] theorem Br_dec : Br Q a b σ (.ok (decide p) h) = if p then Wp Q (a σ h) else Wp Q (b σ h) := by
  by_cases q : p
  · rw [if_pos q, decide_eq_true q]; rfl
  · rw [if_neg q, decide_eq_false q]; rfl
@[simp] theorem Br_not : Br Q a b σ (.ok (!k) h) = Br Q b a σ (.ok k h) := by cases k <;> rfl
@[simp] theorem Br_ite : Br Q a b σ (if p then r1 else r2) = if p then Br Q a b σ r1 else Br Q a b σ r2 := by
  by_cases q : p
  · rw [if_pos q, if_pos q]
  · rw [if_neg q, if_neg q]
@[simp] theorem Wp_ite : Wp Q (if p then s1 else s2) = if p then Wp Q s1 else Wp Q s2 := by
  by_cases q : p
  · rw [if_pos q, if_pos q]
  · rw [if_neg q, if_neg q]
end
def Wy (Q : RS → Prop) (i : Nat) (r : RS) : Prop := match r with
  | .next σ h => Wp Q (.next (σ.set i none) h)
  | .brk σ h => Wp Q (.brk (σ.set i none) h)
  | .cont σ h => Wp Q (.cont (σ.set i none) h)
  | .ret d h => Wp Q (.ret d h)
  | _ => Wp Q .stuck
/-- what an except clause makes of an error -/
def tryR (tb : Str → Str → Option Bool) (y : Str) (i : Nat) (suite : Xn → Addr → Addr → SS) (x : Xn) (σ : VS) (h : Hv) : RS := match tb x.cls y with
  | some true => tryA i x.pay (suite x) σ h
  | some false => .exc x σ h
  | none => .stuck
def Ty (Q : RS → Prop) (tb : Str → Str → Option Bool) (y : Str) (i : Nat) (suite : Xn → Addr → Addr → SS) (r : RS) : Prop := match r with
  | .exc x σ h => Wp Q (tryR tb y i suite x σ h)
  | r => Wp Q r
def Is (r : RS) : RS → Prop := fun z => z = r
def tryOR (tb : Str → Str → Option Bool) (y : Str) (suite : SS) (x : Xn) (σ : VS) (h : Hv) : RS := match tb x.cls y with
  | some true => (match suite σ h with
    | .exc _ _ _ => .stuck
    | r => r)
  | some false => .exc x σ h
  | none => .stuck
def To (Q : RS → Prop) (tb : Str → Str → Option Bool) (y : Str) (suite : SS) (r : RS) : Prop := match r with
  | .exc x σ h => Wp Q (tryOR tb y suite x σ h)
  | r => Wp Q r
def Tn (Q : RS → Prop) (r : RS) : Prop := match r with
  | .exc _ _ _ => Wp Q .stuck
  | r => Wp Q r
section
variable {Q : RS → Prop} {tb : Str → Str → Option Bool} {y : Str} {i : Nat} {suite : Xn → Addr → Addr → SS} {su body : SS} {σ : VS} {h : Hv} {x : Xn} {d : D} {r : RS}
@[simp] theorem Wp_wipe : Wp Q (wipeR i r) = Wp (Wy Q i) r := by
  cases r <;> (rw [Wp.eq (Wy Q i)]; rfl)
@[simp] theorem Wp_wy_next : Wp (Wy Q i) (.next σ h) = Wp Q (.next (σ.set i none) h) := Wp.eq _ _
@[simp] theorem Wp_wy_brk : Wp (Wy Q i) (.brk σ h) = Wp Q (.brk (σ.set i none) h) := Wp.eq _ _
@[simp] theorem Wp_wy_cont : Wp (Wy Q i) (.cont σ h) = Wp Q (.cont (σ.set i none) h) := Wp.eq _ _
@[simp] theorem Wp_wy_ret : Wp (Wy Q i) (.ret d h) = Wp Q (.ret d h) := Wp.eq _ _
@[simp] theorem Wp_try : Wp Q (sTryAs tb y i suite body σ h) = Wp (Ty Q tb y i suite) (body σ h) := by
  unfold sTryAs
  cases body σ h <;> (rw [Wp.eq (Ty Q tb y i suite)]; rfl)
@[simp] theorem Wp_ty_next : Wp (Ty Q tb y i suite) (.next σ h) = Wp Q (.next σ h) := Wp.eq _ _
@[simp] theorem Wp_ty_ret : Wp (Ty Q tb y i suite) (.ret d h) = Wp Q (.ret d h) := Wp.eq _ _
@[simp] theorem Wp_ty_brk : Wp (Ty Q tb y i suite) (.brk σ h) = Wp Q (.brk σ h) := Wp.eq _ _
@[simp] theorem Wp_ty_cont : Wp (Ty Q tb y i suite) (.cont σ h) = Wp Q (.cont σ h) := Wp.eq _ _
@[simp] theorem Wp_ty_stuck : Wp (Ty Q tb y i suite) .stuck = Wp Q .stuck := Wp.eq _ _
@[simp] theorem Wp_ty_exc : Wp (Ty Q tb y i suite) (.exc x σ h) = Wp Q (tryR tb y i suite x σ h) := Wp.eq _ _
@[simp] theorem Wp_is_next {r : RS} : Wp (Is r) (.next σ h) = (RS.next σ h = r) := Wp.eq _ _
@[simp] theorem Wp_is_ret {r : RS} : Wp (Is r) (.ret d h) = (RS.ret d h = r) := Wp.eq _ _
@[simp] theorem Wp_is_brk {r : RS} : Wp (Is r) (.brk σ h) = (RS.brk σ h = r) := Wp.eq _ _
@[simp] theorem Wp_is_cont {r : RS} : Wp (Is r) (.cont σ h) = (RS.cont σ h = r) := Wp.eq _ _
@[simp] theorem exM_none {a dd : Addr} : exM a dd none = some (.raw (.ref a)) := rfl
@[simp] theorem exM_some {a dd : Addr} {f : Str} : exM a dd (some (f, d)) = some (.exv a dd f d) := rfl
@[simp] theorem exD_none {a dd : Addr} : exD a dd none = .raw (.ref a) := rfl
@[simp] theorem exD_some {a dd : Addr} {f : Str} : exD a dd (some (f, d)) = .exv a dd f d := rfl
@[simp] theorem isEx_none {a dd : Addr} : isEx a dd none (.raw (.ref a)) = true := decide_eq_true rfl
@[simp] theorem isEx_some {a dd : Addr} {p : Str × D} {f : Str} : isEx a dd (some p) (.exv a dd f d) = true := by
  show (decide _ && decide _) = true
  rw [decide_eq_true rfl, decide_eq_true rfl]; rfl
@[simp] theorem Wp_tryO : Wp Q (sTryO tb y su body σ h) = Wp (To Q tb y su) (body σ h) := by
  unfold sTryO
  cases body σ h <;> (rw [Wp.eq (To Q tb y su)]; rfl)
@[simp] theorem Wp_to_next : Wp (To Q tb y su) (.next σ h) = Wp Q (.next σ h) := Wp.eq _ _
@[simp] theorem Wp_to_ret : Wp (To Q tb y su) (.ret d h) = Wp Q (.ret d h) := Wp.eq _ _
@[simp] theorem Wp_to_brk : Wp (To Q tb y su) (.brk σ h) = Wp Q (.brk σ h) := Wp.eq _ _
@[simp] theorem Wp_to_cont : Wp (To Q tb y su) (.cont σ h) = Wp Q (.cont σ h) := Wp.eq _ _
@[simp] theorem Wp_to_stuck : Wp (To Q tb y su) .stuck = Wp Q .stuck := Wp.eq _ _
@[simp] theorem Wp_to_exc : Wp (To Q tb y su) (.exc x σ h) = Wp Q (tryOR tb y su x σ h) := Wp.eq _ _
@[simp] theorem Wp_tn_next : Wp (Tn Q) (.next σ h) = Wp Q (.next σ h) := Wp.eq _ _
@[simp] theorem Wp_tn_ret : Wp (Tn Q) (.ret d h) = Wp Q (.ret d h) := Wp.eq _ _
@[simp] theorem Wp_tn_brk : Wp (Tn Q) (.brk σ h) = Wp Q (.brk σ h) := Wp.eq _ _
@[simp] theorem Wp_tn_cont : Wp (Tn Q) (.cont σ h) = Wp Q (.cont σ h) := Wp.eq _ _
end
@[simp] theorem eIsO_ap {i : Nat} {x : Xn} {a dd : Addr} {o : Option Bool} {σ : VS} {h : Hv} : eIsO i x a dd o σ h = (eVar i σ h).bind fun d h1 => if isEx a dd x.pay d = true then (match o with
    | some r => .ok (.bl r) h1
    | none => .stuck) else .stuck := rfl
@[simp] theorem sRaiseP_ap {C f : Str} {fe : ES} {σ : VS} {h : Hv} : sRaiseP C f fe σ h = (fe σ h).then σ fun d h' => .exc ⟨C, some (f, d)⟩ σ h' := rfl
/-- the end of a def that stands alone -/
def Rt (P : R D → Prop) (r : RS) : Prop := match r with
  | .ret d h => ∃ d', frz 0 h 12 d = some d' ∧ P (.ok d' [])
  | .next _ _ => P (.ok .non [])
  | .exc x _ h => match x.pay with
    | none => P (.exc ⟨x.cls, none⟩ [])
    | some (f, d) => ∃ d', frz 0 h 12 d = some d' ∧ P (.exc ⟨x.cls, some (f, d')⟩ [])
  | _ => False
section
variable {P : R D → Prop} {σ : VS} {h : Hv} {d : D} {C f : Str}
@[simp] theorem Wp_rt_ret : Wp (Rt P) (.ret d h) = ∃ d', frz 0 h 12 d = some d' ∧ P (.ok d' []) := Wp.eq _ _
@[simp] theorem Wp_rt_next : Wp (Rt P) (.next σ h) = P (.ok .non []) := Wp.eq _ _
@[simp] theorem Wp_rt_exc : Wp (Rt P) (.exc ⟨C, none⟩ σ h) = P (.exc ⟨C, none⟩ []) := by
  rw [Wp.eq, Rt]
@[simp] theorem Wp_rt_excP : Wp (Rt P) (.exc ⟨C, some (f, d)⟩ σ h) = ∃ d', frz 0 h 12 d = some d' ∧ P (.exc ⟨C, some (f, d')⟩ []) := by
  rw [Wp.eq, Rt]
@[simp] theorem Wp_rt_stuck : Wp (Rt P) .stuck = False := Wp.eq _ _
end
theorem fnS_of {P : R D → Prop} {np nl : Nat} {body : SS} {ds : List D} (hl : ds.length = np) (hw : Wp (Rt P) (body (ds.map some ++ List.replicate nl none) [])) : P (fnS np nl body ds []) := by
  replace hw := hw.run
  unfold Rt at hw
  split at hw
  · next d h e =>
    obtain ⟨d', e1, e2⟩ := hw
    rw [fnS_ret hl e e1]
    exact e2
  · next e => rw [fnS_next hl e]; exact hw
  · next x _ _ e =>
    cases x with
    | mk c p =>
      cases p with
      | none =>
        rw [fnS_exc hl e]
        exact hw
      | some q =>
        obtain ⟨d', e1, e2⟩ := hw
        rw [fnS_excP hl e e1]
        exact e2
  · exact hw.elim
/-- the end of a def that hands its objects on -/
def Ru (P : R D → Prop) (r : RS) : Prop := match r with
  | .ret d h => P (.ok d h)
  | .exc x _ _ => x.pay = none ∧ P (.exc ⟨x.cls, none⟩ [])
  | _ => False
section
variable {P : R D → Prop} {σ : VS} {h : Hv} {d : D} {C : Str}
@[simp] theorem Wp_ru_ret : Wp (Ru P) (.ret d h) = P (.ok d h) := Wp.eq _ _
@[simp] theorem Wp_ru_exc : Wp (Ru P) (.exc ⟨C, none⟩ σ h) = P (.exc ⟨C, none⟩ []) := by
  rw [Wp.eq, Ru]
  simp
@[simp] theorem Wp_ru_stuck : Wp (Ru P) .stuck = False := Wp.eq _ _
end
theorem fnU_of {P : R D → Prop} {np nl : Nat} {body : SS} {ds : List D} (hl : ds.length = np) (hw : Wp (Ru P) (body (ds.map some ++ List.replicate nl none) [])) : P (fnU np nl body ds []) := by
  replace hw := hw.run
  unfold fnU
  rw [if_pos hl]
  generalize body (ds.map some ++ List.replicate nl none) [] = r at hw ⊢
  cases r with
  | ret d h => exact hw
  | exc x σ h =>
    obtain ⟨e1, e2⟩ := hw
    cases x with
    | mk c p =>
      cases e1
      show P (exitX 0 ⟨c, none⟩ h)
      unfold exitX
      rw [List.take_zero]
      simp only [optAll_nil, Nat.zero_le, if_true]
      exact e2
  | next σ h => exact hw.elim
  | brk σ h => exact hw.elim
  | cont σ h => exact hw.elim
  | stuck => exact hw.elim
theorem callC_ok {sem : List D → Hv → R D} {ds ds' : List D} {h h' : Hv} {d : D} (hp : pureD ds = some ds') (e : sem ds' [] = .ok d h') : callC sem ds h = .ok (shD h.length d) (h ++ h'.map (shC h.length)) := by
  unfold callC
  rw [hp]
  simp only [e]
def Lp (Q : RS → Prop) (I : VS → Hv → Prop) (r : RS) : Prop := match r with
  | .next σ h => I σ h
  | .cont σ h => I σ h
  | .brk σ h => Wp Q (.next σ h)
  | .stuck => False
  | r => Wp Q r
section
variable {Q : RS → Prop} {I : VS → Hv → Prop} {σ : VS} {h : Hv} {d : D} {x : Xn}
@[simp] theorem Wp_lp_next : Wp (Lp Q I) (.next σ h) = I σ h := Wp.eq _ _
@[simp] theorem Wp_lp_cont : Wp (Lp Q I) (.cont σ h) = I σ h := Wp.eq _ _
@[simp] theorem Wp_lp_brk : Wp (Lp Q I) (.brk σ h) = Wp Q (.next σ h) := Wp.eq _ _
@[simp] theorem Wp_lp_ret : Wp (Lp Q I) (.ret d h) = Wp Q (.ret d h) := Wp.eq _ _
@[simp] theorem Wp_lp_exc : Wp (Lp Q I) (.exc x σ h) = Wp Q (.exc x σ h) := Wp.eq _ _
@[simp] theorem Wp_lp_stuck : Wp (Lp Q I) .stuck = False := Wp.eq _ _
end
theorem forD_wp {α : Type} {Q : RS → Prop} {chk : Hv → Bool} {gd : GD} {body : SS} (enc : α → D) (xs : List α) (I : Nat → VS → Hv → Prop)
    (hc : ∀ i σ h, I i σ h → chk h = true)
    (step : ∀ i a σ h, xs[i]? = some a → I i σ h → ∃ σ1, gd (enc a) σ = some σ1 ∧ Wp (Lp Q (I (i + 1))) (body σ1 h))
    (fin : ∀ σ h, I xs.length σ h → Wp Q (.next σ h)) {σ : VS} {h : Hv} (i0 : I 0 σ h) : Wp Q (forD chk gd body (xs.map enc) σ h) := by
  have key : ∀ (n : Nat) (i : Nat) σ h, xs.length - i = n → i ≤ xs.length → I i σ h → Wp Q (forD chk gd body ((xs.drop i).map enc) σ h) := by
    intro n
    induction n with
    | zero =>
      intro i σ h hn hi q
      have e : i = xs.length := by omega
      subst e
      rw [List.drop_length, List.map_nil, forD_nil, hc _ _ _ q, if_pos rfl]
      exact fin _ _ q
    | succ n ih =>
      intro i σ h hn hi q
      have hlt : i < xs.length := by omega
      obtain ⟨σ1, e1, e2⟩ := step i xs[i] σ h (List.getElem?_eq_getElem hlt) q
      rw [List.drop_eq_getElem_cons hlt, List.map_cons, forD_cons, hc _ _ _ q, if_pos rfl, e1]
      cases eb : body σ1 h with
      | next σ2 h2 => rw [eb, Wp_lp_next] at e2; simp only [eb]; exact ih (i + 1) σ2 h2 (by omega) (by omega) e2
      | cont σ2 h2 => rw [eb, Wp_lp_cont] at e2; simp only [eb]; exact ih (i + 1) σ2 h2 (by omega) (by omega) e2
      | brk σ2 h2 => rw [eb, Wp_lp_brk] at e2; simp only [eb]; exact e2
      | ret d h2 => rw [eb, Wp_lp_ret] at e2; simp only [eb]; exact e2
      | exc x σ2 h2 => rw [eb, Wp_lp_exc] at e2; simp only [eb]; exact e2
      | stuck => rw [eb, Wp_lp_stuck] at e2; exact e2.elim
  have z := key xs.length 0 σ h (by omega) (by omega) i0
  rw [List.drop_zero] at z
  exact z
theorem Wp.loop {α : Type} {Q : RS → Prop} {is : IS} {gd : GD} {body : SS} {σ : VS} {h : Hv} (enc : α → D) (xs : List α) (I : Nat → VS → Hv → Prop) {chk : Hv → Bool} {h0 : Hv}
    (his : is σ h = .ok (xs.map enc, chk) h0) (i0 : I 0 σ h0)
    (hc : ∀ i σ h, I i σ h → chk h = true)
    (step : ∀ i a σ h, xs[i]? = some a → I i σ h → ∃ σ1, gd (enc a) σ = some σ1 ∧ Wp (Lp Q (I (i + 1))) (body σ1 h))
    (fin : ∀ σ h, I xs.length σ h → Wp Q (.next σ h)) : Wp Q (sFor is gd body σ h) := by
  rw [sFor_ap, his]
  exact forD_wp enc xs I hc step fin i0
/-- a loop that doesn't look at a changing list -/
theorem Wp.loopA {α : Type} {Q : RS → Prop} {is : IS} {gd : GD} {body : SS} {σ : VS} {h : Hv} (enc : α → D) (xs : List α) (I : Nat → VS → Hv → Prop) {h0 : Hv}
    (his : is σ h = .ok (xs.map enc, always) h0) (i0 : I 0 σ h0)
    (step : ∀ i a σ h, xs[i]? = some a → I i σ h → ∃ σ1, gd (enc a) σ = some σ1 ∧ Wp (Lp Q (I (i + 1))) (body σ1 h))
    (fin : ∀ σ h, I xs.length σ h → Wp Q (.next σ h)) : Wp Q (sFor is gd body σ h) := Wp.loop enc xs I his i0 (fun _ _ _ _ => rfl) step fin
theorem Wp.range {Q : RS → Prop} {is : IS} {gd : GD} {body : SS} {σ : VS} {h : Hv} (lo : Int) (n : Nat) (I : Nat → VS → Hv → Prop) {h0 : Hv}
    (his : is σ h = .ok (rgD lo n, always) h0) (i0 : I 0 σ h0)
    (step : ∀ i σ h, i < n → I i σ h → ∃ σ1, gd (.int (lo + i)) σ = some σ1 ∧ Wp (Lp Q (I (i + 1))) (body σ1 h))
    (fin : ∀ σ h, I n σ h → Wp Q (.next σ h)) : Wp Q (sFor is gd body σ h) := by
  refine Wp.loopA (fun i : Nat => D.int (lo + i)) (List.range n) I (his.trans rfl) i0 (fun i a σ h ha hi => ?_) (by rw [List.length_range]; exact fin)
  obtain ⟨hlt, rfl⟩ := List.getElem?_eq_some_iff.mp ha
  rw [List.length_range] at hlt
  rw [List.getElem_range]
  exact step i σ h hlt hi
theorem Wp.while {Q : RS → Prop} {c : CS} {body : SS} (I : VS → Hv → Prop) (μ : VS → Hv → Nat)
    (step : ∀ σ h, I σ h → ∃ b, c σ h = .ok b h ∧ if b = true then Wp (Lp Q fun σ' h' => I σ' h' ∧ μ σ' h' < μ σ h) (body σ h) else Wp Q (.next σ h)) {σ : VS} {h : Hv} (i0 : I σ h) : Wp Q (sLoop c body σ h) := by
  have key : ∀ (m : Nat) σ h, μ σ h < m → I σ h → ∃ n, whileD c body n σ h ≠ .stuck ∧ Wp Q (whileD c body n σ h) := by
    intro m
    induction m with
    | zero => intro σ h hm; exact absurd hm (Nat.not_lt_zero _)
    | succ m ih =>
      intro σ h hm i
      obtain ⟨b, e1, e2⟩ := step σ h i
      cases b with
      | false =>
        refine ⟨1, ?_, ?_⟩
        · simp only [whileD, e1, R.then_ok]
          intro z; cases z
        · simp only [whileD, e1, R.then_ok]
          exact e2
      | true =>
        rw [if_pos rfl] at e2
        cases eb : body σ h with
        | next σ2 h2 =>
          rw [eb, Wp_lp_next] at e2
          obtain ⟨n, n1, n2⟩ := ih σ2 h2 (by omega) e2.1
          refine ⟨n + 1, ?_, ?_⟩
          · simp only [whileD, e1, R.then_ok, if_true, eb]; exact n1
          · simp only [whileD, e1, R.then_ok, if_true, eb]; exact n2
        | cont σ2 h2 =>
          rw [eb, Wp_lp_cont] at e2
          obtain ⟨n, n1, n2⟩ := ih σ2 h2 (by omega) e2.1
          refine ⟨n + 1, ?_, ?_⟩
          · simp only [whileD, e1, R.then_ok, if_true, eb]; exact n1
          · simp only [whileD, e1, R.then_ok, if_true, eb]; exact n2
        | brk σ2 h2 =>
          rw [eb, Wp_lp_brk] at e2
          refine ⟨1, ?_, ?_⟩
          · simp only [whileD, e1, R.then_ok, if_true, eb]
            intro z; cases z
          · simp only [whileD, e1, R.then_ok, if_true, eb]
            exact e2
        | ret d h2 =>
          rw [eb, Wp_lp_ret] at e2
          refine ⟨1, ?_, ?_⟩
          · simp only [whileD, e1, R.then_ok, if_true, eb]
            intro z; cases z
          · simp only [whileD, e1, R.then_ok, if_true, eb]
            exact e2
        | exc x σ2 h2 =>
          rw [eb, Wp_lp_exc] at e2
          refine ⟨1, ?_, ?_⟩
          · simp only [whileD, e1, R.then_ok, if_true, eb]
            intro z; cases z
          · simp only [whileD, e1, R.then_ok, if_true, eb]
            exact e2
        | stuck => rw [eb, Wp_lp_stuck] at e2; exact e2.elim
  obtain ⟨n, n1, n2⟩ := key (μ σ h + 1) σ h (by omega) i0
  rw [sLoop_at n1]
  exact n2
/-- the whole number in a slot -/
def slN (σ : VS) (j : Nat) : Nat := match σ[j]? with
  | some (some (.int y)) => y.toNat
  | _ => 0
theorem lLc_map {α : Type} {is : IS} {gd : GD} {el : ES} {own : List Nat} {σ : VS} {h h0 : Hv} {chk : Hv → Bool} (enc : α → D) (f : α → D) (xs : List α) (his : is σ h = .ok (xs.map enc, chk) h0) (hc : chk h0 = true) (hl : xs.length ≤ 16777216)
    (q : ∀ a ∈ xs, ∃ σ1, gd (enc a) (wipeV σ own) = some σ1 ∧ el σ1 h0 = .ok (f a) h0) : lLc is gd cYes el own σ h = .ok (xs.map f) h0 := by
  rw [lLc_ap, his, R.bind_ok, List.length_map, if_pos hl]
  exact lcD_map enc f hc xs q
theorem lLc_filter {α : Type} {is : IS} {gd : GD} {c : CS} {el : ES} {own : List Nat} {σ : VS} {h h0 : Hv} {chk : Hv → Bool} (enc : α → D) (p : α → Bool) (f : α → D) (xs : List α) (his : is σ h = .ok (xs.map enc, chk) h0) (hc : chk h0 = true) (hl : xs.length ≤ 16777216)
    (q : ∀ a ∈ xs, ∃ σ1, gd (enc a) (wipeV σ own) = some σ1 ∧ c σ1 h0 = .ok (p a) h0 ∧ (p a = true → el σ1 h0 = .ok (f a) h0)) : lLc is gd c el own σ h = .ok ((xs.filter p).map f) h0 := by
  rw [lLc_ap, his, R.bind_ok, List.length_map, if_pos hl]
  exact lcD_filter enc p f hc xs q
/-- a comprehension whose items are new lists that change later -/
theorem lLc_cells {α : Type} {is : IS} {gd : GD} {el : ES} {own : List Nat} {σ : VS} {h h0 : Hv} (enc : α → D) (f : α → List D) (xs : List α) (his : is σ h = .ok (xs.map enc, always) h0) (hl : xs.length ≤ 16777216)
    (q : ∀ a ∈ xs, ∃ σ1, gd (enc a) (wipeV σ own) = some σ1 ∧ ∀ h1, el σ1 h1 = .ok (.cell h1.length) (h1 ++ [.lst (f a)])) : lLc is gd cYes el own σ h = .ok ((List.range xs.length).map fun i => .cell (h0.length + i)) (h0 ++ xs.map fun a => .lst (f a)) := by
  rw [lLc_ap, his, R.bind_ok, List.length_map, if_pos hl]
  have key : ∀ (xs : List α) (h : Hv), (∀ a ∈ xs, ∃ σ1, gd (enc a) (wipeV σ own) = some σ1 ∧ ∀ h1, el σ1 h1 = .ok (.cell h1.length) (h1 ++ [.lst (f a)])) → lcD always gd cYes el (xs.map enc) (wipeV σ own) h = .ok ((List.range xs.length).map fun i => .cell (h.length + i)) (h ++ xs.map fun a => .lst (f a)) := by
    intro xs
    induction xs with
    | nil =>
      intro h _
      simp [lcD]
    | cons a xs ih =>
      intro h q
      obtain ⟨σ1, e1, e2⟩ := q a List.mem_cons_self
      have ih := ih (h ++ [.lst (f a)]) fun b hb => q b (List.mem_cons_of_mem _ hb)
      rw [List.map_cons]
      simp only [lcD, always_ap, if_true, e1, cYes_ap, R.calm_ok, R.bind_ok, e2, ih]
      rw [List.length_cons, List.range_succ_eq_map, List.map_cons, List.map_map, List.length_append, List.map_cons, List.append_assoc]
      congr 1
      congr 1
      apply List.map_congr_left
      intro i _
      show D.cell _ = D.cell _
      congr 1
      simp
      omega
  exact key xs h0 q
abbrev scr (ns : List Int) : D := .fz (ns.map .int)
@[simp] theorem pureD_ap {ds : List D} : pureD ds = optAll (frz 0 [] 12) ds := rfl
/-- a call's outcome, from the def's on data without cells -/
theorem cP {sem : List D → Hv → R D} {ds : List D} {d : D} (e : sem ds [] = .ok d []) (hp : pureD ds = some ds := by simp) (h : Hv) : callP sem ds h = .ok d h := callP_ok hp e
def drawF (ns : List Int) (k m : Int) : Int := if k < ns.length then ns[k.toNat]?.getD 0 % m else (((k * k + 3 + (if 0 < ns.length then ns[(k % ns.length).toNat]?.getD 0 % 65521 else 0)) * 48271 % 65521 + 5) * 40692 % 65519) % m
theorem drawF_bd (ns : List Int) (k : Int) {m : Int} (h : 0 < m) : 0 ≤ drawF ns k m ∧ drawF ns k m < m := by
  unfold drawF
  split
  · exact ⟨Int.emod_nonneg _ (by omega), Int.emod_lt_of_pos _ h⟩
  · exact ⟨Int.emod_nonneg _ (by omega), Int.emod_lt_of_pos _ h⟩
/-- the draw of k31 and of most laws behind it -/
def drawB : SS := sSeq (sIf (toB (eOp oLt (eVar 1) (eCa bLen (aCons (eVar 0) (aNil))))) (sRet (eOp oMod (eOp oIx (eVar 0) (eVar 1)) (eVar 2))) (sNext)) (sSeq (sSet 3 (eOp oAdd (eOp oMul (eVar 1) (eVar 1)) (eK (.int 3)))) (sSeq (sIf (toB (eOp oGt (eCa bLen (aCons (eVar 0) (aNil))) (eK (.int 0)))) (sSet 3 (eOp oAdd (eVar 3) (eOp oMod (eOp oIx (eVar 0) (eOp oMod (eVar 1) (eCa bLen (aCons (eVar 0) (aNil))))) (eK (.int 65521))))) (sNext)) (sRet (eOp oMod (eOp oMod (eOp oMul (eOp oAdd (eOp oMod (eOp oMul (eVar 3) (eK (.int 48271))) (eK (.int 65521))) (eK (.int 5))) (eK (.int 40692))) (eK (.int 65519))) (eVar 2)))))
def drawM : List D → Hv → R D := fnS 3 1 drawB
@[simp] theorem frz_ints {n0 f : Nat} {h : Hv} {xs : List Int} : optAll (frz n0 h (f + 1)) (xs.map D.int) = some (xs.map D.int) := optAll_map fun _ _ => rfl
@[simp] theorem frz_bls {n0 f : Nat} {h : Hv} {xs : List Bool} : optAll (frz n0 h (f + 1)) (xs.map D.bl) = some (xs.map D.bl) := optAll_map fun _ _ => rfl
@[simp] theorem frz_strs {n0 f : Nat} {h : Hv} {xs : List Str} : optAll (frz n0 h (f + 1)) (xs.map D.str) = some (xs.map D.str) := optAll_map fun _ _ => rfl
section
open PySem.W (Datum T3 T4 Tup)
@[simp] theorem enc_i3 (a : T3 Int Int Int) : (En.enc a : D) = .tup [.int a.a, .int a.b, .int a.c] := rfl
@[simp] theorem enc_i4 (a : T4 Int Int Int Int) : (En.enc a : D) = .tup [.int a.a, .int a.b, .int a.c, .int a.d] := rfl
@[simp] theorem enc_i2 (a : Int × Int) : (En.enc a : D) = .tup [.int a.1, .int a.2] := rfl
@[simp] theorem frz_i3 {n0 f : Nat} {h : Hv} {xs : List (T3 Int Int Int)} : optAll (frz n0 h (f + 2)) (xs.map En.enc) = some (xs.map En.enc) := optAll_map fun _ _ => rfl
@[simp] theorem frz_i4 {n0 f : Nat} {h : Hv} {xs : List (T4 Int Int Int Int)} : optAll (frz n0 h (f + 2)) (xs.map En.enc) = some (xs.map En.enc) := optAll_map fun _ _ => rfl
@[simp] theorem frz_i2 {n0 f : Nat} {h : Hv} {xs : List (Int × Int)} : optAll (frz n0 h (f + 2)) (xs.map En.enc) = some (xs.map En.enc) := optAll_map fun _ _ => rfl
end
theorem bInts_lst {f : List Int → Option D} {ns : List Int} {h : Hv} : bInts f [.lst (ns.map .int)] h = match f ns with
  | some z => .ok z h
  | none => .stuck := by
  show (match (some (ns.map D.int)).bind (optAll toI) with | some ns => (match f ns with | some z => R.ok z h | none => .stuck) | none => .stuck) = _
  rw [Option.bind_some, toI_map]
@[simp] theorem bSum_lst {ns : List Int} {h : Hv} : bSum [.lst (ns.map .int)] h = .ok (.int ns.sum) h := bInts_lst
theorem bInts_cell {f : List Int → Option D} {n : Nat} {h : Hv} {ns : List Int} (e : h[n]? = some (.lst (ns.map .int))) : bInts f [.cell n] h = match f ns with
  | some z => .ok z h
  | none => .stuck := by
  show (match (lOf h (.cell n)).bind (optAll toI) with | some ns => (match f ns with | some z => R.ok z h | none => .stuck) | none => .stuck) = _
  rw [lOf_cell, e]
  simp only [Option.bind_some, toI_map]
@[simp] theorem bSum_c0 {h : Hv} {ns : List Int} : bSum [.cell 0] (.lst (ns.map .int) :: h) = .ok (.int ns.sum) (.lst (ns.map .int) :: h) := bInts_cell rfl
@[simp] theorem bSum_c1 {h : Hv} {c : Cell} {ns : List Int} : bSum [.cell 1] (c :: .lst (ns.map .int) :: h) = .ok (.int ns.sum) (c :: .lst (ns.map .int) :: h) := bInts_cell rfl
theorem bMin_lst {h : Hv} {ns : List Int} {m : Int} (q : minI ns = some m) : bMin [.lst (ns.map .int)] h = .ok (.int m) h := by
  unfold bMin
  rw [bInts_lst, q]
  rfl
theorem eqD_same {h : Hv} {x y : D} {p : PyData} (hx : toPy h 12 x = some p) (hy : toPy h 12 y = some p) : eqD h x y = some true := by
  unfold eqD
  rw [hx, hy]
  exact congrArg some (PySem.SeqAt.eqv_refl_plain p (toPy_plain _ _ _ hx).1)
@[simp] theorem toPy_ints {n : Nat} {h : Hv} {xs : List Int} : optAll (toPy h (n + 1)) (xs.map D.int) = some (xs.map PyData.int) := optAll_map fun _ _ => rfl
@[simp] theorem toPy_strs {n : Nat} {h : Hv} {xs : List Str} : optAll (toPy h (n + 1)) (xs.map D.str) = some (xs.map PyData.str) := optAll_map fun _ _ => rfl
@[simp] theorem shL_ints {n : Nat} {xs : List Int} : shL n (xs.map D.int) = xs.map D.int := by
  rw [shL_eq, List.map_map]; rfl
theorem bBools_lst {f : List Bool → Bool} {ns : List Bool} {h : Hv} : bBools f [.lst (ns.map .bl)] h = .ok (.bl (f ns)) h := by
  show (match (some (ns.map D.bl)).bind (optAll toBl) with | some ns => R.ok (D.bl (f ns)) h | none => .stuck) = _
  rw [Option.bind_some, toBl_map]
@[simp] theorem bAll_lst {ns : List Bool} {h : Hv} : bAll [.lst (ns.map .bl)] h = .ok (.bl (ns.all id)) h := bBools_lst
@[simp] theorem bAny_lst {ns : List Bool} {h : Hv} : bAny [.lst (ns.map .bl)] h = .ok (.bl (ns.any id)) h := bBools_lst
theorem mInsert_c {xs : List D} {i : Int} {d : D} (h0 : 0 ≤ i) (h1 : i < 2 ^ 63) (h2 : xs.length < 16777216) : mInsert (.cell 0) [.int i, d] [.lst xs] = .ok .non [.lst (xs.take i.toNat ++ [d] ++ xs.drop i.toNat)] := by
  show (@ite _ ((0 ≤ i ∧ i < 2 ^ 63) ∧ xs.length < 16777216) (Classical.propDecidable _) (R.ok D.non (([.lst xs] : Hv).set 0 (.lst (xs.take i.toNat ++ [d] ++ xs.drop i.toNat)))) .stuck) = _
  rw [if_pos ⟨⟨h0, h1⟩, h2⟩]
  rfl
@[simp] theorem mAppend_ap {n : Nat} {d : D} {h : Hv} : mAppend (.cell n) [d] h = (match h[n]? with
    | some (.lst xs) => if xs.length < 16777216 then .ok .non (h.set n (.lst (xs ++ [d]))) else .stuck
    | _ => .stuck) := rfl
@[simp] theorem mReverse_ap {n : Nat} {h : Hv} : mReverse (.cell n) [] h = (match h[n]? with
    | some (.lst xs) => .ok .non (h.set n (.lst xs.reverse))
    | _ => .stuck) := rfl
@[simp] theorem oCat_ap {x y : D} {h : Hv} : oCat x y h = (match kOf h x, kOf h y with
  | some xs, some ys => if xs.length + ys.length ≤ 16777216 then .ok (xs ++ ys) h else .stuck
  | _, _ => .stuck) := rfl
@[simp] theorem oRep_one {x : D} {k : Int} {h : Hv} (h0 : 0 ≤ k) (h1 : k ≤ 16777216) : oRep (.lst [x]) (.int k) h = .ok (List.replicate k.toNat x) h := by
  show (@ite _ ([x].length * k.toNat ≤ 16777216 ∧ -(2 ^ 63) ≤ k ∧ k < 2 ^ 63) (Classical.propDecidable _) (R.ok (List.replicate k.toNat [x]).flatten h) .stuck) = _
  rw [if_pos ⟨by rw [List.length_singleton]; omega, by omega, by omega⟩, ]
  congr 1
  generalize k.toNat = m
  induction m with
  | zero => rfl
  | succ m ih => rw [List.replicate_succ, List.flatten_cons, ih]; rfl
section
variable {h : Hv} {ds : List D} {d : D} {c c1 : Cell}
theorem eqD_cellL {n : Nat} (e : h[n]? = some (.lst ds)) : eqD h (.cell n) d = eqD h (.lst ds) d := by
  have e2 : toPy h 12 (.cell n) = toPy h 12 (.lst ds) := by rw [toPy_cell, e, toPy_lst]
  unfold eqD
  rw [e2]
theorem eqD_cellR {n : Nat} (e : h[n]? = some (.lst ds)) : eqD h d (.cell n) = eqD h d (.lst ds) := by
  have e2 : toPy h 12 (.cell n) = toPy h 12 (.lst ds) := by rw [toPy_cell, e, toPy_lst]
  unfold eqD
  rw [e2]
@[simp] theorem eqD_cL0 : eqD (.lst ds :: h) (.cell 0) d = eqD (.lst ds :: h) (.lst ds) d := eqD_cellL rfl
@[simp] theorem eqD_cR0 : eqD (.lst ds :: h) d (.cell 0) = eqD (.lst ds :: h) d (.lst ds) := eqD_cellR rfl
@[simp] theorem eqD_cL1 : eqD (c :: .lst ds :: h) (.cell 1) d = eqD (c :: .lst ds :: h) (.lst ds) d := eqD_cellL rfl
@[simp] theorem eqD_cR1 : eqD (c :: .lst ds :: h) d (.cell 1) = eqD (c :: .lst ds :: h) d (.lst ds) := eqD_cellR rfl
@[simp] theorem eqD_ints {xs ys : List Int} : eqD h (.lst (xs.map .int)) (.lst (ys.map .int)) = some (decide (xs = ys)) := eqD_en h xs ys
end
def gI (xs : List Int) (k : Int) : Int := xs[k.toNat]?.getD 0
theorem ix_ints {xs : List Int} {j : Int} (h0 : 0 ≤ j) (h1 : j < xs.length) : atI (xs.map D.int) j = some (.int (gI xs j)) := by
  rw [atI_map (atI_getD h0 h1), List.getD_eq_getElem?_getD]
  rfl
def sI (xs : List Int) (k v : Int) : List Int := xs.set k.toNat v
@[simp] theorem sI_len {xs : List Int} {k v : Int} : (sI xs k v).length = xs.length := List.length_set
section
variable {α : Type} {a b c d e f : α} {l : List α}
@[simp] theorem atI_0 : atI (a :: l) 0 = some a := atI_at (j := 0) (by rfl) (by rfl)
@[simp] theorem atI_1 : atI (a :: b :: l) 1 = some b := atI_at (j := 1) (by rfl) (by rfl)
@[simp] theorem atI_2 : atI (a :: b :: c :: l) 2 = some c := atI_at (j := 2) (by rfl) (by rfl)
@[simp] theorem atI_3 : atI (a :: b :: c :: d :: l) 3 = some d := atI_at (j := 3) (by rfl) (by rfl)
@[simp] theorem atI_4 : atI (a :: b :: c :: d :: e :: l) 4 = some e := atI_at (j := 4) (by rfl) (by rfl)
end
theorem drawM_eq {ns : List Int} {k m : Int} (h0 : 0 ≤ k) (h1 : k < 10 ^ 30) (hm : 0 < m) (hl : ns.length ≤ 63) : drawM [scr ns, .int k, .int m] [] = .ok (.int (drawF ns k m)) [] := by
  refine fnS_of (P := fun r => r = .ok (.int (drawF ns k m)) []) rfl ?_
  have hkk : k * k < 10 ^ 61 := by
    have := Int.mul_le_mul (show k ≤ 10 ^ 30 by omega) (show k ≤ 10 ^ 30 by omega) h0 (by decide)
    have e : (10 : Int) ^ 30 * 10 ^ 30 < 10 ^ 61 := by decide
    exact Int.lt_of_le_of_lt this e
  have hk0 : 0 ≤ k * k := Int.mul_nonneg h0 h0
  unfold drawB drawF
  by_cases q : k < ns.length
  · simp [q, ix_ints h0 q, hm, gI]
  · by_cases q2 : 0 < ns.length
    · have e1 : 0 ≤ k % (ns.length : Int) := Int.emod_nonneg _ (by omega)
      have e2 : k % (ns.length : Int) < ns.length := Int.emod_lt_of_pos _ (by omega)
      simp (disch := omega) [q, q2, hm, ix_ints e1 e2, gI]
    · simp (disch := omega) [q, q2, hm]
/-- .. called -/
theorem callP_draw {ns : List Int} {k m : Int} {h : Hv} (h0 : 0 ≤ k) (h1 : k < 10 ^ 30) (hm : 0 < m) (hl : ns.length ≤ 63) : callP drawM [scr ns, .int k, .int m] h = .ok (.int (drawF ns k m)) h := by
  refine callP_ok ?_ (drawM_eq h0 h1 hm hl)
  simp
end
end VD
set_option Elab.async false
set_option linter.all false
set_option maxRecDepth 100000
set_option maxHeartbeats 4000000
namespace VD
open PySem PySem.Spec PyProof.Rows L2
noncomputable section
def sealO (n0 : Nat) (h : Hv) (o : Option D) : Option D := o.bind (frz n0 h 12)
def sSeal (n0 : Nat) (s : SS) : SS := fun σ h => match optAll (frzC n0 h) (h.take n0) with
  | some h' => if n0 ≤ h.length then s (σ.map (sealO n0 h)) h' else .stuck
  | none => .stuck
def sBlk (f : Nat → SS) : SS := fun σ h => f h.length σ h
structure SnP (K : PySem.W.Frag) (W : WX) (ts : TS) (ss : Nat → SS) : Prop where
  run : ∀ {φ0 φ : List Addr} {S0 H0 S H : Hp} {h : Hv} {σv : VS} {σ : L2.St} {D : Ends}, Step φ0 S0 H0 φ S H → Rel K φ S H h → RelS K φ S σv σ → PostS K φ0 S0 H0 (ss φ0.length σv h) D W → ts D σ H
def QP (X : Cx) (W : WX) (st : List Stmt) (ss : Nat → SS) : Prop := ∃ t, PSs X st t ∧ SnP X.K W t ss
section
variable {X : Cx} {W : WX} {st : Stmt} {rest : List Stmt} {s1 : SS} {s2 : Nat → SS}
theorem qp_cons (h1 : QS X W st s1) (h2 : QP X W rest s2) : QP X W (st :: rest) (fun n => sSeq s1 (s2 n)) := by
  obtain ⟨t1, a1, b1⟩ := h1
  obtain ⟨t2, a2, b2⟩ := h2
  refine ⟨_, pss_cons a1 a2, ⟨fun {φ0 φ S0 H0 S H h σv σ D} st0 rl rs post => b1.run rl rs ?_⟩⟩
  unfold sSeq at post
  cases q : s1 σv h with
  | next σ' h' =>
    rw [q] at post
    exact fun σ1 φ1 S1 H1 rl1 rs1 st1 => b2.run (st0.trans st1) rl1 rs1 post
  | _ => rw [q] at post; exact PostS.up st0 post
theorem qp_seal (h2 : QB X W rest s1) : QP X W rest (fun n => sSeal n s1) := by
  obtain ⟨t2, a2, b2⟩ := h2
  refine ⟨_, a2, ⟨fun {φ0 φ S0 H0 S H h σv σ D} st0 rl rs post => ?_⟩⟩
  unfold sSeal at post
  split at post
  · next h' q =>
    split at post
    · next hn =>
      obtain ⟨s3, e3⟩ := exit_step st0 rl
      refine b2.run (exit_rel rl hn q) ?_ (PostS.up s3 post)
      refine ⟨by rw [List.length_map]; exact rs.len, fun i d hd => ?_⟩
      rw [List.getElem?_map] at hd
      cases q1 : σv[i]? with
      | none => rw [q1] at hd; cases hd
      | some o =>
        rw [q1] at hd
        cases o with
        | none => simp [sealO] at hd
        | some d0 =>
          obtain ⟨v, hv, rv⟩ := rs.at_ i d0 q1
          refine ⟨v, hv, frz_ok rl 12 d0 v d rv ?_⟩
          simpa [sealO] using hd
    · exact post.elim
  · exact post.elim
theorem qb_blk (h2 : QP X W rest s2) : QB X W rest (sBlk s2) := by
  obtain ⟨t2, a2, b2⟩ := h2
  refine ⟨_, a2, ⟨fun {φ S H h σv σ D} rl rs post => b2.run (Step.refl _ _ _) rl rs ?_⟩⟩
  unfold sBlk at post
  rw [rl.len]
  exact post
end
@[simp] theorem sBlk_ap {f : Nat → SS} {σ : VS} {h : Hv} : sBlk f σ h = f h.length σ h := rfl
@[simp] theorem sSeal_ap {n : Nat} {s : SS} {σ : VS} {h : Hv} : sSeal n s σ h = match optAll (frzC n h) (h.take n) with
  | some h' => if n ≤ h.length then s (σ.map (sealO n h)) h' else .stuck
  | none => .stuck := rfl
@[simp] theorem sSeal_0 {s : SS} {σ : VS} {h : Hv} : sSeal 0 s σ h = s (σ.map (sealO 0 h)) [] := by
  rw [sSeal_ap, List.take_zero]
  simp
@[simp] theorem sealO_none {n : Nat} {h : Hv} : sealO n h none = none := rfl
@[simp] theorem sealO_some {n : Nat} {h : Hv} {d : D} : sealO n h (some d) = frz n h 12 d := rfl
def ownA (g : Nat → D → Option (D × List Cell × List Nat)) : Nat → List D → Option (List D × List Cell × List Nat)
  | _, [] => some ([], [], [])
  | b, d :: ds => match g b d with
    | some (d', cs, ns) => (match ownA g (b + cs.length) ds with
      | some (ds', cs', ns') => some (d' :: ds', cs ++ cs', ns ++ ns')
      | none => none)
    | none => none
def ownD (h : Hv) : Nat → Nat → D → Option (D × List Cell × List Nat)
  | 0, _, _ => none
  | f + 1, b, .cell n => (match h[n]? with
    | some (.lst ds) => (match ownA (ownD h f) (b + 1) ds with
      | some (ds', cs, ns) => some (.cell b, .lst ds' :: cs, n :: ns)
      | none => none)
    | _ => none)
  | f + 1, b, .tup ds => (match ownA (ownD h f) b ds with
    | some (ds', cs, ns) => some (.tup ds', cs, ns)
    | none => none)
  | f + 1, _, d => (frz 0 [] (f + 1) d).map fun d' => (d', [], [])
def gcR : R D → R D
  | .ok d h => (match ownD h 12 0 d with
    | some (d', cs, ns) => @ite _ ns.Nodup (Classical.propDecidable _) (.ok d' cs) .stuck
    | none => .stuck)
  | .exc x h => .exc x h
  | .stuck => .stuck
def gcS (sem : List D → Hv → R D) : List D → Hv → R D := fun ds h => match h with
  | [] => gcR (sem ds [])
  | _ => .stuck
def OwnOk (K : PySem.W.Frag) (φ ψ : List Addr) (S : Hp) (h : Hv) (cs : List Cell) (ns : List Nat) : Prop := cs.length = ns.length ∧ ∀ (i n : Nat), ns[i]? = some n → ∃ c c' : Cell, h[n]? = some c ∧ cs[i]? = some c' ∧ ∀ o, RpC K φ S c o → RpC K ψ S c' o
section
variable {K : PySem.W.Frag} {φ ψ : List Addr} {S H : Hp} {h : Hv}
theorem OwnOk.append {cs cs' : List Cell} {ns ns' : List Nat} (a : OwnOk K φ ψ S h cs ns) (b : OwnOk K φ ψ S h cs' ns') : OwnOk K φ ψ S h (cs ++ cs') (ns ++ ns') := by
  refine ⟨by rw [List.length_append, List.length_append, a.1, b.1], fun i n hi => ?_⟩
  by_cases q : i < ns.length
  · rw [List.getElem?_append_left q] at hi
    obtain ⟨c, c', h1, h2, h3⟩ := a.2 i n hi
    exact ⟨c, c', h1, by rw [List.getElem?_append_left (by rw [a.1]; exact q)]; exact h2, h3⟩
  · rw [List.getElem?_append_right (by omega)] at hi
    obtain ⟨c, c', h1, h2, h3⟩ := b.2 _ n hi
    exact ⟨c, c', h1, by rw [List.getElem?_append_right (by rw [a.1]; omega), a.1]; exact h2, h3⟩
theorem ownA_ok {g : Nat → D → Option (D × List Cell × List Nat)} (hg : ∀ b d d' cs ns, g b d = some (d', cs, ns) → (∀ i n, ns[i]? = some n → ψ[b + i]? = φ[n]?) → OwnOk K φ ψ S h cs ns ∧ ∀ v, Rp K φ S v d → Rp K ψ S v d')
    (hl : ∀ b d d' cs ns, g b d = some (d', cs, ns) → cs.length = ns.length) :
    ∀ (ds : List D) b ds' cs ns, ownA g b ds = some (ds', cs, ns) → (∀ i n, ns[i]? = some n → ψ[b + i]? = φ[n]?) → OwnOk K φ ψ S h cs ns ∧ ∀ vs, RpA K φ S vs ds → RpA K ψ S vs ds'
  | [], b, ds', cs, ns, e, _ => by
    cases e
    exact ⟨⟨rfl, fun i n z => by simp at z⟩, fun vs r => by cases r; exact .nil⟩
  | d :: ds, b, ds', cs, ns, e, hp => by
    simp only [ownA] at e
    cases q1 : g b d with
    | none => rw [q1] at e; cases e
    | some p1 =>
      obtain ⟨d1, c1, n1⟩ := p1
      rw [q1] at e
      simp only at e
      cases q2 : ownA g (b + c1.length) ds with
      | none => rw [q2] at e; cases e
      | some p2 =>
        obtain ⟨d2, c2, n2⟩ := p2
        rw [q2] at e
        cases e
        have l1 := hl b d d1 c1 n1 q1
        obtain ⟨o1, r1⟩ := hg b d d1 c1 n1 q1 fun i n hi => hp i n (by rw [List.getElem?_append_left (List.getElem?_eq_some_iff.mp hi).1]; exact hi)
        obtain ⟨o2, r2⟩ := ownA_ok hg hl ds (b + c1.length) d2 c2 n2 q2 fun i n hi => by
          have := hp (n1.length + i) n (by rw [List.getElem?_append_right (by omega), Nat.add_sub_cancel_left]; exact hi)
          rw [← this, l1, Nat.add_assoc]
        exact ⟨o1.append o2, fun vs r => by
          cases r with
          | cons ra rb => exact .cons (r1 _ ra) (r2 _ rb)⟩
theorem ownA_len {g : Nat → D → Option (D × List Cell × List Nat)} (hl : ∀ b d d' cs ns, g b d = some (d', cs, ns) → cs.length = ns.length) :
    ∀ (ds : List D) b ds' cs ns, ownA g b ds = some (ds', cs, ns) → cs.length = ns.length
  | [], b, ds', cs, ns, e => by cases e; rfl
  | d :: ds, b, ds', cs, ns, e => by
    simp only [ownA] at e
    cases q1 : g b d with
    | none => rw [q1] at e; cases e
    | some p1 =>
      obtain ⟨d1, c1, n1⟩ := p1
      rw [q1] at e
      simp only at e
      cases q2 : ownA g (b + c1.length) ds with
      | none => rw [q2] at e; cases e
      | some p2 =>
        obtain ⟨d2, c2, n2⟩ := p2
        rw [q2] at e
        cases e
        rw [List.length_append, List.length_append, hl _ _ _ _ _ q1, ownA_len hl ds _ _ _ _ q2]
theorem ownD_len : ∀ (f : Nat) b d d' cs ns, ownD h f b d = some (d', cs, ns) → cs.length = ns.length := by
  intro f
  induction f with
  | zero => intro b d d' cs ns e; simp [ownD] at e
  | succ f ih =>
    intro b d d' cs ns e
    have all := ownA_len ih
    have other : ∀ d0, (frz 0 [] (f + 1) d0).map (fun d' => (d', ([] : List Cell), ([] : List Nat))) = some (d', cs, ns) → cs.length = ns.length := fun d0 e => by
      obtain ⟨_, _, z⟩ := Option.map_eq_some_iff.mp e
      cases z; rfl
    cases d with
    | cell n =>
      simp only [ownD] at e
      split at e
      · split at e
        · next ds' cs' ns' q => cases e; rw [List.length_cons, List.length_cons, all _ _ _ _ _ q]
        · cases e
      · cases e
    | tup ds =>
      simp only [ownD] at e
      split at e
      · next ds' cs' ns' q => cases e; exact all _ _ _ _ _ q
      · cases e
    | _ => exact other _ e
theorem ownD_ok : ∀ (f : Nat) b d d' cs ns, ownD h f b d = some (d', cs, ns) → (∀ i n, ns[i]? = some n → ψ[b + i]? = φ[n]?) → OwnOk K φ ψ S h cs ns ∧ ∀ v, Rp K φ S v d → Rp K ψ S v d' := by
  intro f
  induction f with
  | zero => intro b d d' cs ns e; simp [ownD] at e
  | succ f ih =>
    intro b d d' cs ns e hp
    have all := ownA_ok ih (ownD_len f)
    have other : (frz 0 [] (f + 1) d).map (fun d' => (d', ([] : List Cell), ([] : List Nat))) = some (d', cs, ns) → OwnOk K φ ψ S h cs ns ∧ ∀ v, Rp K φ S v d → Rp K ψ S v d' := fun e => by
      obtain ⟨d1, e1, z⟩ := Option.map_eq_some_iff.mp e
      cases z
      exact ⟨⟨rfl, fun i n z => by simp at z⟩, fun v r => Rp.mono ⟨ψ, rfl⟩ (Ex.refl _) (frz0_ok _ _ _ _ r e1)⟩
    cases d with
    | cell n =>
      simp only [ownD] at e
      split at e
      · next ds q1 =>
        split at e
        · next ds' cs' ns' q =>
          cases e
          obtain ⟨o1, r1⟩ := all _ _ _ _ _ q fun i m hi => by
            have := hp (i + 1) m (by rw [List.getElem?_cons_succ]; exact hi)
            rw [← this, Nat.add_assoc, Nat.add_comm 1 i]
          have h0 := hp 0 n rfl
          rw [Nat.add_zero] at h0
          refine ⟨⟨by rw [List.length_cons, List.length_cons, o1.1], fun i m hi => ?_⟩, fun v r => ?_⟩
          · cases i with
            | zero =>
              rw [List.getElem?_cons_zero] at hi
              cases Option.some.inj hi
              exact ⟨_, _, q1, rfl, fun o ⟨vs, ho, ra⟩ => ⟨vs, ho, r1 vs ra⟩⟩
            | succ i =>
              rw [List.getElem?_cons_succ] at hi ⊢
              exact o1.2 i m hi
          · cases r with
            | cell hc => exact .cell (h0.trans hc)
        · cases e
      · cases e
    | tup ds =>
      simp only [ownD] at e
      split at e
      · next ds' cs' ns' q =>
        cases e
        obtain ⟨o1, r1⟩ := all _ _ _ _ _ q hp
        exact ⟨o1, fun v r => by
          cases r with
          | tup h1 h2 => exact .tup h1 (r1 _ h2)⟩
      · cases e
    | _ => exact other e
theorem Post.gc {S0 H0 : Hp} {r : R D} {Q : VK} {E : XK} (post : Post K (repV K) [] S0 H0 (gcR r) Q E) : Post K (repV K) [] S0 H0 r Q E := by
  cases r with
  | exc x h => exact post
  | stuck => exact post
  | ok d h =>
    intro v φ S H rl st rv
    simp only [gcR] at post
    split at post
    · next d' cs ns q =>
      split at post
      · next nd =>
        have ln := ownD_len _ _ _ _ _ _ q
        have o0 := (ownD_ok (K := K) (φ := φ) (S := S) (ψ := ns.map fun n => φ[n]?.getD 0) _ _ _ _ _ _ q)
        -- all of ns are there
        have lt : ∀ n ∈ ns, n < φ.length := by
          have : ∀ (f : Nat) b d d' cs ns, ownD h f b d = some (d', cs, ns) → ∀ n ∈ ns, n < h.length := by
            intro f
            induction f with
            | zero => intro b d d' cs ns e; simp [ownD] at e
            | succ f ih =>
              have all : ∀ (ds : List D) b ds' cs ns, ownA (ownD h f) b ds = some (ds', cs, ns) → ∀ n ∈ ns, n < h.length := by
                intro ds
                induction ds with
                | nil => intro b ds' cs ns e; cases e; intro n hn; cases hn
                | cons d ds ih2 =>
                  intro b ds' cs ns e
                  simp only [ownA] at e
                  split at e
                  · next q1 =>
                    split at e
                    · next q2 =>
                      cases e
                      intro n hn
                      rcases List.mem_append.mp hn with hn | hn
                      · exact ih _ _ _ _ _ q1 n hn
                      · exact ih2 _ _ _ _ q2 n hn
                    · cases e
                  · cases e
              intro b d d' cs ns e
              have other : ∀ d0, (frz 0 [] (f + 1) d0).map (fun d' => (d', ([] : List Cell), ([] : List Nat))) = some (d', cs, ns) → ∀ n ∈ ns, n < h.length := fun d0 e => by
                obtain ⟨_, _, z⟩ := Option.map_eq_some_iff.mp e
                cases z
                intro n hn; cases hn
              cases d with
              | cell n =>
                simp only [ownD] at e
                split at e
                · next ds q1 =>
                  split at e
                  · next q =>
                    cases e
                    intro m hm
                    cases hm with
                    | head => exact (List.getElem?_eq_some_iff.mp q1).1
                    | tail _ hm => exact all _ _ _ _ _ q m hm
                  · cases e
                · cases e
              | tup ds =>
                simp only [ownD] at e
                split at e
                · next q => cases e; exact all _ _ _ _ _ q
                · cases e
              | _ => exact other _ e
          intro n hn
          rw [rl.len]
          exact this _ _ _ _ _ _ q n hn
        have at_ : ∀ i n, ns[i]? = some n → (ns.map fun n => φ[n]?.getD 0)[0 + i]? = φ[n]? := fun i n hi => by
          rw [Nat.zero_add, List.getElem?_map, hi]
          have := lt n (List.mem_of_getElem? hi)
          rw [Option.map_some, List.getElem?_eq_getElem this]; rfl
        obtain ⟨o1, r1⟩ := o0 at_
        have mem : ∀ a ∈ (ns.map fun n => φ[n]?.getD 0), a ∈ φ := fun a ha => by
          obtain ⟨n, hn, rfl⟩ := List.mem_map.mp ha
          rw [List.getElem?_eq_getElem (lt n hn)]
          exact List.getElem_mem _
        refine post v _ S H ⟨?_, rl.sub, ?_, fun i a c e1 e2 => ?_⟩ ⟨⟨_, (List.nil_append _).symm, fun a ha => ?_⟩, st.sub, st.old, st.keep, st.there, st.frz⟩ (r1 v rv)
        · rw [List.length_map, ln]
        · rw [List.nodup_iff_pairwise_ne, List.pairwise_map]
          rw [List.nodup_iff_pairwise_ne] at nd
          refine List.Pairwise.imp_of_mem (fun {x y} hx hy hne z => hne ?_) nd
          have hx2 := lt x hx
          have hy2 := lt y hy
          rw [List.getElem?_eq_getElem hx2, List.getElem?_eq_getElem hy2] at z
          exact nd_ix rl.nd (List.getElem?_eq_getElem hx2) (by rw [List.getElem?_eq_getElem hy2]; exact congrArg some z.symm)
        · have hi : i < ns.length := by
            have := (List.getElem?_eq_some_iff.mp e2).1
            omega
          have en := List.getElem?_eq_getElem hi
          obtain ⟨c0, c', h1, h2, h3⟩ := o1.2 i _ en
          rw [e2] at h2
          cases h2
          have e3 := at_ i _ en
          rw [Nat.zero_add, e1] at e3
          obtain ⟨k1, o, k2, k3⟩ := rl.cel _ a c0 e3.symm h1
          exact ⟨k1, o, k2, h3 o k3⟩
        · obtain ⟨ψ, e, hn⟩ := st.pre
          rw [List.nil_append] at e
          exact hn a (by rw [← e]; exact mem a ha)
      · exact post.elim
    · exact post.elim
end
theorem spOf_T {K : PySem.W.Frag} {sem : List D → Hv → R D} {φ : List Addr} {S H : Hp} {h : Hv} {ds : List D} {vs : List V} {Q : VK} {E : XK} (rl : Rel K φ S H h) (ra : RpA K φ S vs ds) (post : Post K (repV K) φ S H (callC (gcS sem) ds h) Q E) : spOf K sem vs H Q E := by
  unfold callC at post
  split at post
  · next ds' q =>
    refine ⟨[], S, [], ds', Rel.bare rl.sub, frzA_of (n0 := 0) (h := []) (fun d v d' r e => frz0_ok 12 d v d' r e) ds vs ds' ra q, ?_⟩
    refine Post.gc ?_
    have e : gcR (sem ds' []) = gcS sem ds' [] := rfl
    rw [e]
    split at post
    · next d h' hs =>
      rw [hs]
      intro v φ' S' H' r2 st rv
      obtain ⟨r3, s3⟩ := join_rel rl r2 st
      rw [← rl.len] at post r3
      exact post v _ _ _ r3 s3 rv.sh
    · next x hs =>
      rw [hs]
      intro cls dd φ' S' H' r2 st rx
      obtain ⟨r3, s3⟩ := join_rel rl r2 st
      have e : φ' = [] := List.length_eq_zero_iff.mp r2.len
      subst e
      rw [List.append_nil] at r3 s3
      rw [List.map_nil, List.append_nil] at r3
      refine post cls dd _ _ _ r3 s3 ⟨rx.1, ?_⟩
      have rx2 := rx.2
      cases hp : x.pay with
      | none => rw [hp] at rx2; exact rx2
      | some p =>
        rw [hp] at rx2
        obtain ⟨dx, v, e2, e3, rv⟩ := rx2
        exact ⟨dx, v, e2, e3, Rp.mono ⟨φ, rfl⟩ (Ex.refl _) rv⟩
    · exact post.elim
  · exact post.elim
theorem se_fnT {X : Cx} {W : WX} {k : Nat} {ps : List Str} {sem : List D → Hv → R D} {x : Str} {p pos : Pos} {e : Expr} {es : List Expr} {la : LS} (o : OkF X.prog X.w X.K X.mg X.base k x ps sem) (hr : Room k X.A) (tk : Takes X W) (ha : SA X W (e :: es) la)
    (hg : Gl X x := by rfl) (hdb : (x == ("__debug__" : Str)) = false := by decide) (he : starEach (e :: es) X.env = (false, eval e X.env) :: starEach es X.env := by rfl) (hpl : (backTo pos (starEach es X.env)).any (·.1) = false := by rfl) : SE X W (.Call (.Name x p) (e :: es) [] pos) (eCa (callC (gcS sem)) la) := by
  obtain ⟨fd, _, F, b, g, kp⟩ := o
  exact se_call spOf_T F hr tk g kp b ha hg hdb he hpl
/-- the end of a def that hands its objects on, with errors that bear values -/
def Rv (P : R D → Prop) (r : RS) : Prop := match r with
  | .ret d h => P (.ok d h)
  | .exc x _ h => (match x.pay with
    | none => P (.exc ⟨x.cls, none⟩ [])
    | some (f, d) => ∃ d', frz 0 h 12 d = some d' ∧ P (.exc ⟨x.cls, some (f, d')⟩ []))
  | _ => False
section
variable {P : R D → Prop} {σ : VS} {h : Hv} {d : D} {C f : Str}
@[simp] theorem Wp_rv_ret : Wp (Rv P) (.ret d h) = P (.ok d h) := Wp.eq _ _
@[simp] theorem Wp_rv_exc : Wp (Rv P) (.exc ⟨C, none⟩ σ h) = P (.exc ⟨C, none⟩ []) := by
  rw [Wp.eq, Rv]
@[simp] theorem Wp_rv_excP : Wp (Rv P) (.exc ⟨C, some (f, d)⟩ σ h) = ∃ d', frz 0 h 12 d = some d' ∧ P (.exc ⟨C, some (f, d')⟩ []) := by
  rw [Wp.eq, Rv]
@[simp] theorem Wp_rv_stuck : Wp (Rv P) .stuck = False := Wp.eq _ _
end
end
end VD
set_option Elab.async false
set_option linter.all false
set_option maxRecDepth 100000
set_option maxHeartbeats 4000000
namespace VD
open PySem PySem.Spec PyProof.Rows L2 RT
noncomputable section
def lRev (f : ES) : LS := fun σ h => (f σ h).bind fun d h1 => match lOf h1 d with
  | some xs => .ok xs.reverse h1
  | none => .stuck
@[simp] theorem lRev_ap {f : ES} {σ : VS} {h : Hv} : lRev f σ h = (f σ h).bind fun d h1 => match lOf h1 d with
  | some xs => .ok xs.reverse h1
  | none => .stuck := rfl
end
end VD
set_option Elab.async false
set_option linter.all false
set_option maxRecDepth 100000
set_option maxHeartbeats 4000000
namespace VD
open PySem PySem.Spec PyProof.Rows L2
noncomputable section
def putS (f : Str) (v : D) : List (Str × D) → List (Str × D)
  | [] => [(f, v)]
  | (g, x) :: r => if g = f then (g, v) :: r else (g, x) :: putS f v r
/-- an object's fields -/
def fldsOf (h : Hv) (C : Str) : D → Option (List (Str × D))
  | .cell n => (match h[n]? with
    | some (.ins c fs) => if c = C then some fs else none
    | _ => none)
  | .obj c ks ds => if c = C then some (ks.zip ds) else none
  | _ => none
theorem RpA.zip {K : PySem.W.Frag} {φ : List Addr} {S : Hp} : ∀ {fv : List (Str × V)} {ks : List Str} {ds : List D}, fv.map (·.1) = ks → RpA K φ S (fv.map (·.2)) ds → fv.map (·.1) = (ks.zip ds).map (·.1) ∧ RpA K φ S (fv.map (·.2)) ((ks.zip ds).map (·.2))
  | [], ks, ds, ek, ra => by
    cases ek
    cases ra
    exact ⟨rfl, .nil⟩
  | (g, v) :: fv, ks, ds, ek, ra => by
    rw [List.map_cons] at ek ra
    cases ek
    cases ra with
    | cons r t =>
      obtain ⟨h1, h2⟩ := RpA.zip (fv := fv) rfl t
      exact ⟨congrArg (List.cons g) h1, .cons r h2⟩
section
variable {X : Cx} {W : WX} {e : Expr} {fa fv : ES} {f C : Str} {pos pos' : Pos}
def eFld (C f : Str) (fa : ES) : ES := fun σ h => (fa σ h).bind fun d h1 => match (fldsOf h1 C d).bind fun fs => fs.lookup f with
  | some x => .ok x h1
  | none => .stuck
/-- e.f = value -/
def sSetFld (C f : Str) (fa fv : ES) : SS := fun σ h => (fv σ h).then σ fun y h1 => (fa σ h1).then σ fun d h2 => match d with
  | .cell n => (match h2[n]? with
    | some (.ins c fs) => if c = C ∧ fs.length < 1000 then .next σ (h2.set n (.ins c (putS f y fs))) else .stuck
    | _ => .stuck)
  | _ => .stuck
end
def eMeth (C m : Str) (sem' : List D → Hv → R D) (fa : ES) (la : LS) : ES := fun σ h => (fa σ h).bind fun d h1 => match fldsOf h1 C d with
  | some fs => if (fs.lookup m).isNone then ((la σ h1).bind fun ds h2 => sem' (d :: ds) h2) else .stuck
  | none => .stuck
end
end VD
set_option Elab.async false
set_option linter.all false
set_option maxRecDepth 100000
set_option maxHeartbeats 4000000
namespace VD
open PySem PySem.Spec PyProof.Rows L2
noncomputable section
mutual
def noC : D → Bool
  | .non => true
  | .bl _ => true
  | .int _ => true
  | .str _ => true
  | .raw _ => true
  | .lst ds => noCL ds
  | .fz ds => noCL ds
  | .tup ds => noCL ds
  | .dct _ ds => noCL ds
  | .obj _ _ ds => noCL ds
  | .cell _ => false
  | .exv _ _ _ _ => false
def noCL : List D → Bool
  | [] => true
  | d :: ds => noC d && noCL ds
end
def frzQ (n0 : Nat) (h : Hv) (d : D) : Option D := if noC d = true then some d else frz n0 h 12 d
def Rq (P : R D → Prop) (r : RS) : Prop := match r with
  | .ret d h => ∃ d', frzQ 0 h d = some d' ∧ P (.ok d' [])
  | .next _ _ => P (.ok .non [])
  | .exc x _ h => match x.pay with
    | none => P (.exc ⟨x.cls, none⟩ [])
    | some (f, d) => ∃ d', frz 0 h 12 d = some d' ∧ P (.exc ⟨x.cls, some (f, d')⟩ [])
  | _ => False
section
variable {P : R D → Prop} {σ : VS} {h : Hv} {d : D} {C f : Str} {n0 : Nat}
@[simp] theorem Wp_rq_ret : Wp (Rq P) (.ret d h) = ∃ d', frzQ 0 h d = some d' ∧ P (.ok d' []) := Wp.eq _ _
@[simp] theorem Wp_rq_next : Wp (Rq P) (.next σ h) = P (.ok .non []) := Wp.eq _ _
@[simp] theorem Wp_rq_exc : Wp (Rq P) (.exc ⟨C, none⟩ σ h) = P (.exc ⟨C, none⟩ []) := by
  rw [Wp.eq, Rq]
@[simp] theorem Wp_rq_excP : Wp (Rq P) (.exc ⟨C, some (f, d)⟩ σ h) = ∃ d', frz 0 h 12 d = some d' ∧ P (.exc ⟨C, some (f, d')⟩ []) := by
  rw [Wp.eq, Rq]
@[simp] theorem Wp_rq_stuck : Wp (Rq P) .stuck = False := Wp.eq _ _
@[simp] theorem frzQ_non : frzQ n0 h .non = some .non := rfl
@[simp] theorem frzQ_bl {b : Bool} : frzQ n0 h (.bl b) = some (.bl b) := rfl
@[simp] theorem frzQ_int {i : Int} : frzQ n0 h (.int i) = some (.int i) := rfl
@[simp] theorem frzQ_str {x : Str} : frzQ n0 h (.str x) = some (.str x) := rfl
@[simp] theorem frzQ_cell {n : Nat} : frzQ n0 h (.cell n) = frz n0 h 12 (.cell n) := rfl
end
end
end VD
set_option Elab.async false
set_option linter.all false
set_option maxRecDepth 100000
set_option maxHeartbeats 4000000
namespace VD
open PySem PySem.Spec PyProof.Rows L2
noncomputable section
/-- what the clauses make of an error -/
def hdsR (tb : Str → Str → Option Bool) (i : Nat) : List (Str × (Xn → Addr → Addr → SS)) → Xn → VS → Hv → RS
  | [], x, σ, h => .exc x σ h
  | (y, den) :: r, x, σ, h => match tb x.cls y with
    | some true => tryA i x.pay (den x) σ h
    | some false => hdsR tb i r x σ h
    | none => .stuck
def sTryMs (tb : Str → Str → Option Bool) (i : Nat) (l : List (Str × (Xn → Addr → Addr → SS))) (body : SS) : SS := fun σ h => match body σ h with
  | .exc x σ' h' => hdsR tb i l x σ' h'
  | r => r
def Tm (Q : RS → Prop) (tb : Str → Str → Option Bool) (i : Nat) (l : List (Str × (Xn → Addr → Addr → SS))) (r : RS) : Prop := match r with
  | .exc x σ h => Wp Q (hdsR tb i l x σ h)
  | r => Wp Q r
section
variable {Q : RS → Prop} {tb : Str → Str → Option Bool} {y : Str} {i : Nat} {l : List (Str × (Xn → Addr → Addr → SS))} {suite : Xn → Addr → Addr → SS} {body : SS} {σ : VS} {h : Hv} {x : Xn} {d : D} {r : RS}
@[simp] theorem Wp_tryms : Wp Q (sTryMs tb i l body σ h) = Wp (Tm Q tb i l) (body σ h) := by
  unfold sTryMs
  cases body σ h <;> (rw [Wp.eq (Tm Q tb i l)]; rfl)
@[simp] theorem Wp_tm_next : Wp (Tm Q tb i l) (.next σ h) = Wp Q (.next σ h) := Wp.eq _ _
@[simp] theorem Wp_tm_ret : Wp (Tm Q tb i l) (.ret d h) = Wp Q (.ret d h) := Wp.eq _ _
@[simp] theorem Wp_tm_brk : Wp (Tm Q tb i l) (.brk σ h) = Wp Q (.brk σ h) := Wp.eq _ _
@[simp] theorem Wp_tm_cont : Wp (Tm Q tb i l) (.cont σ h) = Wp Q (.cont σ h) := Wp.eq _ _
@[simp] theorem Wp_tm_stuck : Wp (Tm Q tb i l) .stuck = Wp Q .stuck := Wp.eq _ _
@[simp] theorem Wp_tm_exc : Wp (Tm Q tb i l) (.exc x σ h) = Wp Q (hdsR tb i l x σ h) := Wp.eq _ _
@[simp] theorem hdsR_nil {x : Xn} : hdsR tb i [] x σ h = .exc x σ h := rfl
end
end
end VD
set_option Elab.async false
set_option linter.all false
set_option maxRecDepth 100000
set_option maxHeartbeats 4000000
namespace VD
open PySem PySem.Spec PyProof.Rows L2
noncomputable section
section
variable {prog : Program} {w : World} {A : Around} {E : Value → Shared → Prop} {s : Shared}
abbrev o0 (z : Bool) : Obj := { cls := .type "set", dict := none, data := .set #[] 0 (.fresh 0 0 z) }
end
end
end VD
set_option Elab.async false
set_option linter.all false
set_option maxRecDepth 100000
set_option maxHeartbeats 4000000
namespace VD
open PySem PySem.Spec PyProof.Rows L2
noncomputable section
section
variable {X : Cx} {K : PySem.W.Frag}
/-- a pair with a key ahead -/
def pairD : D → Option (Key × D)
  | .tup [k, d] => (keyOf k).map fun k => (k, d)
  | _ => none
end
end
end VD
set_option Elab.async false
set_option linter.all false
set_option maxRecDepth 100000
set_option maxHeartbeats 4000000
namespace VD
open PySem PySem.Spec PyProof.Rows L2
noncomputable section
def mPop : D → List D → Hv → R D := fun x ds h => match x, ds with
  | .cell n, [] => (match h[n]? with
    | some (.lst xs) => (match xs[xs.length - 1]? with
      | some y => .ok y (h.set n (.lst xs.dropLast))
      | none => .stuck)
    | _ => .stuck)
  | _, _ => .stuck
def mClear : D → List D → Hv → R D := fun x ds h => match x, ds with
  | .cell n, [] => (match h[n]? with
    | some (.lst xs) => .ok .non (h.set n (.lst []))
    | _ => .stuck)
  | _, _ => .stuck
theorem ms_clear {K : PySem.W.Frag} : MtS K rClear mClear := by
  intro φ S H h x v ds vs Q E rl rx ra post
  unfold mClear at post
  split at post
  · next n =>
    split at post
    · next xs hx =>
      obtain ⟨a, ws, rfl, hn, ho, rw_⟩ := rl.cell rx hx
      cases ra
      obtain ⟨r2, s2⟩ := rl.put hn (c := .lst []) (o := .lst []) ⟨_, rfl, .nil⟩ ho
      exact ⟨a, ws, rfl, rfl, ho, post _ φ S _ r2 s2 .non⟩
    · exact post.elim
  · exact post.elim
@[simp] theorem mPop_ap {n : Nat} {h : Hv} : mPop (.cell n) [] h = (match h[n]? with
  | some (.lst xs) => (match xs[xs.length - 1]? with
    | some y => .ok y (h.set n (.lst xs.dropLast))
    | none => .stuck)
  | _ => .stuck) := rfl
@[simp] theorem mClear_ap {n : Nat} {h : Hv} : mClear (.cell n) [] h = (match h[n]? with
  | some (.lst xs) => .ok .non (h.set n (.lst []))
  | _ => .stuck) := rfl
def Ri (P : R D → Prop) (n0 : Nat) (r : RS) : Prop := match r with
  | .ret d h => P (.ok d h)
  | .next _ h => P (.ok .non h)
  | .exc x _ h => P (exitX n0 x h)
  | _ => False
def Rm (P : R D → Prop) (n0 : Nat) (r : RS) : Prop := match r with
  | .ret d h => P (.ok d h)
  | .exc x _ h => P (exitX n0 x h)
  | _ => False
section
variable {P : R D → Prop} {n0 : Nat} {σ : VS} {h : Hv} {d : D} {x : Xn}
@[simp] theorem Wp_ri_ret : Wp (Ri P n0) (.ret d h) = P (.ok d h) := Wp.eq _ _
@[simp] theorem Wp_ri_next : Wp (Ri P n0) (.next σ h) = P (.ok .non h) := Wp.eq _ _
@[simp] theorem Wp_ri_exc : Wp (Ri P n0) (.exc x σ h) = P (exitX n0 x h) := Wp.eq _ _
@[simp] theorem Wp_ri_stuck : Wp (Ri P n0) .stuck = False := Wp.eq _ _
@[simp] theorem Wp_rm_ret : Wp (Rm P n0) (.ret d h) = P (.ok d h) := Wp.eq _ _
@[simp] theorem Wp_rm_exc : Wp (Rm P n0) (.exc x σ h) = P (exitX n0 x h) := Wp.eq _ _
@[simp] theorem Wp_rm_stuck : Wp (Rm P n0) .stuck = False := Wp.eq _ _
end
@[simp] theorem callM_ap {sem : List D → Hv → R D} {ds : List D} {h : Hv} : callM sem ds h = sem ds h := rfl
@[simp] theorem eMeth_ap {C m : Str} {sem' : List D → Hv → R D} {fa : ES} {la : LS} {σ : VS} {h : Hv} : eMeth C m sem' fa la σ h = (fa σ h).bind fun d h1 => (match fldsOf h1 C d with
  | some fs => if (fs.lookup m).isNone then ((la σ h1).bind fun ds h2 => sem' (d :: ds) h2) else .stuck
  | none => .stuck) := rfl
@[simp] theorem eFld_ap {C f : Str} {fa : ES} {σ : VS} {h : Hv} : eFld C f fa σ h = (fa σ h).bind fun d h1 => (match (fldsOf h1 C d).bind fun fs => fs.lookup f with
  | some x => .ok x h1
  | none => .stuck) := rfl
def kSF (C f : Str) (fa : ES) (σ : VS) (y : D) (h1 : Hv) : RS := (fa σ h1).then σ fun d h2 => (match d with
  | .cell n => (match h2[n]? with
    | some (.ins c fs) => if c = C ∧ fs.length < 1000 then .next σ (h2.set n (.ins c (putS f y fs))) else .stuck
    | _ => .stuck)
  | _ => .stuck)
@[simp] theorem sSetFld_ap {C f : Str} {fa fv : ES} {σ : VS} {h : Hv} : sSetFld C f fa fv σ h = (fv σ h).then σ (kSF C f fa σ) := rfl
@[simp] theorem kSF_ap {C f : Str} {fa : ES} {σ : VS} {y : D} {h1 : Hv} : kSF C f fa σ y h1 = (fa σ h1).then σ fun d h2 => (match d with
  | .cell n => (match h2[n]? with
    | some (.ins c fs) => if c = C ∧ fs.length < 1000 then RS.next σ (h2.set n (.ins c (putS f y fs))) else .stuck
    | _ => .stuck)
  | _ => .stuck) := rfl
@[simp] theorem fldsOf_cell {h : Hv} {C : Str} {n : Nat} : fldsOf h C (.cell n) = (match h[n]? with
  | some (.ins c fs) => if c = C then some fs else none
  | _ => none) := rfl
end
end VD
set_option Elab.async false
set_option linter.all false
set_option maxRecDepth 100000
set_option maxHeartbeats 4000000
namespace VD
open PySem PySem.Spec PyProof.Rows L2
end VD
set_option Elab.async false
set_option linter.all false
set_option maxRecDepth 100000
set_option maxHeartbeats 4000000
namespace VD
open PySem PySem.Spec PyProof.Rows L2
noncomputable section
def iZT (g : LS) : IS := fun σ h => (g σ h).bind fun ds h1 => match ds with
  | [.tup xs, .tup ys] => .ok (zipD xs ys, always) h1
  | _ => .stuck
@[simp] theorem iZT_ap {g : LS} {σ : VS} {h : Hv} : iZT g σ h = (g σ h).bind fun ds h1 => (match ds with
  | [.tup xs, .tup ys] => VD.R.ok (zipD xs ys, always) h1
  | _ => .stuck) := rfl
end
end VD
set_option Elab.async false
set_option linter.all false
set_option maxRecDepth 100000
set_option maxHeartbeats 4000000
namespace VD
open PySem PySem.Spec PyProof.Rows L2
noncomputable section
section
variable {K : PySem.W.Frag}
def bMin3 : List D → Hv → R D := fun ds h => match ds with
  | [.int i, .int j, .int k] => .ok (.int (if k < (if j < i then j else i) then k else (if j < i then j else i))) h
  | _ => .stuck
def bMax3 : List D → Hv → R D := fun ds h => match ds with
  | [.int i, .int j, .int k] => .ok (.int (if (if i < j then j else i) < k then k else (if i < j then j else i))) h
  | _ => .stuck
@[simp] theorem bMin3_int {i j k : Int} {h : Hv} : bMin3 [.int i, .int j, .int k] h = .ok (.int (if k < (if j < i then j else i) then k else (if j < i then j else i))) h := rfl
@[simp] theorem bMax3_int {i j k : Int} {h : Hv} : bMax3 [.int i, .int j, .int k] h = .ok (.int (if (if i < j then j else i) < k then k else (if i < j then j else i))) h := rfl
end
section
variable {prog : Program} {w : World} {A : Around} {E : Value → Shared → Prop} {s : Shared}
abbrev oS (w : World) : Obj := { cls := .type "set", dict := none, data := .set #[] 0 (.fresh 0 0 (!w.params.followText "set-order")) }
theorem call_setI {l : Addr} {items : Array Value} (ns : List Int) {Q : Value → Shared → Prop} (nh : A.handled = none) (il : s.heap.IsList l items) (ik : IntsAre items.toList ns) (few : ns.length + 1 < scanBound)
    (q : ∀ (h2 : Heap) (tk c : Nat), SetR w h2 s.heap.objs.size (fun j => decide (j ∈ ns)) c → c ≤ ns.length → (∀ b o, s.heap.get? b = some o → h2.get? b = some o) → Q (.ref s.heap.objs.size) { s with heap := h2, toks := tk }) :
    wpAny (model prog w) A (call (.type "set") [.ref l]) Q E s := by
  have lk : items.size = ns.length := by
    have z := IntsAre.length ik
    rw [Array.length_toList] at z; exact z
  obtain ⟨c, tl, hmro⟩ := PySem.F.called_set.mro; have hmade := PySem.F.called_set.made
  have hsub := PySem.F.called_set.sub; refine wpAny_call (codeAny_of_tree ?_)
  show wpAny _ _ (callAny (.type "set") _) _ _ _; refine wpAny_pure ⟨Code.quiet_builtin _ (by decide +kernel), codeAny_builtin PySem.F.entry_type_call ?_⟩
  rw [Around.under_plain (weight_type_call_type "set" [.ref l] []) rfl]; have h1 := PySem.F.called_set.notType
  have h2 := PySem.F.called_set.canCreate; have hct := PySem.F.typeCall_set_1 (.ref l)
  repeat (any_goals (first | assumption | wp_step))
  refine codeAny_mono (code_set_led1 (.ref l) (E := E) (Q₁ := fun v z => v = .ref s.heap.objs.size ∧ z = { s with heap := s.heap.push (oS w) }) ⟨rfl, rfl⟩) fun r z hr => ?_
  cases r with
  | error e => exact hr
  | ok fl =>
    cases fl with
    | ret v =>
      obtain ⟨rfl, rfl⟩ := hr
      have gs : (s.heap.push (oS w)).get? s.heap.objs.size = some (oS w) := Heap.get?_push_size _ rfl
      have ts : Shared.TypeIs { s with heap := s.heap.push (oS w) } (.ref s.heap.objs.size) "set" := ⟨_, gs, rfl⟩
      have hli := PySem.F.called_set.init.lookup; have hbi := PySem.F.called_set.init.bind (.ref s.heap.objs.size)
      repeat (any_goals (first | assumption | wp_step))
      refine codeAny_mono (codeAny_call_builtin (R := wants (fun r z2 => r = .none ∧ ∃ h2 tk c, z2 = { s with heap := h2, toks := tk } ∧ SetR w h2 s.heap.objs.size (fun j => decide (j ∈ ns)) c ∧ c ≤ ns.length ∧ (∀ b o, s.heap.get? b = some o → h2.get? b = some o)) E) PySem.F.called_set.init.plain PySem.F.entry_set_init (check_set_init_1 ts ?_)) fun r₂ z2 hr₂ => ?_
      · obtain ⟨ol, hol, hcl, nl, hdl⟩ := il
        obtain ⟨xcls, xdict, xdata, xslots⟩ := ol
        simp only at hcl hdl
        subst hcl; subst hdl
        have hol' : (s.heap.push (oS w)).get? l = some { cls := .type "list", dict := xdict, data := .seq items nl, slots := xslots } := Heap.get?_push_of_some _ hol
        have hsls := PySem.F.sub_list_set; have hslf := PySem.F.sub_list_frozenset
        have ndc : (Value.type "list" == Value.type "dict") = false := by decide
        have hl1 : (s.heap.push (oS w)).IsList l items := ⟨_, hol', rfl, nl, rfl⟩
        unfold Builtin.«set.__init__» noKeywords Builtin.Frozenset.updateFrom
        generalize hPI : pyIter = PI
        wp_walk
        subst hPI
        refine wpAny_pyIter_list hl1 ?_
        refine wpAny_bind (wpAny_runValue ?_)
        have ls : l < s.heap.objs.size := Heap.lt_size hol
        have nh3 : A.in1.in1.in1.handled = none := by simp [nh]
        have ni : l ≠ (s.heap.push (oS w)).objs.size := by rw [Heap.size_push]; exact Nat.ne_of_lt (Nat.lt_succ_of_lt ls)
        have nf : s.heap.objs.size ∉ [(s.heap.push (oS w)).objs.size, l] := by
          rw [Heap.size_push]; simp only [List.mem_cons, List.mem_singleton, List.not_mem_nil, or_false, not_or]; exact ⟨Nat.ne_of_lt (Nat.lt_succ_self _), Nat.ne_of_gt ls⟩
        have vk : ∀ (i : Nat) (v : Value), items[i]? = some v → ∃ k t, ns[i]? = some k ∧ v = .int k t := fun i v hv => by
          have hi : i < ns.length := by rw [← lk]; exact (Array.getElem?_eq_some_iff.mp hv).1
          obtain ⟨t, e⟩ := PyProof.Rows.IntsAre.int_at ik i v (by rw [Array.getElem?_toList]; exact hv)
          refine ⟨ns[i], t, List.getElem?_eq_getElem hi, ?_⟩
          rw [e, List.getD_eq_getElem?_getD, List.getElem?_eq_getElem hi] <;> rfl
        refine set_update_ints ((Walks.list nh3 _ l ni items).toS) s.heap.objs.size nf ns lk few vk (items.size - 0) 0 _ (by omega) (Nat.zero_le _) ⟨⟨_, Heap.get?_push_size _ rfl, rfl, rfl⟩, (hl1.push _)⟩ ⟨0, Nat.le_refl _, setR_new_at (Heap.get?_push_of_some _ gs)⟩ ?s1
        case s1 =>
          intro z3 c3 mv hc3 s3
          obtain ⟨y1, y2, y3, y4, y5⟩ := z3
          have eg : y2 = s.gens := mv.gens
          have ed : y3 = s.drawn := mv.drawn
          have eo : y5 = s.os := mv.os
          subst eg; subst ed; subst eo
          show wpAny _ _ _ _ _ _
          refine wpAny_pure ?_
          show wpAny _ _ (ret Value.none) _ _ _
          refine wpAny_pure ⟨rfl, y1, y4, c3, rfl, s3, by omega, fun b o e => ?_⟩
          have hb := Heap.lt_size e
          have g1 : b ≠ s.heap.objs.size := Nat.ne_of_lt hb
          have g2 : b ≠ (s.heap.push (oS w)).objs.size := by rw [Heap.size_push]; exact Nat.ne_of_lt (Nat.lt_succ_of_lt hb)
          exact mv.heap b o (by simp only [List.mem_cons, List.mem_singleton, List.not_mem_nil, or_false, not_or]; exact ⟨g1, g2⟩) (Heap.get?_push_of_some _ (Heap.get?_push_of_some _ e))
      · cases r₂ with
        | error e => exact hr₂
        | ok fl₂ =>
          cases fl₂ with
          | ret r =>
            obtain ⟨rfl, y1, tk, c3, rfl, s3, hc3, k3⟩ := hr₂
            repeat (any_goals (first | assumption | wp_step))
            exact q _ _ _ s3 hc3 k3
          | _ => exact hr₂.elim
    | _ => exact hr.elim
/-- sorted(a set of whole numbers), any number of them -/
theorem sorted_setI {a : Addr} {S : Int → Bool} {n : Nat} {Q : Value → Shared → Prop} (m : SetR w s.heap a S n) (nh : A.handled = none)
    (q : ∀ z p (out : Array Value) (c : Nat) (ns : List Int), (∀ b o, s.heap.get? b = some o → z.heap.get? b = some o) → z.gens = s.gens → z.os = s.os → s.heap.objs.size ≤ p →
      z.heap.get? p = some (seqObj "list" out c) → IntsAre out.toList ns → ns.Pairwise (· < ·) → (∀ k, k ∈ ns ↔ S k = true) → ns.length = n → Q (.ref p) z) :
    wpAny (model prog w) A (call (.builtin "sorted") [.ref a]) Q E s := by
  obtain ⟨o, es, ep, t, ho, hex, hd, g, nd, hm, hb, hf, hn, hr, hl⟩ := m
  refine Calls.call_function_entry kind_sorted plain_sorted entry_sorted (args_sorted1 _) ?_
  unfold Builtin.«sorted»; refine wpAny_bind (m := checkCount "sorted" 1 1 _) (wpAny_pure ?_)
  refine wpAny_bind (collect_set (A := A.in1) nh ⟨o, ho, hex.1, hd⟩ hf hb hr hl fun z1 vs k1 hz g1 o1 pm => ?_)
  have lv : vs.length = n := by rw [pm.length_eq, List.length_map, Array.length_toList]; exact hn
  have iv : IntsAre vs (vs.map Builtin.Re.reRawOf) := ints_of vs fun v hv => by
    obtain ⟨e, he, ee⟩ := List.mem_map.mp (pm.mem_iff.mp hv)
    obtain ⟨k, tk, x1, _⟩ := g e he
    exact ⟨k, tk, by rw [← ee]; exact x1⟩
  have pk : (vs.map Builtin.Re.reRawOf).Perm (es.toList.map L2.keyOf) := by
    have z := pm.map Builtin.Re.reRawOf
    rw [List.map_map] at z; exact z
  have big : vs.length ≤ sizeLine := by rw [lv, ← hn, sizeLine_eq]; unfold scanBound at hb; omega
  refine wpAny_bind (wpAny_newList ?_ big)
  have oL : (z1.heap.push (seqObj "list" vs.toArray 0)).get? z1.heap.objs.size = some (seqObj "list" vs.toArray 0) := Heap.get?_push_size _ rfl
  refine wpAny_bind (wpAny_holding (wpAny_call_entry slot_list_sort ⟨_, oL, rfl⟩ entry_list_sort (SrtO.list_sort_ord SrtO.swo_int oL big (fun x2 => SrtO.ints_sortable iv x2) fun out x1 x2 => ⟨_, rfl, ?_⟩) (args_list_sort _)))
  obtain ⟨a1, a2, a3⟩ := SrtO.ints_out iv x1 x2
  obtain ⟨c, hc⟩ := sortedHeap_at (vs := vs) (out := out.toArray) oL
  have pn : (out.map SrtO.iv).Perm (es.toList.map L2.keyOf) := a2.trans pk
  refine wpAny_pure ⟨_, rfl, q _ z1.heap.objs.size out.toArray c (out.map SrtO.iv) (fun b u e => ?_) g1 o1 hz hc (by simpa using a1) (lt_of_le_nodup _ a3 (pn.nodup_iff.mpr nd)) (fun k => by rw [pn.mem_iff, ← hm k]) ?_⟩
  · have z := k1 b u e
    have lt := Heap.lt_size z
    show (sortedHeap (z1.heap.push (seqObj "list" vs.toArray 0)) z1.heap.objs.size vs out.toArray).get? b = some u
    rw [sortedHeap_old (Nat.ne_of_lt lt) (by rw [size_push']; exact Nat.lt_succ_of_lt lt)]
    exact Heap.get?_push_of_some _ z
  · rw [a2.length_eq, List.length_map]; exact lv
end
def insU (x : Int) : List Int → List Int
  | [] => [x]
  | y :: l => if x < y then x :: y :: l else if x = y then y :: l else y :: insU x l
def setI : List Int → List Int
  | [] => []
  | x :: l => insU x (setI l)
theorem insU_mem {x k : Int} : ∀ {l : List Int}, k ∈ insU x l ↔ k = x ∨ k ∈ l
  | [] => by simp [insU]
  | y :: l => by
    unfold insU
    split
    · simp
    · split
      · next e => subst e; simp
      · simp only [List.mem_cons, insU_mem (l := l)]
        constructor
        · rintro (h | h | h) <;> simp [h]
        · rintro (h | h | h) <;> simp [h]
theorem insU_up {x : Int} : ∀ {l : List Int}, l.Pairwise (· < ·) → (insU x l).Pairwise (· < ·)
  | [], _ => by simp [insU]
  | y :: l, h => by
    obtain ⟨h1, h2⟩ := List.pairwise_cons.mp h
    unfold insU
    split
    · next q =>
      refine List.pairwise_cons.mpr ⟨fun z hz => ?_, h⟩
      rcases List.mem_cons.mp hz with rfl | hz
      · exact q
      · have := h1 z hz; omega
    · split
      · exact h
      · next q q2 =>
        refine List.pairwise_cons.mpr ⟨fun z hz => ?_, insU_up h2⟩
        rcases insU_mem.mp hz with rfl | hz
        · omega
        · exact h1 z hz
theorem setI_mem {k : Int} : ∀ {l : List Int}, k ∈ setI l ↔ k ∈ l
  | [] => by simp [setI]
  | x :: l => by rw [setI, insU_mem, setI_mem]; simp
theorem setI_up : ∀ l : List Int, (setI l).Pairwise (· < ·)
  | [] => List.Pairwise.nil
  | x :: l => insU_up (setI_up l)
theorem up_one : ∀ {a b : List Int}, a.Pairwise (· < ·) → b.Pairwise (· < ·) → (∀ k, k ∈ a ↔ k ∈ b) → a = b
  | [], [], _, _, _ => rfl
  | [], y :: b, _, _, h => absurd ((h y).mpr List.mem_cons_self) (by simp)
  | x :: a, [], _, _, h => absurd ((h x).mp List.mem_cons_self) (by simp)
  | x :: a, y :: b, h1, h2, h => by
    obtain ⟨a1, a2⟩ := List.pairwise_cons.mp h1
    obtain ⟨b1, b2⟩ := List.pairwise_cons.mp h2
    have e : x = y := by
      rcases List.mem_cons.mp ((h x).mp List.mem_cons_self) with z | z
      · exact z
      · rcases List.mem_cons.mp ((h y).mpr List.mem_cons_self) with z2 | z2
        · exact z2.symm
        · have := b1 x z
          have := a1 y z2
          omega
    subst e
    rw [up_one a2 b2 fun k => ?_]
    constructor
    · intro hk
      rcases List.mem_cons.mp ((h k).mp (List.mem_cons_of_mem _ hk)) with z | z
      · subst z; have := a1 _ hk; omega
      · exact z
    · intro hk
      rcases List.mem_cons.mp ((h k).mpr (List.mem_cons_of_mem _ hk)) with z | z
      · subst z; have := b1 _ hk; omega
      · exact z
theorem setI_id {l : List Int} : setI l = l ↔ l.Pairwise (· < ·) := by
  constructor
  · intro e; rw [← e]; exact setI_up l
  · intro h; exact up_one (setI_up l) h fun k => setI_mem
section
variable {X : Cx} {K : PySem.W.Frag}
def SetJ (w : World) (a : Addr) (ns : List Int) : HO := .ext fun h => ∃ c, SetR w h a (fun j => decide (j ∈ ns)) c ∧ c ≤ ns.length
theorem setJ_ok {w : World} {P : Program} {H : Hp} {h : Heap} {a : Addr} {ns : List Int} {c : Nat} (m : SetR w h a (fun j => decide (j ∈ ns)) c) (hc : c ≤ ns.length) : ObjOk P w H h a (SetJ w a ns) := by
  have ⟨o, _, _, _, ho, _⟩ := m
  exact ⟨⟨c, m, hc⟩, ⟨o, ho⟩, fun h1 h2 ⟨c, p, pc⟩ k => ⟨c, SetR.at p k, pc⟩⟩
def rSetJ (K : PySem.W.Frag) (w : World) : List V → Hp → VK → Prop := fun xs H Q => ∃ (l : Addr) (ns : List Int), xs = [V.ref l] ∧ SqL K H l (ns.map V.int) ∧ ns.length < 4000 ∧ ∀ p, H p = none → Q (.ref p) (upd H p (SetJ w p ns))
theorem cr_setJ (hc : X.calm = true) : CallR X (.type "set") (rSetJ X.K X.w) := by
  intro pins s σ H xs us Q I r h
  obtain ⟨l, ns, rfl, hl, few, q⟩ := h
  rw [Vals.ref1 r]
  obtain ⟨its, rv, pl, hz⟩ := I.list hl
  have hn : H s.heap.objs.size = none := I.hok.fresh (Nat.le_refl _)
  refine call_setI (prog := X.prog) (w := X.w) ns (I.ok.hd hc) pl.isList (by simpa using rv.ints) (by unfold scanBound; omega) fun h' tk c m hcl k => ?_
  exact ⟨.ref s.heap.objs.size, upd H s.heap.objs.size (SetJ X.w s.heap.objs.size ns), I.laid (t' := tk) (fun b u e => k b u e) (Nat.le_refl _) (setJ_ok m hcl), rfl, q _ hn⟩
def rSortJ (w : World) : List V → Hp → VK → Prop := fun vs H Q => ∃ (a : Addr) (ns : List Int), vs = [V.ref a] ∧ H a = some (SetJ w a ns) ∧ ns.length < 4000 ∧ ∀ (p : Addr), H p = none → Q (.ref p) (upd H p (.lst ((setI ns).map V.int)))
theorem cr_sortJ (hc : X.calm = true) : CallR X (.builtin "sorted") (rSortJ X.w) := by
  intro pins s σ H vs us Q I r h
  obtain ⟨a, ns, rfl, ha, few, q⟩ := h
  obtain ⟨c, m, hcl⟩ := (I.hok a _ ha).1
  rw [Vals.ref1 r]
  refine sorted_setI m (I.ok.hd hc) fun s' p out cc ms k g o hp hg hi hs hm hl => ?_
  have em : ms = setI ns := up_one hs (setI_up ns) fun k => by rw [hm k, decide_eq_true_iff, setI_mem]
  have hlen : (ms.map V.int).length ≤ sizeLine := by rw [List.length_map, hl, sizeLine_eq]; omega
  have hn : H p = none := I.hok.fresh hp
  have J : Inv X pins σ (upd H p (.lst (ms.map V.int))) { s with heap := s'.heap, gens := s'.gens, drawn := s'.drawn, toks := s'.toks } :=
    I.call (ch := []) (Un.laid k hp hn) (I.hok.laid k hp ⟨hlen, out.toList, cc, vals_of_ints hi, hg⟩) (by rw [g]; exact I.bare) (fun _ z => nomatch z)
  have e : s' = { s with heap := s'.heap, gens := s'.gens, drawn := s'.drawn, toks := s'.toks } := by cases s'; cases s; cases o; rfl
  rw [e]
  rw [em] at J
  exact ⟨.ref p, _, J, rfl, q p hn⟩
def bSortSet : List D → Hv → R (List D) := fun ds h => match ds with
  | [d] => (match (lOf h d).bind (optAll toI) with
    | some ns => if ns.length < 4000 then .ok ((setI ns).map .int) h else .stuck
    | none => .stuck)
  | _ => .stuck
def rSS (K : PySem.W.Frag) (w : World) (t : TA) : TE := tCB (rSortJ w) (tCons (tCB (rSetJ K w) t) tNil)
theorem sn_sortset {w : World} {W : WX} {t : TA} {la : LS} (h2 : Sn K (repA K) W t la) : Sn K (repL K) W (rSS K w t) (eCa bSortSet la) := ⟨fun rl rs post => h2.bind rl rs post fun ds h1 vs φ1 S1 H1 rl1 rs1 st rp post => by
  unfold bSortSet at post
  split at post
  · next d =>
    obtain ⟨v, rfl, r⟩ := rp.one
    split at post
    · next ns hn =>
      obtain ⟨xs, q1, q2⟩ := Option.bind_eq_some_iff.mp hn
      split at post
      · next few =>
        obtain ⟨a, us, rfl, h3, h4⟩ := lOf_ok rl1 r q1
        rw [toIs_ok h4 q2] at h3
        refine ⟨a, ns, rfl, h3, few, fun p hp => ?_⟩
        obtain ⟨r2, s2⟩ := rl1.hold (o := SetJ w p ns) hp
        refine ⟨p, ns, rfl, upd_same, few, fun p2 hp2 => ?_⟩
        obtain ⟨r3, s3⟩ := r2.hold (o := .lst ((setI ns).map V.int)) hp2
        have old : H1 p2 = none := s2.fresh hp2
        exact post _ φ1 _ _ r3 (s2.trans s3) ⟨p2, _, rfl, old, upd_same, rl1.snone old, rl1.notin old, .of_ints _⟩
      · exact post.elim
    · exact post.elim
  · exact post.elim⟩
end
section
variable {X : Cx} {W : WX} {e : Expr} {p pos p2 pos2 : Pos} {la : LS}
theorem sl_sortset (hc : X.calm = true) (n1 : X.mg "sorted" = none) (n2 : X.mg "set" = none) (ha : SA X W [e] la) (hg : Gl X "sorted" := by rfl) (hg2 : Gl X "set" := by rfl)
    (he : starEach [.Call (.Name "set" p2) [e] [] pos2] X.env = (false, eval (.Call (.Name "set" p2) [e] [] pos2) X.env) :: starEach [] X.env := by rfl) (hpl : (backTo pos (starEach [] X.env)).any (·.1) = false := by rfl)
    (he2 : starEach [e] X.env = (false, eval e X.env) :: starEach [] X.env := by rfl) (hpl2 : (backTo pos2 (starEach [] X.env)).any (·.1) = false := by rfl) : SL X W (.Call (.Name "sorted" p) [.Call (.Name "set" p2) [e] [] pos2] [] pos) (eCa bSortSet la) := by
  obtain ⟨ta, h1, h2⟩ := ha
  exact ⟨_, pe_callB (cr_sortJ hc) hg n1 rfl (pa_cons (pe_callTy (cr_setJ hc) hg2 n2 rfl h1 (by decide) (by decide) he2 hpl2) pa_nil) (by decide) (by decide) he hpl, sn_sortset h2⟩
end
@[simp] theorem bSortSet_ints {ns : List Int} {h : Hv} (hl : ns.length < 4000) : bSortSet [.lst (ns.map .int)] h = .ok ((setI ns).map .int) h := by
  show (match (lOf h (.lst (ns.map .int))).bind (optAll toI) with
    | some ns => if ns.length < 4000 then R.ok ((setI ns).map D.int) h else .stuck
    | none => .stuck) = _
  simp [toI_map, hl]
def zsOf (h : Hv) : D → Option (List D × (Hv → Bool))
  | .lst xs => some (xs, always)
  | .fz xs => some (xs, always)
  | .cell n => match h[n]? with
    | some (.lst xs) => some (xs, isCell n xs)
    | _ => none
  | _ => none
@[simp] theorem zsOf_lst {h : Hv} {xs : List D} : zsOf h (.lst xs) = some (xs, always) := rfl
@[simp] theorem zsOf_fz {h : Hv} {xs : List D} : zsOf h (.fz xs) = some (xs, always) := rfl
@[simp] theorem zsOf_cell {h : Hv} {n : Nat} : zsOf h (.cell n) = (match h[n]? with
    | some (.lst xs) => some (xs, isCell n xs)
    | _ => none) := rfl
def iZG (g : LS) : IS := fun σ h => (g σ h).bind fun ds h1 => match ds with
  | [x, y] => (match zsOf h1 x, zsOf h1 y with
    | some (xs, c1), some (ys, c2) => if xs.length = ys.length then .ok (zipD xs ys, fun h => c1 h && c2 h) h1 else .stuck
    | _, _ => .stuck)
  | _ => .stuck
@[simp] theorem iZG_ap {l : LS} {σ : VS} {h : Hv} : iZG l σ h = (l σ h).bind fun ds h1 => (match ds with
  | [x, y] => (match zsOf h1 x, zsOf h1 y with
    | some (xs, c1), some (ys, c2) => if xs.length = ys.length then .ok (zipD xs ys, fun h => c1 h && c2 h) h1 else .stuck
    | _, _ => .stuck)
  | _ => .stuck) := rfl
end
end VD
set_option Elab.async false
set_option linter.all false
set_option maxRecDepth 100000
set_option maxHeartbeats 4000000
namespace VD
open PySem PySem.Spec PyProof.Rows L2
noncomputable section
abbrev sx (cs : List Nat) : Str := ⟨cs.toArray⟩
abbrev tx (cs : List Nat) : D := .str (sx cs)
theorem sx_len (cs : List Nat) : (sx cs).length = cs.length := by
  show (cs.toArray).size = _
  simp
theorem sx_app (a b : List Nat) : (sx a ++ sx b : Str) = sx (a ++ b) := by
  show Str.mk _ = Str.mk _
  simp
@[simp] theorem oAdd_tx {a b : List Nat} {h : Hv} (hl : a.length + b.length ≤ 16777216) : oAdd (tx a) (tx b) h = .ok (tx (a ++ b)) h := by
  rw [oAdd_str, sx_len, sx_len, if_pos hl, sx_app]
@[simp] theorem signsD_tx (cs : List Nat) : signsD (sx cs) = cs.map fun c => tx [c] := by
  unfold signsD
  simp
@[simp] theorem ixD_tx {cs : List Nat} {h : Hv} {k : Int} (hl : cs.length ≤ 16777216) (h0 : 0 ≤ k) (h1 : k < cs.length) : ixD h (tx cs) k = some (tx [cs[k.toNat]?.getD 0]) := by
  rw [ixD_str, sx_len, if_pos hl]
  have e : (sx cs).cps.toList = cs := by simp
  rw [e]
  obtain ⟨a, _, h3, h4⟩ := atI_get (xs := cs) h0 h1
  rw [h4, h3]
  rfl
@[simp] theorem lenD_tx {cs : List Nat} {h : Hv} (hl : cs.length ≤ 16777216) : lenD h (tx cs) = some (cs.length : Int) := by rw [lenD_str, sx_len, if_pos hl]
@[simp] theorem oLt_tx {a b : List Nat} {h : Hv} : oLt (tx a) (tx b) h = .ok (.bl (decide (a < b))) h := by
  rw [oLt_str]
@[simp] theorem oIn_sign {c : Nat} {ss : List Nat} {h : Hv} : oIn (tx [c]) (tx ss) h = .ok (.bl (decide (c ∈ ss))) h := by
  show (match inD h (tx [c]) (tx ss) with | some b => R.ok (D.bl b) h | none => .stuck) = _
  have e : inD h (tx [c]) (tx ss) = some (decide (c ∈ (sx ss).cps.toList)) := rfl
  rw [e]
@[simp] theorem oNotIn_sign {c : Nat} {ss : List Nat} {h : Hv} : oNotIn (tx [c]) (tx ss) h = .ok (.bl (!decide (c ∈ ss))) h := by
  show (match inD h (tx [c]) (tx ss) with | some b => R.ok (D.bl (!b)) h | none => .stuck) = _
  have e : inD h (tx [c]) (tx ss) = some (decide (c ∈ (sx ss).cps.toList)) := rfl
  rw [e]
@[simp] theorem lenD_tx0 {h : Hv} : lenD h (tx []) = some 0 := lenD_tx (cs := []) (by decide)
end
end VD
set_option Elab.async false
set_option linter.all false
set_option maxRecDepth 100000
set_option maxHeartbeats 4000000
namespace PW
abbrev Bx := Nat × Nat
abbrev Gd := List (List Int)
def gv (g : Gd) (b : Bx) : Int := (g[b.1]?.getD [])[b.2]?.getD 0
structure Sh (R C : Nat) (g : Gd) : Prop where
  len : g.length = R
  row : ∀ r ∈ g, r.length = C
def upd (g : Gd) (b : Bx) (v : Int) : Gd := g.set b.1 ((g[b.1]?.getD []).set b.2 v)
section
variable {R C : Nat} {g : Gd} {b b' : Bx} {v : Int}
theorem Sh.at (sh : Sh R C g) {r : Nat} (h : r < R) : ∃ row, g[r]? = some row ∧ row.length = C := by
  have h2 : r < g.length := by rw [sh.len]; exact h
  exact ⟨g[r], List.getElem?_eq_getElem h2, sh.row _ (List.getElem_mem h2)⟩
theorem Sh.upd (sh : Sh R C g) : Sh R C (upd g b v) := by
  refine ⟨by unfold PW.upd; rw [List.length_set]; exact sh.len, fun r hr => ?_⟩
  unfold PW.upd at hr
  by_cases q : b.1 < g.length
  · rcases List.mem_or_eq_of_mem_set hr with hr | rfl
    · exact sh.row r hr
    · rw [List.length_set]
      obtain ⟨row, e1, e2⟩ := sh.at (r := b.1) (by rw [← sh.len]; exact q)
      rw [e1]; exact e2
  · rw [List.set_eq_of_length_le (by omega)] at hr
    exact sh.row r hr
theorem gv_upd (sh : Sh R C g) (h1 : b.1 < R) (h2 : b.2 < C) : gv (upd g b v) b' = if b' = b then v else gv g b' := by
  obtain ⟨row, e1, e2⟩ := sh.at h1
  unfold gv upd
  by_cases q1 : b'.1 = b.1
  · rw [q1, List.getElem?_set_self (by rw [sh.len]; exact h1), e1]
    simp only [Option.getD_some]
    by_cases q2 : b'.2 = b.2
    · rw [q2, List.getElem?_set_self (by omega), if_pos (Prod.ext q1 q2)]; rfl
    · rw [List.getElem?_set_ne (fun z => q2 z.symm), if_neg (fun z => q2 (by rw [z]))]
  · rw [List.getElem?_set_ne (fun z => q1 z.symm), if_neg (fun z => q1 (by rw [z]))]
def rs (g : Gd) (r : Nat) : Int := (g[r]?.getD []).sum
def cs (g : Gd) (c : Nat) : Int := (g.map fun row => row[c]?.getD 0).sum
theorem sum_set : ∀ {l : List Int} {i : Nat} {v : Int}, i < l.length → (l.set i v).sum = l.sum + (v - l[i]?.getD 0)
  | [], i, v, h => absurd h (Nat.not_lt_zero _)
  | x :: l, 0, v, h => by
    rw [List.set_cons_zero, List.sum_cons, List.sum_cons, List.getElem?_cons_zero, Option.getD_some]; omega
  | x :: l, i + 1, v, h => by
    rw [List.set_cons_succ, List.sum_cons, List.sum_cons, List.getElem?_cons_succ, sum_set (Nat.lt_of_succ_lt_succ h)]; omega
theorem rs_upd (sh : Sh R C g) (h1 : b.1 < R) (h2 : b.2 < C) {r : Nat} : rs (upd g b v) r = rs g r + if b.1 = r then v - gv g b else 0 := by
  obtain ⟨row, e1, e2⟩ := sh.at h1
  unfold rs upd
  by_cases q : b.1 = r
  · subst q
    rw [List.getElem?_set_self (by rw [sh.len]; exact h1), if_pos rfl, Option.getD_some]
    unfold gv
    rw [e1, Option.getD_some, sum_set (by omega)]
  · rw [List.getElem?_set_ne q, if_neg q]; omega
theorem cs_upd (sh : Sh R C g) (h1 : b.1 < R) (h2 : b.2 < C) {c : Nat} : cs (upd g b v) c = cs g c + if b.2 = c then v - gv g b else 0 := by
  obtain ⟨row, e1, e2⟩ := sh.at h1
  unfold cs upd
  rw [List.map_set, sum_set (by rw [List.length_map, sh.len]; exact h1), List.getElem?_map, e1]
  unfold gv
  rw [e1]
  simp only [Option.getD_some, Option.map_some]
  by_cases q : b.2 = c
  · subst q
    rw [List.getElem?_set_self (by omega), if_pos rfl]; rfl
  · rw [List.getElem?_set_ne q, if_neg q]; omega
end
def shf (g : Gd) (L : List Bx) (a : Int) : Gd := L.foldl (fun g b => upd g b (gv g b + a)) g
def In (R C : Nat) (L : List Bx) : Prop := ∀ b ∈ L, b.1 < R ∧ b.2 < C
def n1 (L : List Bx) (r : Nat) : Nat := L.countP fun b => decide (b.1 = r)
def n2 (L : List Bx) (c : Nat) : Nat := L.countP fun b => decide (b.2 = c)
section
variable {R C : Nat} {g : Gd} {a : Int}
theorem shf_cons {b : Bx} {L : List Bx} : shf g (b :: L) a = shf (upd g b (gv g b + a)) L a := rfl
theorem shf_append {L M : List Bx} : shf g (L ++ M) a = shf (shf g L a) M a := List.foldl_append
theorem Sh.shf {L : List Bx} : ∀ {g : Gd}, Sh R C g → Sh R C (shf g L a) := by
  induction L with
  | nil => intro g h; exact h
  | cons b L ih => intro g h; rw [shf_cons]; exact ih h.upd
theorem mul_succ' (a : Int) (n : Nat) : a * ((n + 1 : Nat) : Int) = a * n + a := by rw [Int.natCast_add, Int.mul_add]; simp
theorem gv_shf {L : List Bx} : ∀ {g : Gd}, Sh R C g → In R C L → ∀ b, gv (shf g L a) b = gv g b + a * (L.count b : Nat) := by
  induction L with
  | nil => intro g _ _ b; simp [shf]
  | cons c L ih =>
    intro g sh hi b
    obtain ⟨i1, i2⟩ := hi c List.mem_cons_self
    rw [shf_cons, ih sh.upd (fun x hx => hi x (List.mem_cons_of_mem _ hx)), gv_upd sh i1 i2, List.count_cons]
    by_cases q : b = c
    · subst q
      rw [if_pos rfl, if_pos (by simp), mul_succ']; omega
    · rw [if_neg q, if_neg (by simp; exact fun z => q z.symm)]; simp
theorem rs_shf {L : List Bx} : ∀ {g : Gd}, Sh R C g → In R C L → ∀ r, rs (shf g L a) r = rs g r + a * (n1 L r : Nat) := by
  induction L with
  | nil => intro g _ _ b; simp [shf, n1]
  | cons c L ih =>
    intro g sh hi r
    obtain ⟨i1, i2⟩ := hi c List.mem_cons_self
    rw [shf_cons, ih sh.upd (fun x hx => hi x (List.mem_cons_of_mem _ hx)), rs_upd sh i1 i2]
    unfold n1
    rw [List.countP_cons]
    by_cases q : c.1 = r
    · rw [if_pos q, if_pos (by simpa using q), mul_succ']; omega
    · rw [if_neg q, if_neg (by simpa using q)]; simp
theorem cs_shf {L : List Bx} : ∀ {g : Gd}, Sh R C g → In R C L → ∀ r, cs (shf g L a) r = cs g r + a * (n2 L r : Nat) := by
  induction L with
  | nil => intro g _ _ b; simp [shf, n2]
  | cons c L ih =>
    intro g sh hi r
    obtain ⟨i1, i2⟩ := hi c List.mem_cons_self
    rw [shf_cons, ih sh.upd (fun x hx => hi x (List.mem_cons_of_mem _ hx)), cs_upd sh i1 i2]
    unfold n2
    rw [List.countP_cons]
    by_cases q : c.2 = r
    · rw [if_pos q, if_pos (by simpa using q), mul_succ']; omega
    · rw [if_neg q, if_neg (by simpa using q)]; simp
theorem sum_ge {l : List Int} (h : ∀ x ∈ l, 0 ≤ x) : 0 ≤ l.sum := by
  induction l with
  | nil => simp
  | cons x l ih =>
    rw [List.sum_cons]
    have := h x List.mem_cons_self
    have := ih fun y hy => h y (List.mem_cons_of_mem _ hy)
    omega
theorem le_sum {l : List Int} (h : ∀ x ∈ l, 0 ≤ x) {x : Int} (hx : x ∈ l) : x ≤ l.sum := by
  induction l with
  | nil => cases hx
  | cons y l ih =>
    rw [List.sum_cons]
    have h0 := h y List.mem_cons_self
    have h1 : ∀ z ∈ l, 0 ≤ z := fun z hz => h z (List.mem_cons_of_mem _ hz)
    have h2 := sum_ge h1
    cases hx with
    | head => omega
    | tail _ hx => have := ih h1 hx; omega
def Nn (g : Gd) : Prop := ∀ b, 0 ≤ gv g b
theorem gv_at (sh : Sh R C g) {r c : Nat} (hr : r < R) (hc : c < C) : ∃ row, g[r]? = some row ∧ row[c]? = some (gv g (r, c)) := by
  obtain ⟨row, e1, e2⟩ := sh.at hr
  refine ⟨row, e1, ?_⟩
  unfold gv
  rw [e1, Option.getD_some, List.getElem?_eq_getElem (by omega), Option.getD_some]
theorem gv_le_rs (sh : Sh R C g) (nn : Nn g) {b : Bx} (h1 : b.1 < R) (h2 : b.2 < C) : gv g b ≤ rs g b.1 := by
  obtain ⟨row, e1, e2⟩ := gv_at sh h1 h2
  unfold rs
  rw [e1, Option.getD_some]
  refine le_sum (fun x hx => ?_) (List.mem_of_getElem? e2)
  obtain ⟨i, hi⟩ := List.getElem?_of_mem hx
  have := nn (b.1, i)
  unfold gv at this
  rw [e1, Option.getD_some, hi] at this
  exact this
end
abbrev Came := List (Nat × Option (Nat × Bx))
def keys (c : Came) : List Nat := c.map (·.1)
def Edge (R : Nat) (g : Gd) (H : List Bx) (cell : Bx) (x y : Nat) (b : Bx) : Prop := b ∈ H ∧ b ≠ cell ∧ ((x = b.1 ∧ y = R + b.2) ∨ (x = R + b.2 ∧ y = b.1 ∧ 0 < gv g b))
inductive Reach (R : Nat) (g : Gd) (H : List Bx) (cell : Bx) (s : Nat) : Nat → Prop where
  | refl : Reach R g H cell s s
  | step {x y : Nat} {b : Bx} : Reach R g H cell s x → Edge R g H cell x y b → Reach R g H cell s y
structure Wf (R : Nat) (g : Gd) (H : List Bx) (cell : Bx) (s : Nat) (c : Came) : Prop where
  hd : c[0]? = some (s, none)
  nd : (keys c).Nodup
  st : ∀ i y o, 0 < i → c[i]? = some (y, o) → ∃ x b j p, o = some (x, b) ∧ Edge R g H cell x y b ∧ j < i ∧ c[j]? = some (x, p)
def Cl (R : Nat) (g : Gd) (H : List Bx) (cell : Bx) (c : Came) (n : Nat) : Prop := ∀ j x o, j < n → c[j]? = some (x, o) → ∀ y b, Edge R g H cell x y b → y ∈ keys c
def stp (R : Nat) (g : Gd) (cell : Bx) (x : Nat) (c : Came) (b : Bx) : Came :=
  let k := if b ≠ cell ∧ x = b.1 ∧ R + b.2 ∉ keys c then c ++ [(R + b.2, some (x, b))] else c
  if b ≠ cell ∧ x = R + b.2 ∧ 0 < gv g b ∧ b.1 ∉ keys k then k ++ [(b.1, some (x, b))] else k
section
variable {R C : Nat} {g : Gd} {H : List Bx} {cell b : Bx} {s x : Nat} {c : Came}
theorem keys_append {c d : Came} : keys (c ++ d) = keys c ++ keys d := List.map_append
theorem Wf.snoc (w : Wf R g H cell s c) {y : Nat} (hy : y ∉ keys c) (e : Edge R g H cell x y b) {i : Nat} {o : Option (Nat × Bx)} (hx : c[i]? = some (x, o)) : Wf R g H cell s (c ++ [(y, some (x, b))]) := by
  have h0 : 0 < c.length := (List.getElem?_eq_some_iff.mp w.hd).1
  refine ⟨by rw [List.getElem?_append_left h0]; exact w.hd, ?_, fun j y' o' hj hc => ?_⟩
  · rw [keys_append]
    exact List.nodup_append.mpr ⟨w.nd, by simp [keys], fun a ha d hd z => by
      have : d = y := by simpa [keys] using hd
      rw [z, this] at ha; exact hy ha⟩
  · by_cases q : j < c.length
    · rw [List.getElem?_append_left q] at hc
      obtain ⟨x', b', j', p, e1, e2, e3, e4⟩ := w.st j y' o' hj hc
      exact ⟨x', b', j', p, e1, e2, e3, by rw [List.getElem?_append_left (by omega)]; exact e4⟩
    · have hi := (List.getElem?_eq_some_iff.mp hx).1
      rw [List.getElem?_append_right (by omega)] at hc
      have q2 : j - c.length = 0 := by
        have := (List.getElem?_eq_some_iff.mp hc).1
        simp at this; omega
      rw [q2] at hc
      cases hc
      exact ⟨x, b, i, o, rfl, e, by omega, by rw [List.getElem?_append_left hi]; exact hx⟩
theorem stp_eq : ∃ e, stp R g cell x c b = c ++ e ∧ e.length ≤ 2 := by
  unfold stp
  simp only
  split <;> split
  · exact ⟨_, by rw [List.append_assoc], by simp⟩
  · exact ⟨_, rfl, by simp⟩
  · exact ⟨_, rfl, by simp⟩
  · exact ⟨[], by simp, by simp⟩
theorem stp_wf (w : Wf R g H cell s c) (hb : b ∈ H) {i : Nat} {o : Option (Nat × Bx)} (hx : c[i]? = some (x, o)) : Wf R g H cell s (stp R g cell x c b) := by
  unfold stp
  simp only
  have key : ∀ k : Came, Wf R g H cell s k → k[i]? = some (x, o) → Wf R g H cell s (if b ≠ cell ∧ x = R + b.2 ∧ 0 < gv g b ∧ b.1 ∉ keys k then k ++ [(b.1, some (x, b))] else k) := by
    intro k w hx
    split
    · next q => exact w.snoc q.2.2.2 ⟨hb, q.1, .inr ⟨q.2.1, rfl, q.2.2.1⟩⟩ hx
    · exact w
  split
  · next q => exact key _ (w.snoc q.2.2 ⟨hb, q.1, .inl ⟨q.2.1, rfl⟩⟩ hx) (by rw [List.getElem?_append_left (List.getElem?_eq_some_iff.mp hx).1]; exact hx)
  · exact key _ w hx
theorem stp_mem {y : Nat} (e : Edge R g H cell x y b) : y ∈ keys (stp R g cell x c b) := by
  obtain ⟨hb, hc, h⟩ := e
  unfold stp
  simp only
  have mono : ∀ (k : Came) (p : Prop) [Decidable p] (l : Came), y ∈ keys k → y ∈ keys (if p then k ++ l else k) := by
    intro k p _ l h
    split
    · rw [keys_append]; exact List.mem_append_left _ h
    · exact h
  rcases h with ⟨e1, rfl⟩ | ⟨e1, rfl, e2⟩
  · refine mono _ _ _ ?_
    by_cases q : R + b.2 ∈ keys c
    · exact mono _ _ _ q
    · rw [if_pos ⟨hc, e1, q⟩, keys_append]; simp [keys]
  · generalize (if b ≠ cell ∧ x = b.1 ∧ R + b.2 ∉ keys c then c ++ [(R + b.2, some (x, b))] else c) = k
    by_cases q : b.1 ∈ keys k
    · exact mono _ _ _ q
    · rw [if_pos ⟨hc, e1, e2, q⟩, keys_append]; simp [keys]
theorem stp_keys {y : Nat} (h : y ∈ keys c) : y ∈ keys (stp R g cell x c b) := by
  obtain ⟨e, he, _⟩ := stp_eq (R := R) (g := g) (cell := cell) (x := x) (c := c) (b := b)
  rw [he, keys_append]; exact List.mem_append_left _ h
theorem Wf.reach (w : Wf R g H cell s c) : ∀ (i : Nat) {y : Nat} {o : Option (Nat × Bx)}, c[i]? = some (y, o) → Reach R g H cell s y := by
  intro i
  induction i using Nat.strongRecOn with
  | ind i ih =>
    intro y o hc
    by_cases q : i = 0
    · subst q
      rw [w.hd] at hc
      cases hc
      exact .refl
    · obtain ⟨x, b, j, p, _, e2, e3, e4⟩ := w.st i y o (by omega) hc
      exact .step (ih j e3 e4) e2
theorem mem_keys {y : Nat} : y ∈ keys c ↔ ∃ (i : Nat) (o : Option (Nat × Bx)), c[i]? = some (y, o) := by
  unfold keys
  rw [List.mem_map]
  constructor
  · rintro ⟨p, hp, rfl⟩
    obtain ⟨i, hi⟩ := List.getElem?_of_mem hp
    exact ⟨i, p.2, hi⟩
  · rintro ⟨i, o, h⟩
    exact ⟨_, List.mem_of_getElem? h, rfl⟩
theorem keys_iff (w : Wf R g H cell s c) (cl : Cl R g H cell c c.length) {y : Nat} : y ∈ keys c ↔ Reach R g H cell s y := by
  constructor
  · intro h
    obtain ⟨i, o, hi⟩ := mem_keys.mp h
    exact w.reach i hi
  · intro h
    induction h with
    | refl => exact mem_keys.mpr ⟨0, none, w.hd⟩
    | step h e ih =>
      obtain ⟨i, o, hi⟩ := mem_keys.mp ih
      exact cl i _ o (List.getElem?_eq_some_iff.mp hi).1 hi _ _ e
theorem nodup_len : ∀ {n : Nat} {l : List Nat}, l.Nodup → (∀ x ∈ l, x < n) → l.length ≤ n := by
  intro n
  induction n with
  | zero =>
    intro l _ h
    cases l with
    | nil => exact Nat.le_refl _
    | cons x l => exact absurd (h x List.mem_cons_self) (Nat.not_lt_zero _)
  | succ n ih =>
    intro l nd h
    have nd2 : (l.erase n).Nodup := nd.erase n
    have := ih nd2 fun x hx => by
      have hx2 := (nd.mem_erase_iff).mp hx
      have := h x hx2.2
      have := hx2.1
      omega
    rw [List.length_erase] at this
    split at this <;> omega
theorem Wf.bd (w : Wf R g H cell s c) (hi : In R C H) (hs : s < R + C) : (∀ y ∈ keys c, y < R + C) ∧ c.length ≤ R + C := by
  have h1 : ∀ y ∈ keys c, y < R + C := by
    intro y hy
    obtain ⟨i, o, hc⟩ := mem_keys.mp hy
    by_cases q : i = 0
    · subst q
      rw [w.hd] at hc
      cases hc
      exact hs
    · obtain ⟨x, b, j, p, _, ⟨hb, _, h⟩, _, _⟩ := w.st i y o (by omega) hc
      have := hi b hb
      rcases h with ⟨_, rfl⟩ | ⟨_, rfl, _⟩ <;> omega
  refine ⟨h1, ?_⟩
  have := nodup_len w.nd h1
  unfold keys at this
  rw [List.length_map] at this
  exact this
structure Bal (R : Nat) (G F : List Bx) (t n : Nat) : Prop where
  row : ∀ r, r < R → n1 F r + (if n = r then 1 else 0) = n1 G r + (if t = r then 1 else 0)
  col : ∀ k, n2 G k + (if n = R + k then 1 else 0) = n2 F k + (if t = R + k then 1 else 0)
structure Way (R : Nat) (g : Gd) (H : List Bx) (cell : Bx) (c : Came) (t : Nat) (i n : Nat) (G F : List Bx) : Prop where
  bal : Bal R G F t n
  gr : ∀ b ∈ G, b ∈ H ∧ b ≠ cell
  fa : ∀ b ∈ F, b ∈ H ∧ b ≠ cell ∧ 0 < gv g b
  nd : F.Nodup
  up : ∀ b ∈ F, ∃ j o, i < j ∧ c[j]? = some (b.1, o)
theorem n1_snoc {L : List Bx} {r : Nat} : n1 (L ++ [b]) r = n1 L r + if b.1 = r then 1 else 0 := by
  unfold n1
  rw [List.countP_append, List.countP_cons, List.countP_nil]
  by_cases q : b.1 = r <;> simp [q]
theorem n2_snoc {L : List Bx} {r : Nat} : n2 (L ++ [b]) r = n2 L r + if b.2 = r then 1 else 0 := by
  unfold n2
  rw [List.countP_append, List.countP_cons, List.countP_nil]
  by_cases q : b.2 = r <;> simp [q]
theorem Way.start {t i : Nat} : Way R g H cell c t i t [] [] where
  bal := ⟨fun r _ => rfl, fun k => rfl⟩
  gr := fun _ h => nomatch h
  fa := fun _ h => nomatch h
  nd := List.nodup_nil
  up := fun _ h => nomatch h
theorem key_ix (nd : (keys c).Nodup) {i j : Nat} {y : Nat} {o o' : Option (Nat × Bx)} (h1 : c[i]? = some (y, o)) (h2 : c[j]? = some (y, o')) : i = j := by
  have e1 : (keys c)[i]? = some y := by unfold keys; rw [List.getElem?_map, h1]; rfl
  have e2 : (keys c)[j]? = some y := by unfold keys; rw [List.getElem?_map, h2]; rfl
  exact (List.getElem?_inj (List.getElem?_eq_some_iff.mp e1).1 nd).mp (e1.trans e2.symm)
theorem Way.grow (w : Wf R g H cell s c) {t i n j x : Nat} {G F : List Bx} (q : Way R g H cell c t i n G F) (hj : j < i) (e : Edge R g H cell x n b) (hx : x < R) : Way R g H cell c t j x (G ++ [b]) F := by
  obtain ⟨hb, hc, h⟩ := e
  rcases h with ⟨e1, e2⟩ | ⟨e1, _, _⟩
  · refine ⟨⟨fun r hr => ?_, fun k => ?_⟩, fun d hd => ?_, q.fa, q.nd, fun d hd => ?_⟩
    · have := q.bal.row r hr
      rw [n1_snoc]
      rw [if_neg (show ¬ n = r by omega)] at this
      rw [e1]; omega
    · have := q.bal.col k
      rw [n2_snoc, if_neg (show ¬ x = R + k by omega)]
      by_cases z : b.2 = k
      · rw [if_pos z]; rw [if_pos (by omega)] at this; omega
      · rw [if_neg z]; rw [if_neg (by omega)] at this; omega
    · rcases List.mem_append.mp hd with hd | hd
      · exact q.gr d hd
      · cases List.mem_singleton.mp hd; exact ⟨hb, hc⟩
    · obtain ⟨j', o, h1, h2⟩ := q.up d hd
      exact ⟨j', o, by omega, h2⟩
  · omega
theorem Way.fall (w : Wf R g H cell s c) {t i n j x : Nat} {o : Option (Nat × Bx)} {G F : List Bx} (q : Way R g H cell c t i n G F) (hn : c[i]? = some (n, o)) (hj : j < i) (hi : In R C H) (e : Edge R g H cell x n b) (hx : ¬ x < R) : Way R g H cell c t j x G (F ++ [b]) := by
  obtain ⟨hb, hc, h⟩ := e
  have hbR := (hi b hb).1
  rcases h with ⟨e1, e2⟩ | ⟨e1, e2, e3⟩
  · omega
  · have fresh : ∀ d ∈ F, d.1 ≠ b.1 := by
      intro d hd z
      obtain ⟨j', o', h1, h2⟩ := q.up d hd
      rw [z, ← e2] at h2
      have := key_ix w.nd hn h2
      omega
    refine ⟨⟨fun r hr => ?_, fun k => ?_⟩, q.gr, fun d hd => ?_, ?_, fun d hd => ?_⟩
    · have := q.bal.row r hr
      rw [n1_snoc, if_neg (show ¬ x = r by omega)]
      rw [e2] at this; omega
    · have := q.bal.col k
      rw [n2_snoc]
      rw [if_neg (show ¬ n = R + k by omega)] at this
      by_cases z : b.2 = k
      · rw [if_pos z, if_pos (by omega)]; omega
      · rw [if_neg z, if_neg (by omega)]; omega
    · rcases List.mem_append.mp hd with hd | hd
      · exact q.fa d hd
      · cases List.mem_singleton.mp hd; exact ⟨hb, hc, e3⟩
    · refine List.nodup_append.mpr ⟨q.nd, by simp, fun a ha d hd z => ?_⟩
      cases List.mem_singleton.mp hd
      exact fresh a ha (by rw [z])
    · rcases List.mem_append.mp hd with hd | hd
      · obtain ⟨j', o', h1, h2⟩ := q.up d hd
        exact ⟨j', o', by omega, h2⟩
      · cases List.mem_singleton.mp hd
        exact ⟨i, o, hj, by rw [← e2]; exact hn⟩
end
structure Same (R C : Nat) (H : List Bx) (g g' : Gd) : Prop where
  sh : Sh R C g'
  nn : Nn g'
  rs : ∀ r, r < R → rs g' r = rs g r
  cs : ∀ k, cs g' k = cs g k
  off : ∀ b, b ∉ H → gv g' b = gv g b
theorem Same.refl {R C : Nat} {H : List Bx} {g : Gd} (sh : Sh R C g) (nn : Nn g) : Same R C H g g := ⟨sh, nn, fun _ _ => rfl, fun _ => rfl, fun _ _ => rfl⟩
theorem Same.trans {R C : Nat} {H : List Bx} {g g' g2 : Gd} (a : Same R C H g g') (b : Same R C H g' g2) : Same R C H g g2 :=
  ⟨b.sh, b.nn, fun r h => (b.rs r h).trans (a.rs r h), fun k => (b.cs k).trans (a.cs k), fun x h => (b.off x h).trans (a.off x h)⟩
/-- one turn: G grows, F falls, by as much as any of F has -/
theorem shift_same {R C : Nat} {H : List Bx} {g : Gd} {G F : List Bx} {a : Int} (sh : Sh R C g) (nn : Nn g) (hi : In R C H) (hg : ∀ b ∈ G, b ∈ H) (hf : ∀ b ∈ F, b ∈ H ∧ a ≤ gv g b) (nd : F.Nodup) (ha : 0 ≤ a)
    (br : ∀ r, r < R → n1 F r = n1 G r) (bc : ∀ k, n2 G k = n2 F k) : Same R C H g (shf (shf g G a) F (-a)) := by
  have iG : In R C G := fun b hb => hi b (hg b hb)
  have iF : In R C F := fun b hb => hi b (hf b hb).1
  have s1 : Sh R C (shf g G a) := sh.shf
  refine ⟨s1.shf, fun b => ?_, fun r hr => ?_, fun k => ?_, fun b hb => ?_⟩
  · rw [gv_shf s1 iF, gv_shf sh iG]
    have p : 0 ≤ a * ((G.count b : Nat) : Int) := Int.mul_nonneg ha (Int.natCast_nonneg _)
    have q : F.count b ≤ 1 := List.nodup_iff_count.mp nd b
    have n := nn b
    by_cases z : b ∈ F
    · have := (hf b z).2
      have e : F.count b = 1 := by
        have := List.count_pos_iff.mpr z
        omega
      rw [e]; simp; omega
    · rw [List.count_eq_zero.mpr z]; simp; omega
  · rw [rs_shf s1 iF, rs_shf sh iG, br r hr, Int.neg_mul]; omega
  · rw [cs_shf s1 iF, cs_shf sh iG, bc k, Int.neg_mul]; omega
  · have z1 : b ∉ G := fun h => hb (hg b h)
    have z2 : b ∉ F := fun h => hb (hf b h).1
    rw [gv_shf s1 iF, gv_shf sh iG, List.count_eq_zero.mpr z1, List.count_eq_zero.mpr z2]; simp
theorem count_no {L : List Bx} {c : Bx} (h : ∀ b ∈ L, b ≠ c) : L.count c = 0 := List.count_eq_zero.mpr fun z => h c z rfl
theorem turn_up {R C : Nat} {g : Gd} {H G F : List Bx} {cell : Bx} {c : Came} {a : Int} (sh : Sh R C g) (nn : Nn g) (hi : In R C H) (hc : cell ∈ H) (w : Way R g H cell c cell.1 0 (R + cell.2) G F) (ha : ∀ b ∈ F, a ≤ gv g b) (a0 : 0 ≤ a) :
    Same R C H g (shf (shf g (G ++ [cell]) a) F (-a)) ∧ gv (shf (shf g (G ++ [cell]) a) F (-a)) cell = gv g cell + a := by
  have c1 := (hi cell hc).1
  have hG : ∀ b ∈ G ++ [cell], b ∈ H := fun b hb => by
    rcases List.mem_append.mp hb with hb | hb
    · exact (w.gr b hb).1
    · cases List.mem_singleton.mp hb; exact hc
  have hF : ∀ b ∈ F, b ∈ H := fun b hb => (w.fa b hb).1
  constructor
  · refine shift_same sh nn hi hG (fun b hb => ⟨hF b hb, ha b hb⟩) w.nd a0 (fun r hr => ?_) (fun k => ?_)
    · have := w.bal.row r hr
      rw [n1_snoc]
      rw [if_neg (show ¬ R + cell.2 = r by omega)] at this
      omega
    · have := w.bal.col k
      rw [n2_snoc]
      rw [if_neg (show ¬ cell.1 = R + k by omega)] at this
      by_cases q : cell.2 = k
      · rw [if_pos q]; rw [if_pos (by omega)] at this; omega
      · rw [if_neg q]; rw [if_neg (by omega)] at this; omega
  · rw [gv_shf (Sh.shf sh) (fun b hb => hi b (hF b hb)), gv_shf sh (fun b hb => hi b (hG b hb)), List.count_append, count_no (fun b hb => (w.gr b hb).2), count_no (fun b hb => (w.fa b hb).2.1), List.count_singleton_self]
    simp
theorem turn_up_ne {R : Nat} {g : Gd} {H G F : List Bx} {cell : Bx} {c : Came} (c1 : cell.1 < R) (w : Way R g H cell c cell.1 0 (R + cell.2) G F) : F ≠ [] := by
  intro z
  have := w.bal.row cell.1 c1
  rw [z, if_neg (show ¬ R + cell.2 = cell.1 by omega), if_pos rfl] at this
  simp [n1] at this
theorem turn_down {R C : Nat} {g : Gd} {H G F : List Bx} {cell : Bx} {c : Came} {a : Int} (sh : Sh R C g) (nn : Nn g) (hi : In R C H) (hc : cell ∈ H) (w : Way R g H cell c (R + cell.2) 0 cell.1 G F) (ha : ∀ b ∈ F ++ [cell], a ≤ gv g b) (a0 : 0 ≤ a) :
    Same R C H g (shf (shf g G a) (F ++ [cell]) (-a)) ∧ gv (shf (shf g G a) (F ++ [cell]) (-a)) cell = gv g cell - a := by
  have c1 := (hi cell hc).1
  have hF : ∀ b ∈ F ++ [cell], b ∈ H := fun b hb => by
    rcases List.mem_append.mp hb with hb | hb
    · exact (w.fa b hb).1
    · cases List.mem_singleton.mp hb; exact hc
  have hG : ∀ b ∈ G, b ∈ H := fun b hb => (w.gr b hb).1
  constructor
  · refine shift_same sh nn hi hG (fun b hb => ⟨hF b hb, ha b hb⟩) ?_ a0 (fun r hr => ?_) (fun k => ?_)
    · refine List.nodup_append.mpr ⟨w.nd, by simp, fun x hx d hd z => ?_⟩
      cases List.mem_singleton.mp hd
      exact (w.fa x hx).2.1 z
    · have := w.bal.row r hr
      rw [n1_snoc]
      rw [if_neg (show ¬ R + cell.2 = r by omega)] at this
      omega
    · have := w.bal.col k
      rw [n2_snoc]
      rw [if_neg (show ¬ cell.1 = R + k by omega)] at this
      by_cases q : cell.2 = k
      · rw [if_pos q]; rw [if_pos (by omega)] at this; omega
      · rw [if_neg q]; rw [if_neg (by omega)] at this; omega
  · rw [gv_shf (Sh.shf sh) (fun b hb => hi b (hF b hb)), gv_shf sh (fun b hb => hi b (hG b hb)), List.count_append, count_no (fun b hb => (w.gr b hb).2), count_no (fun b hb => (w.fa b hb).2.1), List.count_singleton_self]
    simp; omega
end PW
set_option Elab.async false
set_option linter.all false
set_option maxRecDepth 100000
set_option maxHeartbeats 4000000
namespace PW
open PySem PySem.Spec PyProof.Rows L2 VD
noncomputable section
def l_reached_sides_1 : SS := sFor (iL (eVar 1)) (gN 9) (sSeq (sIf (cAnd (toB (eOp oNe (eVar 9) (eVar 2))) (cAnd (toB (eOp oEq (eVar 8) (eOp oIx (eVar 9) (eK (.int 0))))) (toB (eOp oDnin (eOp oAdd (eVar 4) (eOp oIx (eVar 9) (eK (.int 1)))) (eVar 5))))) (sSeq (sDput (eTup (aCons (eVar 8) (aCons (eVar 9) (aNil)))) (eVar 5) (eOp oAdd (eVar 4) (eOp oIx (eVar 9) (eK (.int 1))))) (sDrop (eBM mAppend (eVar 6) (aCons (eOp oAdd (eVar 4) (eOp oIx (eVar 9) (eK (.int 1)))) (aNil))))) (sNext)) (sIf (cAnd (toB (eOp oNe (eVar 9) (eVar 2))) (cAnd (toB (eOp oEq (eVar 8) (eOp oAdd (eVar 4) (eOp oIx (eVar 9) (eK (.int 1)))))) (cAnd (toB (eOp oGt (eOp oIx (eOp oIx (eVar 0) (eOp oIx (eVar 9) (eK (.int 0)))) (eOp oIx (eVar 9) (eK (.int 1)))) (eK (.int 0)))) (toB (eOp oDnin (eOp oIx (eVar 9) (eK (.int 0))) (eVar 5)))))) (sSeq (sDput (eTup (aCons (eVar 8) (aCons (eVar 9) (aNil)))) (eVar 5) (eOp oIx (eVar 9) (eK (.int 0)))) (sDrop (eBM mAppend (eVar 6) (aCons (eOp oIx (eVar 9) (eK (.int 0))) (aNil))))) (sNext)))
def l_reached_sides_2 : SS := sLoop (toB (eOp oLt (eVar 7) (eCa bLen (aCons (eVar 6) (aNil))))) (sSeq (sSet 8 (eOp oIx (eVar 6) (eVar 7))) (sSeq (l_reached_sides_1) (sSet 7 (eOp oAdd (eVar 7) (eK (.int 1))))))
def b_reached_sides : SS := sSeq (sSet 4 (eCa bLen (aCons (eVar 0) (aNil)))) (sSeq (sSet 5 (eDisp (pCons (eVar 3) (eK .non) (pNil)))) (sSeq (sSet 6 (eC (lLst (aCons (eVar 3) (aNil))))) (sSeq (sSet 7 (eK (.int 0))) (sSeq (l_reached_sides_2) (sRet (eLock (eVar 5)))))))
def m_reached_sides : List D → Hv → R D := fnS 4 6 b_reached_sides
def l_boxes_between_1 : SS := sLoop (toB (eOp oIsNot (eOp oDget (eVar 0) (eVar 1)) (eK .non))) (sSeq (sAsg (eOp oDget (eVar 0) (eVar 1)) (gT 2 (gsCons (gN 5) (gsCons (gN 6) (gsNil))))) (sSeq (sIf (toB (eOp oLt (eVar 5) (eVar 2))) (sDrop (eBM mAppend (eVar 3) (aCons (eVar 6) (aNil)))) (sDrop (eBM mAppend (eVar 4) (aCons (eVar 6) (aNil))))) (sSet 1 (eVar 5))))
def b_boxes_between : SS := sSeq (sSet 3 (eC (lLst (aNil)))) (sSeq (sSet 4 (eC (lLst (aNil)))) (sSeq (l_boxes_between_1) (sRet (eTup (aCons (eVar 3) (aCons (eVar 4) (aNil)))))))
def m_boxes_between : List D → Hv → R D := fnS 3 4 b_boxes_between
def l_shift_boxes_1 : SS := sFor (iL (eVar 1)) (gN 4) (sSetIx (eOp oAdd (eOp oIx (eOp oIx (eVar 0) (eOp oIx (eVar 4) (eK (.int 0)))) (eOp oIx (eVar 4) (eK (.int 1)))) (eVar 3)) (eOp oIx (eVar 0) (eOp oIx (eVar 4) (eK (.int 0)))) (eOp oIx (eVar 4) (eK (.int 1))))
def l_shift_boxes_2 : SS := sFor (iL (eVar 2)) (gN 4) (sSetIx (eOp oSub (eOp oIx (eOp oIx (eVar 0) (eOp oIx (eVar 4) (eK (.int 0)))) (eOp oIx (eVar 4) (eK (.int 1)))) (eVar 3)) (eOp oIx (eVar 0) (eOp oIx (eVar 4) (eK (.int 0)))) (eOp oIx (eVar 4) (eK (.int 1))))
def b_shift_boxes : SS := sSeq (l_shift_boxes_1) (l_shift_boxes_2)
def m_shift_boxes : List D → Hv → R D := fnS 4 1 b_shift_boxes
def c_raised_1 : LS := lLc (iL (eVar 0)) (gN 7) (cYes) (eC (eCa bList (aCons (eVar 7) (aNil)))) [7]
def c_raised_2 : LS := lLc (iL (eVar 9)) (gN 10) (cYes) (eOp oIx (eOp oIx (eVar 3) (eOp oIx (eVar 10) (eK (.int 0)))) (eOp oIx (eVar 10) (eK (.int 1)))) [10]
def l_raised_1 : SS := sLoop (toB (eOp oDin (eOp oIx (eVar 2) (eK (.int 0))) (eVar 5))) (sSeq (sAsg (eCa (Cm.f .P m_boxes_between) (aCons (eVar 5) (aCons (eOp oIx (eVar 2) (eK (.int 0))) (aCons (eVar 4) (aNil))))) (gT 2 (gsCons (gN 8) (gsCons (gN 9) (gsNil))))) (sSeq (sSet 6 (eCa bMin (aCons (eV (c_raised_2)) (aNil)))) (sSeq (sDrop (eCa (Cm.f .M m_shift_boxes) (aCons (eVar 3) (aCons (eV (eOp oCat (eVar 8) (eV (lLst (aCons (eVar 2) (aNil)))))) (aCons (eVar 9) (aCons (eVar 6) (aNil))))))) (sSet 5 (eCa (Cm.f .M m_reached_sides) (aCons (eVar 3) (aCons (eVar 1) (aCons (eVar 2) (aCons (eOp oAdd (eVar 4) (eOp oIx (eVar 2) (eK (.int 1)))) (aNil))))))))))
def b_raised : SS := sSeq (sSet 3 (eV (c_raised_1))) (sSeq (sSet 4 (eCa bLen (aCons (eVar 0) (aNil)))) (sSeq (sSet 5 (eCa (Cm.f .M m_reached_sides) (aCons (eVar 3) (aCons (eVar 1) (aCons (eVar 2) (aCons (eOp oAdd (eVar 4) (eOp oIx (eVar 2) (eK (.int 1)))) (aNil))))))) (sSeq (l_raised_1) (sRet (eTup (aCons (eVar 3) (aCons (eVar 5) (aNil))))))))
def m_raised : List D → Hv → R D := fnS 3 8 b_raised
def c_lowered_1 : LS := lLc (iL (eVar 0)) (gN 8) (cYes) (eC (eCa bList (aCons (eVar 8) (aNil)))) [8]
def c_lowered_2 : LS := lLc (iL (eVar 6)) (gN 10) (cYes) (eOp oIx (eOp oIx (eVar 3) (eOp oIx (eVar 10) (eK (.int 0)))) (eOp oIx (eVar 10) (eK (.int 1)))) [10]
def l_lowered_1 : SS := sLoop (cAnd (toB (eOp oGt (eOp oIx (eOp oIx (eVar 3) (eOp oIx (eVar 2) (eK (.int 0)))) (eOp oIx (eVar 2) (eK (.int 1)))) (eK (.int 0)))) (toB (eOp oDin (eOp oAdd (eVar 4) (eOp oIx (eVar 2) (eK (.int 1)))) (eVar 5)))) (sSeq (sAsg (eCa (Cm.f .P m_boxes_between) (aCons (eVar 5) (aCons (eOp oAdd (eVar 4) (eOp oIx (eVar 2) (eK (.int 1)))) (aCons (eVar 4) (aNil))))) (gT 2 (gsCons (gN 9) (gsCons (gN 6) (gsNil))))) (sSeq (sSet 6 (eV (eOp oCat (eVar 6) (eV (lLst (aCons (eVar 2) (aNil))))))) (sSeq (sSet 7 (eCa bMin (aCons (eV (c_lowered_2)) (aNil)))) (sSeq (sDrop (eCa (Cm.f .M m_shift_boxes) (aCons (eVar 3) (aCons (eVar 9) (aCons (eVar 6) (aCons (eVar 7) (aNil))))))) (sSet 5 (eCa (Cm.f .M m_reached_sides) (aCons (eVar 3) (aCons (eVar 1) (aCons (eVar 2) (aCons (eOp oIx (eVar 2) (eK (.int 0))) (aNil)))))))))))
def b_lowered : SS := sSeq (sSet 3 (eV (c_lowered_1))) (sSeq (sSet 4 (eCa bLen (aCons (eVar 0) (aNil)))) (sSeq (sSet 5 (eCa (Cm.f .M m_reached_sides) (aCons (eVar 3) (aCons (eVar 1) (aCons (eVar 2) (aCons (eOp oIx (eVar 2) (eK (.int 0))) (aNil))))))) (sSeq (l_lowered_1) (sRet (eTup (aCons (eVar 3) (aCons (eVar 5) (aNil))))))))
def m_lowered : List D → Hv → R D := fnS 3 8 b_lowered
def c_sides_of_1 : LS := lLc (iL (eVar 0)) (gN 2) (toB (eOp oGe (eVar 2) (eVar 1))) (eOp oSub (eVar 2) (eVar 1)) [2]
def c_sides_of_2 : LS := lLc (iL (eVar 0)) (gN 2) (toB (eOp oLt (eVar 2) (eVar 1))) (eVar 2) [2]
def b_sides_of : SS := sRet (eTup (aCons (eV (c_sides_of_2)) (aCons (eV (c_sides_of_1)) (aNil))))
def m_sides_of : List D → Hv → R D := fnS 2 1 b_sides_of
def c_could_be_1 : LS := lLc (iL (eVar 1)) (gN 13) (cYes) (eTup (aCons (eOp oIx (eVar 13) (eK (.int 0))) (aCons (eOp oIx (eVar 13) (eK (.int 1))) (aNil)))) [13]
def c_could_be_2 : LS := lLc (iR1 (aCons (eVar 6) (aNil))) (gN 14) (toB (eOp oDnin (eVar 14) (eVar 11))) (eVar 14) [14]
def b_could_be : SS := sSeq (sSet 3 (eV (c_could_be_1))) (sSeq (sSet 4 (eTup (aCons (eOp oIx (eVar 2) (eK (.int 0))) (aCons (eOp oIx (eVar 2) (eK (.int 1))) (aNil))))) (sSeq (sIf (toB (eOp oNotInP (eVar 4) (eVar 3))) (sRaiseP "NoVeil" "cell" (eVar 4)) (sNext)) (sSeq (sSet 5 (eCa bLen (aCons (eVar 0) (aNil)))) (sSeq (sSet 6 (eOp oAdd (eVar 5) (eCa bLen (aCons (eOp oIx (eVar 0) (eK (.int 0))) (aNil))))) (sSeq (sAsg (eCa (Cm.f .P m_lowered) (aCons (eVar 0) (aCons (eVar 3) (aCons (eVar 4) (aNil))))) (gT 2 (gsCons (gN 10) (gsCons (gN 11) (gsNil))))) (sSeq (sSet 7 (eOp oIx (eOp oIx (eVar 10) (eOp oIx (eVar 4) (eK (.int 0)))) (eOp oIx (eVar 4) (eK (.int 1))))) (sSeq (sSet 8 (eK .non)) (sSeq (sIf (toB (eOp oGt (eVar 7) (eK (.int 0)))) (sSet 8 (eCa (Cm.f .P m_sides_of) (aCons (eV (eCa bSortDI (aCons (eVar 11) (aNil)))) (aCons (eVar 5) (aNil))))) (sNext)) (sSeq (sAsg (eCa (Cm.f .P m_raised) (aCons (eVar 0) (aCons (eVar 3) (aCons (eVar 4) (aNil))))) (gT 2 (gsCons (gN 12) (gsCons (gN 11) (gsNil))))) (sSeq (sSet 9 (eCa (Cm.f .P m_sides_of) (aCons (eV (c_could_be_2)) (aCons (eVar 5) (aNil))))) (sRet (eTup (aCons (eVar 7) (aCons (eVar 10) (aCons (eVar 8) (aCons (eOp oIx (eOp oIx (eVar 12) (eOp oIx (eVar 4) (eK (.int 0)))) (eOp oIx (eVar 4) (eK (.int 1)))) (aCons (eVar 12) (aCons (eVar 9) (aNil)))))))))))))))))))
def m_could_be : List D → Hv → R D := fnS 3 12 b_could_be
def RtH (n0 : Nat) (P : R D → Prop) (r : RS) : Prop := match r with
  | .ret d h => P (exitD n0 d h)
  | .next _ h => P (exitD n0 .non h)
  | .exc x _ h => P (exitX n0 x h)
  | _ => False
section
variable {P : R D → Prop} {σ : VS} {h : Hv} {d : D} {n0 : Nat} {x : Xn}
@[simp] theorem Wp_rth_ret : Wp (RtH n0 P) (.ret d h) = P (exitD n0 d h) := Wp.eq _ _
@[simp] theorem Wp_rth_next : Wp (RtH n0 P) (.next σ h) = P (exitD n0 .non h) := Wp.eq _ _
@[simp] theorem Wp_rth_exc : Wp (RtH n0 P) (.exc x σ h) = P (exitX n0 x h) := Wp.eq _ _
@[simp] theorem Wp_rth_stuck : Wp (RtH n0 P) .stuck = False := Wp.eq _ _
end
theorem fnS_ofH {P : R D → Prop} {np nl : Nat} {body : SS} {ds : List D} {h : Hv} (hl : ds.length = np) (hw : Wp (RtH h.length P) (body (ds.map some ++ List.replicate nl none) h)) : P (fnS np nl body ds h) := by
  replace hw := hw.run
  unfold fnS
  rw [if_pos hl]
  generalize body (ds.map some ++ List.replicate nl none) h = r at hw ⊢
  cases r <;> first | exact hw | exact hw.elim
section
variable {A : Hv} {x y z : Cell}
theorem ap0 : (A ++ [x, y])[A.length]? = some x := by rw [List.getElem?_append_right (Nat.le_refl _), Nat.sub_self]; rfl
theorem ap1 : (A ++ [x, y])[A.length + 1]? = some y := by rw [List.getElem?_append_right (Nat.le_succ _), Nat.succ_sub (Nat.le_refl _), Nat.sub_self]; rfl
theorem st0 : (A ++ [x, y]).set A.length z = A ++ [z, y] := by rw [List.set_append_right _ _ (Nat.le_refl _), Nat.sub_self]; rfl
theorem st1 : (A ++ [x, y]).set (A.length + 1) z = A ++ [x, z] := by rw [List.set_append_right _ _ (Nat.le_succ _), Nat.succ_sub (Nat.le_refl _), Nat.sub_self]; rfl
theorem apl : (A ++ [x]).length = A.length + 1 := List.length_append
theorem apa : A ++ [x] ++ [y] = A ++ [x, y] := List.append_assoc _ _ _
end
def bx (b : Bx) : D := .tup [.int b.1, .int b.2]
def rowC (r : List Int) : Cell := .lst (r.map .int)
def hv (g : Gd) : Hv := g.map rowC
def gD (g : Gd) : D := .lst (g.map fun r => .lst (r.map .int))
def nowD (m : Bool) (g : Gd) : D := if m = true then .lst ((List.range g.length).map .cell) else gD g
def nowH (m : Bool) (g : Gd) : Hv := if m = true then hv g else []
def encO : Option (Nat × Bx) → D
  | none => .non
  | some (x, b) => .tup [.int x, bx b]
def encK (c : Came) : List (Key × D) := c.map fun p => (.inl (p.1 : Int), encO p.2)
def encL (c : Came) : List D := c.map fun p => .int (p.1 : Int)
def hidD (H : List Bx) : D := .lst (H.map bx)
theorem eqD_bx {h : Hv} {a b : Bx} : eqD h (bx a) (bx b) = some (decide (a = b)) := by
  have := eqD_en h ((a.1 : Int), (a.2 : Int)) ((b.1 : Int), (b.2 : Int))
  have e : decide (((a.1 : Int), (a.2 : Int)) = ((b.1 : Int), (b.2 : Int))) = decide (a = b) := by
    rw [decide_eq_decide]
    constructor
    · intro z; injection z with z1 z2; exact Prod.ext (by omega) (by omega)
    · intro z; rw [z]
  rw [e] at this
  exact this
theorem getD_isSome {c : Came} {n : Nat} : (getD (encK c) (.inl (n : Int))).isSome = decide (n ∈ keys c) := by
  induction c with
  | nil => rfl
  | cons p c ih =>
    show (getD ((Sum.inl (p.1 : Int), encO p.2) :: encK c) (.inl (n : Int))).isSome = _
    rw [getD_cons]
    by_cases q : p.1 = n
    · rw [if_pos (by rw [q]), decide_eq_true (by simp [keys, q])]; rfl
    · have q1 : (Sum.inl (p.1 : Int) : Key) ≠ .inl (n : Int) := fun z => by injection z with z; omega
      rw [if_neg q1, ih, decide_eq_decide]
      simp only [keys, List.map_cons, List.mem_cons]
      exact ⟨.inr, fun z => z.resolve_left fun z => q z.symm⟩
theorem isSome_add {c : Came} {a b : Nat} : (getD (encK c) (.inl ((a : Int) + (b : Int)))).isSome = decide (a + b ∈ keys c) := getD_isSome (n := a + b)
theorem getD_at {c : Came} (nd : (keys c).Nodup) {i n : Nat} {o : Option (Nat × Bx)} (e : c[i]? = some (n, o)) : getD (encK c) (.inl (n : Int)) = some (encO o) := by
  induction c generalizing i with
  | nil => simp at e
  | cons p c ih =>
    show getD ((Sum.inl (p.1 : Int), encO p.2) :: encK c) (.inl (n : Int)) = _
    rw [getD_cons]
    have nd2 : p.1 ∉ keys c ∧ (keys c).Nodup := List.nodup_cons.mp nd
    cases i with
    | zero =>
      rw [List.getElem?_cons_zero] at e
      cases e
      rw [if_pos rfl]
    | succ i =>
      rw [List.getElem?_cons_succ] at e
      have hn : n ∈ keys c := mem_keys.mpr ⟨i, o, e⟩
      have q1 : (Sum.inl (p.1 : Int) : Key) ≠ .inl (n : Int) := fun z => by
        injection z with z
        have : p.1 = n := by omega
        rw [this] at nd2
        exact nd2.1 hn
      rw [if_neg q1]
      exact ih nd2.2 e
theorem putD_new {c : Came} {n : Nat} {d : D} (h : n ∉ keys c) : putD (encK c) (.inl (n : Int)) d = encK c ++ [(.inl (n : Int), d)] := by
  unfold putD
  rw [if_neg]
  intro z
  obtain ⟨p, hp, q⟩ := List.any_eq_true.mp z
  obtain ⟨r, hr, rfl⟩ := List.mem_map.mp hp
  have q := of_decide_eq_true q
  injection q with q
  exact h (List.mem_map.mpr ⟨r, hr, by omega⟩)
theorem putD_add {c : Came} {a b : Nat} {d : D} (h : a + b ∉ keys c) : putD (encK c) (.inl ((a : Int) + (b : Int))) d = encK c ++ [(.inl ((a + b : Nat) : Int), d)] := putD_new (n := a + b) h
theorem encK_snoc {c : Came} {p : Nat × Option (Nat × Bx)} : encK c ++ [(.inl (p.1 : Int), encO p.2)] = encK (c ++ [p]) := (List.map_append (l₁ := c) (l₂ := [p])).symm
theorem encL_snoc {c : Came} {p : Nat × Option (Nat × Bx)} : encL c ++ [.int (p.1 : Int)] = encL (c ++ [p]) := (List.map_append (l₁ := c) (l₂ := [p])).symm
theorem encK_len {c : Came} : (encK c).length = c.length := List.length_map _
theorem encL_len {c : Came} : (encL c).length = c.length := List.length_map _
def rowD (m : Bool) (g : Gd) (r : Nat) : D := if m = true then .cell r else .lst ((g[r]?.getD []).map .int)
theorem ix_now {m : Bool} {g : Gd} {h : Hv} {r : Nat} (hr : r < g.length) : ixD h (nowD m g) (r : Int) = some (rowD m g r) := by
  cases m with
  | true =>
    show atI ((List.range g.length).map D.cell) (r : Int) = some (.cell r)
    exact atI_map (atI_at rfl (List.getElem?_range hr))
  | false =>
    show atI (g.map fun r => D.lst (r.map .int)) (r : Int) = some (.lst ((g[r]?.getD []).map .int))
    rw [List.getElem?_eq_getElem hr]
    exact atI_map (e := fun r : List Int => D.lst (r.map .int)) (atI_at rfl (List.getElem?_eq_getElem hr))
theorem ix_row {m : Bool} {g : Gd} {R C : Nat} (sh : Sh R C g) {e : Hv} {r c : Nat} (hr : r < R) (hc : c < C) : ixD (nowH m g ++ e) (rowD m g r) (c : Int) = some (.int (gv g (r, c))) := by
  obtain ⟨row, e1, e2⟩ := gv_at sh hr hc
  have e3 : atI (row.map D.int) (c : Int) = some (.int (gv g (r, c))) := atI_map (atI_at rfl e2)
  cases m with
  | true =>
    show ixD (hv g ++ e) (.cell r) (c : Int) = _
    have : (hv g ++ e)[r]? = some (.lst (row.map D.int)) := by
      rw [List.getElem?_append_left (by unfold hv; rw [List.length_map, sh.len]; exact hr)]
      unfold hv
      rw [List.getElem?_map, e1]; rfl
    rw [ixD_cell, this]
    exact e3
  | false =>
    show ixD _ (.lst ((g[r]?.getD []).map .int)) (c : Int) = _
    rw [e1]
    exact e3
theorem len_now {m : Bool} {g : Gd} {h : Hv} : lenD h (nowD m g) = some (g.length : Int) := by
  cases m with
  | true => show some (((List.range g.length).map D.cell).length : Int) = _; rw [List.length_map, List.length_range]
  | false => show some ((g.map fun r => D.lst (r.map .int)).length : Int) = _; rw [List.length_map]
theorem frzC_row {n0 : Nat} {h : Hv} (r : List Int) : frzC n0 h (rowC r) = some (rowC r) := by
  show (optAll (frz n0 h 12) (r.map .int)).map Cell.lst = _
  rw [optAll_map (g := frz n0 h 12) (e := D.int) (e' := D.int) (fun _ _ => rfl)]; rfl
theorem frzH {n0 : Nat} {h : Hv} {m : Bool} {g : Gd} : optAll (frzC n0 h) (nowH m g) = some (nowH m g) := by
  cases m with
  | true => exact optAll_map (g := frzC n0 h) (e := rowC) (e' := rowC) fun r _ => frzC_row r
  | false => rfl
theorem frz_bx {n0 n : Nat} {h : Hv} {b : Bx} : frz n0 h (n + 2) (bx b) = some (bx b) := rfl
theorem frz_encO {n0 n : Nat} {h : Hv} (o : Option (Nat × Bx)) : frz n0 h (n + 3) (encO o) = some (encO o) := by
  cases o with
  | none => rfl
  | some p => rfl
def cameD (c : Came) : D := .dct ((encK c).map (·.1)) ((encK c).map (·.2))
theorem stp_no {R : Nat} {g : Gd} {cell b : Bx} {x : Nat} {c : Came} (h1 : ¬ (b ≠ cell ∧ x = b.1 ∧ R + b.2 ∉ keys c)) (h2 : ¬ (b ≠ cell ∧ x = R + b.2 ∧ 0 < gv g b ∧ b.1 ∉ keys c)) : stp R g cell x c b = c := by
  unfold stp
  simp only
  rw [if_neg h1, if_neg h2]
theorem stp_row {R : Nat} {g : Gd} {cell b : Bx} {x : Nat} {c : Came} (hx : x < R) (h1 : b ≠ cell ∧ x = b.1 ∧ R + b.2 ∉ keys c) : stp R g cell x c b = c ++ [(R + b.2, some (x, b))] := by
  unfold stp
  simp only
  rw [if_pos h1, if_neg (fun z => by have := z.2.1; omega)]
theorem stp_col {R : Nat} {g : Gd} {cell b : Bx} {x : Nat} {c : Came} (hb : b.1 < R) (h1 : b ≠ cell ∧ x = R + b.2 ∧ 0 < gv g b ∧ b.1 ∉ keys c) : stp R g cell x c b = c ++ [(b.1, some (x, b))] := by
  unfold stp
  simp only
  have q : ¬ (b ≠ cell ∧ x = b.1 ∧ R + b.2 ∉ keys c) := fun z => by
    have e1 := z.2.1
    have e2 := h1.2.1
    omega
  rw [if_neg q, if_pos h1]
theorem Wf.one {R : Nat} {g : Gd} {H : List Bx} {cell : Bx} {s : Nat} : Wf R g H cell s [(s, none)] where
  hd := rfl
  nd := by simp [keys]
  st := fun i y o h e => by
    cases i with
    | zero => exact absurd h (Nat.lt_irrefl _)
    | succ i => simp at e
theorem kvOf_came {h : Hv} {c : Came} : kvOf h (cameD c) = some (encK c) := by
  show (if ((encK c).map (·.1)).length = ((encK c).map (·.2)).length then some (((encK c).map (·.1)).zip ((encK c).map (·.2))) else none) = _
  rw [List.length_map, List.length_map, if_pos rfl, List.zip_map', List.map_id'']
  exact fun _ => rfl
theorem isD_encO {o : Option (Nat × Bx)} : isD (encO o) .non = some (!o.isSome) := by
  cases o <;> rfl
theorem idx_key {c : Came} (nd : (keys c).Nodup) {i n : Nat} {o : Option (Nat × Bx)} (e : c[i]? = some (n, o)) : (keys c).idxOf n = i := by
  have hm : n ∈ keys c := mem_keys.mpr ⟨i, o, e⟩
  have hl := List.idxOf_lt_length_of_mem hm
  have e1 : (keys c)[i]? = some n := by unfold keys; rw [List.getElem?_map, e]; rfl
  have e2 : (keys c)[(keys c).idxOf n]? = some n := by rw [List.getElem?_eq_getElem hl, List.getElem_idxOf hl]
  exact (List.getElem?_inj hl nd).mp (e2.trans e1.symm)
theorem frz_bxs {n0 n : Nat} {h : Hv} (L : List Bx) : optAll (frz n0 h (n + 2)) (L.map bx) = some (L.map bx) := optAll_map (g := frz n0 h (n + 2)) (e := bx) (e' := bx) fun _ _ => rfl
theorem between_eq {R C : Nat} {g : Gd} {H : List Bx} {cell : Bx} {s t i : Nat} {o : Option (Nat × Bx)} {c : Came} (hi : In R C H) (w : Wf R g H cell s c) (hc : c.length ≤ 1000) (ht : c[i]? = some (t, o)) :
    ∃ G F, m_boxes_between [cameD c, .int (t : Int), .int (R : Int)] [] = .ok (.tup [.lst (G.map bx), .lst (F.map bx)]) [] ∧ Way R g H cell c t 0 s G F ∧ G.length ≤ 1000 ∧ F.length ≤ 1000 := by
  refine fnS_of (P := fun x => ∃ G F, x = .ok (.tup [.lst (G.map bx), .lst (F.map bx)]) [] ∧ Way R g H cell c t 0 s G F ∧ G.length ≤ 1000 ∧ F.length ≤ 1000) rfl ?_
  unfold b_boxes_between
  simp
  unfold l_boxes_between_1
  have hi0 := (List.getElem?_eq_some_iff.mp ht).1
  obtain ⟨I, hI⟩ : ∃ I : VS → Hv → Prop, I = fun σ h => ∃ (x5 x6 : Option D) (G F : List Bx) (k n : Nat) (o : Option (Nat × Bx)), σ = [some (cameD c), some (.int (n : Int)), some (.int (R : Int)), some (.cell 0), some (.cell 1), x5, x6] ∧ h = [.lst (G.map bx), .lst (F.map bx)] ∧ c[k]? = some (n, o) ∧ Way R g H cell c t k n G F ∧ G.length + F.length + k ≤ 1000 := ⟨_, rfl⟩
  refine Wp.while I (fun σ _ => (keys c).idxOf (slN σ 1)) ?_ ?_
  · intro σ h hh
    rw [hI] at hh
    obtain ⟨x5, x6, G, F, k, n, o, rfl, rfl, hk, wy, ll⟩ := hh
    have eg := getD_at w.nd hk
    have ks : slN [some (cameD c), some (.int (n : Int)), some (.int (R : Int)), some (.cell 0), some (.cell 1), x5, x6] 1 = n := rfl
    rw [ks, idx_key w.nd hk]
    cases o with
    | none =>
      refine ⟨false, by simp [kvOf_came, eg, isD_encO], ?_⟩
      rw [if_neg (by simp)]
      have k0 : k = 0 := by
        refine Classical.byContradiction fun z => ?_
        obtain ⟨_, _, _, _, e, _⟩ := w.st k n none (by omega) hk
        cases e
      subst k0
      rw [w.hd] at hk
      cases hk
      simp [frz_bxs]
      exact ⟨G, F, ⟨rfl, rfl⟩, wy, by omega, by omega⟩
    | some p =>
      refine ⟨true, by simp [kvOf_came, eg, isD_encO], ?_⟩
      rw [if_pos rfl]
      have k0 : 0 < k := by
        refine Nat.pos_of_ne_zero fun z => ?_
        subst z
        rw [w.hd] at hk
        cases hk
      obtain ⟨x, b, j, p', e, ed, hj, hc'⟩ := w.st k n _ k0 hk
      cases e
      have eo : encO (some (x, b)) = .tup [.int x, bx b] := rfl
      rw [eo] at eg
      by_cases q : x < R
      · simp [kvOf_came, eg, q]
        have l1 : G.length < 16777216 := by omega
        simp [l1]
        rw [hI]
        refine ⟨⟨_, _, G ++ [b], F, j, x, p', rfl, by simp, hc', wy.grow w hj ed q, by simp; omega⟩, ?_⟩
        show (keys c).idxOf x < k
        rw [idx_key w.nd hc']; exact hj
      · simp [kvOf_came, eg, q]
        have l1 : F.length < 16777216 := by omega
        simp [l1]
        rw [hI]
        refine ⟨⟨_, _, G, F ++ [b], j, x, p', rfl, by simp, hc', wy.fall w hk hj hi ed q, by simp; omega⟩, ?_⟩
        show (keys c).idxOf x < k
        rw [idx_key w.nd hc']; exact hj
  · rw [hI]
    exact ⟨_, _, [], [], i, t, o, rfl, rfl, ht, Way.start, by simp; omega⟩
theorem hv_set {g : Gd} {b : Bx} {v : Int} : (hv g).set b.1 (.lst (((g[b.1]?.getD []).map D.int).set b.2 (.int v))) = hv (upd g b v) := by
  unfold hv upd
  rw [List.map_set]
  congr 1
  show Cell.lst _ = Cell.lst _
  rw [List.map_set]
theorem hv_at {R C : Nat} {g : Gd} (sh : Sh R C g) {r : Nat} (hr : r < R) : (hv g)[r]? = some (.lst ((g[r]?.getD []).map .int)) ∧ (g[r]?.getD []).length = C := by
  obtain ⟨row, e1, e2⟩ := sh.at hr
  unfold hv
  rw [List.getElem?_map, e1]
  exact ⟨rfl, e2⟩
theorem shf_take {g : Gd} {L : List Bx} {a : Int} {k : Nat} {b : Bx} (hk : L[k]? = some b) : shf g (L.take (k + 1)) a = upd (shf g (L.take k) a) b (gv (shf g (L.take k) a) b + a) := by
  rw [List.take_add_one, hk, shf_append]; rfl
def hvv (h : Hv) (b : Bx) : Int := match h[b.1]? with
  | some (.lst xs) => (match xs[b.2]? with
    | some (.int v) => v
    | _ => 0)
  | _ => 0
theorem pure_came {c : Came} {n0 n : Nat} {h : Hv} : frz n0 h (n + 4) (cameD c) = some (cameD c) := by
  show (optAll (frz n0 h (n + 3)) ((encK c).map (·.2))).map (D.dct ((encK c).map (·.1))) = _
  have e2 : (encK c).map (·.2) = c.map (fun p => encO p.2) := by unfold encK; rw [List.map_map]; rfl
  rw [e2, optAll_map (g := frz n0 h (n + 3)) (e := fun p : Nat × Option (Nat × Bx) => encO p.2) (e' := fun p : Nat × Option (Nat × Bx) => encO p.2) (fun p _ => frz_encO (n := n) p.2)]
  unfold cameD
  rw [e2]; rfl
theorem copy_rows {Q : RS → Prop} {g : Gd} {is : IS} {gd : GD} {own : List Nat} {i : Nat} {σ : VS} (hl : g.length ≤ 16777216) (his : is σ [] = .ok (g.map (fun r => D.lst (r.map .int)), always) []) (hg : ∀ r : List Int, ∃ σ1, gd (.lst (r.map .int)) (wipeV σ own) = some σ1 ∧ σ1[i]? = some (some (.lst (r.map .int)))) :
    lLc is gd cYes (eC (eCa bList (aCons (eVar i) aNil))) own σ [] = .ok ((List.range g.length).map D.cell) (hv g) := by
  have := lLc_cells (is := is) (gd := gd) (el := eC (eCa bList (aCons (eVar i) aNil))) (own := own) (σ := σ) (h := []) (h0 := []) (fun r : List Int => D.lst (r.map .int)) (fun r => r.map .int) g his hl (fun r _ => by
    obtain ⟨σ1, e1, e2⟩ := hg r
    refine ⟨σ1, e1, fun h1 => ?_⟩
    simp [e2])
  rw [this]
  congr 1
  simp
structure Up (R C : Nat) (H : List Bx) (cell : Bx) (g g' : Gd) (c : Came) : Prop where
  same : Same R C H g g'
  wf : Wf R g' H cell (R + cell.2) c
  cl : Cl R g' H cell c c.length
  mv : g' = g ∨ (gv g cell < gv g' cell ∧ Reach R g H cell (R + cell.2) cell.1)
structure Dn (R C : Nat) (H : List Bx) (cell : Bx) (g g' : Gd) (c : Came) : Prop where
  same : Same R C H g g'
  wf : Wf R g' H cell cell.1 c
  cl : Cl R g' H cell c c.length
  mv : g' = g ∨ (gv g' cell < gv g cell ∧ 0 < gv g cell ∧ Reach R g H cell cell.1 (R + cell.2))
def sortN (ns : List Nat) : List Nat := (sortI (ns.map fun n : Nat => (n : Int))).map Int.toNat
theorem sortN_cast (ns : List Nat) : (sortN ns).map (fun n : Nat => (n : Int)) = sortI (ns.map fun n : Nat => (n : Int)) := by
  unfold sortN
  rw [List.map_map]
  refine (List.map_congr_left fun i hi => ?_).trans (List.map_id _)
  have := (sortI_perm _).mem_iff.mp hi
  obtain ⟨n, _, rfl⟩ := List.mem_map.mp this
  show ((n : Int).toNat : Int) = (n : Int)
  omega
theorem sortN_perm (ns : List Nat) : (sortN ns).Perm ns := by
  have := (sortI_perm (ns.map fun n : Nat => (n : Int))).map Int.toNat
  rw [List.map_map] at this
  refine this.trans (List.Perm.of_eq ?_)
  refine (List.map_congr_left fun i hi => ?_).trans (List.map_id _)
  exact Int.toNat_natCast i
theorem sortN_rises (ns : List Nat) : (sortN ns).Pairwise (· ≤ ·) := by
  have := sortI_rises (ns.map fun n : Nat => (n : Int))
  rw [← sortN_cast, List.pairwise_map] at this
  exact this.imp fun h => by omega
theorem sorted_came {c : Came} {h : Hv} (hl : c.length < 64) : bSortDI [cameD c] h = .ok ((sortN (keys c)).map fun n : Nat => .int (n : Int)) h := by
  have e : optAll intK ((encK c).map (·.1)) = some ((keys c).map fun n : Nat => (n : Int)) := by
    unfold encK keys
    rw [List.map_map, List.map_map]
    exact optAll_map fun _ _ => rfl
  have e2 : ((sortN (keys c)).map fun n : Nat => D.int (n : Int)) = (sortI ((keys c).map fun n : Nat => (n : Int))).map D.int := by
    rw [← sortN_cast, List.map_map]; rfl
  unfold bSortDI
  simp only [kvOf_came, Option.bind_some, e]
  rw [if_pos (by unfold keys; rw [List.length_map, List.length_map]; exact hl), e2]
def toP (b : Bx) : Int × Int := ((b.1 : Int), (b.2 : Int))
def ofP (p : Int × Int) : Bx := (p.1.toNat, p.2.toNat)
theorem ofP_toP (b : Bx) : ofP (toP b) = b := Prod.ext (show ((b.1 : Int)).toNat = b.1 by omega) (show ((b.2 : Int)).toNat = b.2 by omega)
def natsD (ns : List Nat) : D := .lst (ns.map fun n : Nat => .int (n : Int))
theorem ixg {R C : Nat} {g : Gd} (sh : Sh R C g) {r c : Nat} (hr : r < R) (hc : c < C) {h : Hv} : ∃ d, ixD h (gD g) (r : Int) = some d ∧ (∀ h', ixD h' d (c : Int) = some (.int (gv g (r, c)))) ∧ ∀ h', lenD h' d = some (C : Int) := by
  obtain ⟨row, e1, e2⟩ := sh.at hr
  refine ⟨.lst (row.map .int), ?_, fun h' => ?_, fun h' => by rw [lenD_lst, List.length_map, e2]⟩
  · have := ix_now (m := false) (g := g) (h := h) (r := r) (by rw [sh.len]; exact hr)
    unfold rowD at this
    rw [e1] at this
    exact this
  · have := ix_row (m := false) (e := h') sh hr hc
    unfold rowD at this
    rw [e1] at this
    exact this
theorem frz_gD {n0 n : Nat} {h : Hv} {g : Gd} : frz n0 h (n + 3) (gD g) = some (gD g) := by
  show (optAll (frz n0 h (n + 2)) (g.map fun r => D.lst (r.map .int))).map D.lst = _
  have key : ∀ r : List Int, frz n0 h (n + 2) (.lst (r.map .int)) = some (.lst (r.map .int)) := fun r => by
    show (optAll (frz n0 h (n + 1)) (r.map .int)).map D.lst = _
    rw [optAll_map (g := frz n0 h (n + 1)) (e := D.int) (e' := D.int) (fun _ _ => rfl)]; rfl
  rw [optAll_map (g := frz n0 h (n + 2)) (e := fun r : List Int => D.lst (r.map .int)) (e' := fun r : List Int => D.lst (r.map .int)) fun r _ => key r]; rfl
theorem frz_hid {n0 n : Nat} {h : Hv} {H : List Bx} : frz n0 h (n + 3) (hidD H) = some (hidD H) := by
  show (optAll (frz n0 h (n + 2)) (H.map bx)).map D.lst = _
  rw [frz_bxs]; rfl
theorem frz_nats {n0 n : Nat} {h : Hv} {ns : List Nat} : frz n0 h (n + 2) (natsD ns) = some (natsD ns) := by
  show (optAll (frz n0 h (n + 1)) (ns.map fun n : Nat => D.int (n : Int))).map D.lst = _
  rw [optAll_map (g := frz n0 h (n + 1)) (e := fun n : Nat => D.int (n : Int)) (e' := fun n : Nat => D.int (n : Int)) (fun _ _ => rfl)]; rfl
abbrev pairD (a b : Int) : D := .tup [.int a, .int b]
theorem boxes_again {H : List Bx} (hl : H.length ≤ 16777216) {x : D} {is : Nat} : ∀ (cmp : VS → Hv → R (List D)) (σ : VS) (h : Hv) (i : Nat), cmp = lLc (iL (eVar 1)) (gN i) cYes (eTup (aCons (eOp oIx (eVar i) (eK (.int 0))) (aCons (eOp oIx (eVar i) (eK (.int 1))) aNil))) [i] → σ[1]? = some (some (hidD H)) → i < σ.length → 1 < i → cmp σ h = .ok (H.map bx) h := by
  intro cmp σ h i e h1 hi h2
  subst e
  refine lLc_map bx bx H (chk := always) (h0 := h) ?_ rfl hl fun b _ => ⟨(σ.set i none).set i (some (bx b)), rfl, ?_⟩
  · simp [h1, hidD]
  · have e : ((σ.set i none).set i (some (bx b)))[i]? = some (some (bx b)) := List.getElem?_set_self (by rw [List.length_set]; exact hi)
    have j0 : ∀ h : Hv, ixD h (bx b) 0 = some (.int b.1) := fun _ => rfl
    have j1 : ∀ h : Hv, ixD h (bx b) 1 = some (.int b.2) := fun _ => rfl
    have e2 : ((σ.set i none).set i (some (bx b))) = σ.set i (some (bx b)) := List.set_set _
    rw [e2] at e
    simp [e, j0, j1]
    rfl
theorem here_yes {h : Hv} {H : List Bx} {a b : Int} (q : (a, b) ∈ H.map toP) : oNotInP (pairD a b) (hidD H) h = .ok (.bl false) h := by
  have := oNotInP_en (h := h) (a := (a, b)) (xs := H.map toP)
  have e : (H.map toP).map En.enc = H.map bx := by rw [List.map_map]; rfl
  rw [e] at this
  refine this.trans ?_
  congr 2
  simpa using q
def sidesD (ns : List Nat) (R : Nat) : D := .tup [natsD (ns.filter fun n => decide (n < R)), natsD ((ns.filter fun n => decide (R ≤ n)).map fun n => n - R)]
structure Could (R C : Nat) (H : List Bx) (cell : Bx) (g g1 g2 : Gd) (c1 c2 : Came) : Prop where
  dn : Dn R C H cell g g1 c1
  lo : ¬ (0 < gv g1 cell ∧ R + cell.2 ∈ keys c1)
  up : Up R C H cell g g2 c2
  hi : cell.1 ∉ keys c2
def restN (R C : Nat) (c : Came) : List Nat := (List.range (R + C)).filter fun n => !decide (n ∈ keys c)
def couldD (R C : Nat) (cell : Bx) (g1 g2 : Gd) (c1 c2 : Came) : D := .tup [.int (gv g1 cell), gD g1, if 0 < gv g1 cell then sidesD (sortN (keys c1)) R else .non, .int (gv g2 cell), gD g2, sidesD (restN R C c2) R]
theorem Could.le {R C : Nat} {H : List Bx} {cell : Bx} {g g1 g2 : Gd} {c1 c2 : Came} (w : Could R C H cell g g1 g2 c1 c2) : gv g1 cell ≤ gv g cell ∧ gv g cell ≤ gv g2 cell := by
  constructor
  · rcases w.dn.mv with e | e
    · rw [e]; exact Int.le_refl _
    · omega
  · rcases w.up.mv with e | e
    · rw [e]; exact Int.le_refl _
    · omega
end
end PW
set_option Elab.async false
set_option linter.all false
set_option maxRecDepth 100000
set_option maxHeartbeats 4000000
namespace PX
open PW PySem PySem.Spec PyProof.Rows L2 VD
noncomputable section
theorem inP_yes {α : Type} [DecidableEq α] [PySem.W.Datum α] [En α] {h : Hv} {a : α} {xs : List α} {x y : D} (q : a ∈ xs) (hx : x = En.enc a) (hy : y = .lst (xs.map En.enc)) (hd : PySem.W.Datum.depth α < 11 := by decide) : oInP x y h = .ok (.bl true) h ∧ oNotInP x y h = .ok (.bl false) h := by
  subst hx hy
  have e1 := oInP_en (h := h) (a := a) (xs := xs) hd
  have e2 := oNotInP_en (h := h) (a := a) (xs := xs) hd
  rw [decide_eq_true q] at e1 e2
  exact ⟨e1, e2⟩
theorem inP_no {α : Type} [DecidableEq α] [PySem.W.Datum α] [En α] {h : Hv} {a : α} {xs : List α} {x y : D} (q : a ∉ xs) (hx : x = En.enc a) (hy : y = .lst (xs.map En.enc)) (hd : PySem.W.Datum.depth α < 11 := by decide) : oInP x y h = .ok (.bl false) h ∧ oNotInP x y h = .ok (.bl true) h := by
  subst hx hy
  have e1 := oInP_en (h := h) (a := a) (xs := xs) hd
  have e2 := oNotInP_en (h := h) (a := a) (xs := xs) hd
  rw [decide_eq_false q] at e1 e2
  exact ⟨e1, e2⟩
abbrev Sd := Str × Int
def rw_ (i : Nat) : Sd := ("row", (i : Int))
def co_ (i : Nat) : Sd := ("column", (i : Int))
theorem rc_ne {i j : Nat} : rw_ i ≠ co_ j := fun z => by
  have : ("row" : Str) = "column" := congrArg Prod.fst z
  exact absurd this (by decide)
theorem rw_inj {i j : Nat} (h : rw_ i = rw_ j) : i = j := by
  have : (i : Int) = j := congrArg Prod.snd h
  omega
theorem co_inj {i j : Nat} (h : co_ i = co_ j) : i = j := by
  have : (i : Int) = j := congrArg Prod.snd h
  omega
structure Seen (R C : Nat) (g : Gd) (H : List Bx) (cell : Bx) (s : Nat) (xs : List Sd) : Prop where
  nd : xs.Nodup
  ok : ∀ p ∈ xs, (∃ i, i < R ∧ p = rw_ i ∧ Reach R g H cell s i) ∨ ∃ j, j < C ∧ p = co_ j ∧ Reach R g H cell s (R + j)
def ClB (g : Gd) (cell b : Bx) (xs : List Sd) : Prop := b ≠ cell → (rw_ b.1 ∈ xs → co_ b.2 ∈ xs) ∧ (co_ b.2 ∈ xs → 0 < gv g b → rw_ b.1 ∈ xs)
section
variable {R C : Nat} {g : Gd} {H : List Bx} {cell b : Bx} {s : Nat} {xs : List Sd}
theorem Seen.row (w : Seen R C g H cell s xs) {i : Nat} (h : rw_ i ∈ xs) : Reach R g H cell s i := by
  rcases w.ok _ h with ⟨j, _, e, r⟩ | ⟨j, _, e, _⟩
  · rw [rw_inj e]; exact r
  · exact absurd e rc_ne
theorem Seen.col (w : Seen R C g H cell s xs) {i : Nat} (h : co_ i ∈ xs) : Reach R g H cell s (R + i) := by
  rcases w.ok _ h with ⟨j, _, e, _⟩ | ⟨j, _, e, r⟩
  · exact absurd e.symm rc_ne
  · rw [co_inj e]; exact r
theorem Seen.snoc (w : Seen R C g H cell s xs) {p : Sd} (hp : p ∉ xs) (q : (∃ i, i < R ∧ p = rw_ i ∧ Reach R g H cell s i) ∨ ∃ j, j < C ∧ p = co_ j ∧ Reach R g H cell s (R + j)) : Seen R C g H cell s (xs ++ [p]) := by
  refine ⟨List.nodup_append.mpr ⟨w.nd, by simp, fun a ha d hd z => ?_⟩, fun x hx => ?_⟩
  · cases List.mem_singleton.mp hd
    exact hp (z ▸ ha)
  · rcases List.mem_append.mp hx with hx | hx
    · exact w.ok x hx
    · cases List.mem_singleton.mp hx
      exact q
theorem Seen.len (w : Seen R C g H cell s xs) : xs.length ≤ R + C := by
  have e : (xs.map fun p : Sd => if p.1 = "row" then p.2.toNat else R + p.2.toNat).length ≤ R + C := by
    refine nodup_len ?_ ?_
    · rw [List.nodup_iff_pairwise_ne, List.pairwise_map]
      refine (List.pairwise_iff_forall_sublist.mpr fun {a b} hab => ?_)
      have hm : a ∈ xs ∧ b ∈ xs := ⟨hab.subset (by simp), hab.subset (by simp)⟩
      have hne : a ≠ b := by
        have := w.nd.sublist hab
        simpa using this
      have r0 : ∀ i : Nat, (rw_ i).1 = "row" := fun _ => rfl
      have c0 : ∀ i : Nat, ¬ (co_ i).1 = "row" := fun _ => by show ¬ (("column" : Str) = "row"); decide
      have r1 : ∀ i : Nat, (rw_ i).2.toNat = i := fun i => Int.toNat_natCast i
      have c1 : ∀ i : Nat, (co_ i).2.toNat = i := fun i => Int.toNat_natCast i
      rcases w.ok a hm.1 with ⟨i, hi, rfl, _⟩ | ⟨i, hi, rfl, _⟩ <;> rcases w.ok b hm.2 with ⟨j, hj, rfl, _⟩ | ⟨j, hj, rfl, _⟩
      · rw [if_pos (r0 i), if_pos (r0 j), r1, r1]; exact fun z => hne (by rw [z])
      · rw [if_pos (r0 i), if_neg (c0 j), r1, c1]; omega
      · rw [if_neg (c0 i), if_pos (r0 j), c1, r1]; omega
      · rw [if_neg (c0 i), if_neg (c0 j), c1, c1]; exact fun z => hne (by rw [show i = j by omega])
    · intro x hx
      obtain ⟨p, hp, rfl⟩ := List.mem_map.mp hx
      rcases w.ok p hp with ⟨i, hi, rfl, _⟩ | ⟨i, hi, rfl, _⟩
      · rw [if_pos (show (rw_ i).1 = "row" from rfl)]; show ((i : Int)).toNat < R + C; omega
      · rw [if_neg (show ¬ (co_ i).1 = "row" by show ¬ (("column" : Str) = "row"); decide)]; show R + ((i : Int)).toNat < R + C; omega
  rw [List.length_map] at e
  exact e
/-- nothing more is come to -/
theorem Seen.all (w : Seen R C g H cell s xs) (hi : In R C H) (cl : ∀ b ∈ H, ClB g cell b xs) (st : (s < R ∧ rw_ s ∈ xs) ∨ ∃ j, s = R + j ∧ co_ j ∈ xs) : (∀ i, i < R → (rw_ i ∈ xs ↔ Reach R g H cell s i)) ∧ ∀ j, (co_ j ∈ xs ↔ Reach R g H cell s (R + j)) := by
  have key : ∀ y, Reach R g H cell s y → (y < R → rw_ y ∈ xs) ∧ ∀ j, y = R + j → co_ j ∈ xs := by
    intro y h
    induction h with
    | refl =>
      rcases st with ⟨h1, h2⟩ | ⟨j, h1, h2⟩
      · exact ⟨fun _ => h2, fun j h => by omega⟩
      · exact ⟨fun h => by omega, fun k h => by rw [show k = j by omega]; exact h2⟩
    | @step x y b h e ih =>
      obtain ⟨hb, hc, h3⟩ := e
      have b1 := (hi b hb).1
      rcases h3 with ⟨e1, e2⟩ | ⟨e1, e2, e3⟩
      · refine ⟨fun h => by omega, fun j h => ?_⟩
        rw [show j = b.2 by omega]
        exact (cl b hb hc).1 (by rw [← e1]; exact ih.1 (by omega))
      · refine ⟨fun _ => ?_, fun j h => by omega⟩
        rw [e2]
        exact (cl b hb hc).2 (ih.2 _ e1) e3
  exact ⟨fun i h => ⟨w.row, fun r => (key i r).1 h⟩, fun j => ⟨w.col, fun r => (key _ r).2 j rfl⟩⟩
end
end
end PX
set_option Elab.async false
set_option linter.all false
set_option maxRecDepth 100000
set_option maxHeartbeats 4000000
namespace PY
open PySem PySem.Spec PyProof.Rows L2 VD PW PX
noncomputable section
theorem ins_in {R C : Nat} {H : List Bx} {b : Bx} (hi : In R C H) (hb : b.1 < R ∧ b.2 < C) (k : Nat) : In R C (H.take k ++ [b] ++ H.drop k) ∧ (H.take k ++ [b] ++ H.drop k).length = H.length + 1 := by
  constructor
  · intro x hx
    rcases List.mem_append.mp hx with hx | hx
    · rcases List.mem_append.mp hx with hx | hx
      · exact hi x (List.mem_of_mem_take hx)
      · cases List.mem_singleton.mp hx; exact hb
    · exact hi x (List.mem_of_mem_drop hx)
  · simp only [List.length_append, List.length_take, List.length_drop, List.length_singleton]
    omega
theorem ins_map {H : List Bx} {b : Bx} {k : Nat} : (H.map bx).take k ++ [bx b] ++ (H.map bx).drop k = (H.take k ++ [b] ++ H.drop k).map bx := by
  rw [List.map_append, List.map_append, List.map_take, List.map_drop]; rfl
theorem box_in {h : Hv} {H : List Bx} {b : Bx} (q : b ∈ H) : oInP (bx b) (hidD H) h = .ok (.bl true) h ∧ oNotInP (bx b) (hidD H) h = .ok (.bl false) h :=
  inP_yes (a := toP b) (xs := H.map toP) (List.mem_map.mpr ⟨b, q, rfl⟩) rfl (by rw [List.map_map]; rfl)
theorem toP_inj {a b : Bx} (h : toP a = toP b) : a = b := by rw [← ofP_toP a, h, ofP_toP]
theorem box_out {h : Hv} {H : List Bx} {b : Bx} (q : b ∉ H) : oInP (bx b) (hidD H) h = .ok (.bl false) h ∧ oNotInP (bx b) (hidD H) h = .ok (.bl true) h :=
  inP_no (a := toP b) (xs := H.map toP) (fun z => by obtain ⟨c, hc, e⟩ := List.mem_map.mp z; rw [toP_inj e] at hc; exact q hc) rfl (by rw [List.map_map]; rfl)
theorem py_bxs {h : Hv} {n : Nat} (L : List Bx) : toPy h (n + 3) (hidD L) = some (.list (L.map fun b => .tuple [.int b.1, .int b.2])) := by
  show toPy h (n + 3) (.lst (L.map bx)) = _
  rw [toPy_lst, optAll_map (g := toPy h (n + 2)) (e := bx) (e' := fun b => PyData.tuple [.int b.1, .int b.2]) (fun _ _ => rfl)]; rfl
theorem py_gD {h : Hv} {n : Nat} (g : Gd) : toPy h (n + 3) (gD g) = some (.list (g.map fun r => .list (r.map .int))) := by
  show toPy h (n + 3) (.lst (g.map fun r => D.lst (r.map .int))) = _
  rw [toPy_lst, optAll_map (g := toPy h (n + 2)) (e := fun r : List Int => D.lst (r.map .int)) (e' := fun r : List Int => PyData.list (r.map .int)) (fun r _ => by rw [toPy_lst, toPy_ints]; rfl)]; rfl
theorem eqD_kept {h : Hv} {g : Gd} {H : List Bx} : eqD h (.tup [gD g, hidD H]) (.tup [gD g, hidD H]) = some true := eqD_same (p := .tuple [.list (g.map fun r => .list (r.map .int)), .list (H.map fun b => .tuple [.int b.1, .int b.2])]) (by
  rw [toPy_tup]
  simp [py_gD, py_bxs]) (by
  rw [toPy_tup]
  simp [py_gD, py_bxs])
theorem ktt : kitB "tuple" "tuple" = some true := by decide +kernel
theorem kll : kitB "list" "list" = some true := by decide +kernel
theorem copy_gD {is : IS} {gd : GD} {own : List Nat} {i : Nat} {σ : VS} {h : Hv} {g : Gd} (hl : g.length ≤ 16777216) (his : is σ h = .ok (g.map (fun r => D.lst (r.map .int)), always) h) (hg : ∀ r : List Int, ∃ σ1, gd (.lst (r.map .int)) (wipeV σ own) = some σ1 ∧ σ1[i]? = some (some (.lst (r.map .int)))) :
    lLc is gd cYes (eV (eCa bList (aCons (eVar i) aNil))) own σ h = .ok (g.map fun r => D.lst (r.map .int)) h := by
  refine lLc_map (fun r : List Int => D.lst (r.map .int)) (fun r : List Int => D.lst (r.map .int)) g (chk := always) (h0 := h) his rfl hl fun r _ => ?_
  obtain ⟨σ1, e1, e2⟩ := hg r
  refine ⟨σ1, e1, ?_⟩
  simp [e2]
end
end PY
set_option Elab.async false
set_option linter.all false
set_option maxRecDepth 100000
set_option maxHeartbeats 4000000
namespace PU
open PW
def sm (n : Nat) (f : Nat → Int) : Int := ((List.range n).map f).sum
section
variable {n m : Nat} {f g : Nat → Int}
theorem sm_0 : sm 0 f = 0 := rfl
theorem sm_s : sm (n + 1) f = sm n f + f n := by
  unfold sm
  rw [List.range_succ, List.map_append, List.sum_append]
  simp
theorem sm_congr (h : ∀ i, i < n → f i = g i) : sm n f = sm n g := by
  induction n with
  | zero => rfl
  | succ n ih => rw [sm_s, sm_s, ih fun i hi => h i (Nat.lt_succ_of_lt hi), h n (Nat.lt_succ_self n)]
theorem sm_sub : sm n (fun i => f i - g i) = sm n f - sm n g := by
  induction n with
  | zero => rfl
  | succ n ih => rw [sm_s, sm_s, sm_s, ih]; omega
theorem sm_add : sm n (fun i => f i + g i) = sm n f + sm n g := by
  induction n with
  | zero => rfl
  | succ n ih => rw [sm_s, sm_s, sm_s, ih]; omega
theorem sm_mul (a : Int) : sm n (fun i => a * f i) = a * sm n f := by
  induction n with
  | zero => rw [sm_0, sm_0, Int.mul_zero]
  | succ n ih => rw [sm_s, sm_s, ih, Int.mul_add]
theorem sm_zero (h : ∀ i, i < n → f i = 0) : sm n f = 0 := by
  induction n with
  | zero => rfl
  | succ n ih => rw [sm_s, ih fun i hi => h i (Nat.lt_succ_of_lt hi), h n (Nat.lt_succ_self n)]; rfl
theorem sm_swap {f : Nat → Nat → Int} : sm n (fun i => sm m (fun j => f i j)) = sm m (fun j => sm n (fun i => f i j)) := by
  induction n with
  | zero => rw [sm_0, sm_zero]; intro i _; rfl
  | succ n ih =>
    rw [sm_s, ih, ← sm_add]
    exact sm_congr fun i _ => by rw [sm_s]
end
theorem list_sm (l : List Int) : l.sum = sm l.length fun i => l[i]?.getD 0 := by
  unfold sm
  congr 1
  apply List.ext_getElem
  · rw [List.length_map, List.length_range]
  · intro i h1 h2
    rw [List.getElem_map, List.getElem_range, List.getElem?_eq_getElem h1, Option.getD_some]
section
variable {R C : Nat} {g g' : Gd}
theorem rs_sm (sh : Sh R C g) {r : Nat} (hr : r < R) : rs g r = sm C fun c => gv g (r, c) := by
  obtain ⟨row, e1, e2⟩ := sh.at hr
  unfold rs
  rw [e1, Option.getD_some, list_sm, e2]
  refine sm_congr fun c _ => ?_
  unfold gv
  show row[c]?.getD 0 = (g[r]?.getD [])[c]?.getD 0
  rw [e1]; rfl
theorem cs_sm (sh : Sh R C g) {c : Nat} : cs g c = sm R fun r => gv g (r, c) := by
  unfold cs gv
  rw [list_sm, List.length_map, sh.len]
  refine sm_congr fun r hr => ?_
  rw [List.getElem?_map]
  obtain ⟨row, e1, e2⟩ := sh.at hr
  rw [e1]; rfl
theorem weigh (sh : Sh R C g) (sh' : Sh R C g') (h1 : ∀ r, r < R → rs g' r = rs g r) (h2 : ∀ c, cs g' c = cs g c) (w v : Nat → Int) :
    (sm R fun r => sm C fun c => (w r - v c) * (gv g' (r, c) - gv g (r, c))) = 0 := by
  have e : (sm R fun r => sm C fun c => (w r - v c) * (gv g' (r, c) - gv g (r, c))) = (sm R fun r => w r * (rs g' r - rs g r)) - sm C fun c => v c * (cs g' c - cs g c) := by
    have e1 : ∀ r, r < R → (sm C fun c => (w r - v c) * (gv g' (r, c) - gv g (r, c))) = w r * (rs g' r - rs g r) - sm C fun c => v c * (gv g' (r, c) - gv g (r, c)) := fun r hr => by
      rw [rs_sm sh hr, rs_sm sh' hr, ← sm_sub, ← sm_mul, ← sm_sub]
      exact sm_congr fun c _ => by rw [Int.sub_mul]
    rw [sm_congr e1, sm_sub, sm_swap]
    congr 1
    refine sm_congr fun c _ => ?_
    rw [cs_sm sh, cs_sm sh', ← sm_sub, ← sm_mul]
  rw [e, sm_zero fun r hr => by rw [h1 r hr]; simp, sm_zero fun c _ => by rw [h2 c]; simp]; rfl
end
noncomputable def b2 (p : Prop) : Int := @ite _ p (Classical.propDecidable _) 1 0
theorem b2_y {p : Prop} (h : p) : b2 p = 1 := by unfold b2; rw [if_pos h]
theorem b2_n {p : Prop} (h : ¬ p) : b2 p = 0 := by unfold b2; rw [if_neg h]
section
variable {R C : Nat} {H : List Bx} {cell : Bx} {g g1 T : Gd} {c : Came}
theorem Same.symm {g g' : Gd} (sh : Sh R C g) (nn : Nn g) (s : Same R C H g g') : Same R C H g' g := ⟨sh, nn, fun r h => (s.rs r h).symm, fun k => (s.cs k).symm, fun b h => (s.off b h).symm⟩
end
end PU
set_option Elab.async false
set_option linter.all false
set_option maxRecDepth 100000
set_option maxHeartbeats 4000000
namespace PG
open PW PU
theorem sm_one {n k : Nat} {x : Int} (hk : k < n) : sm n (fun i => if i = k then x else 0) = x := by
  induction n with
  | zero => omega
  | succ n ih =>
    rw [sm_s]
    by_cases e : n = k
    · subst e
      rw [if_pos rfl, sm_zero (fun i hi => by rw [if_neg (by omega)])]
      omega
    · rw [if_neg e, ih (by omega)]
      omega
theorem sum_one {H : List Bx} {cell : Bx} {x : Int} (nd : H.Nodup) (hc : cell ∈ H) : (H.map fun b => if b = cell then x else 0).sum = x := by
  induction H with
  | nil => cases hc
  | cons b H ih =>
    rw [List.nodup_cons] at nd
    rw [List.map_cons, List.sum_cons]
    by_cases e : b = cell
    · subst e
      rw [if_pos rfl]
      have : (H.map fun a => if a = b then x else 0) = H.map fun _ => (0 : Int) := List.map_congr_left fun a ha => if_neg fun (z : a = b) => nd.1 (z ▸ ha)
      rw [this]
      have z : (H.map fun _ => (0 : Int)).sum = 0 := by
        clear this ih hc nd
        induction H with
        | nil => rfl
        | cons a H ih => rw [List.map_cons, List.sum_cons, ih]; rfl
      rw [z]; omega
    · rw [if_neg e, ih nd.2 ((List.mem_cons.mp hc).resolve_left fun z => e z.symm)]
      omega
theorem sm_list {R C : Nat} {F : Bx → Int} : ∀ {H : List Bx}, H.Nodup → In R C H → (H.map F).sum = sm R fun r => sm C fun c => if (r, c) ∈ H then F (r, c) else 0
  | [], _, _ => by
    rw [sm_zero fun r _ => sm_zero fun c _ => by rw [if_neg (by simp)]]; rfl
  | b :: H, nd, hi => by
    rw [List.nodup_cons] at nd
    obtain ⟨b1, b2⟩ := hi b List.mem_cons_self
    rw [List.map_cons, List.sum_cons, sm_list nd.2 fun a ha => hi a (List.mem_cons_of_mem _ ha)]
    have e : ∀ r c, (if (r, c) ∈ b :: H then F (r, c) else 0) = (if r = b.1 then (if c = b.2 then F b else 0) else 0) + if (r, c) ∈ H then F (r, c) else 0 := fun r c => by
      by_cases q : (r, c) = b
      · have q1 : r = b.1 := by rw [← q]
        have q2 : c = b.2 := by rw [← q]
        rw [if_pos (by rw [q]; exact List.mem_cons_self), if_pos q1, if_pos q2, if_neg (by rw [q]; exact nd.1), q]
        omega
      · have q2 : ¬ (r = b.1 ∧ c = b.2) := fun z => q (by rw [z.1, z.2])
        have z : (if r = b.1 then (if c = b.2 then F b else 0) else 0) = 0 := by
          by_cases r1 : r = b.1
          · rw [if_pos r1, if_neg fun z => q2 ⟨r1, z⟩]
          · rw [if_neg r1]
        rw [z]
        by_cases h : (r, c) ∈ H
        · rw [if_pos (List.mem_cons_of_mem _ h), if_pos h]; omega
        · rw [if_neg (fun z => (List.mem_cons.mp z).elim q h), if_neg h]; rfl
    have e2 : (sm R fun r => sm C fun c => if (r, c) ∈ b :: H then F (r, c) else 0) = sm R fun r => (if r = b.1 then F b else 0) + sm C fun c => if (r, c) ∈ H then F (r, c) else 0 := sm_congr fun r _ => by
      rw [sm_congr (g := fun c => (if r = b.1 then (if c = b.2 then F b else 0) else 0) + if (r, c) ∈ H then F (r, c) else 0) fun c _ => e r c, sm_add]
      congr 1
      by_cases r1 : r = b.1
      · simp only [if_pos r1]
        exact sm_one b2
      · simp only [if_neg r1]
        exact sm_zero fun _ _ => rfl
    rw [e2, sm_add, sm_one b1]
/-- of two tables alike outside: what they weigh where hidden -/
theorem weigh_list {R C : Nat} {H : List Bx} {g g' : Gd} (sh : Sh R C g) (s : Same R C H g g') (nd : H.Nodup) (iH : In R C H) (w v : Nat → Int) : (H.map fun b => (w b.1 - v b.2) * gv g' b).sum = (H.map fun b => (w b.1 - v b.2) * gv g b).sum := by
  have z := weigh sh s.sh s.rs s.cs w v
  have e : (sm R fun r => sm C fun c => (w r - v c) * (gv g' (r, c) - gv g (r, c))) = sm R fun r => sm C fun c => if (r, c) ∈ H then (w r - v c) * gv g' (r, c) - (w r - v c) * gv g (r, c) else 0 := sm_congr fun r _ => sm_congr fun c _ => by
    by_cases h : (r, c) ∈ H
    · rw [if_pos h, Int.mul_sub]
    · rw [if_neg h, s.off _ h, Int.sub_self, Int.mul_zero]
  rw [e, ← sm_list (F := fun b => (w b.1 - v b.2) * gv g' b - (w b.1 - v b.2) * gv g b) nd iH] at z
  have d : ∀ L : List Bx, (L.map fun b => (w b.1 - v b.2) * gv g' b - (w b.1 - v b.2) * gv g b).sum = (L.map fun b => (w b.1 - v b.2) * gv g' b).sum - (L.map fun b => (w b.1 - v b.2) * gv g b).sum := fun L => by
    induction L with
    | nil => rfl
    | cons a L ih => rw [List.map_cons, List.sum_cons, ih, List.map_cons, List.sum_cons, List.map_cons, List.sum_cons]; omega
  rw [d] at z
  omega
theorem ground {R C : Nat} {H : List Bx} {cell : Bx} {g g' : Gd} (sh : Sh R C g) (s : Same R C H g g') (nd : H.Nodup) (iH : In R C H) (hc : cell ∈ H) (w v : Nat → Int) (h1 : w cell.1 - v cell.2 = 1) (h0 : ∀ b ∈ H, b ≠ cell → (w b.1 - v b.2) * gv g' b = 0) : (H.map fun b => (w b.1 - v b.2) * gv g b).sum = gv g' cell := by
  rw [← weigh_list sh s nd iH w v, List.map_congr_left (g := fun b => if b = cell then gv g' cell else 0) fun b hb => ?_, sum_one nd hc]
  by_cases e : b = cell
  · rw [if_pos e, e, h1, Int.one_mul]
  · rw [if_neg e, h0 b hb e]
section
variable {R C : Nat} {H : List Bx} {cell : Bx} {g g1 g2 : Gd} {c c1 c2 : Came}
theorem up_zero (wf : Wf R g1 H cell (R + cell.2) c) (cl : Cl R g1 H cell c c.length) (nn : Nn g1) : ∀ b ∈ H, b ≠ cell → (b2 (b.1 ∉ keys c) - b2 (R + b.2 ∉ keys c)) * gv g1 b = 0 := fun b hb hne => by
  have ki := fun y => keys_iff wf cl (y := y)
  have step : ∀ x y b, Edge R g1 H cell x y b → x ∈ keys c → y ∈ keys c := fun x y b e h => (ki y).mpr (.step ((ki x).mp h) e)
  by_cases q1 : b.1 ∈ keys c
  · have q2 : R + b.2 ∈ keys c := step _ _ b ⟨hb, hne, .inl ⟨rfl, rfl⟩⟩ q1
    rw [b2_n (fun z => z q1), b2_n (fun z => z q2)]; simp
  · by_cases q2 : R + b.2 ∈ keys c
    · have q3 : gv g1 b = 0 := by
        have := nn b
        by_cases z : 0 < gv g1 b
        · exact absurd (step _ _ b ⟨hb, hne, .inr ⟨rfl, rfl, z⟩⟩ q2) q1
        · omega
      rw [q3, Int.mul_zero]
    · rw [b2_y q1, b2_y q2]; simp
theorem dn_zero (wf : Wf R g1 H cell cell.1 c) (cl : Cl R g1 H cell c c.length) (nn : Nn g1) : ∀ b ∈ H, b ≠ cell → (b2 (b.1 ∈ keys c) - b2 (R + b.2 ∈ keys c)) * gv g1 b = 0 := fun b hb hne => by
  have ki := fun y => keys_iff wf cl (y := y)
  have step : ∀ x y b, Edge R g1 H cell x y b → x ∈ keys c → y ∈ keys c := fun x y b e h => (ki y).mpr (.step ((ki x).mp h) e)
  by_cases q1 : b.1 ∈ keys c
  · have q2 : R + b.2 ∈ keys c := step _ _ b ⟨hb, hne, .inl ⟨rfl, rfl⟩⟩ q1
    rw [b2_y q1, b2_y q2]; simp
  · by_cases q2 : R + b.2 ∈ keys c
    · have q3 : gv g1 b = 0 := by
        have := nn b
        by_cases z : 0 < gv g1 b
        · exact absurd (step _ _ b ⟨hb, hne, .inr ⟨rfl, rfl, z⟩⟩ q2) q1
        · omega
      rw [q3, Int.mul_zero]
    · rw [b2_n q1, b2_n q2]; simp
/-- the ground above: rows and columns not reached from the cell's column -/
theorem up_ground (sh : Sh R C g) (w : Could R C H cell g g1 g2 c1 c2) (nd : H.Nodup) (iH : In R C H) (hc : cell ∈ H) : (H.map fun b => (b2 (b.1 ∉ keys c2) - b2 (R + b.2 ∉ keys c2)) * gv g b).sum = gv g2 cell := by
  have k0 : R + cell.2 ∈ keys c2 := (keys_iff w.up.wf w.up.cl).mpr .refl
  exact ground sh w.up.same nd iH hc (fun r => b2 (r ∉ keys c2)) (fun k => b2 (R + k ∉ keys c2)) (by rw [b2_y w.hi, b2_n (fun z => z k0)]; rfl) (up_zero w.up.wf w.up.cl w.up.same.nn)
/-- the ground below: rows and columns reached from the cell's row -/
theorem dn_ground (sh : Sh R C g) (w : Could R C H cell g g1 g2 c1 c2) (nd : H.Nodup) (iH : In R C H) (hc : cell ∈ H) (p : 0 < gv g1 cell) : (H.map fun b => (b2 (b.1 ∈ keys c1) - b2 (R + b.2 ∈ keys c1)) * gv g b).sum = gv g1 cell := by
  have k0 : cell.1 ∈ keys c1 := (keys_iff w.dn.wf w.dn.cl).mpr .refl
  have k1 : R + cell.2 ∉ keys c1 := fun z => w.lo ⟨p, z⟩
  exact ground sh w.dn.same nd iH hc (fun r => b2 (r ∈ keys c1)) (fun k => b2 (R + k ∈ keys c1)) (by rw [b2_y k0, b2_n k1]; rfl) (dn_zero w.dn.wf w.dn.cl w.dn.same.nn)
end
end PG
set_option Elab.async false
set_option linter.all false
set_option maxRecDepth 100000
set_option maxHeartbeats 4000000
namespace GC
open PySem PySem.Spec PyProof.Rows L2 VD
noncomputable section
def cellsG (n : Nat) : List D := (List.range n).map fun j => D.cell (1 + j)
def gH (G : List (List Int)) : Hv := .lst (cellsG G.length) :: G.map fun r => Cell.lst (r.map .int)
def gridD (G : List (List Int)) : D := .lst (G.map fun r => .lst (r.map .int))
section
variable {G : List (List Int)} {r : List Int} {j : Nat}
theorem cells_len {n : Nat} : (cellsG n).length = n := by unfold cellsG; simp
theorem gH_0 : (gH G)[0]? = some (.lst (cellsG G.length)) := rfl
theorem gH_len : (gH G).length = 1 + G.length := by unfold gH; simp; omega
theorem gH_s (h : G[j]? = some r) : (gH G)[1 + j]? = some (.lst (r.map .int)) := by
  unfold gH
  rw [Nat.add_comm 1 j, List.getElem?_cons_succ, List.getElem?_map, h]; rfl
theorem gH_app : (gH G ++ [Cell.lst []]).set 0 (.lst (cellsG G.length ++ [.cell (1 + G.length)])) = gH (G ++ [[]]) := by
  unfold gH cellsG
  rw [List.cons_append, List.set_cons_zero, List.length_append, List.length_singleton, List.range_succ, List.map_append, List.map_append]; rfl
theorem gH_set (hj : j < G.length) : (gH G).set (1 + j) (.lst (r.map .int)) = gH (G.set j r) := by
  unfold gH
  rw [Nat.add_comm 1 j, List.set_cons_succ, List.length_set, List.map_set]
theorem gH_ix {h : Hv} (h0 : h[0]? = some (.lst (cellsG G.length))) (hj : j < G.length) : ixD h (.cell 0) (j : Int) = some (.cell (1 + j)) := by
  rw [ixD_cell, h0]
  show atI (cellsG G.length) (j : Int) = _
  refine atI_at (j := j) rfl ?_
  unfold cellsG
  rw [List.getElem?_map, List.getElem?_range hj]; rfl
theorem range_map {α β : Type} (f : α → β) (d : α) (G : List α) : (List.range G.length).map (fun j => f (G[j]?.getD d)) = G.map f := by
  apply List.ext_getElem
  · simp
  · intro i h1 h2
    simp at h2
    simp [List.getElem?_eq_getElem h2]
theorem gH_frz {n : Nat} : frz 0 (gH G) (n + 3) (.cell 0) = some (gridD G) := by
  rw [frz_cell, if_neg (by omega), gH_0]
  show (optAll (frz 0 (gH G) (n + 2)) (cellsG G.length)).map D.lst = _
  unfold cellsG
  rw [optAll_map (g := frz 0 (gH G) (n + 2)) (e := fun j => D.cell (1 + j)) (e' := fun j => D.lst ((G[j]?.getD []).map .int)) fun j hj => ?_]
  · rw [range_map (fun r : List Int => D.lst (r.map .int)) [] G]; rfl
  · have jl := List.mem_range.mp hj
    rw [frz_cell, if_neg (by omega), gH_s (List.getElem?_eq_getElem jl), List.getElem?_eq_getElem jl]
    show (optAll (frz 0 (gH G) (n + 1)) (G[j].map D.int)).map D.lst = _
    rw [frz_ints]; rfl
end
end
end GC
namespace GC
open PySem PySem.Spec PyProof.Rows L2 VD
end GC
namespace GC
open PySem PySem.Spec PyProof.Rows L2 VD
end GC
set_option Elab.async false
set_option linter.all false
set_option maxRecDepth 100000
set_option maxHeartbeats 4000000
namespace PH
open PySem PySem.Spec PyProof.Rows L2 VD PW PX PY PU PG
noncomputable section
def rowsN (ns : List Nat) (R : Nat) : List Nat := ns.filter fun n => decide (n < R)
def colsN (ns : List Nat) (R : Nat) : List Nat := (ns.filter fun n => decide (R ≤ n)).map fun n => n - R
theorem mem_rowsN {ns : List Nat} {R r : Nat} : r ∈ rowsN ns R ↔ r ∈ ns ∧ r < R := by unfold rowsN; simp
theorem mem_colsN {ns : List Nat} {R k : Nat} : k ∈ colsN ns R ↔ R + k ∈ ns := by
  unfold colsN
  simp only [List.mem_map, List.mem_filter, decide_eq_true_eq]
  constructor
  · rintro ⟨n, ⟨h1, h2⟩, rfl⟩
    rw [show R + (n - R) = n by omega]; exact h1
  · intro h
    exact ⟨R + k, ⟨h, by omega⟩, by omega⟩
theorem up_rowsN {ns : List Nat} {R : Nat} (h : ns.Pairwise (· < ·)) : (rowsN ns R).Pairwise (· < ·) := h.filter _
theorem up_colsN {ns : List Nat} {R : Nat} (h : ns.Pairwise (· < ·)) : (colsN ns R).Pairwise (· < ·) := by
  unfold colsN
  rw [List.pairwise_map]
  refine List.Pairwise.imp_of_mem ?_ (h.filter _)
  intro a b ha hb hab
  have ha := (List.mem_filter.mp ha).2
  simp only [decide_eq_true_eq] at ha
  omega
theorem mem_restN {R C n : Nat} {c : Came} : n ∈ restN R C c ↔ n < R + C ∧ n ∉ keys c := by unfold restN; simp
theorem up_restN {R C : Nat} {c : Came} : (restN R C c).Pairwise (· < ·) := List.Pairwise.filter _ List.pairwise_lt_range
theorem mem_sortN {ns : List Nat} {n : Nat} : n ∈ sortN ns ↔ n ∈ ns := (sortN_perm ns).mem_iff
theorem up_sortN {ns : List Nat} (nd : ns.Nodup) : (sortN ns).Pairwise (· < ·) := by
  have h1 := sortN_rises ns
  have h2 : (sortN ns).Nodup := (sortN_perm ns).nodup_iff.mpr nd
  have h3 : (sortN ns).Pairwise (· ≠ ·) := h2
  exact (h1.and h3).imp fun ⟨a, b⟩ => by omega
theorem up_ints {ns : List Nat} (h : ns.Pairwise (· < ·)) : setI (ns.map fun n : Nat => (n : Int)) = ns.map fun n : Nat => (n : Int) := by
  rw [setI_id, List.pairwise_map]
  exact h.imp fun h => by omega
theorem len_up {ns : List Nat} {k : Nat} (h : ns.Pairwise (· < ·)) (hb : ∀ n ∈ ns, n < k) : ns.length ≤ k := nodup_len (h.imp fun h => by omega) hb
theorem sides_are {ns : List Nat} {R : Nat} : sidesD ns R = .tup [natsD (rowsN ns R), natsD (colsN ns R)] := rfl
/-- what a ground is -/
structure Gnd (R C : Nat) (H : List Bx) (cell : Bx) (g : Gd) (v : Int) (low : Bool) (rs cs : List Nat) : Prop where
  ur : rs.Pairwise (· < ·)
  uc : cs.Pairwise (· < ·)
  br : ∀ r ∈ rs, r < R
  bc : ∀ k ∈ cs, k < C
  cr : cell.1 ∈ rs
  cc : cell.2 ∉ cs
  up : low = false → ∀ b ∈ H, b.2 ∈ cs → b.1 ∈ rs
  dn : low = true → ∀ b ∈ H, b ≠ cell → b.1 ∈ rs → b.2 ∈ cs
  sm : (H.map fun b => (b2 (b.1 ∈ rs) - b2 (b.2 ∈ cs)) * gv g b).sum = v
section
variable {R C : Nat} {H : List Bx} {cell : Bx} {g g1 g2 : Gd} {c1 c2 : Came}
theorem b2_iff {p q : Prop} (h : p ↔ q) : b2 p = b2 q := by
  by_cases hp : p
  · rw [b2_y hp, b2_y (h.mp hp)]
  · rw [b2_n hp, b2_n (fun z => hp (h.mpr z))]
theorem gnd_up (sh : Sh R C g) (w : Could R C H cell g g1 g2 c1 c2) (nd : H.Nodup) (iH : In R C H) (hc : cell ∈ H) : Gnd R C H cell g (gv g2 cell) false (rowsN (restN R C c2) R) (colsN (restN R C c2) R) := by
  obtain ⟨b1, b3⟩ := iH cell hc
  have st : R + cell.2 ∈ keys c2 := mem_keys.mpr ⟨0, none, w.up.wf.hd⟩
  have mr : ∀ {r}, r ∈ rowsN (restN R C c2) R ↔ r < R ∧ r ∉ keys c2 := fun {r} => by rw [mem_rowsN, mem_restN]; exact ⟨fun z => ⟨z.2, z.1.2⟩, fun z => ⟨⟨by omega, z.2⟩, z.1⟩⟩
  have mc : ∀ {k}, k ∈ colsN (restN R C c2) R ↔ k < C ∧ R + k ∉ keys c2 := fun {k} => by rw [mem_colsN, mem_restN]; exact ⟨fun z => ⟨by omega, z.2⟩, fun z => ⟨by omega, z.2⟩⟩
  refine ⟨up_rowsN up_restN, up_colsN up_restN, fun r h => (mr.mp h).1, fun k h => (mc.mp h).1, mr.mpr ⟨b1, w.hi⟩, fun z => (mc.mp z).2 st, fun _ b hb h => ?_, (fun z => by cases z), ?_⟩
  · refine mr.mpr ⟨(iH b hb).1, fun z => (mc.mp h).2 ?_⟩
    obtain ⟨j, o, hj⟩ := mem_keys.mp z
    refine w.up.cl j b.1 o (List.getElem?_eq_some_iff.mp hj).1 hj (R + b.2) b ⟨hb, fun e => w.hi (by rw [← e]; exact z), .inl ⟨rfl, rfl⟩⟩
  · rw [← up_ground sh w nd iH hc]
    congr 1
    apply List.map_congr_left
    intro b hb
    obtain ⟨h1, h2⟩ := iH b hb
    rw [b2_iff (p := b.1 ∈ _) (q := b.1 ∉ keys c2) (mr.trans ⟨fun z => z.2, fun z => ⟨h1, z⟩⟩), b2_iff (p := b.2 ∈ _) (q := R + b.2 ∉ keys c2) (mc.trans ⟨fun z => z.2, fun z => ⟨h2, z⟩⟩)]
theorem gnd_dn (sh : Sh R C g) (w : Could R C H cell g g1 g2 c1 c2) (nd : H.Nodup) (iH : In R C H) (hc : cell ∈ H) (p : 0 < gv g1 cell) : Gnd R C H cell g (gv g1 cell) true (rowsN (sortN (keys c1)) R) (colsN (sortN (keys c1)) R) := by
  obtain ⟨b1, b3⟩ := iH cell hc
  have st : cell.1 ∈ keys c1 := mem_keys.mpr ⟨0, none, w.dn.wf.hd⟩
  have bd := (w.dn.wf.bd iH (by omega)).1
  have mr : ∀ {r}, r ∈ rowsN (sortN (keys c1)) R ↔ r ∈ keys c1 ∧ r < R := fun {r} => by rw [mem_rowsN, mem_sortN]
  have mc : ∀ {k}, k ∈ colsN (sortN (keys c1)) R ↔ R + k ∈ keys c1 := fun {k} => by rw [mem_colsN, mem_sortN]
  have up := up_sortN w.dn.wf.nd
  refine ⟨up_rowsN up, up_colsN up, fun r h => (mr.mp h).2, fun k h => by have := bd _ (mc.mp h); omega, mr.mpr ⟨st, b1⟩, fun z => w.lo ⟨p, mc.mp z⟩, (fun z => by cases z), fun _ b hb ne h => ?_, ?_⟩
  · refine mc.mpr ?_
    obtain ⟨j, o, hj⟩ := mem_keys.mp (mr.mp h).1
    exact w.dn.cl j b.1 o (List.getElem?_eq_some_iff.mp hj).1 hj (R + b.2) b ⟨hb, ne, .inl ⟨rfl, rfl⟩⟩
  · rw [← dn_ground sh w nd iH hc p]
    congr 1
    apply List.map_congr_left
    intro b hb
    obtain ⟨h1, h2⟩ := iH b hb
    rw [b2_iff (p := b.1 ∈ _) (q := b.1 ∈ keys c1) (mr.trans ⟨fun z => z.1, fun z => ⟨z, h1⟩⟩), b2_iff (p := b.2 ∈ _) (q := R + b.2 ∈ keys c1) mc]
theorem b2_sub {p q : Prop} {v : Int} : (b2 p - b2 q) * v = b2 p * v - b2 q * v := Int.sub_mul _ _ _
theorem sum_b2 {H : List Bx} {p : Bx → Bool} : ((H.filter p).map (gv g)).sum = (H.map fun b => b2 (p b = true) * gv g b).sum := by
  induction H with
  | nil => rfl
  | cons b H ih =>
    rw [List.filter_cons, List.map_cons, List.sum_cons, ← ih]
    cases q : p b with
    | true => rw [if_pos rfl, List.map_cons, List.sum_cons, b2_y rfl, Int.one_mul]
    | false => rw [if_neg (by simp), b2_n (by simp), Int.zero_mul, Int.zero_add]
theorem sum_sub {H : List Bx} {a b : Bx → Int} : (H.map fun x => a x - b x).sum = (H.map a).sum - (H.map b).sum := by
  induction H with
  | nil => rfl
  | cons x H ih => simp only [List.map_cons, List.sum_cons, ih]; omega
theorem Gnd.two {v : Int} {low : Bool} {rs cs : List Nat} (w : Gnd R C H cell g v low rs cs) : ((H.filter fun b => decide (b.1 ∈ rs)).map (gv g)).sum - ((H.filter fun b => decide (b.2 ∈ cs)).map (gv g)).sum = v := by
  rw [sum_b2, sum_b2, ← sum_sub, ← w.sm]
  congr 1
  apply List.map_congr_left
  intro b _
  rw [b2_sub, b2_iff (p := decide (b.1 ∈ rs) = true) (q := b.1 ∈ rs) decide_eq_true_iff, b2_iff (p := decide (b.2 ∈ cs) = true) (q := b.2 ∈ cs) decide_eq_true_iff]
end
end
end PH
set_option Elab.async false
set_option linter.all false
set_option maxRecDepth 100000
set_option maxHeartbeats 4000000
namespace PH
open PySem PySem.Spec PyProof.Rows L2 VD PW PX PY PU PG
noncomputable section
theorem toV_nats (L : List Nat) : optAll toV (L.map fun n : Nat => D.int (n : Int)) = some (L.map fun n : Nat => V.int (n : Int)) := optAll_map (e' := fun n : Nat => V.int (n : Int)) fun _ _ => rfl
theorem inD_nats {h : Hv} {r : Nat} {L : List Nat} : inD h (.int (r : Int)) (natsD L) = some (decide (r ∈ L)) := by
  show (match toV (.int (r : Int)), (some (L.map fun n : Nat => D.int (n : Int))).bind (optAll toV) with
    | some v, some vs => some (inV v vs)
    | _, _ => none) = _
  rw [Option.bind_some, toV_nats]
  show some (inV (V.int (r : Int)) (L.map fun n : Nat => V.int (n : Int))) = _
  congr 1
  rw [Bool.eq_iff_iff, decide_eq_true_iff]
  unfold inV
  rw [List.any_map, List.any_eq_true]
  constructor
  · rintro ⟨n, hn, e⟩
    have e : ((n : Int) == (r : Int)) = true := e
    have e := eq_of_beq e
    rw [show r = n by omega]; exact hn
  · intro hr
    exact ⟨r, hr, (beq_self_eq_true (r : Int))⟩
theorem in_nats {h : Hv} {r : Nat} {L : List Nat} : oIn (.int (r : Int)) (natsD L) h = .ok (.bl (decide (r ∈ L))) h ∧ oNotIn (.int (r : Int)) (natsD L) h = .ok (.bl (!decide (r ∈ L))) h := by
  unfold oIn oNotIn
  rw [inD_nats]
  exact ⟨rfl, rfl⟩
theorem py_nats {h : Hv} {n : Nat} {L : List Nat} : toPy h (n + 2) (natsD L) = some (.list (L.map fun k : Nat => .int (k : Int))) := by
  show (optAll (toPy h (n + 1)) (L.map fun k : Nat => D.int (k : Int))).map PyData.list = _
  rw [optAll_map (g := toPy h (n + 1)) (e := fun k : Nat => D.int (k : Int)) (e' := fun k : Nat => PyData.int (k : Int)) fun _ _ => rfl]; rfl
theorem eq_nats {h : Hv} {L : List Nat} : eqD h (natsD L) (natsD L) = some true := eqD_same (py_nats (n := 10)) (py_nats (n := 10))
theorem nats_nil {h : Hv} {L : List Nat} : eqD h (natsD L) (.lst []) = some (decide (L = [])) := by
  have e : toPy h 12 (natsD L) = some (.list (L.map fun k : Nat => .int (k : Int))) := py_nats (n := 10)
  unfold eqD
  rw [e]
  cases L with
  | nil => rfl
  | cons a L => rfl
theorem nats_sort {h : Hv} {L : List Nat} (hl : L.length < 4000) (up : L.Pairwise (· < ·)) : bSortSet [natsD L] h = .ok (L.map fun n : Nat => .int (n : Int)) h := by
  have := bSortSet_ints (ns := L.map fun n : Nat => (n : Int)) (h := h) (by rw [List.length_map]; exact hl)
  rw [up_ints up, List.map_map] at this
  exact this
theorem nats_ix {h : Hv} {L : List Nat} {i n : Nat} (e : L[i]? = some n) : ixD h (natsD L) (i : Int) = some (.int (n : Int)) := atI_map (e := fun n : Nat => D.int (n : Int)) (atI_at rfl e)
theorem nats_last {h : Hv} {L : List Nat} (e : L ≠ []) : ∃ n, n ∈ L ∧ ixD h (natsD L) (-1) = some (.int (n : Int)) := by
  obtain ⟨k, hk⟩ : ∃ k, L.length = k + 1 := Nat.exists_eq_succ_of_ne_zero (by simpa using e)
  obtain ⟨n, hn⟩ : ∃ n, L[k]? = some n := ⟨_, List.getElem?_eq_getElem (by omega)⟩
  refine ⟨n, List.mem_of_getElem? hn, atI_map (e := fun n : Nat => D.int (n : Int)) ?_⟩
  have : ixN L.length (-1) = some k := by
    unfold ixN
    rw [if_neg (by omega), if_pos (by omega)]
    congr 1
    omega
  unfold atI
  rw [this]
  exact hn
section
variable {R C : Nat} {g : Gd}
theorem ixG (sh : Sh R C g) {r : Nat} (hr : r < R) (h : Hv) : ixD h (gD g) (r : Int) = some (.lst ((g[r]?.getD []).map .int)) := ix_now (m := false) (by rw [sh.len]; exact hr)
theorem ixR (sh : Sh R C g) {r c : Nat} (hr : r < R) (hc : c < C) (h : Hv) : ixD h (.lst ((g[r]?.getD []).map .int)) (c : Int) = some (.int (gv g (r, c))) := ix_row (m := false) sh (e := h) hr hc
theorem lenR (sh : Sh R C g) {r : Nat} (hr : r < R) : (g[r]?.getD []).length = C := by
  obtain ⟨row, e, l⟩ := sh.at hr
  rw [e]; exact l
theorem lenG (sh : Sh R C g) (h : Hv) : lenD h (gD g) = some (R : Int) := by rw [← sh.len]; exact len_now (m := false)
end
theorem kII : kitB "int" "int" = some true := by decide +kernel
theorem kIB : kitB "int" "bool" = some false := by decide +kernel
end
end PH
set_option Elab.async false
set_option linter.all false
set_option maxRecDepth 100000
set_option maxHeartbeats 4000000
namespace VD
open PySem PySem.Spec PyProof.Rows L2 RT
noncomputable section
section
variable {prog : Program} {w : World} {A : Around} {E : Value → Shared → Prop} {s : Shared}
theorem sliceApplied_3 {sl : Addr} {vs : Value} {Q : Int × Int × Nat → Shared → Prop} (hs : s.heap.IsSliceOf sl .none .none vs) (ps : IsPart vs (some 3)) (h : Q (0, 3, 2) s) :
    wpAny (model prog w) A (Builtin.Slice.sliceApplied (.ref sl) (pure ((6 : Nat) : Int))) Q E s := by
  obtain ⟨os, hos, hcs, hds⟩ := id hs
  unfold Builtin.Slice.sliceApplied Builtin.Slice.sliceFields
  refine wpAny_bind (wpAny_bind (wpAny_field hos hds (x := .none) rfl (wpAny_bind (wpAny_field hos hds (x := .none) rfl (wpAny_bind (wpAny_field hos hds (x := vs) rfl (wpAny_pure ?_)))))))
  refine wpAny_bind (HT.slicePart_ ps ?_)
  show wpAny _ _ (if ((3 : Int) == 0) = true then _ else _) _ _ s
  rw [if_neg (by decide)]
  refine wpAny_bind (HT.slicePart_ .none (wpAny_bind (HT.slicePart_ .none (wpAny_bind (wpAny_pure ?_)))))
  exact wpAny_pure h
theorem getItem_tuple_3 {t sl : Addr} {x0 x1 x2 x3 x4 x5 : Value} {vs : Value} {Q : Value → Shared → Prop} (ht : IsTup s.heap t #[x0, x1, x2, x3, x4, x5]) (hs : s.heap.IsSliceOf sl .none .none vs) (ps : IsPart vs (some 3))
    (h : Q (.ref s.heap.objs.size) { s with heap := s.heap.push { cls := .type "tuple", data := .seq #[x0, x3] } }) : wpAny (model prog w) A (getItem (.ref t) (.ref sl)) Q E s := by
  have htake : sizeOk (.seq #[x0, x3]) := by show 2 ≤ sizeLine; decide
  obtain ⟨os, hos, hcs, hds⟩ := id hs
  have hTs : s.TypeIs (.ref sl) "slice" := ⟨os, hos, hcs⟩
  unfold getItem
  try with_reducible refine wpAny_holding ?_
  first | refine wpAny_bind (wpAny_pure ?_) | skip
  refine wpAny_bind (wpAny_sequenceKey ht.typeIs (by decide) ?_)
  refine wpAny_bind (wpAny_callSpecial?_slot (name := Str.ofString "__getitem__") ht.typeIs PyProof.Rows.slot_tuple_getitem
    (wpAny_call_entry PyProof.Rows.slot_tuple_getitem ht.typeIs entry_tuple_getitem ?_ (args_tuple_getitem _ _)))
  show wpAny _ _ (Builtin.Tuple.tupleItemsOf (.ref t) >>= _) _ _ s
  refine wpAny_bind (tupleItemsOf_ ht ?_)
  refine wpAny_bind (wpAny_typeOf hTs ?_)
  rw [if_pos (by decide)]
  refine wpAny_bind (sliceApplied_3 hs ps ?_)
  show wpAny _ _ (if (((0 : Int) == 0 && (3 : Int) == 1 && (2 : Nat) == 6) = true) then _ else _) _ _ s
  rw [if_neg (by decide)]
  have e : ((List.range 2).filterMap fun (m : Nat) => (#[x0, x1, x2, x3, x4, x5] : Array Value)[((0 : Int) + (m : Int) * 3).toNat]?).toArray = #[x0, x3] := rfl
  rw [e]
  first
    | exact wpAny_bind (m := Builtin.Tuple.tupleExact _) (wpAny_newObj_type (wpAny_pure ⟨_, rfl, wpAny_pure h⟩) htake)
    | exact wpAny_bind (m := Builtin.Tuple.tupleExact _) (wpAny_newObj_type (wpAny_bind (wpAny_pure (wpAny_pure ⟨_, rfl, wpAny_pure h⟩))) htake)
    | exact wpAny_bind (wpAny_bind (m := Builtin.Tuple.tupleExact _) (wpAny_newObj_type (wpAny_pure (wpAny_pure ⟨_, rfl, wpAny_pure h⟩)) htake))
    | exact wpAny_bind (wpAny_bind (m := Builtin.Tuple.tupleExact _) (wpAny_newObj_type (wpAny_pure ⟨_, rfl, wpAny_pure h⟩) htake))
end
def tSl3 (K : PySem.W.Frag) (te : TE) : TE := fun σ H Q => te σ H fun x H1 => ∃ a y0 y1 y2 y3 y4 y5, x = .ref a ∧ SqT K H1 a [y0, y1, y2, y3, y4, y5] ∧ ∀ p, H1 p = none → Q (.ref p) (upd H1 p (.tup [y0, y3]))
section
variable {X : Cx}
theorem pe_sl3 {e : Expr} {te : TE} {k : Nat} {p1 p3 pos : Pos} (he : PE X e te) : PE X (.Subscript e (.Slice none none (some (.Constant (.int 3) k p1)) p3) pos) (tSl3 X.K te) := by
  refine ⟨fun pins s σ H Q I h => ?_⟩
  refine Subscript_ (thn (he.run pins s σ H _ I h) fun v s1 ⟨x, H1, I1, r1, q1⟩ => ?_)
  obtain ⟨a, y0, y1, y2, y3, y4, y5, ex, hx, q⟩ := q1
  subst ex
  cases r1
  have hst : PO X (some (.Constant (.int 3) k p1)) (tPart (tC (.int 3))) := po_some pe_int
  refine wpAny_Slice (thn (po_none.run pins s1 σ H1 (fun o H2 => o = none ∧ H2 = H1) I1 ⟨rfl, rfl⟩) fun vl s2 ⟨l, H2, I2, pl, el, e2⟩ => ?_)
  subst el e2
  refine thn (po_none.run pins s2 σ H2 (fun o H3 => o = none ∧ H3 = H2) I2 ⟨rfl, rfl⟩) fun vu s3 ⟨u, H3, I3, pu, eu, e3⟩ => ?_
  subst eu e3
  refine thn (hst.run pins s3 σ H3 (fun o H4 => o = some 3 ∧ H4 = H3) I3 ⟨3, rfl, rfl, rfl⟩) fun vs s4 ⟨o, H4, I4, ps, eo, e4⟩ => ?_
  subst eo e4
  cases pl
  cases pu
  have I5 : Inv X pins σ H4 { s4 with heap := s4.heap.push { cls := .type "slice", data := .fields #[.none, .none, vs] } } := I4.kept (t' := s4.toks) fun b ob q => Heap.get?_push_of_some _ q
  obtain ⟨its, r, ht, hz⟩ := I5.tuple hx
  obtain ⟨x0, x1, x2, x3, x4, x5, rfl, r0, r3⟩ : ∃ x0 x1 x2 x3 x4 x5, its = [x0, x1, x2, x3, x4, x5] ∧ RelV y0 x0 ∧ RelV y3 x3 := by
    cases r with
    | cons a0 r => cases r with
      | cons a1 r => cases r with
        | cons a2 r => cases r with
          | cons a3 r => cases r with
            | cons a4 r => cases r with
              | cons a5 r => cases r; exact ⟨_, _, _, _, _, _, rfl, a0, a3⟩
  show wpAny (model X.prog X.w) X.A (subscriptTail e (.Slice none none (some (.Constant (.int 3) k p1)) p3) (.ref a) (.ref s4.heap.objs.size)) (EP X pins σ Q) X.xe { s4 with heap := s4.heap.push { cls := .type "slice", data := .fields #[.none, .none, vs] } }
  refine tail_any (ops := [.ref a, .ref s4.heap.objs.size]) ht.typeIs PyProof.Rows.slot_tuple_getitem.lookup ?_ (by with_unfolding_all rfl)
  refine getItem_tuple_3 ht (Heap.IsSliceOf.new _ .none .none vs) ps ?_
  refine ⟨.ref _, _, I5.laid (t' := s4.toks) (o := .tup [y0, y3]) (fun b ob q => Heap.get?_push_of_some _ q) (Nat.le_refl _) ?_, rfl, q _ (I5.hok.fresh (Nat.le_refl _))⟩
  exact ⟨by show 2 ≤ sizeLine; decide, _, .cons r0 (.cons r3 .nil), IsTup.new _ _⟩
end
def sl3D : D → Option D
  | .tup [d0, _, _, d3, _, _] => some (.tup [d0, d3])
  | _ => none
def eSl3 (f : ES) : ES := fun σ h => (f σ h).bind fun d h1 => match sl3D d with
  | some d' => .ok d' h1
  | none => .stuck
theorem se_sl3 {X : Cx} {W : WX} {a : Expr} {fa : ES} {k : Nat} {p1 p3 pos : Pos} (ha : SE X W a fa) : SE X W (.Subscript a (.Slice none none (some (.Constant (.int 3) k p1)) p3) pos) (eSl3 fa) := by
  obtain ⟨ta, h1, h2⟩ := ha
  refine ⟨_, pe_sl3 h1, ⟨fun rl rs post => h2.bind rl rs post fun d h1 v φ1 S1 H1 rl1 rs1 st rp post => ?_⟩⟩
  cases q : sl3D d with
  | none => simp only [q] at post; exact post.elim
  | some d' =>
    simp only [q] at post
    unfold sl3D at q
    split at q
    · next d0 d1 d2 d3 d4 d5 =>
      cases q
      obtain ⟨a0, us, rfl, g1, g2⟩ := tup_of rp
      obtain ⟨u0, u1, u2, u3, u4, u5, rfl, r0, r3⟩ : ∃ u0 u1 u2 u3 u4 u5, us = [u0, u1, u2, u3, u4, u5] ∧ Rp X.K φ1 S1 u0 d0 ∧ Rp X.K φ1 S1 u3 d3 := by
        cases g2 with
        | cons a0 r => cases r with
          | cons a1 r => cases r with
            | cons a2 r => cases r with
              | cons a3 r => cases r with
                | cons a4 r => cases r with
                  | cons a5 r => cases r; exact ⟨_, _, _, _, _, _, rfl, a0, a3⟩
      refine ⟨a0, u0, u1, u2, u3, u4, u5, rfl, rl1.sub.sqt g1, fun p hp => ?_⟩
      skip
      obtain ⟨r2, s2⟩ := rl1.lay (o := .tup [u0, u3]) hp
      exact post (.ref p) φ1 _ _ r2 s2 (.tup (.inl (.inl upd_same)) ((RpA.cons r0 (.cons r3 .nil)).mono (Pre.refl _) s2.sub))
    · cases q
theorem eSl3_k {f : ES} {σ : VS} {h : Hv} : eSl3 f σ h = (f σ h).bind fun d h1 => match sl3D d with
  | some d' => .ok d' h1
  | none => .stuck := rfl
end
end VD
set_option Elab.async false
set_option linter.all false
set_option maxRecDepth 100000
set_option maxHeartbeats 4000000
namespace Lk38
open PySem PySem.Spec PyProof.Rows L2 VD
noncomputable section
def topS (i : Nat) : Stmt := PySem.Challenge.pw_crosshall_k38_whole_what_a_box_could_be.main.body.getD i (.Pass ⟨0, 0, 0, 0⟩)
abbrev s_reached_sides : Stmt := topS 4
abbrev N_reached_sides : List Str := ["now", "hidden", "cell", "begin", "rows", "came", "line", "at", "node", "box"]
theorem sc_reached_sides : FnScope N_reached_sides ["now", "hidden", "cell", "begin"] (defScope s_reached_sides) := ⟨rfl, rfl, rfl, by decide +kernel, rfl, by decide +kernel, by decide +kernel⟩
abbrev s_boxes_between : Stmt := topS 5
abbrev N_boxes_between : List Str := ["came", "node", "rows", "grow", "fall", "ahead", "box"]
theorem sc_boxes_between : FnScope N_boxes_between ["came", "node", "rows"] (defScope s_boxes_between) := ⟨rfl, rfl, rfl, by decide +kernel, rfl, by decide +kernel, by decide +kernel⟩
abbrev s_shift_boxes : Stmt := topS 6
abbrev N_shift_boxes : List Str := ["now", "grow", "fall", "amount", "box"]
theorem sc_shift_boxes : FnScope N_shift_boxes ["now", "grow", "fall", "amount"] (defScope s_shift_boxes) := ⟨rfl, rfl, rfl, by decide +kernel, rfl, by decide +kernel, by decide +kernel⟩
abbrev s_raised : Stmt := topS 7
abbrev N_raised : List Str := ["grid", "hidden", "cell", "now", "rows", "came", "amount", "row", "grow", "fall", "box"]
theorem sc_raised : FnScope N_raised ["grid", "hidden", "cell"] (defScope s_raised) := ⟨rfl, rfl, rfl, by decide +kernel, rfl, by decide +kernel, by decide +kernel⟩
abbrev s_lowered : Stmt := topS 8
abbrev N_lowered : List Str := ["grid", "hidden", "cell", "now", "rows", "came", "fall", "amount", "row", "grow", "box"]
theorem sc_lowered : FnScope N_lowered ["grid", "hidden", "cell"] (defScope s_lowered) := ⟨rfl, rfl, rfl, by decide +kernel, rfl, by decide +kernel, by decide +kernel⟩
abbrev s_sides_of : Stmt := topS 9
abbrev N_sides_of : List Str := ["nodes", "rows", "node"]
theorem sc_sides_of : FnScope N_sides_of ["nodes", "rows"] (defScope s_sides_of) := ⟨rfl, rfl, rfl, by decide +kernel, rfl, by decide +kernel, by decide +kernel⟩
abbrev s_could_be : Stmt := topS 10
abbrev N_could_be : List Str := ["grid", "hidden", "cell", "boxes", "here", "rows", "every", "low", "below", "above", "least", "came", "most", "box", "node"]
theorem sc_could_be : FnScope N_could_be ["grid", "hidden", "cell"] (defScope s_could_be) := ⟨rfl, rfl, rfl, by decide +kernel, rfl, by decide +kernel, by decide +kernel⟩
abbrev s__law_draw : Stmt := topS 12
abbrev N__law_draw : List Str := ["_law_script", "_law_k", "_law_many", "_law_number"]
theorem sc__law_draw : FnScope N__law_draw ["_law_script", "_law_k", "_law_many"] (defScope s__law_draw) := ⟨rfl, rfl, rfl, by decide +kernel, rfl, by decide +kernel, by decide +kernel⟩
abbrev s__law_grid : Stmt := topS 13
abbrev N__law_grid : List Str := ["_law_script", "_law_rows", "_law_columns", "_law_unit", "_law_grid_here", "_law_row", "_law_column", "_law_k", "_law_number"]
theorem sc__law_grid : FnScope N__law_grid ["_law_script", "_law_rows", "_law_columns"] (defScope s__law_grid) := ⟨rfl, rfl, rfl, by decide +kernel, rfl, by decide +kernel, by decide +kernel⟩
abbrev s__law_hidden : Stmt := topS 14
abbrev N__law_hidden : List Str := ["_law_script", "_law_rows", "_law_columns", "_law_hidden_here", "_law_row", "_law_column", "_law_k"]
theorem sc__law_hidden : FnScope N__law_hidden ["_law_script", "_law_rows", "_law_columns"] (defScope s__law_hidden) := ⟨rfl, rfl, rfl, by decide +kernel, rfl, by decide +kernel, by decide +kernel⟩
abbrev s__law_whole : Stmt := topS 15
abbrev N__law_whole : List Str := ["_law_found"]
theorem sc__law_whole : FnScope N__law_whole ["_law_found"] (defScope s__law_whole) := ⟨rfl, rfl, rfl, by decide +kernel, rfl, by decide +kernel, by decide +kernel⟩
abbrev s__law_is_table : Stmt := topS 16
abbrev N__law_is_table : List Str := ["_law_told", "_law_grid_here", "_law_hidden_here", "_law_row", "_law_column", "_law_number"]
theorem sc__law_is_table : FnScope N__law_is_table ["_law_told", "_law_grid_here", "_law_hidden_here"] (defScope s__law_is_table) := ⟨rfl, rfl, rfl, by decide +kernel, rfl, by decide +kernel, by decide +kernel⟩
abbrev s__law_places : Stmt := topS 17
abbrev N__law_places : List Str := ["_law_some", "_law_size", "_law_place"]
theorem sc__law_places : FnScope N__law_places ["_law_some", "_law_size"] (defScope s__law_places) := ⟨rfl, rfl, rfl, by decide +kernel, rfl, by decide +kernel, by decide +kernel⟩
abbrev s__law_is_ground : Stmt := topS 18
abbrev N__law_is_ground : List Str := ["_law_told", "_law_grid_here", "_law_hidden_here", "_law_cell", "_law_number", "_law_below", "_law_box", "_law_rest", "_law_rows", "_law_columns"]
theorem sc__law_is_ground : FnScope N__law_is_ground ["_law_told", "_law_grid_here", "_law_hidden_here", "_law_cell", "_law_number", "_law_below"] (defScope s__law_is_ground) := ⟨rfl, rfl, rfl, by decide +kernel, rfl, by decide +kernel, by decide +kernel⟩
abbrev s__law_right : Stmt := topS 19
abbrev N__law_right : List Str := ["_law_grid_here", "_law_hidden_here", "_law_cell", "_law_told"]
theorem sc__law_right : FnScope N__law_right ["_law_grid_here", "_law_hidden_here", "_law_cell", "_law_told"] (defScope s__law_right) := ⟨rfl, rfl, rfl, by decide +kernel, rfl, by decide +kernel, by decide +kernel⟩
abbrev s_law : Stmt := topS 20
abbrev N_law : List Str := ["_law_script", "_law_rows", "_law_columns", "_law_grid_here", "_law_hidden_here", "_law_cell", "_law_kept", "_law_told", "_law_row", "_law_again"]
theorem sc_law : FnScope N_law ["_law_script"] (defScope s_law) := ⟨rfl, rfl, rfl, by decide +kernel, rfl, by decide +kernel, by decide +kernel⟩
abbrev i_NoVeil : Stmt := clsS (topS 2) 0
theorem sci_NoVeil : FnScope ["self", "cell"] ["self", "cell"] (defScope i_NoVeil) := ⟨rfl, rfl, rfl, by decide +kernel, rfl, by decide +kernel, by decide +kernel⟩
def efs : List Ef := [.exc "NoVeil", .oex "NoVeil", .nof "NoVeil" "cell", .bi "CrossError"]
section
def l_reached_sides_1 : SS := sFor (iL (eVar 1)) (gN 9) (sSeq (sIf (cAnd (toB (eOp oNe (eVar 9) (eVar 2))) (cAnd (toB (eOp oEq (eVar 8) (eOp oIx (eVar 9) (eK (.int 0))))) (toB (eOp oDnin (eOp oAdd (eVar 4) (eOp oIx (eVar 9) (eK (.int 1)))) (eVar 5))))) (sSeq (sDput (eTup (aCons (eVar 8) (aCons (eVar 9) (aNil)))) (eVar 5) (eOp oAdd (eVar 4) (eOp oIx (eVar 9) (eK (.int 1))))) (sDrop (eBM mAppend (eVar 6) (aCons (eOp oAdd (eVar 4) (eOp oIx (eVar 9) (eK (.int 1)))) (aNil))))) (sNext)) (sIf (cAnd (toB (eOp oNe (eVar 9) (eVar 2))) (cAnd (toB (eOp oEq (eVar 8) (eOp oAdd (eVar 4) (eOp oIx (eVar 9) (eK (.int 1)))))) (cAnd (toB (eOp oGt (eOp oIx (eOp oIx (eVar 0) (eOp oIx (eVar 9) (eK (.int 0)))) (eOp oIx (eVar 9) (eK (.int 1)))) (eK (.int 0)))) (toB (eOp oDnin (eOp oIx (eVar 9) (eK (.int 0))) (eVar 5)))))) (sSeq (sDput (eTup (aCons (eVar 8) (aCons (eVar 9) (aNil)))) (eVar 5) (eOp oIx (eVar 9) (eK (.int 0)))) (sDrop (eBM mAppend (eVar 6) (aCons (eOp oIx (eVar 9) (eK (.int 0))) (aNil))))) (sNext)))
def l_reached_sides_2 : SS := sLoop (toB (eOp oLt (eVar 7) (eCa bLen (aCons (eVar 6) (aNil))))) (sSeq (sSet 8 (eOp oIx (eVar 6) (eVar 7))) (sSeq (l_reached_sides_1) (sSet 7 (eOp oAdd (eVar 7) (eK (.int 1))))))
def b_reached_sides : SS := sSeq (sSet 4 (eCa bLen (aCons (eVar 0) (aNil)))) (sSeq (sSet 5 (eDisp (pCons (eVar 3) (eK .non) (pNil)))) (sSeq (sSet 6 (eC (lLst (aCons (eVar 3) (aNil))))) (sSeq (sSet 7 (eK (.int 0))) (sSeq (l_reached_sides_2) (sRet (eLock (eVar 5)))))))
def m_reached_sides : List D → Hv → R D := fnS 4 6 b_reached_sides
def l_boxes_between_1 : SS := sLoop (toB (eOp oIsNot (eOp oDget (eVar 0) (eVar 1)) (eK .non))) (sSeq (sAsg (eOp oDget (eVar 0) (eVar 1)) (gT 2 (gsCons (gN 5) (gsCons (gN 6) (gsNil))))) (sSeq (sIf (toB (eOp oLt (eVar 5) (eVar 2))) (sDrop (eBM mAppend (eVar 3) (aCons (eVar 6) (aNil)))) (sDrop (eBM mAppend (eVar 4) (aCons (eVar 6) (aNil))))) (sSet 1 (eVar 5))))
def b_boxes_between : SS := sSeq (sSet 3 (eC (lLst (aNil)))) (sSeq (sSet 4 (eC (lLst (aNil)))) (sSeq (l_boxes_between_1) (sRet (eTup (aCons (eVar 3) (aCons (eVar 4) (aNil)))))))
def m_boxes_between : List D → Hv → R D := fnS 3 4 b_boxes_between
def l_shift_boxes_1 : SS := sFor (iL (eVar 1)) (gN 4) (sSetIx (eOp oAdd (eOp oIx (eOp oIx (eVar 0) (eOp oIx (eVar 4) (eK (.int 0)))) (eOp oIx (eVar 4) (eK (.int 1)))) (eVar 3)) (eOp oIx (eVar 0) (eOp oIx (eVar 4) (eK (.int 0)))) (eOp oIx (eVar 4) (eK (.int 1))))
def l_shift_boxes_2 : SS := sFor (iL (eVar 2)) (gN 4) (sSetIx (eOp oSub (eOp oIx (eOp oIx (eVar 0) (eOp oIx (eVar 4) (eK (.int 0)))) (eOp oIx (eVar 4) (eK (.int 1)))) (eVar 3)) (eOp oIx (eVar 0) (eOp oIx (eVar 4) (eK (.int 0)))) (eOp oIx (eVar 4) (eK (.int 1))))
def b_shift_boxes : SS := sSeq (l_shift_boxes_1) (l_shift_boxes_2)
def m_shift_boxes : List D → Hv → R D := fnS 4 1 b_shift_boxes
def c_raised_1 : LS := lLc (iL (eVar 0)) (gN 7) (cYes) (eC (eCa bList (aCons (eVar 7) (aNil)))) [7]
def c_raised_2 : LS := lLc (iL (eVar 9)) (gN 10) (cYes) (eOp oIx (eOp oIx (eVar 3) (eOp oIx (eVar 10) (eK (.int 0)))) (eOp oIx (eVar 10) (eK (.int 1)))) [10]
def l_raised_1 : SS := sLoop (toB (eOp oDin (eOp oIx (eVar 2) (eK (.int 0))) (eVar 5))) (sSeq (sAsg (eCa (Cm.f .P m_boxes_between) (aCons (eVar 5) (aCons (eOp oIx (eVar 2) (eK (.int 0))) (aCons (eVar 4) (aNil))))) (gT 2 (gsCons (gN 8) (gsCons (gN 9) (gsNil))))) (sSeq (sSet 6 (eCa bMin (aCons (eV (c_raised_2)) (aNil)))) (sSeq (sDrop (eCa (Cm.f .M m_shift_boxes) (aCons (eVar 3) (aCons (eV (eOp oCat (eVar 8) (eV (lLst (aCons (eVar 2) (aNil)))))) (aCons (eVar 9) (aCons (eVar 6) (aNil))))))) (sSet 5 (eCa (Cm.f .M m_reached_sides) (aCons (eVar 3) (aCons (eVar 1) (aCons (eVar 2) (aCons (eOp oAdd (eVar 4) (eOp oIx (eVar 2) (eK (.int 1)))) (aNil))))))))))
def b_raised : SS := sSeq (sSet 3 (eC (c_raised_1))) (sSeq (sSet 4 (eCa bLen (aCons (eVar 0) (aNil)))) (sSeq (sSet 5 (eCa (Cm.f .M m_reached_sides) (aCons (eVar 3) (aCons (eVar 1) (aCons (eVar 2) (aCons (eOp oAdd (eVar 4) (eOp oIx (eVar 2) (eK (.int 1)))) (aNil))))))) (sSeq (l_raised_1) (sRet (eTup (aCons (eVar 3) (aCons (eVar 5) (aNil))))))))
def m_raised : List D → Hv → R D := fnU 3 8 b_raised
def c_lowered_1 : LS := lLc (iL (eVar 0)) (gN 8) (cYes) (eC (eCa bList (aCons (eVar 8) (aNil)))) [8]
def c_lowered_2 : LS := lLc (iL (eVar 6)) (gN 10) (cYes) (eOp oIx (eOp oIx (eVar 3) (eOp oIx (eVar 10) (eK (.int 0)))) (eOp oIx (eVar 10) (eK (.int 1)))) [10]
def l_lowered_1 : SS := sLoop (cAnd (toB (eOp oGt (eOp oIx (eOp oIx (eVar 3) (eOp oIx (eVar 2) (eK (.int 0)))) (eOp oIx (eVar 2) (eK (.int 1)))) (eK (.int 0)))) (toB (eOp oDin (eOp oAdd (eVar 4) (eOp oIx (eVar 2) (eK (.int 1)))) (eVar 5)))) (sSeq (sAsg (eCa (Cm.f .P m_boxes_between) (aCons (eVar 5) (aCons (eOp oAdd (eVar 4) (eOp oIx (eVar 2) (eK (.int 1)))) (aCons (eVar 4) (aNil))))) (gT 2 (gsCons (gN 9) (gsCons (gN 6) (gsNil))))) (sSeq (sSet 6 (eV (eOp oCat (eVar 6) (eV (lLst (aCons (eVar 2) (aNil))))))) (sSeq (sSet 7 (eCa bMin (aCons (eV (c_lowered_2)) (aNil)))) (sSeq (sDrop (eCa (Cm.f .M m_shift_boxes) (aCons (eVar 3) (aCons (eVar 9) (aCons (eVar 6) (aCons (eVar 7) (aNil))))))) (sSet 5 (eCa (Cm.f .M m_reached_sides) (aCons (eVar 3) (aCons (eVar 1) (aCons (eVar 2) (aCons (eOp oIx (eVar 2) (eK (.int 0))) (aNil)))))))))))
def b_lowered : SS := sSeq (sSet 3 (eC (c_lowered_1))) (sSeq (sSet 4 (eCa bLen (aCons (eVar 0) (aNil)))) (sSeq (sSet 5 (eCa (Cm.f .M m_reached_sides) (aCons (eVar 3) (aCons (eVar 1) (aCons (eVar 2) (aCons (eOp oIx (eVar 2) (eK (.int 0))) (aNil))))))) (sSeq (l_lowered_1) (sRet (eTup (aCons (eVar 3) (aCons (eVar 5) (aNil))))))))
def m_lowered : List D → Hv → R D := fnU 3 8 b_lowered
def c_sides_of_1 : LS := lLc (iL (eVar 0)) (gN 2) (toB (eOp oGe (eVar 2) (eVar 1))) (eOp oSub (eVar 2) (eVar 1)) [2]
def c_sides_of_2 : LS := lLc (iL (eVar 0)) (gN 2) (toB (eOp oLt (eVar 2) (eVar 1))) (eVar 2) [2]
def b_sides_of : SS := sRet (eTup (aCons (eC (c_sides_of_2)) (aCons (eV (c_sides_of_1)) (aNil))))
def m_sides_of : List D → Hv → R D := fnU 2 1 b_sides_of
def c_could_be_1 : LS := lLc (iL (eVar 1)) (gN 13) (cYes) (eTup (aCons (eOp oIx (eVar 13) (eK (.int 0))) (aCons (eOp oIx (eVar 13) (eK (.int 1))) (aNil)))) [13]
def c_could_be_2 : LS := lLc (iR1 (aCons (eVar 6) (aNil))) (gN 14) (toB (eOp oDnin (eVar 14) (eVar 11))) (eVar 14) [14]
def b_could_be : SS := sSeq (sSet 3 (eV (c_could_be_1))) (sSeq (sSet 4 (eTup (aCons (eOp oIx (eVar 2) (eK (.int 0))) (aCons (eOp oIx (eVar 2) (eK (.int 1))) (aNil))))) (sSeq (sIf (toB (eOp oNotInP (eVar 4) (eVar 3))) (sRaiseP "NoVeil" "cell" (eVar 4)) (sNext)) (sSeq (sSet 5 (eCa bLen (aCons (eVar 0) (aNil)))) (sSeq (sSet 6 (eOp oAdd (eVar 5) (eCa bLen (aCons (eOp oIx (eVar 0) (eK (.int 0))) (aNil))))) (sSeq (sAsg (eCa (callC (gcS m_lowered)) (aCons (eVar 0) (aCons (eVar 3) (aCons (eVar 4) (aNil))))) (gT 2 (gsCons (gN 10) (gsCons (gN 11) (gsNil))))) (sSeq (sSet 7 (eOp oIx (eOp oIx (eVar 10) (eOp oIx (eVar 4) (eK (.int 0)))) (eOp oIx (eVar 4) (eK (.int 1))))) (sSeq (sSet 8 (eK .non)) (sSeq (sIf (toB (eOp oGt (eVar 7) (eK (.int 0)))) (sSet 8 (eCa (callC (gcS m_sides_of)) (aCons (eV (eCa bSortDI (aCons (eVar 11) (aNil)))) (aCons (eVar 5) (aNil))))) (sNext)) (sSeq (sAsg (eCa (callC (gcS m_raised)) (aCons (eVar 0) (aCons (eVar 3) (aCons (eVar 4) (aNil))))) (gT 2 (gsCons (gN 12) (gsCons (gN 11) (gsNil))))) (sSeq (sSet 9 (eCa (callC (gcS m_sides_of)) (aCons (eV (c_could_be_2)) (aCons (eVar 5) (aNil))))) (sRet (eTup (aCons (eVar 7) (aCons (eVar 10) (aCons (eVar 8) (aCons (eOp oIx (eOp oIx (eVar 12) (eOp oIx (eVar 4) (eK (.int 0)))) (eOp oIx (eVar 4) (eK (.int 1)))) (aCons (eVar 12) (aCons (eVar 9) (aNil)))))))))))))))))))
def m_could_be : List D → Hv → R D := fnU 3 12 b_could_be
def b__law_draw : SS := sSeq (sIf (toB (eOp oLt (eVar 1) (eCa bLen (aCons (eVar 0) (aNil))))) (sRet (eOp oMod (eOp oIx (eVar 0) (eVar 1)) (eVar 2))) (sNext)) (sSeq (sSet 3 (eOp oAdd (eOp oMul (eVar 1) (eVar 1)) (eK (.int 3)))) (sSeq (sIf (toB (eOp oGt (eCa bLen (aCons (eVar 0) (aNil))) (eK (.int 0)))) (sSet 3 (eOp oAdd (eVar 3) (eOp oMod (eOp oIx (eVar 0) (eOp oMod (eVar 1) (eCa bLen (aCons (eVar 0) (aNil))))) (eK (.int 65521))))) (sNext)) (sRet (eOp oMod (eOp oMod (eOp oMul (eOp oAdd (eOp oMod (eOp oMul (eVar 3) (eK (.int 48271))) (eK (.int 65521))) (eK (.int 5))) (eK (.int 40692))) (eK (.int 65519))) (eVar 2)))))
def m__law_draw : List D → Hv → R D := fnS 3 1 b__law_draw
def l__law_grid_1 : SS := sFor (iR1 (aCons (eVar 2) (aNil))) (gN 6) (sSeq (sSet 7 (eOp oAdd (eK (.int 8)) (eOp oMul (eK (.int 2)) (eOp oAdd (eOp oMul (eVar 5) (eVar 2)) (eVar 6))))) (sSeq (sSet 8 (eOp oMul (eOp oFdiv (eCa (Cm.f .P m__law_draw) (aCons (eVar 0) (aCons (eVar 7) (aCons (eK (.int 40)) (aNil))))) (eK (.int 5))) (eVar 3))) (sSeq (sIf (toB (eOp oEq (eCa (Cm.f .P m__law_draw) (aCons (eVar 0) (aCons (eVar 7) (aCons (eK (.int 5)) (aNil))))) (eK (.int 0)))) (sSet 8 (eK (.int 0))) (sNext)) (sSeq (sIf (cAnd (toB (eOp oEq (eCa (Cm.f .P m__law_draw) (aCons (eVar 0) (aCons (eVar 7) (aCons (eK (.int 20)) (aNil))))) (eK (.int 6)))) (toB (eOp oLt (eVar 7) (eCa bLen (aCons (eVar 0) (aNil)))))) (sSet 8 (eOp oMod (eOp oIx (eVar 0) (eVar 7)) (eOp oPow (eK (.int 10)) (eK (.int 57))))) (sNext)) (sDrop (eBM mAppend (eOp oIx (eVar 4) (eVar 5)) (aCons (eVar 8) (aNil))))))))
def l__law_grid_2 : SS := sFor (iR1 (aCons (eVar 1) (aNil))) (gN 5) (sSeq (sDrop (eBM mAppend (eVar 4) (aCons (eC (lLst (aNil))) (aNil)))) (l__law_grid_1))
def b__law_grid : SS := sSeq (sSet 3 (eOp oIx (eV (lLst (aCons (eK (.int 1)) (aCons (eK (.int 1)) (aCons (eOp oPow (eK (.int 10)) (eK (.int 50))) (aNil)))))) (eCa (Cm.f .P m__law_draw) (aCons (eVar 0) (aCons (eK (.int 2)) (aCons (eK (.int 3)) (aNil))))))) (sSeq (sSet 4 (eC (lLst (aNil)))) (sSeq (l__law_grid_2) (sRet (eVar 4))))
def m__law_grid : List D → Hv → R D := fnS 3 6 b__law_grid
def l__law_hidden_1 : SS := sFor (iR1 (aCons (eVar 2) (aNil))) (gN 5) (sSeq (sSet 6 (eOp oAdd (eK (.int 9)) (eOp oMul (eK (.int 2)) (eOp oAdd (eOp oMul (eVar 4) (eVar 2)) (eVar 5))))) (sIf (toB (eOp oGt (eCa (Cm.f .P m__law_draw) (aCons (eVar 0) (aCons (eVar 6) (aCons (eK (.int 4)) (aNil))))) (eK (.int 0)))) (sDrop (eBM mInsert (eVar 3) (aCons (eOp oFdiv (eCa (Cm.f .P m__law_draw) (aCons (eVar 0) (aCons (eVar 6) (aCons (eOp oAdd (eK (.int 4)) (eOp oMul (eK (.int 4)) (eCa bLen (aCons (eVar 3) (aNil))))) (aNil))))) (eK (.int 4))) (aCons (eTup (aCons (eVar 4) (aCons (eVar 5) (aNil)))) (aNil))))) (sNext)))
def l__law_hidden_2 : SS := sFor (iR1 (aCons (eVar 1) (aNil))) (gN 4) (l__law_hidden_1)
def b__law_hidden : SS := sSeq (sSet 3 (eC (lLst (aNil)))) (sSeq (l__law_hidden_2) (sRet (eVar 3)))
def m__law_hidden : List D → Hv → R D := fnS 3 4 b__law_hidden
def b__law_whole : SS := sRet (eAndV (eIsi "int" (eVar 0)) (eNotV (eIsi "bool" (eVar 0))))
def m__law_whole : List D → Hv → R D := fnS 1 0 b__law_whole
def l__law_is_table_1 : SS := sFor (iR1 (aCons (eCa bLen (aCons (eOp oIx (eVar 1) (eK (.int 0))) (aNil))) (aNil))) (gN 4) (sSeq (sSet 5 (eOp oIx (eOp oIx (eVar 0) (eVar 3)) (eVar 4))) (sSeq (sIf (cOr (cNot (toB (eCa (Cm.f .P m__law_whole) (aCons (eVar 5) (aNil))))) (toB (eOp oLt (eVar 5) (eK (.int 0))))) (sRet (eK (.bl false))) (sNext)) (sIf (cAnd (toB (eOp oNotInP (eTup (aCons (eVar 3) (aCons (eVar 4) (aNil)))) (eVar 2))) (toB (eOp oNe (eVar 5) (eOp oIx (eOp oIx (eVar 1) (eVar 3)) (eVar 4))))) (sRet (eK (.bl false))) (sNext))))
def l__law_is_table_2 : SS := sFor (iR1 (aCons (eCa bLen (aCons (eVar 1) (aNil))) (aNil))) (gN 3) (sSeq (sIf (cOr (cNot (toB (eIsi "list" (eOp oIx (eVar 0) (eVar 3))))) (toB (eOp oNe (eCa bLen (aCons (eOp oIx (eVar 0) (eVar 3)) (aNil))) (eCa bLen (aCons (eOp oIx (eVar 1) (eK (.int 0))) (aNil)))))) (sRet (eK (.bl false))) (sNext)) (l__law_is_table_1))
def c__law_is_table_1 : LS := lLc (iL (eVar 0)) (gN 3) (cYes) (eCa bSum (aCons (eVar 3) (aNil))) [3]
def c__law_is_table_2 : LS := lLc (iL (eVar 1)) (gN 3) (cYes) (eCa bSum (aCons (eVar 3) (aNil))) [3]
def c__law_is_table_3 : LS := lLc (iL (eVar 0)) (gN 3) (cYes) (eOp oIx (eVar 3) (eVar 4)) [3]
def c__law_is_table_4 : LS := lLc (iL (eVar 1)) (gN 3) (cYes) (eOp oIx (eVar 3) (eVar 4)) [3]
def l__law_is_table_3 : SS := sFor (iR1 (aCons (eCa bLen (aCons (eOp oIx (eVar 1) (eK (.int 0))) (aNil))) (aNil))) (gN 4) (sIf (toB (eOp oNe (eCa bSum (aCons (eV (c__law_is_table_3)) (aNil))) (eCa bSum (aCons (eV (c__law_is_table_4)) (aNil))))) (sRet (eK (.bl false))) (sNext))
def b__law_is_table : SS := sSeq (sIf (cOr (cNot (toB (eIsi "list" (eVar 0)))) (toB (eOp oNe (eCa bLen (aCons (eVar 0) (aNil))) (eCa bLen (aCons (eVar 1) (aNil)))))) (sRet (eK (.bl false))) (sNext)) (sSeq (l__law_is_table_2) (sSeq (sIf (toB (eOp oNe (eV (c__law_is_table_1)) (eV (c__law_is_table_2)))) (sRet (eK (.bl false))) (sNext)) (sSeq (l__law_is_table_3) (sRet (eK (.bl true))))))
def m__law_is_table : List D → Hv → R D := fnS 3 3 b__law_is_table
def c__law_places_1 : LS := lLc (iL (eVar 0)) (gN 2) (cYes) (eCa (Cm.f .P m__law_whole) (aCons (eVar 2) (aNil))) [2]
def b__law_places : SS := sSeq (sIf (cOr (cNot (toB (eIsi "list" (eVar 0)))) (cNot (toB (eCa bAll (aCons (eV (c__law_places_1)) (aNil)))))) (sRet (eK (.bl false))) (sNext)) (sRet (eAndV (eOp oEq (eVar 0) (eV (eCa bSortSet (aCons (eVar 0) (aNil))))) (eOrV (eOp oEq (eVar 0) (eV (lLst (aNil)))) (eAndV (eOp oGe (eOp oIx (eVar 0) (eK (.int 0))) (eK (.int 0))) (eOp oLt (eOp oIx (eVar 0) (eUn uNeg (eK (.int 1)))) (eVar 1))))))
def m__law_places : List D → Hv → R D := fnS 2 1 b__law_places
def l__law_is_ground_1 : SS := sFor (iL (eVar 2)) (gN 6) (sSeq (sIf (cAnd (cNot (toB (eVar 5))) (cAnd (toB (eOp oIn (eOp oIx (eVar 6) (eK (.int 1))) (eVar 9))) (toB (eOp oNotIn (eOp oIx (eVar 6) (eK (.int 0))) (eVar 8))))) (sRet (eK (.bl false))) (sNext)) (sIf (cAnd (toB (eVar 5)) (cAnd (toB (eOp oNe (eVar 6) (eVar 3))) (cAnd (toB (eOp oIn (eOp oIx (eVar 6) (eK (.int 0))) (eVar 8))) (toB (eOp oNotIn (eOp oIx (eVar 6) (eK (.int 1))) (eVar 9)))))) (sRet (eK (.bl false))) (sNext)))
def c__law_is_ground_1 : LS := lLc (iL (eVar 2)) (gN 6) (toB (eOp oIn (eOp oIx (eVar 6) (eK (.int 0))) (eVar 8))) (eOp oIx (eOp oIx (eVar 1) (eOp oIx (eVar 6) (eK (.int 0)))) (eOp oIx (eVar 6) (eK (.int 1)))) [6]
def c__law_is_ground_2 : LS := lLc (iL (eVar 2)) (gN 6) (toB (eOp oIn (eOp oIx (eVar 6) (eK (.int 1))) (eVar 9))) (eOp oIx (eOp oIx (eVar 1) (eOp oIx (eVar 6) (eK (.int 0)))) (eOp oIx (eVar 6) (eK (.int 1)))) [6]
def b__law_is_ground : SS := sSeq (sIf (cOr (cNot (toB (eIsi "tuple" (eVar 0)))) (toB (eOp oNe (eCa bLen (aCons (eVar 0) (aNil))) (eK (.int 2))))) (sRet (eK (.bl false))) (sNext)) (sSeq (sAsg (eVar 0) (gT 2 (gsCons (gN 8) (gsCons (gN 9) (gsNil))))) (sSeq (sIf (cOr (cNot (toB (eCa (Cm.f .P m__law_places) (aCons (eVar 8) (aCons (eCa bLen (aCons (eVar 1) (aNil))) (aNil)))))) (cNot (toB (eCa (Cm.f .P m__law_places) (aCons (eVar 9) (aCons (eCa bLen (aCons (eOp oIx (eVar 1) (eK (.int 0))) (aNil))) (aNil))))))) (sRet (eK (.bl false))) (sNext)) (sSeq (sIf (cOr (toB (eOp oNotIn (eOp oIx (eVar 3) (eK (.int 0))) (eVar 8))) (toB (eOp oIn (eOp oIx (eVar 3) (eK (.int 1))) (eVar 9)))) (sRet (eK (.bl false))) (sNext)) (sSeq (l__law_is_ground_1) (sSeq (sSet 7 (eCa bSum (aCons (eV (c__law_is_ground_1)) (aNil)))) (sRet (eOp oEq (eOp oSub (eVar 7) (eCa bSum (aCons (eV (c__law_is_ground_2)) (aNil)))) (eVar 4))))))))
def m__law_is_ground : List D → Hv → R D := fnS 6 4 b__law_is_ground
def b__law_right : SS := sSeq (sIf (cOr (cNot (toB (eIsi "tuple" (eVar 3)))) (cOr (toB (eOp oNe (eCa bLen (aCons (eVar 3) (aNil))) (eK (.int 6)))) (cOr (cNot (toB (eCa (Cm.f .P m__law_whole) (aCons (eOp oIx (eVar 3) (eK (.int 0))) (aNil))))) (cNot (toB (eCa (Cm.f .P m__law_whole) (aCons (eOp oIx (eVar 3) (eK (.int 3))) (aNil)))))))) (sRet (eK (.bl false))) (sNext)) (sSeq (sIf (cOr (cNot (toB (eCa (Cm.f .P m__law_is_table) (aCons (eOp oIx (eVar 3) (eK (.int 1))) (aCons (eVar 0) (aCons (eVar 1) (aNil))))))) (cNot (toB (eCa (Cm.f .P m__law_is_table) (aCons (eOp oIx (eVar 3) (eK (.int 4))) (aCons (eVar 0) (aCons (eVar 1) (aNil)))))))) (sRet (eK (.bl false))) (sNext)) (sSeq (sIf (cOr (toB (eOp oNe (eOp oIx (eOp oIx (eOp oIx (eVar 3) (eK (.int 1))) (eOp oIx (eVar 2) (eK (.int 0)))) (eOp oIx (eVar 2) (eK (.int 1)))) (eOp oIx (eVar 3) (eK (.int 0))))) (toB (eOp oNe (eOp oIx (eOp oIx (eOp oIx (eVar 3) (eK (.int 4))) (eOp oIx (eVar 2) (eK (.int 0)))) (eOp oIx (eVar 2) (eK (.int 1)))) (eOp oIx (eVar 3) (eK (.int 3)))))) (sRet (eK (.bl false))) (sNext)) (sSeq (sIf (cNot (toB (eCa (Cm.f .P m__law_is_ground) (aCons (eOp oIx (eVar 3) (eK (.int 5))) (aCons (eVar 0) (aCons (eVar 1) (aCons (eVar 2) (aCons (eOp oIx (eVar 3) (eK (.int 3))) (aCons (eK (.bl false)) (aNil)))))))))) (sRet (eK (.bl false))) (sNext)) (sSeq (sIf (cOr (toB (eOp oEq (eOp oIx (eVar 3) (eK (.int 0))) (eK (.int 0)))) (toB (eOp oIs (eOp oIx (eVar 3) (eK (.int 2))) (eK .non)))) (sRet (eAndV (eOp oEq (eOp oIx (eVar 3) (eK (.int 0))) (eK (.int 0))) (eOp oIs (eOp oIx (eVar 3) (eK (.int 2))) (eK .non)))) (sNext)) (sRet (eCa (Cm.f .P m__law_is_ground) (aCons (eOp oIx (eVar 3) (eK (.int 2))) (aCons (eVar 0) (aCons (eVar 1) (aCons (eVar 2) (aCons (eOp oIx (eVar 3) (eK (.int 0))) (aCons (eK (.bl true)) (aNil)))))))))))))
def m__law_right : List D → Hv → R D := fnS 4 0 b__law_right
def c_law_1 : LS := lLc (iL (eVar 3)) (gN 8) (cYes) (eV (eCa bList (aCons (eVar 8) (aNil)))) [8]
def l_law_1 : SS := sFor (iC (eOp oIx (eVar 7) (eK (.int 1)))) (gN 8) (sDrop (eBM mAppend (eVar 8) (aCons (eK (.int 1)) (aNil))))
def l_law_2 : SS := sFor (iC (eOp oIx (eVar 7) (eK (.int 4)))) (gN 8) (sDrop (eBM mAppend (eVar 8) (aCons (eK (.int 1)) (aNil))))
def t_law_6 : SS := sSeq (sSet 5 (eOp oIx (eVar 4) (eCa (Cm.f .P m__law_draw) (aCons (eVar 0) (aCons (eK (.int 5)) (aCons (eCa bLen (aCons (eVar 4) (aNil))) (aNil))))))) (sSeq (sSet 6 (eTup (aCons (eV (c_law_1)) (aCons (eV (eCa bList (aCons (eVar 4) (aNil)))) (aNil))))) (sBlk (fun n => sSeq (sSet 7 (eCa (callC (gcS m_could_be)) (aCons (eVar 3) (aCons (eVar 4) (aCons (eVar 5) (aNil)))))) (sSeq (sIf (cOr (toB (eOp oNe (eTup (aCons (eVar 3) (aCons (eVar 4) (aNil)))) (eVar 6))) (cNot (toB (eCa (Cm.f .B m__law_right) (aCons (eVar 3) (aCons (eVar 4) (aCons (eVar 5) (aCons (eVar 7) (aNil))))))))) (sRet (eK (.bl false))) (sNext)) (sSeq (sIf (cOr (toB (eOp oGt (eOp oIx (eVar 7) (eK (.int 0))) (eOp oIx (eOp oIx (eVar 3) (eOp oIx (eVar 5) (eK (.int 0)))) (eOp oIx (eVar 5) (eK (.int 1)))))) (toB (eOp oLt (eOp oIx (eVar 7) (eK (.int 3))) (eOp oIx (eOp oIx (eVar 3) (eOp oIx (eVar 5) (eK (.int 0)))) (eOp oIx (eVar 5) (eK (.int 1))))))) (sRet (eK (.bl false))) (sNext)) (sSeq (l_law_1) (sSeq (sIf (cNot (toB (eCa (Cm.f .B m__law_is_table) (aCons (eOp oIx (eVar 7) (eK (.int 4))) (aCons (eVar 3) (aCons (eVar 4) (aNil))))))) (sRet (eK (.bl false))) (sNext)) (sSeq (l_law_2) (sSeq (sDrop (eBM mClear (eOp oIx (eVar 7) (eK (.int 4))) aNil)) (sSeq (sDrop (eBM mAppend (eOp oIx (eOp oIx (eVar 7) (eK (.int 5))) (eK (.int 0))) (aCons (eK (.int 0)) (aNil)))) (sSeal n (sBlk (fun n => sSeq (sSet 9 (eCa (callC (gcS m_could_be)) (aCons (eVar 3) (aCons (eVar 4) (aCons (eVar 5) (aNil)))))) (sSeal n (sRet (eAndV (eOp oEq (eTup (aCons (eVar 3) (aCons (eVar 4) (aNil)))) (eVar 6)) (eAndV (eCa (Cm.f .P m__law_right) (aCons (eVar 3) (aCons (eVar 4) (aCons (eVar 5) (aCons (eVar 9) (aNil)))))) (eOp oEq (eSl3 (eVar 9)) (eSl3 (eVar 7))))))))))))))))))))
def b_law : SS := sSeq (sSet 1 (eOp oAdd (eK (.int 1)) (eCa (Cm.f .P m__law_draw) (aCons (eVar 0) (aCons (eK (.int 0)) (aCons (eK (.int 4)) (aNil))))))) (sSeq (sSet 2 (eOp oAdd (eK (.int 1)) (eCa (Cm.f .P m__law_draw) (aCons (eVar 0) (aCons (eK (.int 1)) (aCons (eK (.int 4)) (aNil))))))) (sSeq (sIf (toB (eOp oEq (eOp oFdiv (eCa (Cm.f .P m__law_draw) (aCons (eVar 0) (aCons (eK (.int 0)) (aCons (eK (.int 64)) (aNil))))) (eK (.int 4))) (eK (.int 9)))) (sSeq (sSet 1 (eK (.int 6))) (sSet 2 (eK (.int 6)))) (sNext)) (sSeq (sSet 3 (eCa (Cm.f .P m__law_grid) (aCons (eVar 0) (aCons (eVar 1) (aCons (eVar 2) (aNil)))))) (sSeq (sSet 4 (eCa (Cm.f .P m__law_hidden) (aCons (eVar 0) (aCons (eVar 1) (aCons (eVar 2) (aNil)))))) (sSeq (sIf (toB (eOp oEq (eCa bLen (aCons (eVar 4) (aNil))) (eK (.int 0)))) (sSet 4 (eV (lLst (aCons (eTup (aCons (eCa (Cm.f .P m__law_draw) (aCons (eVar 0) (aCons (eK (.int 3)) (aCons (eVar 1) (aNil))))) (aCons (eCa (Cm.f .P m__law_draw) (aCons (eVar 0) (aCons (eK (.int 4)) (aCons (eVar 2) (aNil))))) (aNil)))) (aNil))))) (sNext)) (t_law_6))))))
def m_law : List D → Hv → R D := fnS 1 9 b_law
end
structure Tx (K : PySem.W.Frag) (mg : Str → Option Value) : Prop where
  d_reached_sides : ∃ fd, Fun K "reached_sides" "reached_sides" s_reached_sides (He.ga K "reached_sides") fd
  g_reached_sides : mg "reached_sides" = some (.ref (He.ga K "reached_sides"))
  d_boxes_between : ∃ fd, Fun K "boxes_between" "boxes_between" s_boxes_between (He.ga K "boxes_between") fd
  g_boxes_between : mg "boxes_between" = some (.ref (He.ga K "boxes_between"))
  d_shift_boxes : ∃ fd, Fun K "shift_boxes" "shift_boxes" s_shift_boxes (He.ga K "shift_boxes") fd
  g_shift_boxes : mg "shift_boxes" = some (.ref (He.ga K "shift_boxes"))
  d_raised : ∃ fd, Fun K "raised" "raised" s_raised (He.ga K "raised") fd
  g_raised : mg "raised" = some (.ref (He.ga K "raised"))
  d_lowered : ∃ fd, Fun K "lowered" "lowered" s_lowered (He.ga K "lowered") fd
  g_lowered : mg "lowered" = some (.ref (He.ga K "lowered"))
  d_sides_of : ∃ fd, Fun K "sides_of" "sides_of" s_sides_of (He.ga K "sides_of") fd
  g_sides_of : mg "sides_of" = some (.ref (He.ga K "sides_of"))
  d_could_be : ∃ fd, Fun K "could_be" "could_be" s_could_be (He.ga K "could_be") fd
  g_could_be : mg "could_be" = some (.ref (He.ga K "could_be"))
  d__law_draw : ∃ fd, Fun K "_law_draw" "_law_draw" s__law_draw (He.ga K "_law_draw") fd
  g__law_draw : mg "_law_draw" = some (.ref (He.ga K "_law_draw"))
  d__law_grid : ∃ fd, Fun K "_law_grid" "_law_grid" s__law_grid (He.ga K "_law_grid") fd
  g__law_grid : mg "_law_grid" = some (.ref (He.ga K "_law_grid"))
  d__law_hidden : ∃ fd, Fun K "_law_hidden" "_law_hidden" s__law_hidden (He.ga K "_law_hidden") fd
  g__law_hidden : mg "_law_hidden" = some (.ref (He.ga K "_law_hidden"))
  d__law_whole : ∃ fd, Fun K "_law_whole" "_law_whole" s__law_whole (He.ga K "_law_whole") fd
  g__law_whole : mg "_law_whole" = some (.ref (He.ga K "_law_whole"))
  d__law_is_table : ∃ fd, Fun K "_law_is_table" "_law_is_table" s__law_is_table (He.ga K "_law_is_table") fd
  g__law_is_table : mg "_law_is_table" = some (.ref (He.ga K "_law_is_table"))
  d__law_places : ∃ fd, Fun K "_law_places" "_law_places" s__law_places (He.ga K "_law_places") fd
  g__law_places : mg "_law_places" = some (.ref (He.ga K "_law_places"))
  d__law_is_ground : ∃ fd, Fun K "_law_is_ground" "_law_is_ground" s__law_is_ground (He.ga K "_law_is_ground") fd
  g__law_is_ground : mg "_law_is_ground" = some (.ref (He.ga K "_law_is_ground"))
  d__law_right : ∃ fd, Fun K "_law_right" "_law_right" s__law_right (He.ga K "_law_right") fd
  g__law_right : mg "_law_right" = some (.ref (He.ga K "_law_right"))
  d_law : ∃ fd, Fun K "law" "law" s_law (He.ga K "law") fd
  g_law : mg "law" = some (.ref (He.ga K "law"))
  n_len : mg "len" = none
  n_list : mg "list" = none
  n_min : mg "min" = none
  n_sorted : mg "sorted" = none
  n_range : mg "range" = none
  n_isinstance : mg "isinstance" = none
  n_int : mg "int" = none
  n_bool : mg "bool" = none
  n_sum : mg "sum" = none
  n_all : mg "all" = none
  n_set : mg "set" = none
  n_tuple : mg "tuple" = none
  k_NoVeil : mg "NoVeil" = some (.ref (He.ga K "NoVeil"))
  k_CrossError : mg "CrossError" = some (.ref (He.ga K "CrossError"))
  p_NoVeil : ∃ fd, Fun K "__init__" "NoVeil.__init__" i_NoVeil (He.ma K (He.ga K "NoVeil") "__init__") fd
  m_NoVeil : Meth K (He.ga K "NoVeil") "__init__" (He.ma K (He.ga K "NoVeil") "__init__")
  ce : (efs.all fun f => f.ok K) = true
section
variable {P : Program} {w : World} {K : PySem.W.Frag} {mg : Str → Option Value} {base : Heap}
theorem pay_NoVeil (T : Tx K mg) : PayT P w K mg base 1 "NoVeil" "cell" := by
  obtain ⟨fd, F⟩ := T.p_NoVeil
  have ox := oexB_ok (ef_at T.ce (f := .oex "NoVeil") (by simp [efs]))
  have no := of_decide_eq_true (ef_at T.ce (f := .nof "NoVeil" "cell") (by simp [efs]))
  have bi : biB K (He.ga K "CrossError") = true := ef_at T.ce (f := .bi "CrossError") (by simp [efs])
  refine ⟨T.k_NoVeil, ox, no, _, fd, ["self", "cell"], T.m_NoVeil.at_, beq_iff_eq.mp T.m_NoVeil.fn, payInit_ok (z := "a box that is not hidden") F sci_NoVeil rfl rfl (fun cdv A outer s H E hr => ?_), F.binds (ps := ["self", "cell"]) fun _ _ _ _ _ _ us hl => match us, hl with | [_, _], _ => rfl⟩
  exact pss_cons (ps_expr (pe_ceinit rfl T.k_CrossError bi (pa_cons (pv 0) (pa_cons pe_str pa_nil)))) (pss_one (ps_ost (pv 0) (pv 1)))
theorem ok_reached_sides (T : Tx K mg) : OkF P w K mg base 1 "reached_sides" ["now", "hidden", "cell", "begin"] m_reached_sides := by
  obtain ⟨fd, F⟩ := T.d_reached_sides
  refine okF_mk F sc_reached_sides rfl rfl T.g_reached_sides (F.binds (ps := ["now", "hidden", "cell", "begin"]) fun _ _ _ _ _ _ us hl => match us, hl with | [_, _, _, _], _ => rfl) fun cdv A outer s H E hr => ?_
  have hu := Nat.lt_of_le_of_lt (Nat.add_le_add_left (show 1 ≤ 64 by decide) _) hr.units
  have tk := takes_fn (P := P) (w := w) (K := K) (mg := mg) (base := base) (N := N_reached_sides) (qual := "reached_sides") (scope := defScope s_reached_sides) (f := (He.ga K "reached_sides")) (cd := cdv) (A := A) (outer := outer) (s := s) (H := H) (E := E)
  have hp := passes_fn (P := P) (w := w) (K := K) (mg := mg) (base := base) (N := N_reached_sides) (qual := "reached_sides") (scope := defScope s_reached_sides) (f := (He.ga K "reached_sides")) (cd := cdv) (A := A) (outer := outer) (s := s) (H := H) (E := E)
  exact qb_cons (qs_set (i := 4) sc_reached_sides.nd (se_callB call_len cs_len (T.n_len) (by decide +kernel) (sa_cons (se_var (i := 0)) (sa_nil)))) (qb_cons (qs_set (i := 5) sc_reached_sides.nd (se_disp (sp_cons (se_var (i := 3)) (se_non) (sp_nil)))) (qb_cons (qs_set (i := 6) sc_reached_sides.nd (se_C (sl_lst (sa_cons (se_var (i := 3)) (sa_nil))))) (qb_cons (qs_set (i := 7) sc_reached_sides.nd (se_int)) (qb_cons (qs_loop hp (st_cmp (op_ltA) os_lt (se_var (i := 7)) (se_callB call_len cs_len (T.n_len) (by decide +kernel) (sa_cons (se_var (i := 6)) (sa_nil))) (nomark _)) (qb_cons (qs_set (i := 8) sc_reached_sides.nd (se_ix (se_var (i := 6)) (se_var (i := 7)))) (qb_cons (qs_for hp (qi_list (se_var (i := 1))) (qg_name sc_reached_sides.nd) (qb_cons (qs_if (st_w (sw_and (st_cmp (op_neP hr.units) os_ne (se_var (i := 9)) (se_var (i := 2)) (nomark _)) (sw_and (st_cmp (op_eqP hr.units) os_eq (se_var (i := 8)) (se_ix (se_var (i := 9)) (se_int)) (nomark _)) (sw_and1 (st_dnin hu (se_op op_addA os_add (se_var (i := 4)) (se_ix (se_var (i := 9)) (se_int))) (se_var (i := 5))))))) (qb_cons (qs_dput hu (se_tup (sa_cons (se_var (i := 8)) (sa_cons (se_var (i := 9)) (sa_nil)))) (se_var (i := 5)) (se_op op_addA os_add (se_var (i := 4)) (se_ix (se_var (i := 9)) (se_int)))) (qb_one (qs_expr (se_bm PySem.F.slot_list_append PySem.F.type_list_append mt_append ms_append (se_var (i := 6)) (sa_cons (se_op op_addA os_add (se_var (i := 4)) (se_ix (se_var (i := 9)) (se_int))) (sa_nil)))))) (qb_nil)) (qb_one (qs_if (st_w (sw_and (st_cmp (op_neP hr.units) os_ne (se_var (i := 9)) (se_var (i := 2)) (nomark _)) (sw_and (st_cmp (op_eqP hr.units) os_eq (se_var (i := 8)) (se_op op_addA os_add (se_var (i := 4)) (se_ix (se_var (i := 9)) (se_int))) (nomark _)) (sw_and (st_cmp (op_gtA) os_gt (se_ix (se_ix (se_var (i := 0)) (se_ix (se_var (i := 9)) (se_int))) (se_ix (se_var (i := 9)) (se_int))) (se_int) (nomark _)) (sw_and1 (st_dnin hu (se_ix (se_var (i := 9)) (se_int)) (se_var (i := 5)))))))) (qb_cons (qs_dput hu (se_tup (sa_cons (se_var (i := 8)) (sa_cons (se_var (i := 9)) (sa_nil)))) (se_var (i := 5)) (se_ix (se_var (i := 9)) (se_int))) (qb_one (qs_expr (se_bm PySem.F.slot_list_append PySem.F.type_list_append mt_append ms_append (se_var (i := 6)) (sa_cons (se_ix (se_var (i := 9)) (se_int)) (sa_nil)))))) (qb_nil))))) (qb_one (qs_set (i := 7) sc_reached_sides.nd (se_op op_addA os_add (se_var (i := 7)) (se_int))))))) (qb_one (qs_ret (se_lock (se_var (i := 5)))))))))
theorem ok_boxes_between (T : Tx K mg) : OkF P w K mg base 1 "boxes_between" ["came", "node", "rows"] m_boxes_between := by
  obtain ⟨fd, F⟩ := T.d_boxes_between
  refine okF_mk F sc_boxes_between rfl rfl T.g_boxes_between (F.binds (ps := ["came", "node", "rows"]) fun _ _ _ _ _ _ us hl => match us, hl with | [_, _, _], _ => rfl) fun cdv A outer s H E hr => ?_
  have hu := Nat.lt_of_le_of_lt (Nat.add_le_add_left (show 1 ≤ 64 by decide) _) hr.units
  have tk := takes_fn (P := P) (w := w) (K := K) (mg := mg) (base := base) (N := N_boxes_between) (qual := "boxes_between") (scope := defScope s_boxes_between) (f := (He.ga K "boxes_between")) (cd := cdv) (A := A) (outer := outer) (s := s) (H := H) (E := E)
  have hp := passes_fn (P := P) (w := w) (K := K) (mg := mg) (base := base) (N := N_boxes_between) (qual := "boxes_between") (scope := defScope s_boxes_between) (f := (He.ga K "boxes_between")) (cd := cdv) (A := A) (outer := outer) (s := s) (H := H) (E := E)
  exact qb_cons (qs_set (i := 3) sc_boxes_between.nd (se_C (sl_lst (sa_nil)))) (qb_cons (qs_set (i := 4) sc_boxes_between.nd (se_C (sl_lst (sa_nil)))) (qb_cons (qs_loop hp (st_cmp (op_notA) os_isNot (se_dget hu (se_var (i := 0)) (se_var (i := 1))) (se_non) (nomark _)) (qb_cons (qs_asg (se_dget hu (se_var (i := 0)) (se_var (i := 1))) (qg_tup (qgs_cons (qg_name sc_boxes_between.nd) (qgs_cons (qg_name sc_boxes_between.nd) (qgs_nil))))) (qb_cons (qs_if (st_cmp (op_ltA) os_lt (se_var (i := 5)) (se_var (i := 2)) (nomark _)) (qb_one (qs_expr (se_bm PySem.F.slot_list_append PySem.F.type_list_append mt_append ms_append (se_var (i := 3)) (sa_cons (se_var (i := 6)) (sa_nil))))) (qb_one (qs_expr (se_bm PySem.F.slot_list_append PySem.F.type_list_append mt_append ms_append (se_var (i := 4)) (sa_cons (se_var (i := 6)) (sa_nil)))))) (qb_one (qs_set (i := 1) sc_boxes_between.nd (se_var (i := 5))))))) (qb_one (qs_ret (se_tup (sa_cons (se_var (i := 3)) (sa_cons (se_var (i := 4)) (sa_nil))))))))
theorem ok_shift_boxes (T : Tx K mg) : OkF P w K mg base 1 "shift_boxes" ["now", "grow", "fall", "amount"] m_shift_boxes := by
  obtain ⟨fd, F⟩ := T.d_shift_boxes
  refine okF_mk F sc_shift_boxes rfl rfl T.g_shift_boxes (F.binds (ps := ["now", "grow", "fall", "amount"]) fun _ _ _ _ _ _ us hl => match us, hl with | [_, _, _, _], _ => rfl) fun cdv A outer s H E hr => ?_
  have hu := Nat.lt_of_le_of_lt (Nat.add_le_add_left (show 1 ≤ 64 by decide) _) hr.units
  have tk := takes_fn (P := P) (w := w) (K := K) (mg := mg) (base := base) (N := N_shift_boxes) (qual := "shift_boxes") (scope := defScope s_shift_boxes) (f := (He.ga K "shift_boxes")) (cd := cdv) (A := A) (outer := outer) (s := s) (H := H) (E := E)
  have hp := passes_fn (P := P) (w := w) (K := K) (mg := mg) (base := base) (N := N_shift_boxes) (qual := "shift_boxes") (scope := defScope s_shift_boxes) (f := (He.ga K "shift_boxes")) (cd := cdv) (A := A) (outer := outer) (s := s) (H := H) (E := E)
  exact qb_cons (qs_for hp (qi_list (se_var (i := 1))) (qg_name sc_shift_boxes.nd) (qb_one (qs_setIx (htk := tk) (se_op op_addA os_add (se_ix (se_ix (se_var (i := 0)) (se_ix (se_var (i := 4)) (se_int))) (se_ix (se_var (i := 4)) (se_int))) (se_var (i := 3))) (se_ix (se_var (i := 0)) (se_ix (se_var (i := 4)) (se_int))) (se_ix (se_var (i := 4)) (se_int))))) (qb_one (qs_for hp (qi_list (se_var (i := 2))) (qg_name sc_shift_boxes.nd) (qb_one (qs_setIx (htk := tk) (se_op op_sub os_sub (se_ix (se_ix (se_var (i := 0)) (se_ix (se_var (i := 4)) (se_int))) (se_ix (se_var (i := 4)) (se_int))) (se_var (i := 3))) (se_ix (se_var (i := 0)) (se_ix (se_var (i := 4)) (se_int))) (se_ix (se_var (i := 4)) (se_int))))))
theorem ok_raised (T : Tx K mg) : OkF P w K mg base 2 "raised" ["grid", "hidden", "cell"] m_raised := by
  obtain ⟨fd, F⟩ := T.d_raised
  refine okU_mk F sc_raised rfl rfl T.g_raised (F.binds (ps := ["grid", "hidden", "cell"]) fun _ _ _ _ _ _ us hl => match us, hl with | [_, _, _], _ => rfl) fun cdv A outer s H E hr => ?_
  have hu := Nat.lt_of_le_of_lt (Nat.add_le_add_left (show 1 ≤ 64 by decide) _) hr.units
  have tk := takes_fn (P := P) (w := w) (K := K) (mg := mg) (base := base) (N := N_raised) (qual := "raised") (scope := defScope s_raised) (f := (He.ga K "raised")) (cd := cdv) (A := A) (outer := outer) (s := s) (H := H) (E := E)
  have hp := passes_fn (P := P) (w := w) (K := K) (mg := mg) (base := base) (N := N_raised) (qual := "raised") (scope := defScope s_raised) (f := (He.ga K "raised")) (cd := cdv) (A := A) (outer := outer) (s := s) (H := H) (E := E)
  exact qb_cons (qs_set (i := 3) sc_raised.nd (se_C (sl_lc (own := [("row", 7)]) sc_raised.nd (qi_list (se_var (i := 0))) (blkOk_by (N := N_raised) (sc := defScope s_raised) (by decide +kernel)) (fun _ _ _ _ _ => qg_name sc_raised.nd) (by decide) (fun _ _ _ _ _ => scs_nil) (fun _ _ _ _ _ => se_C (sl_callT call_list_of cl_list (T.n_list) (by decide +kernel) (sa_cons (se_var (i := 7)) (sa_nil))))))) (qb_cons (qs_set (i := 4) sc_raised.nd (se_callB call_len cs_len (T.n_len) (by decide +kernel) (sa_cons (se_var (i := 0)) (sa_nil)))) (qb_cons (qs_set (i := 5) sc_raised.nd (se_fn .M (ok_reached_sides T) hr tk (sa_cons (se_var (i := 3)) (sa_cons (se_var (i := 1)) (sa_cons (se_var (i := 2)) (sa_cons (se_op op_addA os_add (se_var (i := 4)) (se_ix (se_var (i := 2)) (se_int))) (sa_nil))))))) (qb_cons (qs_loop hp (st_din hu (se_ix (se_var (i := 2)) (se_int)) (se_var (i := 5))) (qb_cons (qs_asg (se_fn .P (ok_boxes_between T) hr tk (sa_cons (se_var (i := 5)) (sa_cons (se_ix (se_var (i := 2)) (se_int)) (sa_cons (se_var (i := 4)) (sa_nil))))) (qg_tup (qgs_cons (qg_name sc_raised.nd) (qgs_cons (qg_name sc_raised.nd) (qgs_nil))))) (qb_cons (qs_set (i := 6) sc_raised.nd (se_callB (cr_min rfl) cs_min (T.n_min) (by decide +kernel) (sa_cons (se_V (sl_lc (own := [("box", 10)]) sc_raised.nd (qi_list (se_var (i := 9))) (blkOk_by (N := N_raised) (sc := defScope s_raised) (by decide +kernel)) (fun _ _ _ _ _ => qg_name sc_raised.nd) (by decide) (fun _ _ _ _ _ => scs_nil) (fun _ _ _ _ _ => se_ix (se_ix (se_var (i := 3)) (se_ix (se_var (i := 10)) (se_int))) (se_ix (se_var (i := 10)) (se_int))))) (sa_nil)))) (qb_cons (qs_expr (se_fn .M (ok_shift_boxes T) hr tk (sa_cons (se_var (i := 3)) (sa_cons (se_V (sl_op op_cat ol_cat (se_var (i := 8)) (se_V (sl_lst (sa_cons (se_var (i := 2)) (sa_nil)))))) (sa_cons (se_var (i := 9)) (sa_cons (se_var (i := 6)) (sa_nil))))))) (qb_one (qs_set (i := 5) sc_raised.nd (se_fn .M (ok_reached_sides T) hr tk (sa_cons (se_var (i := 3)) (sa_cons (se_var (i := 1)) (sa_cons (se_var (i := 2)) (sa_cons (se_op op_addA os_add (se_var (i := 4)) (se_ix (se_var (i := 2)) (se_int))) (sa_nil)))))))))))) (qb_one (qs_ret (se_tup (sa_cons (se_var (i := 3)) (sa_cons (se_var (i := 5)) (sa_nil)))))))))
theorem ok_lowered (T : Tx K mg) : OkF P w K mg base 2 "lowered" ["grid", "hidden", "cell"] m_lowered := by
  obtain ⟨fd, F⟩ := T.d_lowered
  refine okU_mk F sc_lowered rfl rfl T.g_lowered (F.binds (ps := ["grid", "hidden", "cell"]) fun _ _ _ _ _ _ us hl => match us, hl with | [_, _, _], _ => rfl) fun cdv A outer s H E hr => ?_
  have hu := Nat.lt_of_le_of_lt (Nat.add_le_add_left (show 1 ≤ 64 by decide) _) hr.units
  have tk := takes_fn (P := P) (w := w) (K := K) (mg := mg) (base := base) (N := N_lowered) (qual := "lowered") (scope := defScope s_lowered) (f := (He.ga K "lowered")) (cd := cdv) (A := A) (outer := outer) (s := s) (H := H) (E := E)
  have hp := passes_fn (P := P) (w := w) (K := K) (mg := mg) (base := base) (N := N_lowered) (qual := "lowered") (scope := defScope s_lowered) (f := (He.ga K "lowered")) (cd := cdv) (A := A) (outer := outer) (s := s) (H := H) (E := E)
  exact qb_cons (qs_set (i := 3) sc_lowered.nd (se_C (sl_lc (own := [("row", 8)]) sc_lowered.nd (qi_list (se_var (i := 0))) (blkOk_by (N := N_lowered) (sc := defScope s_lowered) (by decide +kernel)) (fun _ _ _ _ _ => qg_name sc_lowered.nd) (by decide) (fun _ _ _ _ _ => scs_nil) (fun _ _ _ _ _ => se_C (sl_callT call_list_of cl_list (T.n_list) (by decide +kernel) (sa_cons (se_var (i := 8)) (sa_nil))))))) (qb_cons (qs_set (i := 4) sc_lowered.nd (se_callB call_len cs_len (T.n_len) (by decide +kernel) (sa_cons (se_var (i := 0)) (sa_nil)))) (qb_cons (qs_set (i := 5) sc_lowered.nd (se_fn .M (ok_reached_sides T) hr tk (sa_cons (se_var (i := 3)) (sa_cons (se_var (i := 1)) (sa_cons (se_var (i := 2)) (sa_cons (se_ix (se_var (i := 2)) (se_int)) (sa_nil))))))) (qb_cons (qs_loop hp (st_w (sw_and (st_cmp (op_gtA) os_gt (se_ix (se_ix (se_var (i := 3)) (se_ix (se_var (i := 2)) (se_int))) (se_ix (se_var (i := 2)) (se_int))) (se_int) (nomark _)) (sw_and1 (st_din hu (se_op op_addA os_add (se_var (i := 4)) (se_ix (se_var (i := 2)) (se_int))) (se_var (i := 5)))))) (qb_cons (qs_asg (se_fn .P (ok_boxes_between T) hr tk (sa_cons (se_var (i := 5)) (sa_cons (se_op op_addA os_add (se_var (i := 4)) (se_ix (se_var (i := 2)) (se_int))) (sa_cons (se_var (i := 4)) (sa_nil))))) (qg_tup (qgs_cons (qg_name sc_lowered.nd) (qgs_cons (qg_name sc_lowered.nd) (qgs_nil))))) (qb_cons (qs_set (i := 6) sc_lowered.nd (se_V (sl_op op_cat ol_cat (se_var (i := 6)) (se_V (sl_lst (sa_cons (se_var (i := 2)) (sa_nil))))))) (qb_cons (qs_set (i := 7) sc_lowered.nd (se_callB (cr_min rfl) cs_min (T.n_min) (by decide +kernel) (sa_cons (se_V (sl_lc (own := [("box", 10)]) sc_lowered.nd (qi_list (se_var (i := 6))) (blkOk_by (N := N_lowered) (sc := defScope s_lowered) (by decide +kernel)) (fun _ _ _ _ _ => qg_name sc_lowered.nd) (by decide) (fun _ _ _ _ _ => scs_nil) (fun _ _ _ _ _ => se_ix (se_ix (se_var (i := 3)) (se_ix (se_var (i := 10)) (se_int))) (se_ix (se_var (i := 10)) (se_int))))) (sa_nil)))) (qb_cons (qs_expr (se_fn .M (ok_shift_boxes T) hr tk (sa_cons (se_var (i := 3)) (sa_cons (se_var (i := 9)) (sa_cons (se_var (i := 6)) (sa_cons (se_var (i := 7)) (sa_nil))))))) (qb_one (qs_set (i := 5) sc_lowered.nd (se_fn .M (ok_reached_sides T) hr tk (sa_cons (se_var (i := 3)) (sa_cons (se_var (i := 1)) (sa_cons (se_var (i := 2)) (sa_cons (se_ix (se_var (i := 2)) (se_int)) (sa_nil))))))))))))) (qb_one (qs_ret (se_tup (sa_cons (se_var (i := 3)) (sa_cons (se_var (i := 5)) (sa_nil)))))))))
theorem ok_sides_of (T : Tx K mg) : OkF P w K mg base 1 "sides_of" ["nodes", "rows"] m_sides_of := by
  obtain ⟨fd, F⟩ := T.d_sides_of
  refine okU_mk F sc_sides_of rfl rfl T.g_sides_of (F.binds (ps := ["nodes", "rows"]) fun _ _ _ _ _ _ us hl => match us, hl with | [_, _], _ => rfl) fun cdv A outer s H E hr => ?_
  have hu := Nat.lt_of_le_of_lt (Nat.add_le_add_left (show 1 ≤ 64 by decide) _) hr.units
  have tk := takes_fn (P := P) (w := w) (K := K) (mg := mg) (base := base) (N := N_sides_of) (qual := "sides_of") (scope := defScope s_sides_of) (f := (He.ga K "sides_of")) (cd := cdv) (A := A) (outer := outer) (s := s) (H := H) (E := E)
  have hp := passes_fn (P := P) (w := w) (K := K) (mg := mg) (base := base) (N := N_sides_of) (qual := "sides_of") (scope := defScope s_sides_of) (f := (He.ga K "sides_of")) (cd := cdv) (A := A) (outer := outer) (s := s) (H := H) (E := E)
  exact qb_one (qs_ret (se_tup (sa_cons (se_C (sl_lc (own := [("node", 2)]) sc_sides_of.nd (qi_list (se_var (i := 0))) (blkOk_by (N := N_sides_of) (sc := defScope s_sides_of) (by decide +kernel)) (fun _ _ _ _ _ => qg_name sc_sides_of.nd) (by decide) (fun _ _ _ _ _ => scs_one (st_cmp (op_ltA) os_lt (se_var (i := 2)) (se_var (i := 1)) (nomark _))) (fun _ _ _ _ _ => se_var (i := 2)))) (sa_cons (se_V (sl_lc (own := [("node", 2)]) sc_sides_of.nd (qi_list (se_var (i := 0))) (blkOk_by (N := N_sides_of) (sc := defScope s_sides_of) (by decide +kernel)) (fun _ _ _ _ _ => qg_name sc_sides_of.nd) (by decide) (fun _ _ _ _ _ => scs_one (st_cmp (op_ge) os_ge (se_var (i := 2)) (se_var (i := 1)) (nomark _))) (fun _ _ _ _ _ => se_op op_sub os_sub (se_var (i := 2)) (se_var (i := 1))))) (sa_nil)))))
theorem ok_could_be (T : Tx K mg) : OkF P w K mg base 3 "could_be" ["grid", "hidden", "cell"] m_could_be := by
  obtain ⟨fd, F⟩ := T.d_could_be
  refine okU_mk F sc_could_be rfl rfl T.g_could_be (F.binds (ps := ["grid", "hidden", "cell"]) fun _ _ _ _ _ _ us hl => match us, hl with | [_, _, _], _ => rfl) fun cdv A outer s H E hr => ?_
  have hu := Nat.lt_of_le_of_lt (Nat.add_le_add_left (show 1 ≤ 64 by decide) _) hr.units
  have tk := takes_fn (P := P) (w := w) (K := K) (mg := mg) (base := base) (N := N_could_be) (qual := "could_be") (scope := defScope s_could_be) (f := (He.ga K "could_be")) (cd := cdv) (A := A) (outer := outer) (s := s) (H := H) (E := E)
  have hp := passes_fn (P := P) (w := w) (K := K) (mg := mg) (base := base) (N := N_could_be) (qual := "could_be") (scope := defScope s_could_be) (f := (He.ga K "could_be")) (cd := cdv) (A := A) (outer := outer) (s := s) (H := H) (E := E)
  exact qb_cons (qs_setLc (own := [("box", 13)]) (i := 3) (hf := sn_V) sc_could_be.nd (sw_true rfl rfl rfl (by decide +kernel)) (qi_list (se_var (i := 1))) (blkOk_by (N := N_could_be) (sc := defScope s_could_be) (by decide +kernel)) (fun _ _ _ _ _ => qg_name sc_could_be.nd) (by decide) (fun _ _ _ _ _ => scs_nil) (fun _ _ _ _ _ => se_tup (sa_cons (se_ix (se_var (i := 13)) (se_int)) (sa_cons (se_ix (se_var (i := 13)) (se_int)) (sa_nil))))) (qb_cons (qs_set (i := 4) sc_could_be.nd (se_tup (sa_cons (se_ix (se_var (i := 2)) (se_int)) (sa_cons (se_ix (se_var (i := 2)) (se_int)) (sa_nil))))) (qb_cons (qs_if (st_cmp (op_notInP hr.units) os_notInP (se_var (i := 4)) (se_var (i := 3)) (by rfl)) (qb_one (qs_raiseP (pay_NoVeil T) hr tk (se_var (i := 4)))) (qb_nil)) (qb_cons (qs_set (i := 5) sc_could_be.nd (se_callB call_len cs_len (T.n_len) (by decide +kernel) (sa_cons (se_var (i := 0)) (sa_nil)))) (qb_cons (qs_set (i := 6) sc_could_be.nd (se_op op_addA os_add (se_var (i := 5)) (se_callB call_len cs_len (T.n_len) (by decide +kernel) (sa_cons (se_ix (se_var (i := 0)) (se_int)) (sa_nil))))) (qb_cons (qs_asg (se_fnT (ok_lowered T) hr tk (sa_cons (se_var (i := 0)) (sa_cons (se_var (i := 3)) (sa_cons (se_var (i := 4)) (sa_nil))))) (qg_tup (qgs_cons (qg_name sc_could_be.nd) (qgs_cons (qg_name sc_could_be.nd) (qgs_nil))))) (qb_cons (qs_set (i := 7) sc_could_be.nd (se_ix (se_ix (se_var (i := 10)) (se_ix (se_var (i := 4)) (se_int))) (se_ix (se_var (i := 4)) (se_int)))) (qb_cons (qs_set (i := 8) sc_could_be.nd (se_non)) (qb_cons (qs_if (st_cmp (op_gtA) os_gt (se_var (i := 7)) (se_int) (nomark _)) (qb_one (qs_set (i := 8) sc_could_be.nd (se_fnT (ok_sides_of T) (hr.mono (by decide)) tk (sa_cons (se_V (sl_callB (cr_sortDI rfl) cl_sortDI (T.n_sorted) (by decide +kernel) (sa_cons (se_var (i := 11)) (sa_nil)))) (sa_cons (se_var (i := 5)) (sa_nil)))))) (qb_nil)) (qb_cons (qs_asg (se_fnT (ok_raised T) hr tk (sa_cons (se_var (i := 0)) (sa_cons (se_var (i := 3)) (sa_cons (se_var (i := 4)) (sa_nil))))) (qg_tup (qgs_cons (qg_name sc_could_be.nd) (qgs_cons (qg_name sc_could_be.nd) (qgs_nil))))) (qb_cons (qs_set (i := 9) sc_could_be.nd (se_fnT (ok_sides_of T) (hr.mono (by decide)) tk (sa_cons (se_V (sl_lc (own := [("node", 14)]) sc_could_be.nd (qi_range1 T.n_range (sa_cons (se_var (i := 6)) (sa_nil))) (blkOk_by (N := N_could_be) (sc := defScope s_could_be) (by decide +kernel)) (fun _ _ _ _ _ => qg_name sc_could_be.nd) (by decide) (fun _ _ _ _ _ => scs_one (st_dnin hu (se_var (i := 14)) (se_var (i := 11)))) (fun _ _ _ _ _ => se_var (i := 14)))) (sa_cons (se_var (i := 5)) (sa_nil))))) (qb_one (qs_ret (se_tup (sa_cons (se_var (i := 7)) (sa_cons (se_var (i := 10)) (sa_cons (se_var (i := 8)) (sa_cons (se_ix (se_ix (se_var (i := 12)) (se_ix (se_var (i := 4)) (se_int))) (se_ix (se_var (i := 4)) (se_int))) (sa_cons (se_var (i := 12)) (sa_cons (se_var (i := 9)) (sa_nil))))))))))))))))))))
theorem ok__law_draw (T : Tx K mg) : OkF P w K mg base 1 "_law_draw" ["_law_script", "_law_k", "_law_many"] m__law_draw := by
  obtain ⟨fd, F⟩ := T.d__law_draw
  refine okF_mk F sc__law_draw rfl rfl T.g__law_draw (F.binds (ps := ["_law_script", "_law_k", "_law_many"]) fun _ _ _ _ _ _ us hl => match us, hl with | [_, _, _], _ => rfl) fun cdv A outer s H E hr => ?_
  have hu := Nat.lt_of_le_of_lt (Nat.add_le_add_left (show 1 ≤ 64 by decide) _) hr.units
  have tk := takes_fn (P := P) (w := w) (K := K) (mg := mg) (base := base) (N := N__law_draw) (qual := "_law_draw") (scope := defScope s__law_draw) (f := (He.ga K "_law_draw")) (cd := cdv) (A := A) (outer := outer) (s := s) (H := H) (E := E)
  have hp := passes_fn (P := P) (w := w) (K := K) (mg := mg) (base := base) (N := N__law_draw) (qual := "_law_draw") (scope := defScope s__law_draw) (f := (He.ga K "_law_draw")) (cd := cdv) (A := A) (outer := outer) (s := s) (H := H) (E := E)
  exact qb_cons (qs_if (st_cmp (op_ltA) os_lt (se_var (i := 1)) (se_callB call_len cs_len (T.n_len) (by decide +kernel) (sa_cons (se_var (i := 0)) (sa_nil))) (nomark _)) (qb_one (qs_ret (se_op op_mod os_mod (se_ix (se_var (i := 0)) (se_var (i := 1))) (se_var (i := 2))))) (qb_nil)) (qb_cons (qs_set (i := 3) sc__law_draw.nd (se_op op_addA os_add (se_op op_mulW os_mul (se_var (i := 1)) (se_var (i := 1))) (se_int))) (qb_cons (qs_if (st_cmp (op_gtA) os_gt (se_callB call_len cs_len (T.n_len) (by decide +kernel) (sa_cons (se_var (i := 0)) (sa_nil))) (se_int) (nomark _)) (qb_one (qs_set (i := 3) sc__law_draw.nd (se_op op_addA os_add (se_var (i := 3)) (se_op op_mod os_mod (se_ix (se_var (i := 0)) (se_op op_mod os_mod (se_var (i := 1)) (se_callB call_len cs_len (T.n_len) (by decide +kernel) (sa_cons (se_var (i := 0)) (sa_nil))))) (se_int))))) (qb_nil)) (qb_one (qs_ret (se_op op_mod os_mod (se_op op_mod os_mod (se_op op_mulW os_mul (se_op op_addA os_add (se_op op_mod os_mod (se_op op_mulW os_mul (se_var (i := 3)) (se_int)) (se_int)) (se_int)) (se_int)) (se_int)) (se_var (i := 2)))))))
theorem ok__law_grid (T : Tx K mg) : OkF P w K mg base 2 "_law_grid" ["_law_script", "_law_rows", "_law_columns"] m__law_grid := by
  obtain ⟨fd, F⟩ := T.d__law_grid
  refine okF_mk F sc__law_grid rfl rfl T.g__law_grid (F.binds (ps := ["_law_script", "_law_rows", "_law_columns"]) fun _ _ _ _ _ _ us hl => match us, hl with | [_, _, _], _ => rfl) fun cdv A outer s H E hr => ?_
  have hu := Nat.lt_of_le_of_lt (Nat.add_le_add_left (show 1 ≤ 64 by decide) _) hr.units
  have tk := takes_fn (P := P) (w := w) (K := K) (mg := mg) (base := base) (N := N__law_grid) (qual := "_law_grid") (scope := defScope s__law_grid) (f := (He.ga K "_law_grid")) (cd := cdv) (A := A) (outer := outer) (s := s) (H := H) (E := E)
  have hp := passes_fn (P := P) (w := w) (K := K) (mg := mg) (base := base) (N := N__law_grid) (qual := "_law_grid") (scope := defScope s__law_grid) (f := (He.ga K "_law_grid")) (cd := cdv) (A := A) (outer := outer) (s := s) (H := H) (E := E)
  exact qb_cons (qs_set (i := 3) sc__law_grid.nd (se_ix (se_V (sl_lst (sa_cons (se_int) (sa_cons (se_int) (sa_cons (se_op op_pow os_pow (se_int) (se_int)) (sa_nil)))))) (se_fn .P (ok__law_draw T) hr tk (sa_cons (se_var (i := 0)) (sa_cons (se_int) (sa_cons (se_int) (sa_nil))))))) (qb_cons (qs_set (i := 4) sc__law_grid.nd (se_C (sl_lst (sa_nil)))) (qb_cons (qs_for hp (qi_range1 T.n_range (sa_cons (se_var (i := 1)) (sa_nil))) (qg_name sc__law_grid.nd) (qb_cons (qs_expr (se_bm PySem.F.slot_list_append PySem.F.type_list_append mt_append ms_append (se_var (i := 4)) (sa_cons (se_C (sl_lst (sa_nil))) (sa_nil)))) (qb_one (qs_for hp (qi_range1 T.n_range (sa_cons (se_var (i := 2)) (sa_nil))) (qg_name sc__law_grid.nd) (qb_cons (qs_set (i := 7) sc__law_grid.nd (se_op op_addA os_add (se_int) (se_op op_mulW os_mul (se_int) (se_op op_addA os_add (se_op op_mulW os_mul (se_var (i := 5)) (se_var (i := 2))) (se_var (i := 6)))))) (qb_cons (qs_set (i := 8) sc__law_grid.nd (se_op op_mulW os_mul (se_op op_fdivW os_fdiv (se_fn .P (ok__law_draw T) hr tk (sa_cons (se_var (i := 0)) (sa_cons (se_var (i := 7)) (sa_cons (se_int) (sa_nil))))) (se_int)) (se_var (i := 3)))) (qb_cons (qs_if (st_cmp (op_eqP hr.units) os_eq (se_fn .P (ok__law_draw T) hr tk (sa_cons (se_var (i := 0)) (sa_cons (se_var (i := 7)) (sa_cons (se_int) (sa_nil))))) (se_int) (nomark _)) (qb_one (qs_set (i := 8) sc__law_grid.nd (se_int))) (qb_nil)) (qb_cons (qs_if (st_w (sw_and (st_cmp (op_eqP hr.units) os_eq (se_fn .P (ok__law_draw T) hr tk (sa_cons (se_var (i := 0)) (sa_cons (se_var (i := 7)) (sa_cons (se_int) (sa_nil))))) (se_int) (nomark _)) (sw_and1 (st_cmp (op_ltA) os_lt (se_var (i := 7)) (se_callB call_len cs_len (T.n_len) (by decide +kernel) (sa_cons (se_var (i := 0)) (sa_nil))) (nomark _))))) (qb_one (qs_set (i := 8) sc__law_grid.nd (se_op op_mod os_mod (se_ix (se_var (i := 0)) (se_var (i := 7))) (se_op op_pow os_pow (se_int) (se_int))))) (qb_nil)) (qb_one (qs_expr (se_bm PySem.F.slot_list_append PySem.F.type_list_append mt_append ms_append (se_ix (se_var (i := 4)) (se_var (i := 5))) (sa_cons (se_var (i := 8)) (sa_nil))))))))))))) (qb_one (qs_ret (se_var (i := 4))))))
theorem ok__law_hidden (T : Tx K mg) : OkF P w K mg base 2 "_law_hidden" ["_law_script", "_law_rows", "_law_columns"] m__law_hidden := by
  obtain ⟨fd, F⟩ := T.d__law_hidden
  refine okF_mk F sc__law_hidden rfl rfl T.g__law_hidden (F.binds (ps := ["_law_script", "_law_rows", "_law_columns"]) fun _ _ _ _ _ _ us hl => match us, hl with | [_, _, _], _ => rfl) fun cdv A outer s H E hr => ?_
  have hu := Nat.lt_of_le_of_lt (Nat.add_le_add_left (show 1 ≤ 64 by decide) _) hr.units
  have tk := takes_fn (P := P) (w := w) (K := K) (mg := mg) (base := base) (N := N__law_hidden) (qual := "_law_hidden") (scope := defScope s__law_hidden) (f := (He.ga K "_law_hidden")) (cd := cdv) (A := A) (outer := outer) (s := s) (H := H) (E := E)
  have hp := passes_fn (P := P) (w := w) (K := K) (mg := mg) (base := base) (N := N__law_hidden) (qual := "_law_hidden") (scope := defScope s__law_hidden) (f := (He.ga K "_law_hidden")) (cd := cdv) (A := A) (outer := outer) (s := s) (H := H) (E := E)
  exact qb_cons (qs_set (i := 3) sc__law_hidden.nd (se_C (sl_lst (sa_nil)))) (qb_cons (qs_for hp (qi_range1 T.n_range (sa_cons (se_var (i := 1)) (sa_nil))) (qg_name sc__law_hidden.nd) (qb_one (qs_for hp (qi_range1 T.n_range (sa_cons (se_var (i := 2)) (sa_nil))) (qg_name sc__law_hidden.nd) (qb_cons (qs_set (i := 6) sc__law_hidden.nd (se_op op_addA os_add (se_int) (se_op op_mulW os_mul (se_int) (se_op op_addA os_add (se_op op_mulW os_mul (se_var (i := 4)) (se_var (i := 2))) (se_var (i := 5)))))) (qb_one (qs_if (st_cmp (op_gtA) os_gt (se_fn .P (ok__law_draw T) hr tk (sa_cons (se_var (i := 0)) (sa_cons (se_var (i := 6)) (sa_cons (se_int) (sa_nil))))) (se_int) (nomark _)) (qb_one (qs_expr (se_bm PySem.F.slot_list_insert PySem.F.type_list_insert mt_insertR ms_insert (se_var (i := 3)) (sa_cons (se_op op_fdivW os_fdiv (se_fn .P (ok__law_draw T) hr tk (sa_cons (se_var (i := 0)) (sa_cons (se_var (i := 6)) (sa_cons (se_op op_addA os_add (se_int) (se_op op_mulW os_mul (se_int) (se_callB call_len cs_len (T.n_len) (by decide +kernel) (sa_cons (se_var (i := 3)) (sa_nil))))) (sa_nil))))) (se_int)) (sa_cons (se_tup (sa_cons (se_var (i := 4)) (sa_cons (se_var (i := 5)) (sa_nil)))) (sa_nil)))))) (qb_nil))))))) (qb_one (qs_ret (se_var (i := 3)))))
theorem ok__law_whole (T : Tx K mg) : OkF P w K mg base 1 "_law_whole" ["_law_found"] m__law_whole := by
  obtain ⟨fd, F⟩ := T.d__law_whole
  refine okF_mk F sc__law_whole rfl rfl T.g__law_whole (F.binds (ps := ["_law_found"]) fun _ _ _ _ _ _ us hl => match us, hl with | [_], _ => rfl) fun cdv A outer s H E hr => ?_
  have hu := Nat.lt_of_le_of_lt (Nat.add_le_add_left (show 1 ≤ 64 by decide) _) hr.units
  have tk := takes_fn (P := P) (w := w) (K := K) (mg := mg) (base := base) (N := N__law_whole) (qual := "_law_whole") (scope := defScope s__law_whole) (f := (He.ga K "_law_whole")) (cd := cdv) (A := A) (outer := outer) (s := s) (H := H) (E := E)
  have hp := passes_fn (P := P) (w := w) (K := K) (mg := mg) (base := base) (N := N__law_whole) (qual := "_law_whole") (scope := defScope s__law_whole) (f := (He.ga K "_law_whole")) (cd := cdv) (A := A) (outer := outer) (s := s) (H := H) (E := E)
  exact qb_one (qs_ret (se_and (se_isi (T := "int") T.n_isinstance T.n_int (by decide +kernel) (se_var (i := 0))) (se_one (se_not (se_isi (T := "bool") T.n_isinstance T.n_bool (by decide +kernel) (se_var (i := 0)))))))
theorem ok__law_is_table (T : Tx K mg) : OkF P w K mg base 2 "_law_is_table" ["_law_told", "_law_grid_here", "_law_hidden_here"] m__law_is_table := by
  obtain ⟨fd, F⟩ := T.d__law_is_table
  refine okF_mk F sc__law_is_table rfl rfl T.g__law_is_table (F.binds (ps := ["_law_told", "_law_grid_here", "_law_hidden_here"]) fun _ _ _ _ _ _ us hl => match us, hl with | [_, _, _], _ => rfl) fun cdv A outer s H E hr => ?_
  have hu := Nat.lt_of_le_of_lt (Nat.add_le_add_left (show 1 ≤ 64 by decide) _) hr.units
  have tk := takes_fn (P := P) (w := w) (K := K) (mg := mg) (base := base) (N := N__law_is_table) (qual := "_law_is_table") (scope := defScope s__law_is_table) (f := (He.ga K "_law_is_table")) (cd := cdv) (A := A) (outer := outer) (s := s) (H := H) (E := E)
  have hp := passes_fn (P := P) (w := w) (K := K) (mg := mg) (base := base) (N := N__law_is_table) (qual := "_law_is_table") (scope := defScope s__law_is_table) (f := (He.ga K "_law_is_table")) (cd := cdv) (A := A) (outer := outer) (s := s) (H := H) (E := E)
  exact qb_cons (qs_if (st_w (sw_or (st_not (st_val (se_isi (T := "list") T.n_isinstance T.n_list (by decide +kernel) (se_var (i := 0))))) (sw_or1 (st_cmp (op_neP hr.units) os_ne (se_callB call_len cs_len (T.n_len) (by decide +kernel) (sa_cons (se_var (i := 0)) (sa_nil))) (se_callB call_len cs_len (T.n_len) (by decide +kernel) (sa_cons (se_var (i := 1)) (sa_nil))) (nomark _))))) (qb_one (qs_ret (se_bl))) (qb_nil)) (qb_cons (qs_for hp (qi_range1 T.n_range (sa_cons (se_callB call_len cs_len (T.n_len) (by decide +kernel) (sa_cons (se_var (i := 1)) (sa_nil))) (sa_nil))) (qg_name sc__law_is_table.nd) (qb_cons (qs_if (st_w (sw_or (st_not (st_val (se_isi (T := "list") T.n_isinstance T.n_list (by decide +kernel) (se_ix (se_var (i := 0)) (se_var (i := 3)))))) (sw_or1 (st_cmp (op_neP hr.units) os_ne (se_callB call_len cs_len (T.n_len) (by decide +kernel) (sa_cons (se_ix (se_var (i := 0)) (se_var (i := 3))) (sa_nil))) (se_callB call_len cs_len (T.n_len) (by decide +kernel) (sa_cons (se_ix (se_var (i := 1)) (se_int)) (sa_nil))) (nomark _))))) (qb_one (qs_ret (se_bl))) (qb_nil)) (qb_one (qs_for hp (qi_range1 T.n_range (sa_cons (se_callB call_len cs_len (T.n_len) (by decide +kernel) (sa_cons (se_ix (se_var (i := 1)) (se_int)) (sa_nil))) (sa_nil))) (qg_name sc__law_is_table.nd) (qb_cons (qs_set (i := 5) sc__law_is_table.nd (se_ix (se_ix (se_var (i := 0)) (se_var (i := 3))) (se_var (i := 4)))) (qb_cons (qs_if (st_w (sw_or (st_not (st_val (se_fn .P (ok__law_whole T) hr tk (sa_cons (se_var (i := 5)) (sa_nil))))) (sw_or1 (st_cmp (op_ltA) os_lt (se_var (i := 5)) (se_int) (nomark _))))) (qb_one (qs_ret (se_bl))) (qb_nil)) (qb_one (qs_if (st_w (sw_and (st_cmp (op_notInP hr.units) os_notInP (se_tup (sa_cons (se_var (i := 3)) (sa_cons (se_var (i := 4)) (sa_nil)))) (se_var (i := 2)) (by rfl)) (sw_and1 (st_cmp (op_neP hr.units) os_ne (se_var (i := 5)) (se_ix (se_ix (se_var (i := 1)) (se_var (i := 3))) (se_var (i := 4))) (nomark _))))) (qb_one (qs_ret (se_bl))) (qb_nil))))))))) (qb_cons (qs_if (st_cmp (op_neP hr.units) os_ne (se_V (sl_lc (own := [("_law_row", 3)]) sc__law_is_table.nd (qi_list (se_var (i := 0))) (blkOk_by (N := N__law_is_table) (sc := defScope s__law_is_table) (by decide +kernel)) (fun _ _ _ _ _ => qg_name sc__law_is_table.nd) (by decide) (fun _ _ _ _ _ => scs_nil) (fun _ _ _ _ _ => se_callB (cr_sum rfl) cs_sum (T.n_sum) (by decide +kernel) (sa_cons (se_var (i := 3)) (sa_nil))))) (se_V (sl_lc (own := [("_law_row", 3)]) sc__law_is_table.nd (qi_list (se_var (i := 1))) (blkOk_by (N := N__law_is_table) (sc := defScope s__law_is_table) (by decide +kernel)) (fun _ _ _ _ _ => qg_name sc__law_is_table.nd) (by decide) (fun _ _ _ _ _ => scs_nil) (fun _ _ _ _ _ => se_callB (cr_sum rfl) cs_sum (T.n_sum) (by decide +kernel) (sa_cons (se_var (i := 3)) (sa_nil))))) (nomark _)) (qb_one (qs_ret (se_bl))) (qb_nil)) (qb_cons (qs_for hp (qi_range1 T.n_range (sa_cons (se_callB call_len cs_len (T.n_len) (by decide +kernel) (sa_cons (se_ix (se_var (i := 1)) (se_int)) (sa_nil))) (sa_nil))) (qg_name sc__law_is_table.nd) (qb_one (qs_if (st_cmp (op_neP hr.units) os_ne (se_callB (cr_sum rfl) cs_sum (T.n_sum) (by decide +kernel) (sa_cons (se_V (sl_lc (own := [("_law_row", 3)]) sc__law_is_table.nd (qi_list (se_var (i := 0))) (blkOk_by (N := N__law_is_table) (sc := defScope s__law_is_table) (by decide +kernel)) (fun _ _ _ _ _ => qg_name sc__law_is_table.nd) (by decide) (fun _ _ _ _ _ => scs_nil) (fun _ _ _ _ _ => se_ix (se_var (i := 3)) (se_var (i := 4))))) (sa_nil))) (se_callB (cr_sum rfl) cs_sum (T.n_sum) (by decide +kernel) (sa_cons (se_V (sl_lc (own := [("_law_row", 3)]) sc__law_is_table.nd (qi_list (se_var (i := 1))) (blkOk_by (N := N__law_is_table) (sc := defScope s__law_is_table) (by decide +kernel)) (fun _ _ _ _ _ => qg_name sc__law_is_table.nd) (by decide) (fun _ _ _ _ _ => scs_nil) (fun _ _ _ _ _ => se_ix (se_var (i := 3)) (se_var (i := 4))))) (sa_nil))) (nomark _)) (qb_one (qs_ret (se_bl))) (qb_nil)))) (qb_one (qs_ret (se_bl))))))
theorem ok__law_places (T : Tx K mg) : OkF P w K mg base 2 "_law_places" ["_law_some", "_law_size"] m__law_places := by
  obtain ⟨fd, F⟩ := T.d__law_places
  refine okF_mk F sc__law_places rfl rfl T.g__law_places (F.binds (ps := ["_law_some", "_law_size"]) fun _ _ _ _ _ _ us hl => match us, hl with | [_, _], _ => rfl) fun cdv A outer s H E hr => ?_
  have hu := Nat.lt_of_le_of_lt (Nat.add_le_add_left (show 1 ≤ 64 by decide) _) hr.units
  have tk := takes_fn (P := P) (w := w) (K := K) (mg := mg) (base := base) (N := N__law_places) (qual := "_law_places") (scope := defScope s__law_places) (f := (He.ga K "_law_places")) (cd := cdv) (A := A) (outer := outer) (s := s) (H := H) (E := E)
  have hp := passes_fn (P := P) (w := w) (K := K) (mg := mg) (base := base) (N := N__law_places) (qual := "_law_places") (scope := defScope s__law_places) (f := (He.ga K "_law_places")) (cd := cdv) (A := A) (outer := outer) (s := s) (H := H) (E := E)
  exact qb_cons (qs_if (st_w (sw_or (st_not (st_val (se_isi (T := "list") T.n_isinstance T.n_list (by decide +kernel) (se_var (i := 0))))) (sw_or1 (st_not (st_val (se_callB (cr_all rfl) cs_all (T.n_all) (by decide +kernel) (sa_cons (se_V (sl_lc (own := [("_law_place", 2)]) sc__law_places.nd (qi_list (se_var (i := 0))) (blkOk_by (N := N__law_places) (sc := defScope s__law_places) (by decide +kernel)) (fun _ _ _ _ _ => qg_name sc__law_places.nd) (by decide) (fun _ _ _ _ _ => scs_nil) (fun _ _ _ _ _ => se_fn .P (ok__law_whole T) hr takes0 (sa_cons (se_var (i := 2)) (sa_nil))))) (sa_nil)))))))) (qb_one (qs_ret (se_bl))) (qb_nil)) (qb_one (qs_ret (se_and (se_cmp (op_eqP hr.units) os_eq (se_var (i := 0)) (se_V (sl_sortset rfl T.n_sorted T.n_set (sa_cons (se_var (i := 0)) (sa_nil)))) (nomark _)) (se_one (se_or (se_cmp (op_eqP hr.units) os_eq (se_var (i := 0)) (se_V (sl_lst (sa_nil))) (nomark _)) (se_one (se_and (se_cmp (op_ge) os_ge (se_ix (se_var (i := 0)) (se_int)) (se_int) (nomark _)) (se_one (se_cmp (op_ltA) os_lt (se_ix (se_var (i := 0)) (se_un un_neg us_neg (se_int))) (se_var (i := 1)) (nomark _))))))))))
theorem ok__law_is_ground (T : Tx K mg) : OkF P w K mg base 3 "_law_is_ground" ["_law_told", "_law_grid_here", "_law_hidden_here", "_law_cell", "_law_number", "_law_below"] m__law_is_ground := by
  obtain ⟨fd, F⟩ := T.d__law_is_ground
  refine okF_mk F sc__law_is_ground rfl rfl T.g__law_is_ground (F.binds (ps := ["_law_told", "_law_grid_here", "_law_hidden_here", "_law_cell", "_law_number", "_law_below"]) fun _ _ _ _ _ _ us hl => match us, hl with | [_, _, _, _, _, _], _ => rfl) fun cdv A outer s H E hr => ?_
  have hu := Nat.lt_of_le_of_lt (Nat.add_le_add_left (show 1 ≤ 64 by decide) _) hr.units
  have tk := takes_fn (P := P) (w := w) (K := K) (mg := mg) (base := base) (N := N__law_is_ground) (qual := "_law_is_ground") (scope := defScope s__law_is_ground) (f := (He.ga K "_law_is_ground")) (cd := cdv) (A := A) (outer := outer) (s := s) (H := H) (E := E)
  have hp := passes_fn (P := P) (w := w) (K := K) (mg := mg) (base := base) (N := N__law_is_ground) (qual := "_law_is_ground") (scope := defScope s__law_is_ground) (f := (He.ga K "_law_is_ground")) (cd := cdv) (A := A) (outer := outer) (s := s) (H := H) (E := E)
  exact qb_cons (qs_if (st_w (sw_or (st_not (st_val (se_isi (T := "tuple") T.n_isinstance T.n_tuple (by decide +kernel) (se_var (i := 0))))) (sw_or1 (st_cmp (op_neP hr.units) os_ne (se_callB call_len cs_len (T.n_len) (by decide +kernel) (sa_cons (se_var (i := 0)) (sa_nil))) (se_int) (nomark _))))) (qb_one (qs_ret (se_bl))) (qb_nil)) (qb_cons (qs_asg (se_var (i := 0)) (qg_tup (qgs_cons (qg_name sc__law_is_ground.nd) (qgs_cons (qg_name sc__law_is_ground.nd) (qgs_nil))))) (qb_cons (qs_if (st_w (sw_or (st_not (st_val (se_fn .P (ok__law_places T) hr tk (sa_cons (se_var (i := 8)) (sa_cons (se_callB call_len cs_len (T.n_len) (by decide +kernel) (sa_cons (se_var (i := 1)) (sa_nil))) (sa_nil)))))) (sw_or1 (st_not (st_val (se_fn .P (ok__law_places T) hr tk (sa_cons (se_var (i := 9)) (sa_cons (se_callB call_len cs_len (T.n_len) (by decide +kernel) (sa_cons (se_ix (se_var (i := 1)) (se_int)) (sa_nil))) (sa_nil))))))))) (qb_one (qs_ret (se_bl))) (qb_nil)) (qb_cons (qs_if (st_w (sw_or (st_cmp (op_notInA) os_notIn (se_ix (se_var (i := 3)) (se_int)) (se_var (i := 8)) (by rfl)) (sw_or1 (st_cmp (op_inA) os_in (se_ix (se_var (i := 3)) (se_int)) (se_var (i := 9)) (by rfl))))) (qb_one (qs_ret (se_bl))) (qb_nil)) (qb_cons (qs_for hp (qi_list (se_var (i := 2))) (qg_name sc__law_is_ground.nd) (qb_cons (qs_if (st_w (sw_and (st_not (st_val (se_var (i := 5)))) (sw_and (st_cmp (op_inA) os_in (se_ix (se_var (i := 6)) (se_int)) (se_var (i := 9)) (by rfl)) (sw_and1 (st_cmp (op_notInA) os_notIn (se_ix (se_var (i := 6)) (se_int)) (se_var (i := 8)) (by rfl)))))) (qb_one (qs_ret (se_bl))) (qb_nil)) (qb_one (qs_if (st_w (sw_and (st_val (se_var (i := 5))) (sw_and (st_cmp (op_neP hr.units) os_ne (se_var (i := 6)) (se_var (i := 3)) (nomark _)) (sw_and (st_cmp (op_inA) os_in (se_ix (se_var (i := 6)) (se_int)) (se_var (i := 8)) (by rfl)) (sw_and1 (st_cmp (op_notInA) os_notIn (se_ix (se_var (i := 6)) (se_int)) (se_var (i := 9)) (by rfl))))))) (qb_one (qs_ret (se_bl))) (qb_nil))))) (qb_cons (qs_set (i := 7) sc__law_is_ground.nd (se_callB (cr_sum rfl) cs_sum (T.n_sum) (by decide +kernel) (sa_cons (se_V (sl_lc (own := [("_law_box", 6)]) sc__law_is_ground.nd (qi_list (se_var (i := 2))) (blkOk_by (N := N__law_is_ground) (sc := defScope s__law_is_ground) (by decide +kernel)) (fun _ _ _ _ _ => qg_name sc__law_is_ground.nd) (by decide) (fun _ _ _ _ _ => scs_one (st_cmp (op_inA) os_in (se_ix (se_var (i := 6)) (se_int)) (se_var (i := 8)) (by rfl))) (fun _ _ _ _ _ => se_ix (se_ix (se_var (i := 1)) (se_ix (se_var (i := 6)) (se_int))) (se_ix (se_var (i := 6)) (se_int))))) (sa_nil)))) (qb_one (qs_ret (se_cmp (op_eqP hr.units) os_eq (se_op op_sub os_sub (se_var (i := 7)) (se_callB (cr_sum rfl) cs_sum (T.n_sum) (by decide +kernel) (sa_cons (se_V (sl_lc (own := [("_law_box", 6)]) sc__law_is_ground.nd (qi_list (se_var (i := 2))) (blkOk_by (N := N__law_is_ground) (sc := defScope s__law_is_ground) (by decide +kernel)) (fun _ _ _ _ _ => qg_name sc__law_is_ground.nd) (by decide) (fun _ _ _ _ _ => scs_one (st_cmp (op_inA) os_in (se_ix (se_var (i := 6)) (se_int)) (se_var (i := 9)) (by rfl))) (fun _ _ _ _ _ => se_ix (se_ix (se_var (i := 1)) (se_ix (se_var (i := 6)) (se_int))) (se_ix (se_var (i := 6)) (se_int))))) (sa_nil)))) (se_var (i := 4)) (nomark _)))))))))
theorem ok__law_right (T : Tx K mg) : OkF P w K mg base 4 "_law_right" ["_law_grid_here", "_law_hidden_here", "_law_cell", "_law_told"] m__law_right := by
  obtain ⟨fd, F⟩ := T.d__law_right
  refine okF_mk F sc__law_right rfl rfl T.g__law_right (F.binds (ps := ["_law_grid_here", "_law_hidden_here", "_law_cell", "_law_told"]) fun _ _ _ _ _ _ us hl => match us, hl with | [_, _, _, _], _ => rfl) fun cdv A outer s H E hr => ?_
  have hu := Nat.lt_of_le_of_lt (Nat.add_le_add_left (show 1 ≤ 64 by decide) _) hr.units
  have tk := takes_fn (P := P) (w := w) (K := K) (mg := mg) (base := base) (N := N__law_right) (qual := "_law_right") (scope := defScope s__law_right) (f := (He.ga K "_law_right")) (cd := cdv) (A := A) (outer := outer) (s := s) (H := H) (E := E)
  have hp := passes_fn (P := P) (w := w) (K := K) (mg := mg) (base := base) (N := N__law_right) (qual := "_law_right") (scope := defScope s__law_right) (f := (He.ga K "_law_right")) (cd := cdv) (A := A) (outer := outer) (s := s) (H := H) (E := E)
  exact qb_cons (qs_if (st_w (sw_or (st_not (st_val (se_isi (T := "tuple") T.n_isinstance T.n_tuple (by decide +kernel) (se_var (i := 3))))) (sw_or (st_cmp (op_neP hr.units) os_ne (se_callB call_len cs_len (T.n_len) (by decide +kernel) (sa_cons (se_var (i := 3)) (sa_nil))) (se_int) (nomark _)) (sw_or (st_not (st_val (se_fn .P (ok__law_whole T) (hr.mono (by decide)) tk (sa_cons (se_ix (se_var (i := 3)) (se_int)) (sa_nil))))) (sw_or1 (st_not (st_val (se_fn .P (ok__law_whole T) (hr.mono (by decide)) tk (sa_cons (se_ix (se_var (i := 3)) (se_int)) (sa_nil)))))))))) (qb_one (qs_ret (se_bl))) (qb_nil)) (qb_cons (qs_if (st_w (sw_or (st_not (st_val (se_fn .P (ok__law_is_table T) (hr.mono (by decide)) tk (sa_cons (se_ix (se_var (i := 3)) (se_int)) (sa_cons (se_var (i := 0)) (sa_cons (se_var (i := 1)) (sa_nil))))))) (sw_or1 (st_not (st_val (se_fn .P (ok__law_is_table T) (hr.mono (by decide)) tk (sa_cons (se_ix (se_var (i := 3)) (se_int)) (sa_cons (se_var (i := 0)) (sa_cons (se_var (i := 1)) (sa_nil)))))))))) (qb_one (qs_ret (se_bl))) (qb_nil)) (qb_cons (qs_if (st_w (sw_or (st_cmp (op_neP hr.units) os_ne (se_ix (se_ix (se_ix (se_var (i := 3)) (se_int)) (se_ix (se_var (i := 2)) (se_int))) (se_ix (se_var (i := 2)) (se_int))) (se_ix (se_var (i := 3)) (se_int)) (nomark _)) (sw_or1 (st_cmp (op_neP hr.units) os_ne (se_ix (se_ix (se_ix (se_var (i := 3)) (se_int)) (se_ix (se_var (i := 2)) (se_int))) (se_ix (se_var (i := 2)) (se_int))) (se_ix (se_var (i := 3)) (se_int)) (nomark _))))) (qb_one (qs_ret (se_bl))) (qb_nil)) (qb_cons (qs_if (st_not (st_val (se_fn .P (ok__law_is_ground T) hr tk (sa_cons (se_ix (se_var (i := 3)) (se_int)) (sa_cons (se_var (i := 0)) (sa_cons (se_var (i := 1)) (sa_cons (se_var (i := 2)) (sa_cons (se_ix (se_var (i := 3)) (se_int)) (sa_cons (se_bl) (sa_nil)))))))))) (qb_one (qs_ret (se_bl))) (qb_nil)) (qb_cons (qs_if (st_w (sw_or (st_cmp (op_eqP hr.units) os_eq (se_ix (se_var (i := 3)) (se_int)) (se_int) (nomark _)) (sw_or1 (st_cmp (op_isA) os_is (se_ix (se_var (i := 3)) (se_int)) (se_non) (nomark _))))) (qb_one (qs_ret (se_and (se_cmp (op_eqP hr.units) os_eq (se_ix (se_var (i := 3)) (se_int)) (se_int) (nomark _)) (se_one (se_cmp (op_isA) os_is (se_ix (se_var (i := 3)) (se_int)) (se_non) (nomark _)))))) (qb_nil)) (qb_one (qs_ret (se_fn .P (ok__law_is_ground T) hr tk (sa_cons (se_ix (se_var (i := 3)) (se_int)) (sa_cons (se_var (i := 0)) (sa_cons (se_var (i := 1)) (sa_cons (se_var (i := 2)) (sa_cons (se_ix (se_var (i := 3)) (se_int)) (sa_cons (se_bl) (sa_nil))))))))))))))
theorem ok_law (T : Tx K mg) : OkF P w K mg base 5 "law" ["_law_script"] m_law := by
  obtain ⟨fd, F⟩ := T.d_law
  refine okF_mk F sc_law rfl rfl T.g_law (F.binds (ps := ["_law_script"]) fun _ _ _ _ _ _ us hl => match us, hl with | [_], _ => rfl) fun cdv A outer s H E hr => ?_
  have hu := Nat.lt_of_le_of_lt (Nat.add_le_add_left (show 1 ≤ 64 by decide) _) hr.units
  have tk := takes_fn (P := P) (w := w) (K := K) (mg := mg) (base := base) (N := N_law) (qual := "law") (scope := defScope s_law) (f := (He.ga K "law")) (cd := cdv) (A := A) (outer := outer) (s := s) (H := H) (E := E)
  have hp := passes_fn (P := P) (w := w) (K := K) (mg := mg) (base := base) (N := N_law) (qual := "law") (scope := defScope s_law) (f := (He.ga K "law")) (cd := cdv) (A := A) (outer := outer) (s := s) (H := H) (E := E)
  exact qb_cons (qs_set (i := 1) sc_law.nd (se_op op_addA os_add (se_int) (se_fn .P (ok__law_draw T) (hr.mono (by decide)) tk (sa_cons (se_var (i := 0)) (sa_cons (se_int) (sa_cons (se_int) (sa_nil))))))) (qb_cons (qs_set (i := 2) sc_law.nd (se_op op_addA os_add (se_int) (se_fn .P (ok__law_draw T) (hr.mono (by decide)) tk (sa_cons (se_var (i := 0)) (sa_cons (se_int) (sa_cons (se_int) (sa_nil))))))) (qb_cons (qs_if (st_cmp (op_eqP hr.units) os_eq (se_op op_fdivW os_fdiv (se_fn .P (ok__law_draw T) (hr.mono (by decide)) tk (sa_cons (se_var (i := 0)) (sa_cons (se_int) (sa_cons (se_int) (sa_nil))))) (se_int)) (se_int) (nomark _)) (qb_cons (qs_set (i := 1) sc_law.nd (se_int)) (qb_one (qs_set (i := 2) sc_law.nd (se_int)))) (qb_nil)) (qb_cons (qs_set (i := 3) sc_law.nd (se_fn .P (ok__law_grid T) (hr.mono (by decide)) tk (sa_cons (se_var (i := 0)) (sa_cons (se_var (i := 1)) (sa_cons (se_var (i := 2)) (sa_nil)))))) (qb_cons (qs_set (i := 4) sc_law.nd (se_fn .P (ok__law_hidden T) (hr.mono (by decide)) tk (sa_cons (se_var (i := 0)) (sa_cons (se_var (i := 1)) (sa_cons (se_var (i := 2)) (sa_nil)))))) (qb_cons (qs_if (st_cmp (op_eqP hr.units) os_eq (se_callB call_len cs_len (T.n_len) (by decide +kernel) (sa_cons (se_var (i := 4)) (sa_nil))) (se_int) (nomark _)) (qb_one (qs_set (i := 4) sc_law.nd (se_V (sl_lst (sa_cons (se_tup (sa_cons (se_fn .P (ok__law_draw T) (hr.mono (by decide)) tk (sa_cons (se_var (i := 0)) (sa_cons (se_int) (sa_cons (se_var (i := 1)) (sa_nil))))) (sa_cons (se_fn .P (ok__law_draw T) (hr.mono (by decide)) tk (sa_cons (se_var (i := 0)) (sa_cons (se_int) (sa_cons (se_var (i := 2)) (sa_nil))))) (sa_nil)))) (sa_nil)))))) (qb_nil)) (qb_cons (qs_set (i := 5) sc_law.nd (se_ix (se_var (i := 4)) (se_fn .P (ok__law_draw T) (hr.mono (by decide)) tk (sa_cons (se_var (i := 0)) (sa_cons (se_int) (sa_cons (se_callB call_len cs_len (T.n_len) (by decide +kernel) (sa_cons (se_var (i := 4)) (sa_nil))) (sa_nil))))))) (qb_cons (qs_set (i := 6) sc_law.nd (se_tup (sa_cons (se_V (sl_lc (own := [("_law_row", 8)]) sc_law.nd (qi_list (se_var (i := 3))) (blkOk_by (N := N_law) (sc := defScope s_law) (by decide +kernel)) (fun _ _ _ _ _ => qg_name sc_law.nd) (by decide) (fun _ _ _ _ _ => scs_nil) (fun _ _ _ _ _ => se_V (sl_callT call_list_of cl_list (T.n_list) (by decide +kernel) (sa_cons (se_var (i := 8)) (sa_nil)))))) (sa_cons (se_V (sl_callT call_list_of cl_list (T.n_list) (by decide +kernel) (sa_cons (se_var (i := 4)) (sa_nil)))) (sa_nil))))) (qb_blk (qp_cons (qs_set (i := 7) sc_law.nd (se_fnT (ok_could_be T) (hr.mono (by decide)) tk (sa_cons (se_var (i := 3)) (sa_cons (se_var (i := 4)) (sa_cons (se_var (i := 5)) (sa_nil)))))) (qp_cons (qs_if (st_w (sw_or (st_cmp (op_neP hr.units) os_ne (se_tup (sa_cons (se_var (i := 3)) (sa_cons (se_var (i := 4)) (sa_nil)))) (se_var (i := 6)) (nomark _)) (sw_or1 (st_not (st_val (se_fn .B (ok__law_right T) hr tk (sa_cons (se_var (i := 3)) (sa_cons (se_var (i := 4)) (sa_cons (se_var (i := 5)) (sa_cons (se_var (i := 7)) (sa_nil))))))))))) (qb_one (qs_ret (se_bl))) (qb_nil)) (qp_cons (qs_if (st_w (sw_or (st_cmp (op_gtA) os_gt (se_ix (se_var (i := 7)) (se_int)) (se_ix (se_ix (se_var (i := 3)) (se_ix (se_var (i := 5)) (se_int))) (se_ix (se_var (i := 5)) (se_int))) (nomark _)) (sw_or1 (st_cmp (op_ltA) os_lt (se_ix (se_var (i := 7)) (se_int)) (se_ix (se_ix (se_var (i := 3)) (se_ix (se_var (i := 5)) (se_int))) (se_ix (se_var (i := 5)) (se_int))) (nomark _))))) (qb_one (qs_ret (se_bl))) (qb_nil)) (qp_cons (qs_for hp (qi_cell (se_ix (se_var (i := 7)) (se_int))) (qg_name sc_law.nd) (qb_one (qs_expr (se_bm PySem.F.slot_list_append PySem.F.type_list_append mt_append ms_append (se_var (i := 8)) (sa_cons (se_int) (sa_nil)))))) (qp_cons (qs_if (st_not (st_val (se_fn .B (ok__law_is_table T) (hr.mono (by decide)) tk (sa_cons (se_ix (se_var (i := 7)) (se_int)) (sa_cons (se_var (i := 3)) (sa_cons (se_var (i := 4)) (sa_nil))))))) (qb_one (qs_ret (se_bl))) (qb_nil)) (qp_cons (qs_for hp (qi_cell (se_ix (se_var (i := 7)) (se_int))) (qg_name sc_law.nd) (qb_one (qs_expr (se_bm PySem.F.slot_list_append PySem.F.type_list_append mt_append ms_append (se_var (i := 8)) (sa_cons (se_int) (sa_nil)))))) (qp_cons (qs_expr (se_bm0 PySem.F.slot_list_clear PySem.F.type_list_clear mt_clear ms_clear (se_ix (se_var (i := 7)) (se_int)))) (qp_cons (qs_expr (se_bm PySem.F.slot_list_append PySem.F.type_list_append mt_append ms_append (se_ix (se_ix (se_var (i := 7)) (se_int)) (se_int)) (sa_cons (se_int) (sa_nil)))) (qp_seal (qb_blk (qp_cons (qs_set (i := 9) sc_law.nd (se_fnT (ok_could_be T) (hr.mono (by decide)) tk (sa_cons (se_var (i := 3)) (sa_cons (se_var (i := 4)) (sa_cons (se_var (i := 5)) (sa_nil)))))) (qp_seal (qb_one (qs_ret (se_and (se_cmp (op_eqP hr.units) os_eq (se_tup (sa_cons (se_var (i := 3)) (sa_cons (se_var (i := 4)) (sa_nil)))) (se_var (i := 6)) (nomark _)) (se_and (se_fn .P (ok__law_right T) hr tk (sa_cons (se_var (i := 3)) (sa_cons (se_var (i := 4)) (sa_cons (se_var (i := 5)) (sa_cons (se_var (i := 9)) (sa_nil)))))) (se_one (se_cmp (op_eqP hr.units) os_eq (se_sl3 (se_var (i := 9))) (se_sl3 (se_var (i := 7))) (nomark _)))))))))))))))))))))))))))
end
def dfs : List He.DefD := [⟨("reached_sides", none), "reached_sides", "reached_sides", defArgs s_reached_sides, defBody s_reached_sides, defScope s_reached_sides, [], []⟩, ⟨("boxes_between", none), "boxes_between", "boxes_between", defArgs s_boxes_between, defBody s_boxes_between, defScope s_boxes_between, [], []⟩, ⟨("shift_boxes", none), "shift_boxes", "shift_boxes", defArgs s_shift_boxes, defBody s_shift_boxes, defScope s_shift_boxes, [], []⟩, ⟨("raised", none), "raised", "raised", defArgs s_raised, defBody s_raised, defScope s_raised, [], []⟩, ⟨("lowered", none), "lowered", "lowered", defArgs s_lowered, defBody s_lowered, defScope s_lowered, [], []⟩, ⟨("sides_of", none), "sides_of", "sides_of", defArgs s_sides_of, defBody s_sides_of, defScope s_sides_of, [], []⟩, ⟨("could_be", none), "could_be", "could_be", defArgs s_could_be, defBody s_could_be, defScope s_could_be, [], []⟩, ⟨("_law_draw", none), "_law_draw", "_law_draw", defArgs s__law_draw, defBody s__law_draw, defScope s__law_draw, [], []⟩, ⟨("_law_grid", none), "_law_grid", "_law_grid", defArgs s__law_grid, defBody s__law_grid, defScope s__law_grid, [], []⟩, ⟨("_law_hidden", none), "_law_hidden", "_law_hidden", defArgs s__law_hidden, defBody s__law_hidden, defScope s__law_hidden, [], []⟩, ⟨("_law_whole", none), "_law_whole", "_law_whole", defArgs s__law_whole, defBody s__law_whole, defScope s__law_whole, [], []⟩, ⟨("_law_is_table", none), "_law_is_table", "_law_is_table", defArgs s__law_is_table, defBody s__law_is_table, defScope s__law_is_table, [], []⟩, ⟨("_law_places", none), "_law_places", "_law_places", defArgs s__law_places, defBody s__law_places, defScope s__law_places, [], []⟩, ⟨("_law_is_ground", none), "_law_is_ground", "_law_is_ground", defArgs s__law_is_ground, defBody s__law_is_ground, defScope s__law_is_ground, [], []⟩, ⟨("_law_right", none), "_law_right", "_law_right", defArgs s__law_right, defBody s__law_right, defScope s__law_right, [], []⟩, ⟨("law", none), "law", "law", defArgs s_law, defBody s_law, defScope s_law, [], []⟩, ⟨("NoVeil", some "__init__"), "__init__", "NoVeil.__init__", defArgs i_NoVeil, defBody i_NoVeil, defScope i_NoVeil, [], []⟩]
def fas : List He.Fa := [.glo "reached_sides", .glo "boxes_between", .glo "shift_boxes", .glo "raised", .glo "lowered", .glo "sides_of", .glo "could_be", .glo "_law_draw", .glo "_law_grid", .glo "_law_hidden", .glo "_law_whole", .glo "_law_is_table", .glo "_law_places", .glo "_law_is_ground", .glo "_law_right", .glo "law", .free "len", .free "list", .free "min", .free "sorted", .free "range", .free "isinstance", .free "int", .free "bool", .free "sum", .free "all", .free "set", .free "tuple", .glo "NoVeil", .glo "CrossError", .meth "NoVeil" "__init__"]
theorem tx_of {K : PySem.W.Frag} {h : Heap} {mg : Str → Option Value} (X : K.In h) (G : h.Ns mainGlobals mg) (c : He.SaysD fas dfs K) (ce : (efs.all fun f => f.ok K) = true) : Tx K mg where
  d_reached_sides := let ⟨fd, F⟩ := c.def_ 0 rfl; ⟨fd, He5.fun_of F⟩
  g_reached_sides := He.glo_ok X G (c.fact 0 rfl)
  d_boxes_between := let ⟨fd, F⟩ := c.def_ 1 rfl; ⟨fd, He5.fun_of F⟩
  g_boxes_between := He.glo_ok X G (c.fact 1 rfl)
  d_shift_boxes := let ⟨fd, F⟩ := c.def_ 2 rfl; ⟨fd, He5.fun_of F⟩
  g_shift_boxes := He.glo_ok X G (c.fact 2 rfl)
  d_raised := let ⟨fd, F⟩ := c.def_ 3 rfl; ⟨fd, He5.fun_of F⟩
  g_raised := He.glo_ok X G (c.fact 3 rfl)
  d_lowered := let ⟨fd, F⟩ := c.def_ 4 rfl; ⟨fd, He5.fun_of F⟩
  g_lowered := He.glo_ok X G (c.fact 4 rfl)
  d_sides_of := let ⟨fd, F⟩ := c.def_ 5 rfl; ⟨fd, He5.fun_of F⟩
  g_sides_of := He.glo_ok X G (c.fact 5 rfl)
  d_could_be := let ⟨fd, F⟩ := c.def_ 6 rfl; ⟨fd, He5.fun_of F⟩
  g_could_be := He.glo_ok X G (c.fact 6 rfl)
  d__law_draw := let ⟨fd, F⟩ := c.def_ 7 rfl; ⟨fd, He5.fun_of F⟩
  g__law_draw := He.glo_ok X G (c.fact 7 rfl)
  d__law_grid := let ⟨fd, F⟩ := c.def_ 8 rfl; ⟨fd, He5.fun_of F⟩
  g__law_grid := He.glo_ok X G (c.fact 8 rfl)
  d__law_hidden := let ⟨fd, F⟩ := c.def_ 9 rfl; ⟨fd, He5.fun_of F⟩
  g__law_hidden := He.glo_ok X G (c.fact 9 rfl)
  d__law_whole := let ⟨fd, F⟩ := c.def_ 10 rfl; ⟨fd, He5.fun_of F⟩
  g__law_whole := He.glo_ok X G (c.fact 10 rfl)
  d__law_is_table := let ⟨fd, F⟩ := c.def_ 11 rfl; ⟨fd, He5.fun_of F⟩
  g__law_is_table := He.glo_ok X G (c.fact 11 rfl)
  d__law_places := let ⟨fd, F⟩ := c.def_ 12 rfl; ⟨fd, He5.fun_of F⟩
  g__law_places := He.glo_ok X G (c.fact 12 rfl)
  d__law_is_ground := let ⟨fd, F⟩ := c.def_ 13 rfl; ⟨fd, He5.fun_of F⟩
  g__law_is_ground := He.glo_ok X G (c.fact 13 rfl)
  d__law_right := let ⟨fd, F⟩ := c.def_ 14 rfl; ⟨fd, He5.fun_of F⟩
  g__law_right := He.glo_ok X G (c.fact 14 rfl)
  d_law := let ⟨fd, F⟩ := c.def_ 15 rfl; ⟨fd, He5.fun_of F⟩
  g_law := He.glo_ok X G (c.fact 15 rfl)
  n_len := He.free_ok X G (c.fact 16 rfl)
  n_list := He.free_ok X G (c.fact 17 rfl)
  n_min := He.free_ok X G (c.fact 18 rfl)
  n_sorted := He.free_ok X G (c.fact 19 rfl)
  n_range := He.free_ok X G (c.fact 20 rfl)
  n_isinstance := He.free_ok X G (c.fact 21 rfl)
  n_int := He.free_ok X G (c.fact 22 rfl)
  n_bool := He.free_ok X G (c.fact 23 rfl)
  n_sum := He.free_ok X G (c.fact 24 rfl)
  n_all := He.free_ok X G (c.fact 25 rfl)
  n_set := He.free_ok X G (c.fact 26 rfl)
  n_tuple := He.free_ok X G (c.fact 27 rfl)
  k_NoVeil := He.glo_ok X G (c.fact 28 rfl)
  k_CrossError := He.glo_ok X G (c.fact 29 rfl)
  p_NoVeil := let ⟨fd, F⟩ := c.def_ 16 rfl; ⟨fd, He5.fun_of F⟩
  m_NoVeil := He.meth_ok (c.fact 30 rfl)
  ce := ce
end
end Lk38
set_option Elab.async false
set_option linter.all false
set_option maxRecDepth 100000
set_option maxHeartbeats 4000000
namespace Lk38
open PySem PySem.Spec PyProof.Rows L2 VD PW
noncomputable section
theorem reached_same : m_reached_sides = PW.m_reached_sides := rfl
theorem between_same : m_boxes_between = PW.m_boxes_between := rfl
theorem shift_same' : m_shift_boxes = PW.m_shift_boxes := rfl
def nC (g : Gd) : D := .cell g.length
def rwC (r : Nat) : D := .cell r
def nH (g : Gd) : Hv := hv g ++ [.lst ((List.range g.length).map .cell)]
theorem hv_len {g : Gd} : (hv g).length = g.length := List.length_map _
theorem nH_len {g : Gd} : (nH g).length = g.length + 1 := by unfold nH; rw [List.length_append, hv_len]; rfl
theorem ix_now' {g : Gd} {e : Hv} {r : Nat} (hr : r < g.length) : ixD (nH g ++ e) (nC g) (r : Int) = some (rwC r) := by
  unfold nC rwC nH
  have : ((hv g ++ [Cell.lst ((List.range g.length).map .cell)]) ++ e)[g.length]? = some (.lst ((List.range g.length).map .cell)) := by
    rw [List.append_assoc, List.getElem?_append_right (by rw [hv_len]; exact Nat.le_refl _), hv_len, Nat.sub_self]; rfl
  rw [ixD_cell, this]
  exact atI_map (atI_at rfl (List.getElem?_range hr))
theorem ix_row' {g : Gd} {R C : Nat} (sh : Sh R C g) {e : Hv} {r c : Nat} (hr : r < R) (hc : c < C) : ixD (nH g ++ e) (rwC r) (c : Int) = some (.int (gv g (r, c))) := by
  have := ix_row (m := true) sh (e := [Cell.lst ((List.range g.length).map .cell)] ++ e) hr hc
  unfold nH
  rw [List.append_assoc]
  exact this
theorem ix_now0 {g : Gd} {r : Nat} (hr : r < g.length) : ixD (nH g) (nC g) (r : Int) = some (rwC r) := by
  have := ix_now' (e := []) hr
  rw [List.append_nil] at this
  exact this
theorem ix_row0 {g : Gd} {R C : Nat} (sh : Sh R C g) {r c : Nat} (hr : r < R) (hc : c < C) : ixD (nH g) (rwC r) (c : Int) = some (.int (gv g (r, c))) := by
  have := ix_row' (e := []) sh hr hc
  rw [List.append_nil] at this
  exact this
theorem len_now0 {g : Gd} : lenD (nH g) (nC g) = some (g.length : Int) := by
  unfold nC nH
  have : (hv g ++ [Cell.lst ((List.range g.length).map .cell)])[g.length]? = some (.lst ((List.range g.length).map .cell)) := by
    rw [List.getElem?_append_right (by rw [hv_len]; exact Nat.le_refl _), hv_len, Nat.sub_self]; rfl
  rw [lenD_cell, this]
  simp
theorem frzC_cells {n0 : Nat} {h : Hv} {k : Nat} (hk : k ≤ n0) : frzC n0 h (.lst ((List.range k).map .cell)) = some (.lst ((List.range k).map .cell)) := by
  show (optAll (frz n0 h 12) ((List.range k).map .cell)).map Cell.lst = _
  rw [optAll_map (g := frz n0 h 12) (e := D.cell) (e' := D.cell) (fun i hi => by
    have := List.mem_range.mp hi
    rw [frz_cell, if_pos (by omega)])]; rfl
theorem optAll_snoc {α β : Type} {g : β → Option α} {b : β} {a : α} (hb : g b = some a) : ∀ {xs : List β} {ys : List α}, optAll g xs = some ys → optAll g (xs ++ [b]) = some (ys ++ [a])
  | [], ys, e => by cases e; simp [optAll, hb]
  | x :: xs, ys, e => by
    simp only [optAll] at e
    simp only [List.cons_append, optAll]
    cases q1 : g x with
    | none => simp [q1] at e
    | some y =>
      cases q2 : optAll g xs with
      | none => simp [q1, q2] at e
      | some zs =>
        simp [q1, q2] at e
        rw [optAll_snoc hb q2, ← e]; rfl
theorem frzH' {n0 : Nat} {h : Hv} {g : Gd} (hk : g.length ≤ n0) : optAll (frzC n0 h) (nH g) = some (nH g) := optAll_snoc (frzC_cells hk) (frzH (m := true))
theorem exit_ok' {g : Gd} {e : Hv} {d d' : D} (h : frz (nH g).length (nH g ++ e) 12 d = some d') : exitD (nH g).length d (nH g ++ e) = .ok d' (nH g) := by
  unfold exitD
  rw [h, List.take_left, frzH' (by rw [nH_len]; omega)]
  simp only [List.length_append]
  rw [if_pos (Nat.le_add_right _ _)]
def rst' (R : Nat) (g : Gd) (H : List Bx) (cell : Bx) (s L at_ : Nat) (x1 x2 : Option D) : VS := [some (nC g), some (hidD H), some (bx cell), some (.int (s : Int)), some (.int (R : Int)), some (.cell L), some (.cell (L + 1)), some (.int (at_ : Int)), x1, x2]
def rhp' (g : Gd) (c : Came) : Hv := nH g ++ [.dK (encK c), .lst (encL c)]
theorem reached_box' {Q : RS → Prop} {R C : Nat} {g : Gd} {H : List Bx} {cell b : Bx} {s at_ x : Nat} {c : Came} (sh : Sh R C g) (hb : b.1 < R ∧ b.2 < C) (hc : c.length < 1000000) (J : VS → Hv → Prop)
    (hJ : J (rst' R g H cell s (nH g).length at_ (some (.int (x : Int))) (some (bx b))) (rhp' g (stp R g cell x c b))) :
    Wp (Lp Q J) ((sSeq (sIf (cAnd (toB (eOp oNe (eVar 9) (eVar 2))) (cAnd (toB (eOp oEq (eVar 8) (eOp oIx (eVar 9) (eK (.int 0))))) (toB (eOp oDnin (eOp oAdd (eVar 4) (eOp oIx (eVar 9) (eK (.int 1)))) (eVar 5))))) (sSeq (sDput (eTup (aCons (eVar 8) (aCons (eVar 9) (aNil)))) (eVar 5) (eOp oAdd (eVar 4) (eOp oIx (eVar 9) (eK (.int 1))))) (sDrop (eBM mAppend (eVar 6) (aCons (eOp oAdd (eVar 4) (eOp oIx (eVar 9) (eK (.int 1)))) (aNil))))) (sNext)) (sIf (cAnd (toB (eOp oNe (eVar 9) (eVar 2))) (cAnd (toB (eOp oEq (eVar 8) (eOp oAdd (eVar 4) (eOp oIx (eVar 9) (eK (.int 1)))))) (cAnd (toB (eOp oGt (eOp oIx (eOp oIx (eVar 0) (eOp oIx (eVar 9) (eK (.int 0)))) (eOp oIx (eVar 9) (eK (.int 1)))) (eK (.int 0)))) (toB (eOp oDnin (eOp oIx (eVar 9) (eK (.int 0))) (eVar 5)))))) (sSeq (sDput (eTup (aCons (eVar 8) (aCons (eVar 9) (aNil)))) (eVar 5) (eOp oIx (eVar 9) (eK (.int 0)))) (sDrop (eBM mAppend (eVar 6) (aCons (eOp oIx (eVar 9) (eK (.int 0))) (aNil))))) (sNext))) (rst' R g H cell s (nH g).length at_ (some (.int (x : Int))) (some (bx b))) (rhp' g c)) := by
  have i0 : ∀ h : Hv, ixD h (bx b) 0 = some (.int b.1) := fun _ => rfl
  have i1 : ∀ h : Hv, ixD h (bx b) 1 = some (.int b.2) := fun _ => rfl
  have e0 : ((x : Int) = (b.1 : Int)) = (x = b.1) := by rw [Int.ofNat_inj]
  have e1 : ((x : Int) = (R : Int) + (b.2 : Int)) = (x = R + b.2) := by rw [← Int.natCast_add, Int.ofNat_inj]
  have n0 : ∀ e : Hv, ixD (nH g ++ e) (nC g) (b.1 : Int) = some (rwC b.1) := fun e => ix_now' (by rw [sh.len]; exact hb.1)
  have n1 : ∀ e : Hv, ixD (nH g ++ e) (rwC b.1) (b.2 : Int) = some (.int (gv g b)) := fun e => ix_row' sh hb.1 hb.2
  have en : ∀ y : Nat, encO (some (y, b)) = .tup [.int y, bx b] := fun _ => rfl
  have hc2 : c.length < 16777216 := by omega
  unfold rst' rhp' at hJ ⊢
  have s1 : ∀ y : Nat, encK c ++ [(Sum.inl (y : Int), D.tup [D.int (x : Int), bx b])] = encK (c ++ [(y, some (x, b))]) := fun y => encK_snoc (p := (y, some (x, b)))
  have s2 : ∀ y : Nat, encL c ++ [D.int (y : Int)] = encL (c ++ [(y, some (x, b))]) := fun y => encL_snoc (p := (y, some (x, b)))
  have s3 : encL c ++ [D.int ((R : Int) + (b.2 : Int))] = encL (c ++ [(R + b.2, some (x, b))]) := s2 (R + b.2)
  have s4 : encK c ++ [(Sum.inl ((R : Int) + (b.2 : Int)), D.tup [D.int (x : Int), bx b])] = encK (c ++ [(R + b.2, some (x, b))]) := s1 (R + b.2)
  by_cases hbc : b = cell
  · rw [stp_no (fun z => z.1 hbc) (fun z => z.1 hbc)] at hJ
    simp [eqD_bx, hbc] at hJ ⊢
    exact hJ
  by_cases hx : x = b.1
  · have hx2 : ¬ x = R + b.2 := by omega
    have e0 := e0.trans (eq_true hx)
    have e1 := e1.trans (eq_false hx2)
    by_cases hk : R + b.2 ∈ keys c
    · rw [stp_no (fun z => z.2.2 hk) (fun z => hx2 z.2.1)] at hJ
      simp [eqD_bx, hbc, i0, i1, e0, e1, ap0, isSome_add, hk]
      exact hJ
    · rw [stp_row (by omega) ⟨hbc, hx, hk⟩] at hJ
      simp [eqD_bx, hbc, i0, i1, e0, e1, ap0, ap1, st0, st1, isSome_add, hk, encK_len, encL_len, hc2, putD_add hk, s4, s3]
      exact hJ
  · have e0 := e0.trans (eq_false hx)
    by_cases hx2 : x = R + b.2
    · have e1 := e1.trans (eq_true hx2)
      by_cases hg : 0 < gv g b
      · by_cases hk : b.1 ∈ keys c
        · rw [stp_no (fun z => hx z.2.1) (fun z => z.2.2.2 hk)] at hJ
          simp [eqD_bx, hbc, i0, i1, e0, e1, n0, n1, hg, ap0, getD_isSome, hk]
          exact hJ
        · rw [stp_col hb.1 ⟨hbc, hx2, hg, hk⟩] at hJ
          simp [eqD_bx, hbc, i0, i1, e0, e1, n0, n1, hg, ap0, ap1, st0, st1, getD_isSome, hk, encK_len, encL_len, hc2, putD_new hk, s1, s2]
          exact hJ
      · rw [stp_no (fun z => hx z.2.1) (fun z => hg z.2.2.1)] at hJ
        simp [eqD_bx, hbc, i0, i1, e0, e1, n0, n1, hg]
        exact hJ
    · have e1 := e1.trans (eq_false hx2)
      rw [stp_no (fun z => hx z.2.1) (fun z => hx2 z.2.1)] at hJ
      simp [eqD_bx, hbc, i0, i1, e0, e1]
      exact hJ
theorem reached_in' {Q : RS → Prop} {R C : Nat} {g : Gd} {H : List Bx} {cell : Bx} {s at_ x : Nat} {o : Option (Nat × Bx)} {c : Came} {x2 : Option D} (sh : Sh R C g) (hi : In R C H) (hs : s < R + C) (hl : H.length ≤ 16777216) (hb : R + C ≤ 1000) (w : Wf R g H cell s c) (hx : c[at_]? = some (x, o))
    (fin : ∀ x2 c', Wf R g H cell s c' → (∃ e, c' = c ++ e) → (∀ y b, Edge R g H cell x y b → y ∈ keys c') → Wp Q (.next (rst' R g H cell s (nH g).length at_ (some (.int (x : Int))) x2) (rhp' g c'))) :
    Wp Q (PW.l_reached_sides_1 (rst' R g H cell s (nH g).length at_ (some (.int (x : Int))) x2) (rhp' g c)) := by
  unfold PW.l_reached_sides_1
  refine Wp.loopA bx H (fun k σ h => ∃ x2 c', σ = rst' R g H cell s (nH g).length at_ (some (.int (x : Int))) x2 ∧ h = rhp' g c' ∧ Wf R g H cell s c' ∧ (∃ e, c' = c ++ e) ∧ ∀ k' < k, ∀ b, H[k']? = some b → ∀ y, Edge R g H cell x y b → y ∈ keys c') rfl ⟨x2, c, rfl, rfl, w, ⟨[], by simp⟩, fun k' h => absurd h (Nat.not_lt_zero _)⟩ ?_ ?_
  · intro k b σ h hk hh
    obtain ⟨x2, c', rfl, rfl, w', ⟨e, he⟩, al⟩ := hh
    refine ⟨rst' R g H cell s (nH g).length at_ (some (.int (x : Int))) (some (bx b)), rfl, ?_⟩
    have hbm : b ∈ H := List.mem_of_getElem? hk
    have hx' : c'[at_]? = some (x, o) := by
      rw [he, List.getElem?_append_left (List.getElem?_eq_some_iff.mp hx).1]; exact hx
    refine reached_box' sh (hi b hbm) (by have := (w'.bd hi hs).2; omega) _ ?_
    obtain ⟨e2, he2, _⟩ := stp_eq (R := R) (g := g) (cell := cell) (x := x) (c := c') (b := b)
    refine ⟨_, _, rfl, rfl, stp_wf w' hbm hx', ⟨e ++ e2, by rw [he2, he, List.append_assoc]⟩, fun k' hk' d hd y ed => ?_⟩
    by_cases q : k' = k
    · subst q
      rw [hk] at hd
      cases hd
      exact stp_mem ed
    · exact stp_keys (al k' (by omega) d hd y ed)
  · intro σ h hh
    obtain ⟨x2, c', rfl, rfl, w', he, al⟩ := hh
    refine fin x2 c' w' he fun y b ed => ?_
    obtain ⟨k, hk⟩ := List.getElem?_of_mem ed.1
    exact al k (List.getElem?_eq_some_iff.mp hk).1 b hk y ed
theorem reached_eq' {R C : Nat} {g : Gd} {H : List Bx} {cell : Bx} {s : Nat} (sh : Sh R C g) (hi : In R C H) (hs : s < R + C) (hl : H.length ≤ 16777216) (hb : R + C ≤ 1000) :
    ∃ c : Came, PW.m_reached_sides [nC g, hidD H, bx cell, .int (s : Int)] (nH g) = .ok (cameD c) (nH g) ∧ Wf R g H cell s c ∧ Cl R g H cell c c.length := by
  refine fnS_ofH (P := fun x => ∃ c : Came, x = .ok (cameD c) (nH g) ∧ Wf R g H cell s c ∧ Cl R g H cell c c.length) rfl ?_
  unfold PW.b_reached_sides
  obtain ⟨A, hA⟩ : ∃ A, A = nH g := ⟨_, rfl⟩
  have mg : mergeD [] [((Sum.inl (s : Int) : Key), D.non)] = encK [(s, none)] := rfl
  rw [← hA]
  have ln : lenD A (nC g) = some (R : Int) := by rw [hA, len_now0, sh.len]
  simp [ln, mg, apl, apa]
  unfold PW.l_reached_sides_2
  generalize hL : A.length = L
  obtain ⟨I, hI⟩ : ∃ I : VS → Hv → Prop, I = fun σ h => ∃ (x1 x2 : Option D) (c : Came) (at_ : Nat), σ = [some (nC g), some (hidD H), some (bx cell), some (.int (s : Int)), some (.int (R : Int)), some (.cell L), some (.cell (L + 1)), some (.int (at_ : Int)), x1, x2] ∧ h = A ++ [.dK (encK c), .lst (encL c)] ∧ Wf R g H cell s c ∧ at_ ≤ c.length ∧ Cl R g H cell c at_ := ⟨_, rfl⟩
  refine Wp.while I (fun σ _ => R + C - slN σ 7) ?_ ?_
  · intro σ h hh
    rw [hI] at hh
    obtain ⟨x1, x2, c, at_, rfl, rfl, w, ha, cl⟩ := hh
    have bd := w.bd hi hs
    subst hL
    subst hA
    by_cases q : at_ < c.length
    · refine ⟨true, by simp [ap1, encL_len, q], ?_⟩
      rw [if_pos rfl]
      obtain ⟨p, hp⟩ : ∃ p, c[at_]? = some p := ⟨_, List.getElem?_eq_getElem q⟩
      obtain ⟨x, o⟩ := p
      have e1 : atI (encL c) (at_ : Int) = some (.int (x : Int)) := atI_map (e := fun p : Nat × Option (Nat × Bx) => D.int (p.1 : Int)) (atI_at rfl hp)
      simp [ap1, e1]
      refine reached_in' (x2 := x2) (at_ := at_) sh hi hs hl hb w hp fun x2' c' w' he al => ?_
      obtain ⟨e, he⟩ := he
      simp [rst']
      rw [hI]
      refine ⟨⟨_, _, c', at_ + 1, rfl, rfl, w', by rw [he, List.length_append]; omega, fun j z o' hj hz y b ed => ?_⟩, ?_⟩
      · by_cases qj : j = at_
        · subst qj
          rw [he, List.getElem?_append_left q, hp] at hz
          cases hz
          exact al y b ed
        · rw [he, List.getElem?_append_left (by omega)] at hz
          rw [he, keys_append]
          exact List.mem_append_left _ (cl j z o' (by omega) hz y b ed)
      · show R + C - ((at_ : Int) + 1).toNat < R + C - (at_ : Int).toNat
        omega
    · refine ⟨false, by simp [ap1, encL_len]; omega, ?_⟩
      rw [if_neg (by simp)]
      have e : at_ = c.length := by omega
      subst e
      simp [ap0, st0]
      refine ⟨c, ?_, w, cl⟩
      refine exit_ok' ?_
      have e1 : (nH g ++ [.dF (encK c), .lst (encL c)])[(nH g).length]? = some (.dF (encK c)) := ap0
      rw [frz_cell, if_neg (Nat.lt_irrefl _), e1]
      simp only
      have e2 : (encK c).map (·.2) = c.map (fun p => encO p.2) := by unfold encK; rw [List.map_map]; rfl
      rw [e2, optAll_map (e := fun p : Nat × Option (Nat × Bx) => encO p.2) (e' := fun p : Nat × Option (Nat × Bx) => encO p.2) (fun p _ => frz_encO (n := 8) p.2)]
      unfold cameD
      rw [e2]; rfl
  · rw [hI]
    exact ⟨none, none, [(s, none)], 0, rfl, rfl, Wf.one, Nat.zero_le _, fun j x o h => absurd h (Nat.not_lt_zero _)⟩
theorem nH_set {g : Gd} {b : Bx} {v : Int} (hb : b.1 < g.length) : (nH g).set b.1 (.lst (((g[b.1]?.getD []).map D.int).set b.2 (.int v))) = nH (PW.upd g b v) := by
  unfold nH
  rw [List.set_append_left _ _ (by rw [hv_len]; exact hb), hv_set]
  have : (PW.upd g b v).length = g.length := by unfold PW.upd; rw [List.length_set]
  rw [this]
theorem nH_at {R C : Nat} {g : Gd} (sh : Sh R C g) {r : Nat} (hr : r < R) : (nH g)[r]? = some (.lst ((g[r]?.getD []).map .int)) ∧ (g[r]?.getD []).length = C := by
  obtain ⟨a, b⟩ := hv_at sh hr
  unfold nH
  rw [List.getElem?_append_left (by rw [hv_len, sh.len]; exact hr)]
  exact ⟨a, b⟩
theorem now_len' {g g' : Gd} (h : g.length = g'.length) : nC g = nC g' := by unfold nC; rw [h]
theorem exit_nH {g g' : Gd} (hl : g.length = g'.length) : exitD (nH g).length .non (nH g') = .ok .non (nH g') := by
  have e : (nH g).length = (nH g').length := by rw [nH_len, nH_len, hl]
  rw [e]
  have := exit_ok' (g := g') (e := []) (d := .non) (d' := .non) rfl
  rw [List.append_nil] at this
  exact this
def sst' (g : Gd) (G F : List Bx) (a : Int) (x4 : Option D) : VS := [some (nC g), some (.lst (G.map bx)), some (.lst (F.map bx)), some (.int a), x4]
theorem shift_one' {Q : RS → Prop} {R C : Nat} {g g0 : Gd} {G F : List Bx} {a : Int} {b : Bx} (J : VS → Hv → Prop) (sh : Sh R C g) (e0 : nC g0 = nC g) (hb : b.1 < R ∧ b.2 < C) :
    (J (sst' g0 G F a (some (bx b))) (nH (PW.upd g b (gv g b + a))) → Wp (Lp Q J) (sSetIx (eOp oAdd (eOp oIx (eOp oIx (eVar 0) (eOp oIx (eVar 4) (eK (.int 0)))) (eOp oIx (eVar 4) (eK (.int 1)))) (eVar 3)) (eOp oIx (eVar 0) (eOp oIx (eVar 4) (eK (.int 0)))) (eOp oIx (eVar 4) (eK (.int 1))) (sst' g0 G F a (some (bx b))) (nH g))) ∧
    (J (sst' g0 G F a (some (bx b))) (nH (PW.upd g b (gv g b + -a))) → Wp (Lp Q J) (sSetIx (eOp oSub (eOp oIx (eOp oIx (eVar 0) (eOp oIx (eVar 4) (eK (.int 0)))) (eOp oIx (eVar 4) (eK (.int 1)))) (eVar 3)) (eOp oIx (eVar 0) (eOp oIx (eVar 4) (eK (.int 0)))) (eOp oIx (eVar 4) (eK (.int 1))) (sst' g0 G F a (some (bx b))) (nH g))) := by
  obtain ⟨b1, b2⟩ := hb
  have i0 : ∀ h : Hv, ixD h (bx b) 0 = some (.int b.1) := fun _ => rfl
  have i1 : ∀ h : Hv, ixD h (bx b) 1 = some (.int b.2) := fun _ => rfl
  have n0 : ixD (nH g) (nC g) (b.1 : Int) = some (.cell b.1) := ix_now0 (by rw [sh.len]; exact b1)
  have hbg : b.1 < g.length := by rw [sh.len]; exact b1
  have n1 : ixD (nH g) (.cell b.1) (b.2 : Int) = some (.int (gv g b)) := ix_row0 sh b1 b2
  obtain ⟨r1, r2⟩ := nH_at sh b1
  have r3 : ixN (g[b.1]?.getD []).length (b.2 : Int) = some b.2 := ixN_some rfl (by rw [r2]; exact b2)
  unfold sst'
  rw [e0]
  constructor
  · intro h
    simp [i0, i1, n0, n1, r1, r3, nH_set hbg, -ixD_cell]
    exact h
  · intro h
    rw [← Int.sub_eq_add_neg] at h
    simp [i0, i1, n0, n1, r1, r3, nH_set hbg, -ixD_cell]
    exact h
theorem shift_eq' {R C : Nat} {g : Gd} {G F : List Bx} {a : Int} (sh : Sh R C g) (hG : In R C G) (hF : In R C F) : PW.m_shift_boxes [nC g, .lst (G.map bx), .lst (F.map bx), .int a] (nH g) = .ok .non (nH (shf (shf g G a) F (-a))) := by
  refine fnS_ofH (P := fun x => x = .ok .non (nH (shf (shf g G a) F (-a)))) rfl ?_
  unfold PW.b_shift_boxes
  simp only [Wp_seq]
  unfold PW.l_shift_boxes_1
  have ln : ∀ {g'}, Sh R C g' → nC g = nC g' := fun h => now_len' (by rw [sh.len, h.len])
  refine Wp.loopA bx G (fun k σ h => ∃ x4, σ = sst' g G F a x4 ∧ h = nH (shf g (G.take k) a)) rfl ⟨none, rfl, rfl⟩ ?_ ?_
  · intro k b σ h hk hh
    obtain ⟨x4, rfl, rfl⟩ := hh
    refine ⟨sst' g G F a (some (bx b)), rfl, ?_⟩
    have sh' : Sh R C (shf g (G.take k) a) := Sh.shf sh
    refine (shift_one' _ sh' (ln sh') (hG b (List.mem_of_getElem? hk))).1 ⟨_, rfl, ?_⟩
    rw [shf_take hk]
  · intro σ h hh
    obtain ⟨x4, rfl, rfl⟩ := hh
    rw [List.take_length]
    simp only [Wp_sq_next]
    unfold PW.l_shift_boxes_2
    have s1 : Sh R C (shf g G a) := Sh.shf sh
    refine Wp.loopA bx F (fun k σ h => ∃ x4, σ = sst' g G F a x4 ∧ h = nH (shf (shf g G a) (F.take k) (-a))) rfl ⟨x4, rfl, rfl⟩ ?_ ?_
    · intro k b σ h hk hh
      obtain ⟨x4, rfl, rfl⟩ := hh
      refine ⟨sst' g G F a (some (bx b)), rfl, ?_⟩
      have sh' : Sh R C (shf (shf g G a) (F.take k) (-a)) := Sh.shf s1
      refine (shift_one' _ sh' (ln sh') (hF b (List.mem_of_getElem? hk))).2 ⟨_, rfl, ?_⟩
      rw [shf_take hk]
    · intro σ h hh
      obtain ⟨x4, rfl, rfl⟩ := hh
      rw [List.take_length]
      simp
      exact exit_nH (by rw [sh.len, (Sh.shf (a := -a) (L := F) s1).len])
theorem hvv_eq' {R C : Nat} {g : Gd} {b : Bx} (sh : Sh R C g) (h1 : b.1 < R) (h2 : b.2 < C) : hvv (nH g) b = gv g b := by
  unfold hvv
  obtain ⟨row, e1, e2⟩ := gv_at sh h1 h2
  rw [(nH_at sh h1).1, e1]
  simp only [Option.getD_some, List.getElem?_map, e2, Option.map_some]
theorem raised_eq' {R C : Nat} {g : Gd} {H : List Bx} {cell : Bx} (sh : Sh R C g) (nn : Nn g) (hi : In R C H) (hc : cell ∈ H) (hl : H.length ≤ 16777216) (hb : R + C ≤ 900) :
    ∃ g' c, m_raised [gD g, hidD H, bx cell] [] = .ok (.tup [nC g', cameD c]) (nH g') ∧ Up R C H cell g g' c ∧ cell.1 ∉ keys c := by
  refine fnU_of (P := fun x => ∃ g' c, x = .ok (.tup [nC g', cameD c]) (nH g') ∧ Up R C H cell g g' c ∧ cell.1 ∉ keys c) rfl ?_
  unfold b_raised
  obtain ⟨c1, c2⟩ := hi cell hc
  have e1 : c_raised_1 [some (gD g), some (hidD H), some (bx cell), none, none, none, none, none, none, none, none] [] = .ok ((List.range g.length).map D.cell) (hv g) := by
    unfold c_raised_1
    exact copy_rows (Q := fun _ => True) (by rw [sh.len]; omega) rfl (fun r => ⟨_, rfl, rfl⟩)
  have en : D.cell (hv g).length = nC g := by rw [hv_len]; rfl
  have en2 : hv g ++ [Cell.lst ((List.range g.length).map D.cell)] = nH g := rfl
  have i0 : ∀ h : Hv, ixD h (bx cell) 0 = some (.int cell.1) := fun _ => rfl
  have i1 : ∀ h : Hv, ixD h (bx cell) 1 = some (.int cell.2) := fun _ => rfl
  have lg : lenD (nH g) (gD g) = some (R : Int) := by rw [← sh.len]; exact len_now (m := false)
  simp only [reached_same, between_same, shift_same']
  obtain ⟨cc, r1, r2, r3⟩ := reached_eq' (cell := cell) (s := R + cell.2) sh hi (by omega) hl (by omega)
  have r1 : PW.m_reached_sides [nC g, hidD H, bx cell, .int ((R : Int) + (cell.2 : Int))] (nH g) = .ok (cameD cc) (nH g) := r1
  simp [e1, en, en2, i0, i1, lg, r1]
  unfold l_raised_1
  obtain ⟨I, hI⟩ : ∃ I : VS → Hv → Prop, I = fun σ h => ∃ (x6 x8 x9 : Option D) (g' : Gd) (c : Came), σ = [some (gD g), some (hidD H), some (bx cell), some (nC g), some (.int (R : Int)), some (cameD c), x6, none, x8, x9, none] ∧ h = nH g' ∧ Up R C H cell g g' c := ⟨_, rfl⟩
  refine Wp.while I (fun _ h => (rs g cell.1 - hvv h cell).toNat) ?_ ?_
  · intro σ h hh
    rw [hI] at hh
    obtain ⟨x6, x8, x9, g', c, rfl, rfl, up⟩ := hh
    have sh' := up.same.sh
    have nn' := up.same.nn
    have ln : nC g = nC g' := now_len' (by rw [sh.len, sh'.len])
    rw [hvv_eq' sh' c1 c2, ln]
    by_cases q : cell.1 ∈ keys c
    · refine ⟨true, by simp [i0, kvOf_came, getD_isSome, q], ?_⟩
      rw [if_pos rfl]
      obtain ⟨i, o, hk⟩ := mem_keys.mp q
      have cb := (up.wf.bd hi (by omega)).2
      obtain ⟨G, F, b1, wy, lG, lF⟩ := between_eq hi up.wf (by omega) hk
      have b1 := cP b1 (by simp [pure_came])
      have fn := turn_up_ne c1 wy
      have inF : In R C F := fun b hb => hi b (wy.fa b hb).1
      have inG : In R C (G ++ [cell]) := fun b hb => by
        rcases List.mem_append.mp hb with hb | hb
        · exact hi b (wy.gr b hb).1
        · cases List.mem_singleton.mp hb; exact ⟨c1, c2⟩
      obtain ⟨a, ha⟩ : ∃ a, minI (F.map (gv g')) = some a := by
        cases F with
        | nil => exact absurd rfl fn
        | cons b F => exact ⟨_, rfl⟩
      obtain ⟨a1, a2⟩ := minI_ok ha
      obtain ⟨bm, hbm, rfl⟩ := List.mem_map.mp a1
      have apos := (wy.fa bm hbm).2.2
      have e2 : ∀ xs h, h = nH g' → c_raised_2 [some (gD g), some (hidD H), some (bx cell), some (nC g'), some (.int (R : Int)), some (cameD c), x6, none, some (.lst (G.map bx)), some (.lst (F.map bx)), xs] h = .ok (F.map fun b => .int (gv g' b)) h := by
        intro xs h hh
        subst hh
        unfold c_raised_2
        refine lLc_map bx (fun b => .int (gv g' b)) F (chk := always) (h0 := nH g') rfl rfl (by omega) fun b hb => ⟨_, rfl, ?_⟩
        have j0 : ∀ h : Hv, ixD h (bx b) 0 = some (.int b.1) := fun _ => rfl
        have j1 : ∀ h : Hv, ixD h (bx b) 1 = some (.int b.2) := fun _ => rfl
        have n0 : ixD (nH g') (nC g') (b.1 : Int) = some (.cell b.1) := ix_now0 (by rw [sh'.len]; exact (inF b hb).1)
        have n1 : ixD (nH g') (.cell b.1) (b.2 : Int) = some (.int (gv g' b)) := ix_row0 sh' (inF b hb).1 (inF b hb).2
        simp [j0, j1, n0, n1, -ixD_cell]
      have e2 := e2 none (nH g') rfl
      have bm1 : bMin [.lst (F.map fun b => .int (gv g' b))] (nH g') = .ok (.int (gv g' bm)) (nH g') := by
        have := bMin_lst (h := nH g') ha
        rw [List.map_map] at this
        exact this
      have ec : (D.lst (G.map bx ++ [bx cell])) = .lst ((G ++ [cell]).map bx) := by rw [List.map_append]; rfl
      have ls : G.length + 1 ≤ 16777216 := by omega
      have s1 := shift_eq' (a := gv g' bm) sh' inG inF
      obtain ⟨u1, u2⟩ := turn_up sh' nn' hi hc wy (fun b hb => a2 _ (List.mem_map.mpr ⟨b, hb, rfl⟩)) (Int.le_of_lt apos)
      generalize hg2 : shf (shf g' (G ++ [cell]) (gv g' bm)) F (-gv g' bm) = g2 at s1 u1 u2
      obtain ⟨cc2, t1, t2, t3⟩ := reached_eq' (cell := cell) (s := R + cell.2) u1.sh hi (by omega) hl (by omega)
      have t1 : PW.m_reached_sides [nC g2, hidD H, bx cell, .int ((R : Int) + (cell.2 : Int))] (nH g2) = .ok (cameD cc2) (nH g2) := t1
      have ln2 : nC g' = nC g2 := now_len' (by rw [sh'.len, u1.sh.len])
      rw [← ln2] at t1
      simp [reached_same, between_same, shift_same', i0, i1, b1, e2, bm1, ls, ec, s1, t1]
      rw [hvv_eq' u1.sh c1 c2]
      have le := gv_le_rs u1.sh u1.nn c1 c2
      rw [u1.rs _ c1, up.same.rs _ c1] at le
      constructor
      · rw [hI, ← ln]
        refine ⟨_, _, _, g2, cc2, rfl, rfl, up.same.trans u1, t2, t3, .inr ?_⟩
        rcases up.mv with e | e
        · have rc := up.wf.reach _ hk
          rw [e] at u2 apos rc
          exact ⟨by omega, rc⟩
        · exact ⟨by omega, e.2⟩
      · omega
    · refine ⟨false, by simp [i0, kvOf_came, getD_isSome, q], ?_⟩
      rw [if_neg (by simp)]
      simp []
      exact ⟨g', c, ⟨⟨rfl, rfl⟩, rfl⟩, up, q⟩
  · rw [hI]
    exact ⟨_, _, _, g, cc, rfl, rfl, .refl sh nn, r2, r3, .inl rfl⟩
theorem lowered_eq' {R C : Nat} {g : Gd} {H : List Bx} {cell : Bx} (sh : Sh R C g) (nn : Nn g) (hi : In R C H) (hc : cell ∈ H) (hl : H.length ≤ 16777216) (hb : R + C ≤ 900) :
    ∃ g' c, m_lowered [gD g, hidD H, bx cell] [] = .ok (.tup [nC g', cameD c]) (nH g') ∧ Dn R C H cell g g' c ∧ ¬ (0 < gv g' cell ∧ R + cell.2 ∈ keys c) := by
  refine fnU_of (P := fun x => ∃ g' c, x = .ok (.tup [nC g', cameD c]) (nH g') ∧ Dn R C H cell g g' c ∧ ¬ (0 < gv g' cell ∧ R + cell.2 ∈ keys c)) rfl ?_
  unfold b_lowered
  obtain ⟨c1, c2⟩ := hi cell hc
  have e1 : c_lowered_1 [some (gD g), some (hidD H), some (bx cell), none, none, none, none, none, none, none, none] [] = .ok ((List.range g.length).map D.cell) (hv g) := by
    unfold c_lowered_1
    exact copy_rows (Q := fun _ => True) (by rw [sh.len]; omega) rfl (fun r => ⟨_, rfl, rfl⟩)
  have en : D.cell (hv g).length = nC g := by rw [hv_len]; rfl
  have en2 : hv g ++ [Cell.lst ((List.range g.length).map D.cell)] = nH g := rfl
  have i0 : ∀ h : Hv, ixD h (bx cell) 0 = some (.int cell.1) := fun _ => rfl
  have i1 : ∀ h : Hv, ixD h (bx cell) 1 = some (.int cell.2) := fun _ => rfl
  have lg : lenD (nH g) (gD g) = some (R : Int) := by rw [← sh.len]; exact len_now (m := false)
  simp only [reached_same, between_same, shift_same']
  obtain ⟨cc, r1, r2, r3⟩ := reached_eq' (cell := cell) (s := cell.1) sh hi (by omega) hl (by omega)
  have r1 : PW.m_reached_sides [nC g, hidD H, bx cell, .int (cell.1 : Int)] (nH g) = .ok (cameD cc) (nH g) := r1
  simp [e1, en, en2, i0, i1, lg, r1]
  unfold l_lowered_1
  obtain ⟨I, hI⟩ : ∃ I : VS → Hv → Prop, I = fun σ h => ∃ (x6 x7 x9 : Option D) (g' : Gd) (c : Came), σ = [some (gD g), some (hidD H), some (bx cell), some (nC g), some (.int (R : Int)), some (cameD c), x6, x7, none, x9, none] ∧ h = nH g' ∧ Dn R C H cell g g' c := ⟨_, rfl⟩
  refine Wp.while I (fun _ h => (hvv h cell).toNat) ?_ ?_
  · intro σ h hh
    rw [hI] at hh
    obtain ⟨x6, x7, x9, g', c, rfl, rfl, up⟩ := hh
    have sh' := up.same.sh
    have nn' := up.same.nn
    have ln : nC g = nC g' := now_len' (by rw [sh.len, sh'.len])
    rw [hvv_eq' sh' c1 c2, ln]
    have m0 : ixD (nH g') (nC g') (cell.1 : Int) = some (.cell cell.1) := ix_now0 (by rw [sh'.len]; exact c1)
    have m1 : ixD (nH g') (.cell cell.1) (cell.2 : Int) = some (.int (gv g' cell)) := ix_row0 sh' c1 c2
    by_cases q : 0 < gv g' cell ∧ R + cell.2 ∈ keys c
    · refine ⟨true, by simp [i0, i1, m0, m1, kvOf_came, isSome_add, q.1, q.2, -ixD_cell], ?_⟩
      rw [if_pos rfl]
      have qp := q.1
      have q := q.2
      obtain ⟨i, o, hk⟩ := mem_keys.mp q
      have cb := (up.wf.bd hi (by omega)).2
      obtain ⟨G, F, b1, wy, lG, lF⟩ := between_eq hi up.wf (by omega) hk
      have b1 := cP b1 (by simp [pure_came])
      simp only [Int.natCast_add] at b1
      have inG : In R C G := fun b hb => hi b (wy.gr b hb).1
      have inF : In R C (F ++ [cell]) := fun b hb => by
        rcases List.mem_append.mp hb with hb | hb
        · exact hi b (wy.fa b hb).1
        · cases List.mem_singleton.mp hb; exact ⟨c1, c2⟩
      obtain ⟨a, ha⟩ : ∃ a, minI ((F ++ [cell]).map (gv g')) = some a := by
        cases F with
        | nil => exact ⟨_, rfl⟩
        | cons b F => exact ⟨_, rfl⟩
      obtain ⟨a1, a2⟩ := minI_ok ha
      obtain ⟨bm, hbm, rfl⟩ := List.mem_map.mp a1
      have apos : 0 < gv g' bm := by
        rcases List.mem_append.mp hbm with hb | hb
        · exact (wy.fa bm hb).2.2
        · cases List.mem_singleton.mp hb; exact qp
      have e2 : ∀ xs h, h = nH g' → c_lowered_2 [some (gD g), some (hidD H), some (bx cell), some (nC g'), some (.int (R : Int)), some (cameD c), some (.lst ((F ++ [cell]).map bx)), x7, none, some (.lst (G.map bx)), xs] h = .ok ((F ++ [cell]).map fun b => .int (gv g' b)) h := by
        intro xs h hh
        subst hh
        unfold c_lowered_2
        refine lLc_map bx (fun b => .int (gv g' b)) (F ++ [cell]) (chk := always) (h0 := nH g') rfl rfl (by rw [List.length_append]; simp; omega) fun b hb => ⟨_, rfl, ?_⟩
        have j0 : ∀ h : Hv, ixD h (bx b) 0 = some (.int b.1) := fun _ => rfl
        have j1 : ∀ h : Hv, ixD h (bx b) 1 = some (.int b.2) := fun _ => rfl
        have n0 : ixD (nH g') (nC g') (b.1 : Int) = some (.cell b.1) := ix_now0 (by rw [sh'.len]; exact (inF b hb).1)
        have n1 : ixD (nH g') (.cell b.1) (b.2 : Int) = some (.int (gv g' b)) := ix_row0 sh' (inF b hb).1 (inF b hb).2
        simp [j0, j1, n0, n1, -ixD_cell]
      have e2 := e2 none (nH g') rfl
      have bm1 : bMin [.lst ((F ++ [cell]).map fun b => .int (gv g' b))] (nH g') = .ok (.int (gv g' bm)) (nH g') := by
        have := bMin_lst (h := nH g') ha
        rw [List.map_map] at this
        exact this
      have ec : (D.lst (F.map bx ++ [bx cell])) = .lst ((F ++ [cell]).map bx) := by rw [List.map_append]; rfl
      have ls : F.length + 1 ≤ 16777216 := by omega
      have s1 := shift_eq' (a := gv g' bm) sh' inG inF
      obtain ⟨u1, u2⟩ := turn_down sh' nn' hi hc wy (fun b hb => a2 _ (List.mem_map.mpr ⟨b, hb, rfl⟩)) (Int.le_of_lt apos)
      generalize hg2 : shf (shf g' G (gv g' bm)) (F ++ [cell]) (-gv g' bm) = g2 at s1 u1 u2
      obtain ⟨cc2, t1, t2, t3⟩ := reached_eq' (cell := cell) (s := cell.1) u1.sh hi (by omega) hl (by omega)
      have t1 : PW.m_reached_sides [nC g2, hidD H, bx cell, .int (cell.1 : Int)] (nH g2) = .ok (cameD cc2) (nH g2) := t1
      have ln2 : nC g' = nC g2 := now_len' (by rw [sh'.len, u1.sh.len])
      rw [← ln2] at t1
      simp [reached_same, between_same, shift_same', i0, i1, b1, e2, bm1, ls, ec, s1, t1, -List.map_append]
      rw [hvv_eq' u1.sh c1 c2]
      have le := u1.nn cell
      constructor
      · rw [hI, ← ln]
        refine ⟨_, _, _, g2, cc2, rfl, rfl, up.same.trans u1, t2, t3, .inr ?_⟩
        rcases up.mv with e | e
        · have rc := up.wf.reach _ hk
          rw [e] at u2 apos rc qp
          exact ⟨by omega, qp, rc⟩
        · exact ⟨by omega, e.2⟩
      · omega
    · refine ⟨false, by
        simp [i0, i1, m0, m1, -ixD_cell]
        by_cases q1 : 0 < gv g' cell
        · have q2 : R + cell.2 ∉ keys c := fun z => q ⟨q1, z⟩
          simp [q1, kvOf_came, isSome_add, q2]
        · simp [q1], ?_⟩
      rw [if_neg (by simp)]
      simp []
      exact ⟨g', c, ⟨⟨rfl, rfl⟩, rfl⟩, up, fun z w => q ⟨z, w⟩⟩
  · rw [hI]
    exact ⟨_, _, _, g, cc, rfl, rfl, .refl sh nn, r2, r3, .inl rfl⟩
end
end Lk38
namespace Lk38
open PySem PySem.Spec PyProof.Rows L2 VD PW PX PY PU PG GC
noncomputable section
theorem draw_same : m__law_draw = drawM := rfl
theorem num_pick {ns : List Int} {k u : Int} (hl : ns.length ≤ 63) (k0 : 0 ≤ k) (k1 : k ≤ 1000) (u0 : 0 < u) (u1 : u ≤ 10 ^ 50) : ∃ v : Int, 0 ≤ v ∧ ∀ {Q : RS → Prop} (σ : VS) (h : Hv), σ.length = 9 → σ[0]? = some (some (scr ns)) → σ[3]? = some (some (.int u)) → σ[7]? = some (some (.int k)) →
    ∀ s : SS, Wp Q (s (σ.set 8 (some (.int v))) h) → Wp Q (sSeq (sSet 8 (eOp oMul (eOp oFdiv (eCa (Cm.f .P m__law_draw) (aCons (eVar 0) (aCons (eVar 7) (aCons (eK (.int 40)) (aNil))))) (eK (.int 5))) (eVar 3))) (sSeq (sIf (toB (eOp oEq (eCa (Cm.f .P m__law_draw) (aCons (eVar 0) (aCons (eVar 7) (aCons (eK (.int 5)) (aNil))))) (eK (.int 0)))) (sSet 8 (eK (.int 0))) (sNext)) (sSeq (sIf (cAnd (toB (eOp oEq (eCa (Cm.f .P m__law_draw) (aCons (eVar 0) (aCons (eVar 7) (aCons (eK (.int 20)) (aNil))))) (eK (.int 6)))) (toB (eOp oLt (eVar 7) (eCa bLen (aCons (eVar 0) (aNil)))))) (sSet 8 (eOp oMod (eOp oIx (eVar 0) (eVar 7)) (eOp oPow (eK (.int 10)) (eK (.int 57))))) (sNext)) s)) σ h) := by
  have d1 := drawF_bd ns k (m := 40) (by decide)
  have p57 : powOk 10 57 = true := by decide
  have big : (10 : Int) ^ 57 = 1000000000000000000000000000000000000000000000000000000000 := by decide
  have mo : ∀ h, oMul (.int (drawF ns k 40 / 5)) (.int u) h = .ok (.int (drawF ns k 40 / 5 * u)) h := fun h => by
    have b50 : (10 : Int) ^ 50 < 10 ^ 77 := by decide
    have b8 : (8 : Int) < 10 ^ 77 := by decide
    exact oMul77 (by omega) (by omega) (by omega) (by omega)
  have key : ∀ (σ : VS), σ.length = 9 → σ[0]? = some (some (scr ns)) → σ[3]? = some (some (.int u)) → σ[7]? = some (some (.int k)) → ∃ a1 a2 a4 a5 a6 a8, σ = [some (scr ns), a1, a2, some (.int u), a4, a5, a6, some (.int k), a8] := by
    intro σ hl h0 h3 h7
    match σ, hl with
    | [b0, b1, b2, b3, b4, b5, b6, b7, b8], _ =>
      simp at h0 h3 h7
      subst h0
      subst h3
      subst h7
      exact ⟨b1, b2, b4, b5, b6, b8, rfl⟩
  by_cases q2 : drawF ns k 20 = 6 ∧ k < ns.length
  · obtain ⟨q2, q3⟩ := q2
    have ix : ∀ h, ixD h (scr ns) k = some (.int (gI ns k)) := fun h => ix_ints k0 q3
    refine ⟨gI ns k % 10 ^ 57, Int.emod_nonneg _ (by decide), fun {Q} σ h l h0 h3 h7 s w => ?_⟩
    obtain ⟨a1, a2, a4, a5, a6, a8, rfl⟩ := key σ l h0 h3 h7
    by_cases q1 : drawF ns k 5 = 0
    · simp (disch := omega) [draw_same, callP_draw, mo, q1, q2, q3, p57, ix]
      rw [big] at w
      simpa using w
    · simp (disch := omega) [draw_same, callP_draw, mo, q1, q2, q3, p57, ix]
      rw [big] at w
      simpa using w
  · by_cases q1 : drawF ns k 5 = 0
    · refine ⟨0, by decide, fun {Q} σ h l h0 h3 h7 s w => ?_⟩
      obtain ⟨a1, a2, a4, a5, a6, a8, rfl⟩ := key σ l h0 h3 h7
      by_cases q3 : drawF ns k 20 = 6
      · have q4 : ¬ k < ns.length := fun z => q2 ⟨q3, z⟩
        simp (disch := omega) [draw_same, callP_draw, mo, q1, q3, q4]
        simpa using w
      · simp (disch := omega) [draw_same, callP_draw, mo, q1, q3]
        simpa using w
    · refine ⟨drawF ns k 40 / 5 * u, Int.mul_nonneg (by omega) (by omega), fun {Q} σ h l h0 h3 h7 s w => ?_⟩
      obtain ⟨a1, a2, a4, a5, a6, a8, rfl⟩ := key σ l h0 h3 h7
      by_cases q3 : drawF ns k 20 = 6
      · have q4 : ¬ k < ns.length := fun z => q2 ⟨q3, z⟩
        simp (disch := omega) [draw_same, callP_draw, mo, q1, q3, q4]
        simpa using w
      · simp (disch := omega) [draw_same, callP_draw, mo, q1, q3]
        simpa using w
structure GrOk (R C : Nat) (G : Gd) : Prop where
  gl : G.length = R
  gr : ∀ r ∈ G, r.length = C
  gb : ∀ r ∈ G, ∀ x ∈ r, 0 ≤ x
theorem grid_in {ns : List Int} {R C i : Nat} {u : Int} {G : List (List Int)} (hl : ns.length ≤ 63) (C8 : C ≤ 6) (hi : i < 6) (hG : G.length = i) (u0 : 0 < u) (u1 : u ≤ 10 ^ 50) {Q : RS → Prop} {x6 x7 x8 : Option D}
    (fin : ∀ (row : List Int) x6 x7 x8, row.length = C → (∀ x ∈ row, 0 ≤ x) → Wp Q (.next [some (scr ns), some (.int (R : Int)), some (.int (C : Int)), some (.int u), some (.cell 0), some (.int (i : Int)), x6, x7, x8] (gH (G ++ [row])))) :
    Wp Q (l__law_grid_1 [some (scr ns), some (.int (R : Int)), some (.int (C : Int)), some (.int u), some (.cell 0), some (.int (i : Int)), x6, x7, x8] (gH (G ++ [[]]))) := by
  unfold l__law_grid_1
  obtain ⟨I, hI⟩ : ∃ I : Nat → VS → Hv → Prop, I = fun j σ h => ∃ (row : List Int) (x6 x7 x8 : Option D), σ = [some (scr ns), some (.int (R : Int)), some (.int (C : Int)), some (.int u), some (.cell 0), some (.int (i : Int)), x6, x7, x8] ∧ h = gH (G ++ [row]) ∧ row.length = j ∧ ∀ x ∈ row, 0 ≤ x := ⟨_, rfl⟩
  refine Wp.range 0 C I (h0 := gH (G ++ [[]])) (by simp (disch := omega)) (by rw [hI]; exact ⟨[], _, _, _, rfl, rfl, rfl, fun x h => (nomatch h)⟩) ?_ ?_
  · intro j σ h hj hh
    rw [hI] at hh
    obtain ⟨row, y6, y7, y8, rfl, rfl, lr, al⟩ := hh
    refine ⟨_, rfl, ?_⟩
    have iC1 : (i : Int) * (C : Int) ≤ 36 := by
      have : (i : Int) * (C : Int) ≤ 6 * 6 := Int.mul_le_mul (by omega) (by omega) (by omega) (by omega)
      omega
    have iC0 : (0 : Int) ≤ (i : Int) * (C : Int) := Int.mul_nonneg (by omega) (by omega)
    have mo : ∀ h, oMul (.int (i : Int)) (.int (C : Int)) h = .ok (.int ((i : Int) * C)) h := fun h => oMul77 (by omega) (by omega) (by omega) (by omega)
    have e0 : (0 : Int) + (j : Int) = j := by omega
    have mo2 : ∀ h, oMul (.int 2) (.int ((i : Int) * C + j)) h = .ok (.int (2 * ((i : Int) * C + j))) h := fun h => oMul77 (by omega) (by omega) (by omega) (by omega)
    obtain ⟨k, hk⟩ : ∃ k : Int, k = 8 + 2 * ((i : Int) * C + j) := ⟨_, rfl⟩
    obtain ⟨v, v0, hv⟩ := num_pick (k := k) hl (by omega) (by omega) u0 u1
    rw [Wp_seq]
    simp only [sSet_ap, eOp_ap, eK_ap, VD.R.bind_ok, kOp_ap, eVar_ap]
    simp [mo, mo2, e0, ← hk, -Wp_seq]
    refine hv _ _ rfl rfl rfl rfl _ ?_
    have il : i < (G ++ [row]).length := by rw [List.length_append, List.length_singleton]; omega
    have e1 := gH_ix (G := G ++ [row]) (h := gH (G ++ [row])) gH_0 il
    have e2 : (gH (G ++ [row]))[1 + i]? = some (.lst (row.map .int)) := gH_s (by rw [← hG, List.getElem?_append_right (Nat.le_refl _), Nat.sub_self]; rfl)
    have e3 : row.length < 16777216 := by omega
    have e4 : row.map D.int ++ [.int v] = (row ++ [v]).map D.int := by simp
    have e5 : (gH (G ++ [row])).set (1 + i) (.lst ((row ++ [v]).map .int)) = gH (G ++ [row ++ [v]]) := by
      rw [gH_set il, List.set_append_right _ _ (by omega), show i - G.length = 0 by omega]; rfl
    simp [e1, e2, e3, e4, e5, -List.map_append]
    rw [hI]
    refine ⟨row ++ [v], _, _, _, rfl, rfl, by simp [lr], fun x hx => ?_⟩
    rcases List.mem_append.mp hx with hx | hx
    · exact al x hx
    · rw [List.mem_singleton] at hx; subst hx; exact v0
  · intro σ h hh
    rw [hI] at hh
    obtain ⟨row, y6, y7, y8, rfl, rfl, lr, al⟩ := hh
    exact fin row _ _ _ lr al
theorem grid_eq {ns : List Int} {R C : Nat} (hl : ns.length ≤ 63) (R8 : R ≤ 6) (C8 : C ≤ 6) : ∃ G : Gd, m__law_grid [scr ns, .int R, .int C] [] = .ok (gD G) [] ∧ Sh R C G ∧ Nn G := by
  obtain ⟨PP, hPP⟩ : ∃ PP : VD.R D → Prop, PP = fun x => ∃ G : Gd, x = .ok (gD G) [] ∧ Sh R C G ∧ Nn G := ⟨_, rfl⟩
  have key : PP (m__law_grid [scr ns, .int R, .int C] []) := by
    refine fnS_of (P := PP) rfl ?_
    unfold b__law_grid
    have d2 := drawF_bd ns 2 (m := 3) (by decide)
    have p50 : powOk 10 50 = true := by decide
    obtain ⟨u, hu, u0, u1⟩ : ∃ u : Int, atI [D.int 1, D.int 1, D.int 100000000000000000000000000000000000000000000000000] (drawF ns 2 3) = some (.int u) ∧ 0 < u ∧ u ≤ 10 ^ 50 := by
      obtain q | q | q : drawF ns 2 3 = 0 ∨ drawF ns 2 3 = 1 ∨ drawF ns 2 3 = 2 := by omega
      · exact ⟨1, by rw [q]; rfl, by decide, by decide⟩
      · exact ⟨1, by rw [q]; rfl, by decide, by decide⟩
      · exact ⟨10 ^ 50, by rw [q]; rfl, by decide, by decide⟩
    simp (disch := omega) [draw_same, callP_draw, p50, hu]
    unfold l__law_grid_2
    obtain ⟨I, hI⟩ : ∃ I : Nat → VS → Hv → Prop, I = fun i σ h => ∃ (G : List (List Int)) (x5 x6 x7 x8 : Option D), σ = [some (scr ns), some (.int (R : Int)), some (.int (C : Int)), some (.int u), some (.cell 0), x5, x6, x7, x8] ∧ h = gH G ∧ GrOk i C G := ⟨_, rfl⟩
    refine Wp.range 0 R I (h0 := [.lst []]) (by simp (disch := omega)) (by rw [hI]; exact ⟨[], _, _, _, _, rfl, rfl, rfl, fun r h => (nomatch h), fun r h => (nomatch h)⟩) ?_ ?_
    · intro i σ h hi hh
      rw [hI] at hh
      obtain ⟨G, x5, x6, x7, x8, rfl, rfl, go⟩ := hh
      refine ⟨_, rfl, ?_⟩
      have e0 : (0 : Int) + (i : Int) = i := by omega
      have gl := go.gl
      have e1 : (cellsG G.length).length < 16777216 := by rw [cells_len]; omega
      have e2 : (gH G)[0]? = some (.lst (cellsG G.length)) := gH_0
      have e3 : ∀ h, (gH G ++ [Cell.lst []])[0]'h = .lst (cellsG G.length) := fun _ => rfl
      have e4 := gH_app (G := G)
      have e5 := gH_len (G := G)
      rw [← e5] at e4
      simp [e0, e2, e3, e1, e4]
      rw [show gH (G ++ [[]]) = gH (G ++ [[]]) from rfl]
      refine grid_in hl C8 (by omega) gl u0 u1 fun row y6 y7 y8 lr al => ?_
      simp
      rw [hI]
      refine ⟨G ++ [row], _, _, _, _, rfl, rfl, by simp [gl], fun r hr => ?_, fun r hr => ?_⟩
      · rcases List.mem_append.mp hr with hr | hr
        · exact go.gr r hr
        · rw [List.mem_singleton] at hr; subst hr; exact lr
      · rcases List.mem_append.mp hr with hr | hr
        · exact go.gb r hr
        · rw [List.mem_singleton] at hr; subst hr; exact al
    · intro σ h hh
      rw [hI] at hh
      obtain ⟨G, x5, x6, x7, x8, rfl, rfl, go⟩ := hh
      have fz := gH_frz (G := G) (n := 9)
      simp
      refine ⟨_, fz, ?_⟩
      rw [hPP]
      refine ⟨G, rfl, ⟨go.gl, go.gr⟩, fun b => ?_⟩
      unfold gv
      cases e1 : G[b.1]? with
      | none => exact Int.le_refl _
      | some r =>
        simp only [Option.getD_some]
        cases e2 : r[b.2]? with
        | none => exact Int.le_refl _
        | some v => exact go.gb r (List.mem_of_getElem? e1) v (List.mem_of_getElem? e2)
  rw [hPP] at key
  exact key
theorem hidden_eq {ns : List Int} {R C : Nat} (hl : ns.length ≤ 63) (hR : R ≤ 6) (hC : C ≤ 6) : ∃ H : List Bx, m__law_hidden [scr ns, .int R, .int C] [] = .ok (hidD H) [] ∧ In R C H ∧ H.length ≤ 36 ∧ H.Nodup := by
  refine fnS_of (P := fun x => ∃ H : List Bx, x = .ok (hidD H) [] ∧ In R C H ∧ H.length ≤ 36 ∧ H.Nodup) rfl ?_
  unfold b__law_hidden
  simp
  obtain ⟨I, hI⟩ : ∃ I : Nat → VS → Hv → Prop, I = fun i σ h => ∃ (x4 x5 x6 : Option D) (H : List Bx), σ = [some (scr ns), some (.int (R : Int)), some (.int (C : Int)), some (.cell 0), x4, x5, x6] ∧ h = [.lst (H.map bx)] ∧ In R C H ∧ H.length ≤ i * 6 ∧ H.Nodup ∧ ∀ b ∈ H, b.1 < i := ⟨_, rfl⟩
  unfold l__law_hidden_2
  refine Wp.range 0 R I (h0 := [.lst []]) (by simp (disch := omega)) (by rw [hI]; exact ⟨_, _, _, [], rfl, rfl, (fun r hr => nomatch hr), Nat.zero_le _, List.nodup_nil, fun r hr => nomatch hr⟩) ?_ ?_
  · intro i σ h hi hh
    rw [hI] at hh
    obtain ⟨x4, x5, x6, H, rfl, rfl, hin, lh, nd, lt⟩ := hh
    refine ⟨_, rfl, ?_⟩
    have iC0 : (0 : Int) ≤ (i : Int) * (C : Int) := Int.mul_nonneg (by omega) (by omega)
    have iC1 : (i : Int) * (C : Int) ≤ 36 := by
      have : (i : Int) * (C : Int) ≤ 6 * 6 := Int.mul_le_mul (by omega) (by omega) (by omega) (by omega)
      omega
    have mo : ∀ h, oMul (.int (i : Int)) (.int (C : Int)) h = .ok (.int ((i : Int) * C)) h := fun h => oMul77 (by omega) (by omega) (by omega) (by omega)
    obtain ⟨J, hJ⟩ : ∃ J : Nat → VS → Hv → Prop, J = fun j σ h => ∃ (x5 x6 : Option D) (H : List Bx), σ = [some (scr ns), some (.int (R : Int)), some (.int (C : Int)), some (.cell 0), some (.int (i : Int)), x5, x6] ∧ h = [.lst (H.map bx)] ∧ In R C H ∧ H.length ≤ i * 6 + j ∧ H.Nodup ∧ ∀ b ∈ H, b.1 < i ∨ (b.1 = i ∧ b.2 < j) := ⟨_, rfl⟩
    have e0 : (0 : Int) + (i : Int) = i := by omega
    simp [e0]
    unfold l__law_hidden_1
    refine Wp.range 0 C J (h0 := [.lst (H.map bx)]) (by simp (disch := omega)) (by rw [hJ]; exact ⟨_, _, H, rfl, rfl, hin, lh, nd, fun b hb => .inl (lt b hb)⟩) ?_ ?_
    · intro j σ h hj hh
      rw [hJ] at hh
      obtain ⟨x5, x6, H, rfl, rfl, hin, lh, nd, lt⟩ := hh
      refine ⟨_, rfl, ?_⟩
      have lH : H.length < 16777216 := by omega
      have e0 : (0 : Int) + (j : Int) = j := by omega
      have mo2 : ∀ h, oMul (.int 2) (.int ((i : Int) * C + j)) h = .ok (.int (2 * ((i : Int) * C + j))) h := fun h => oMul77 (by omega) (by omega) (by omega) (by omega)
      have mo4 : ∀ h, oMul (.int 4) (.int (H.length : Int)) h = .ok (.int (4 * (H.length : Int))) h := fun h => oMul77 (by omega) (by omega) (by omega) (by omega)
      obtain ⟨kk, hkk⟩ : ∃ kk : Int, kk = 9 + 2 * ((i : Int) * (C : Int) + j) := ⟨_, rfl⟩
      have k0 : 0 ≤ kk := by omega
      have k1 : kk ≤ 1000 := by omega
      have eb : D.tup [D.int (i : Int), D.int (j : Int)] = bx (i, j) := rfl
      by_cases q : 0 < drawF ns kk 4
      · have m4 : (0 : Int) < 4 + 4 * (H.length : Int) := by omega
        have dd := drawF_bd ns kk m4
        have w0 : 0 ≤ drawF ns kk (4 + 4 * (H.length : Int)) / 4 := by omega
        have w1 : drawF ns kk (4 + 4 * (H.length : Int)) / 4 < (H.length : Int) + 1 := by omega
        have mi := mInsert_c (xs := H.map bx) (d := bx (i, j)) w0 (by omega) (by rw [List.length_map]; exact lH)
        rw [ins_map] at mi
        have bl : ∀ h : Hv, h = [.lst (H.map bx)] → bLen [.cell 0] h = .ok (.int (H.length : Int)) h := fun h e => by subst e; simp
        simp (disch := omega) [mo, mo2, mo4, e0, ← hkk, draw_same, callP_draw, q, eb, mi]
        rw [hJ]
        obtain ⟨f1, f2⟩ := ins_in hin (b := (i, j)) ⟨hi, hj⟩ (drawF ns kk (4 + 4 * (H.length : Int)) / 4).toNat
        have ni : (i, j) ∉ H := fun z => by
          rcases lt _ z with w | w
          · exact absurd w (Nat.lt_irrefl _)
          · exact absurd w.2 (Nat.lt_irrefl _)
        generalize (drawF ns kk (4 + 4 * (H.length : Int)) / 4).toNat = p at f1 f2 ⊢
        have pm : (H.take p ++ [(i, j)] ++ H.drop p).Perm ((i, j) :: H) := by
          rw [List.append_assoc]
          show (H.take p ++ (i, j) :: H.drop p).Perm ((i, j) :: H)
          refine List.perm_middle.trans ?_
          rw [List.take_append_drop]
        refine ⟨_, _, H.take p ++ [(i, j)] ++ H.drop p, rfl, by simp, f1, by rw [f2]; omega, pm.nodup_iff.mpr (List.nodup_cons.mpr ⟨ni, nd⟩), fun b hb => ?_⟩
        rcases List.mem_cons.mp (pm.mem_iff.mp hb) with e | hb
        · subst e; exact .inr ⟨rfl, Nat.lt_succ_self _⟩
        · rcases lt b hb with w | w
          · exact .inl w
          · exact .inr ⟨w.1, by omega⟩
      · simp (disch := omega) [mo, mo2, e0, ← hkk, draw_same, callP_draw, q]
        rw [hJ]
        exact ⟨_, _, H, rfl, rfl, hin, by omega, nd, fun b hb => (lt b hb).imp id fun w => ⟨w.1, by omega⟩⟩
    · intro σ h hh
      rw [hJ] at hh
      obtain ⟨x5, x6, H, rfl, rfl, hin, lh, nd, lt⟩ := hh
      simp
      rw [hI]
      exact ⟨_, _, _, H, rfl, rfl, hin, by omega, nd, fun b hb => by rcases lt b hb with w | w <;> omega⟩
  · intro σ h hh
    rw [hI] at hh
    obtain ⟨x4, x5, x6, H, rfl, rfl, hin, lh, nd, lt⟩ := hh
    simp [frz_bxs]
    exact ⟨H, rfl, hin, by omega, nd⟩
end
end Lk38
namespace Lk38
open PySem PySem.Spec PyProof.Rows L2 VD PW PX PY PU PG PH GC
noncomputable section
def outC (n k : Nat) : Cell := .lst ((List.range k).map fun j => .cell (n + (1 + j)))
def oG (n : Nat) (g : Gd) : Hv := outC n g.length :: g.map rowC
theorem oG_len {n : Nat} {g : Gd} : (oG n g).length = 1 + g.length := by unfold oG; rw [List.length_cons, List.length_map]; omega
theorem own_ints {h : Hv} {f b : Nat} : ∀ r : List Int, ownA (ownD h (f + 1)) b (r.map D.int) = some (r.map D.int, [], [])
  | [] => rfl
  | v :: r => by
    have e : ownD h (f + 1) b (D.int v) = some (.int v, [], []) := rfl
    simp [ownA, e, own_ints (h := h) (f := f) (b := b) r]
theorem own_rows {h : Hv} {f : Nat} : ∀ (g : Gd) (s b : Nat), (∀ i r, g[i]? = some r → h[s + i]? = some (rowC r)) → ownA (ownD h (f + 2)) b ((List.range g.length).map fun i => .cell (s + i)) = some ((List.range g.length).map fun i => D.cell (b + i), g.map rowC, (List.range g.length).map fun i => s + i)
  | [], s, b, _ => rfl
  | r :: g, s, b, hh => by
    have h0 := hh 0 r rfl
    have hs : ∀ i r', g[i]? = some r' → h[(s + 1) + i]? = some (rowC r') := fun i r' e => by
      have := hh (i + 1) r' (by rw [List.getElem?_cons_succ]; exact e)
      rw [show s + 1 + i = s + (i + 1) by omega]; exact this
    have ih := own_rows (f := f) g (s + 1) (b + 1) hs
    have e0 : ownD h (f + 2) b (.cell (s + 0)) = some (.cell b, [rowC r], [s]) := by
      simp only [ownD, h0, rowC]
      rw [own_ints]
      rfl
    have er : ∀ z : Nat, ((List.range g.length).map fun i => D.cell (z + 1 + i)) = (List.range g.length).map ((fun i => D.cell (z + i)) ∘ Nat.succ) := fun z => List.map_congr_left fun i _ => by
      show D.cell _ = D.cell _
      rw [show z + 1 + i = z + (i + 1) by omega]
    rw [List.length_cons, List.range_succ_eq_map, List.map_cons, List.map_map, ← er]
    simp only [ownA, e0, List.length_singleton, ih]
    rw [er b, List.map_cons, List.map_cons, List.map_cons, List.map_map, List.map_map]
    congr 2
    congr 1
    show s :: _ = s :: _
    congr 1
    exact List.map_congr_left fun i _ => by show s + 1 + i = s + (i + 1); omega
theorem own_raised {g : Gd} {c : Came} : ownD (nH g) 12 0 (.tup [nC g, cameD c]) = some (.tup [.cell 0, cameD c], oG 0 g, g.length :: (List.range g.length).map fun i => 0 + i) := by
  have h1 : (nH g)[g.length]? = some (.lst ((List.range g.length).map .cell)) := by
    unfold nH
    rw [List.getElem?_append_right (by rw [hv_len]; exact Nat.le_refl _), hv_len, Nat.sub_self]; rfl
  have e1 := own_rows (h := nH g) (f := 8) g 0 1 (fun i r e => by
    have il := (List.getElem?_eq_some_iff.mp e).1
    unfold nH hv
    rw [Nat.zero_add, List.getElem?_append_left (by rw [List.length_map]; exact il), List.getElem?_map, e]; rfl)
  have e2 : ((List.range g.length).map fun i => D.cell (0 + i)) = (List.range g.length).map .cell := List.map_congr_left fun i _ => by rw [Nat.zero_add]
  rw [e2] at e1
  have e3 : ownD (nH g) 11 0 (nC g) = some (.cell 0, oG 0 g, g.length :: (List.range g.length).map fun i => 0 + i) := by
    unfold nC
    simp only [ownD, h1]
    rw [e1]
    unfold oG outC
    simp
  have e4 : ∀ b, ownD (nH g) 11 b (cameD c) = some (cameD c, [], []) := fun b => by
    show ((frz 0 [] (10 + 1) (cameD c)).map fun d' => (d', [], [])) = _
    rw [pure_came (n := 7)]; rfl
  have e5 : ownA (ownD (nH g) 11) 0 [nC g, cameD c] = some ([.cell 0, cameD c], oG 0 g, g.length :: (List.range g.length).map fun i => 0 + i) := by
    simp only [ownA, e3, e4]
    simp
  show (match ownA (ownD (nH g) 11) 0 [nC g, cameD c] with
    | some (ds', cs, ns) => some (D.tup ds', cs, ns)
    | none => none) = _
  rw [e5]
theorem nodup_out {n : Nat} : (n :: (List.range n).map fun i => 0 + i).Nodup := by
  refine List.nodup_cons.mpr ⟨fun z => ?_, ?_⟩
  · obtain ⟨i, hi, e⟩ := List.mem_map.mp z
    have := List.mem_range.mp hi
    omega
  · have e : ((List.range n).map fun i => 0 + i) = List.range n := by simp
    rw [e]; exact List.nodup_range
theorem gcS_of {sem : List D → Hv → VD.R D} {ds : List D} {d d' : D} {h cs : Hv} {ns : List Nat} (e : sem ds [] = .ok d h) (o : ownD h 12 0 d = some (d', cs, ns)) (nd : ns.Nodup) : gcS sem ds [] = .ok d' cs := by
  show gcR (sem ds []) = _
  rw [e]
  show (match ownD h 12 0 d with
    | some (d', cs, ns) => @ite _ ns.Nodup (Classical.propDecidable _) (VD.R.ok d' cs) .stuck
    | none => .stuck) = _
  rw [o]
  simp only
  rw [if_pos nd]
theorem shL_nats {n : Nat} (L : List Nat) : shL n (L.map fun n : Nat => D.int (n : Int)) = L.map fun n : Nat => D.int (n : Int) := by
  rw [shL_eq, List.map_map]; rfl
theorem shL_ints' {n : Nat} (L : List Int) : shL n (L.map D.int) = L.map D.int := by rw [shL_eq, List.map_map]; rfl
theorem sh_row {n : Nat} (r : List Int) : shC n (rowC r) = rowC r := by
  show Cell.lst (shL n (r.map D.int)) = _
  rw [shL_ints']; rfl
theorem sh_oG {n : Nat} {g : Gd} : (oG 0 g).map (shC n) = oG n g := by
  unfold oG
  rw [List.map_cons]
  congr 1
  · unfold outC
    show Cell.lst (shL n _) = _
    rw [shL_eq, List.map_map]
    congr 1
    apply List.map_congr_left
    intro j _
    show D.cell _ = D.cell _
    congr 1
    omega
  · rw [List.map_map]
    exact List.map_congr_left fun r _ => sh_row r
theorem sh_came {n : Nat} {c : Came} : shD n (cameD c) = cameD c := by
  unfold cameD
  show D.dct _ (shL n _) = _
  rw [shL_eq]
  congr 1
  unfold encK
  rw [List.map_map, List.map_map, List.map_map]
  apply List.map_congr_left
  intro p _
  show shD n (encO p.2) = encO p.2
  cases p.2 with
  | none => rfl
  | some q => rfl
theorem callC_low {sem : List D → Hv → VD.R D} {ds : List D} {g : Gd} {c : Came} (hp : pureD ds = some ds) (e : sem ds [] = .ok (.tup [nC g, cameD c]) (nH g)) (h : Hv) : callC (gcS sem) ds h = .ok (.tup [.cell h.length, cameD c]) (h ++ oG h.length g) := by
  have := callC_ok (h := h) hp (gcS_of e own_raised nodup_out)
  rw [this, sh_oG]
  congr 1
  show D.tup [D.cell (h.length + 0), shD _ (cameD c)] = _
  rw [sh_came, Nat.add_zero]
theorem sides_eq' {ns : List Nat} {R : Nat} (hl : ns.length ≤ 16777216) (h : Hv) : callC (gcS m_sides_of) [natsD ns, .int (R : Int)] h = .ok (.tup [.cell h.length, natsD (colsN ns R)]) (h ++ [.lst ((rowsN ns R).map fun n : Nat => .int (n : Int))]) := by
  have key : m_sides_of [natsD ns, .int (R : Int)] [] = .ok (.tup [.cell 0, natsD (colsN ns R)]) [.lst ((rowsN ns R).map fun n : Nat => .int (n : Int))] := by
    refine fnU_of (P := fun x => x = .ok (.tup [.cell 0, natsD (colsN ns R)]) [.lst ((rowsN ns R).map fun n : Nat => .int (n : Int))]) rfl ?_
    unfold b_sides_of
    have e1 : ∀ x h, c_sides_of_1 [some (natsD ns), some (.int (R : Int)), x] h = .ok ((ns.filter fun n => decide (R ≤ n)).map fun n : Nat => .int (((n - R : Nat)) : Int)) h := by
      intro x h
      unfold c_sides_of_1
      rw [lLc_filter (fun n : Nat => D.int (n : Int)) (fun n => decide (R ≤ n)) (fun n : Nat => .int (((n - R : Nat)) : Int)) ns (chk := always) (h0 := h) rfl rfl hl (fun n _ => ⟨_, rfl, by simp, fun q => by have := of_decide_eq_true q; simp; omega⟩)]
    have e2 : ∀ x h, c_sides_of_2 [some (natsD ns), some (.int (R : Int)), x] h = .ok ((ns.filter fun n => decide (n < R)).map fun n : Nat => .int (n : Int)) h := by
      intro x h
      unfold c_sides_of_2
      rw [lLc_filter (fun n : Nat => D.int (n : Int)) (fun n => decide (n < R)) (fun n : Nat => .int (n : Int)) ns (chk := always) (h0 := h) rfl rfl hl (fun n _ => ⟨_, rfl, by simp, fun q => by simp⟩)]
    have e3 : ((ns.filter fun n => decide (R ≤ n)).map fun n : Nat => D.int (((n - R : Nat)) : Int)) = (colsN ns R).map fun n : Nat => .int (n : Int) := by unfold colsN; rw [List.map_map]; rfl
    rw [e3] at e1
    simp [e1, e2]
    exact ⟨rfl, rfl⟩
  have o : ownD [.lst ((rowsN ns R).map fun n : Nat => D.int (n : Int))] 12 0 (.tup [.cell 0, natsD (colsN ns R)]) = some (.tup [.cell 0, natsD (colsN ns R)], [.lst ((rowsN ns R).map fun n : Nat => D.int (n : Int))], [0]) := by
    have f1 : ∀ b, ownA (ownD [.lst ((rowsN ns R).map fun n : Nat => D.int (n : Int))] 10) b ((rowsN ns R).map fun n : Nat => D.int (n : Int)) = some ((rowsN ns R).map fun n : Nat => D.int (n : Int), [], []) := fun b => by
      have := own_ints (h := [.lst ((rowsN ns R).map fun n : Nat => D.int (n : Int))]) (f := 9) (b := b) ((rowsN ns R).map fun n : Nat => (n : Int))
      rw [List.map_map] at this
      exact this
    have f2 : ∀ b, ownD [.lst ((rowsN ns R).map fun n : Nat => D.int (n : Int))] 11 b (natsD (colsN ns R)) = some (natsD (colsN ns R), [], []) := fun b => by
      show ((frz 0 [] (9 + 2) (natsD (colsN ns R))).map fun d' => (d', [], [])) = _
      rw [frz_nats]; rfl
    have f3 : ownD [.lst ((rowsN ns R).map fun n : Nat => D.int (n : Int))] 11 0 (.cell 0) = some (.cell 0, [.lst ((rowsN ns R).map fun n : Nat => D.int (n : Int))], [0]) := by
      simp only [ownD, List.getElem?_cons_zero]
      rw [f1]
    have f4 : ownA (ownD [.lst ((rowsN ns R).map fun n : Nat => D.int (n : Int))] 11) 0 [.cell 0, natsD (colsN ns R)] = some ([.cell 0, natsD (colsN ns R)], [.lst ((rowsN ns R).map fun n : Nat => D.int (n : Int))], [0]) := by
      simp only [ownA, f3, f2]
      simp
    show (match ownA (ownD [.lst ((rowsN ns R).map fun n : Nat => D.int (n : Int))] 11) 0 [.cell 0, natsD (colsN ns R)] with
      | some (ds', cs, ns) => some (D.tup ds', cs, ns)
      | none => none) = _
    rw [f4]
  have hp : pureD [natsD ns, .int (R : Int)] = some [natsD ns, .int (R : Int)] := by simp [frz_nats]
  rw [callC_ok (h := h) hp (gcS_of key o (by simp))]
  congr 1
  · show D.tup [D.cell (h.length + 0), D.lst (shL _ _)] = _
    rw [shL_nats, Nat.add_zero]; rfl
  · show h ++ [Cell.lst (shL _ _)] = _
    rw [shL_nats]
/-- lists of its own that are a table -/
structure At (h : Hv) (n : Nat) (g : Gd) : Prop where
  out : h[n]? = some (outC n g.length)
  row : ∀ i r, g[i]? = some r → h[n + (1 + i)]? = some (rowC r)
theorem At.here {h t : Hv} {n : Nat} {g : Gd} (e : h.length = n) : At (h ++ oG n g ++ t) n g := by
  subst e
  constructor
  · rw [List.append_assoc, List.getElem?_append_right (Nat.le_refl _), Nat.sub_self]; rfl
  · intro i r hi
    have il := (List.getElem?_eq_some_iff.mp hi).1
    rw [List.append_assoc, List.getElem?_append_right (by omega), show h.length + (1 + i) - h.length = i + 1 by omega]
    unfold oG
    rw [List.cons_append, List.getElem?_cons_succ, List.getElem?_append_left (by rw [List.length_map]; exact il), List.getElem?_map, hi]; rfl
theorem At.same {h h' : Hv} {n : Nat} {g : Gd} (a : At h n g) (e : ∀ k, n ≤ k → k ≤ n + g.length → h'[k]? = h[k]?) : At h' n g :=
  ⟨(e n (Nat.le_refl _) (by omega)).trans a.out, fun i r hi => by
    have il := (List.getElem?_eq_some_iff.mp hi).1
    rw [e _ (by omega) (by omega)]
    exact a.row i r hi⟩
theorem At.frz {h : Hv} {n m : Nat} {g : Gd} (a : At h n g) : frz 0 h (m + 3) (.cell n) = some (gD g) := by
  rw [frz_cell, if_neg (Nat.not_lt_zero _), a.out]
  show (optAll (VD.frz 0 h (m + 2)) ((List.range g.length).map fun j => D.cell (n + (1 + j)))).map D.lst = some (gD g)
  rw [optAll_map (g := VD.frz 0 h (m + 2)) (e := fun j => D.cell (n + (1 + j))) (e' := fun j => D.lst ((g[j]?.getD []).map .int)) fun j hj => ?_]
  · rw [range_map (fun r : List Int => D.lst (r.map .int)) [] g]; rfl
  · have jl := List.mem_range.mp hj
    rw [frz_cell, if_neg (Nat.not_lt_zero _), a.row j _ (List.getElem?_eq_getElem jl), List.getElem?_eq_getElem jl]
    show (optAll (VD.frz 0 h (m + 1)) (g[j].map D.int)).map D.lst = _
    rw [frz_ints]; rfl
theorem At.ix {h : Hv} {n R C : Nat} {g : Gd} (a : At h n g) (sh : Sh R C g) {b : Bx} (h1 : b.1 < R) (h2 : b.2 < C) : ixD h (.cell n) (b.1 : Int) = some (.cell (n + (1 + b.1))) ∧ ixD h (.cell (n + (1 + b.1))) (b.2 : Int) = some (.int (gv g b)) := by
  obtain ⟨row, e1, e2⟩ := gv_at sh h1 h2
  constructor
  · rw [ixD_cell, a.out]
    exact atI_map (e := fun j => D.cell (n + (1 + j))) (atI_at rfl (List.getElem?_range (by rw [sh.len]; exact h1)))
  · rw [ixD_cell, a.row _ _ e1]
    exact atI_map (atI_at rfl e2)
theorem own_at {h : Hv} {n f : Nat} {g : Gd} (a : At h n g) : ownD h (f + 3) n (.cell n) = some (.cell n, oG n g, (List.range (1 + g.length)).map fun i => n + i) := by
  have e1 := own_rows (h := h) (f := f) g (n + 1) (n + 1) (fun i r e => by rw [show n + 1 + i = n + (1 + i) by omega]; exact a.row i r e)
  have e2 : ((List.range g.length).map fun i => D.cell (n + 1 + i)) = (List.range g.length).map fun j => D.cell (n + (1 + j)) := List.map_congr_left fun i _ => by rw [show n + 1 + i = n + (1 + i) by omega]
  rw [e2] at e1
  have e3 : h[n]? = some (.lst ((List.range g.length).map fun j => D.cell (n + (1 + j)))) := a.out
  show (match h[n]? with
    | some (.lst ds) => (match ownA (ownD h (f + 2)) (n + 1) ds with
      | some (ds', cs, ns) => some (D.cell n, Cell.lst ds' :: cs, n :: ns)
      | none => none)
    | _ => none) = _
  rw [e3]
  simp only [e1]
  congr 3
  rw [Nat.add_comm 1 g.length, List.range_succ_eq_map, List.map_cons, List.map_map]
  congr 1
  exact List.map_congr_left fun i _ => by show n + 1 + i = n + (i + 1); omega
theorem own_nats {h : Hv} {n f : Nat} {L : List Nat} (e : h[n]? = some (.lst (L.map fun k : Nat => D.int (k : Int)))) : ownD h (f + 3) n (.cell n) = some (.cell n, [.lst (L.map fun k : Nat => D.int (k : Int))], [n]) := by
  have := own_ints (h := h) (f := f + 1) (b := n + 1) (L.map fun k : Nat => (k : Int))
  rw [List.map_map] at this
  have e1 : ownA (ownD h (f + 2)) (n + 1) (L.map fun k : Nat => D.int (k : Int)) = some (L.map fun k : Nat => D.int (k : Int), [], []) := this
  show (match h[n]? with
    | some (.lst ds) => (match ownA (ownD h (f + 2)) (n + 1) ds with
      | some (ds', cs, ns) => some (D.cell n, Cell.lst ds' :: cs, n :: ns)
      | none => none)
    | _ => none) = _
  rw [e]
  simp only [e1]
theorem own_val {h : Hv} {b f : Nat} {L : List Nat} : ownD h (f + 3) b (natsD L) = some (natsD L, [], []) := by
  show ((frz 0 [] (f + 3) (natsD L)).map fun d' => (d', [], [])) = _
  rw [frz_nats]; rfl
end
end Lk38
namespace Lk38
open PySem PySem.Spec PyProof.Rows L2 VD PW PX PY PU PG PH GC
noncomputable section
mutual
theorem shD_z : ∀ d : D, shD 0 d = d
  | .lst ds => by rw [shD, shL_z ds]
  | .fz ds => by rw [shD, shL_z ds]
  | .tup ds => by rw [shD, shL_z ds]
  | .cell m => by rw [shD, Nat.zero_add]
  | .non => rfl
  | .bl b => rfl
  | .int i => rfl
  | .str x => rfl
  | .raw v => rfl
  | .dct ks ds => by rw [shD, shL_z ds]
  | .obj c ks ds => by rw [shD, shL_z ds]
  | .exv a dd f d => by rw [shD, shD_z d]
theorem shL_z : ∀ ds : List D, shL 0 ds = ds
  | [] => rfl
  | d :: ds => by rw [shL, shD_z d, shL_z ds]
end
def natC (L : List Nat) : Cell := .lst (L.map fun n : Nat => .int (n : Int))
def n2F (R : Nat) (cell : Bx) (g1 : Gd) : Nat := if 0 < gv g1 cell then 1 + R + 1 else 1 + R
def n3F (R : Nat) (cell : Bx) (g1 : Gd) : Nat := n2F R cell g1 + (1 + R)
def belC (R : Nat) (cell : Bx) (g1 : Gd) (c1 : Came) : Hv := if 0 < gv g1 cell then [natC (rowsN (sortN (keys c1)) R)] else []
def toldH (R C : Nat) (cell : Bx) (g1 g2 : Gd) (c1 c2 : Came) : Hv := oG 0 g1 ++ belC R cell g1 c1 ++ oG (n2F R cell g1) g2 ++ [natC (rowsN (restN R C c2) R)]
def belD (R : Nat) (cell : Bx) (g1 : Gd) (c1 : Came) : D := if 0 < gv g1 cell then .tup [.cell (1 + R), natsD (colsN (sortN (keys c1)) R)] else .non
def toldC (R C : Nat) (cell : Bx) (g1 g2 : Gd) (c1 c2 : Came) : D := .tup [.int (gv g1 cell), .cell 0, belD R cell g1 c1, .int (gv g2 cell), .cell (n2F R cell g1), .tup [.cell (n3F R cell g1), natsD (colsN (restN R C c2) R)]]
theorem could_u {R C : Nat} {g : Gd} {H : List Bx} {cell : Bx} (sh : Sh R C g) (nn : Nn g) (hi : In R C H) (hc : cell ∈ H) (hl : H.length ≤ 16777216) (hb : R + C ≤ 50) :
    ∃ g1 g2 c1 c2, m_could_be [gD g, hidD H, bx cell] [] = .ok (toldC R C cell g1 g2 c1 c2) (toldH R C cell g1 g2 c1 c2) ∧ Could R C H cell g g1 g2 c1 c2 := by
  refine fnU_of (P := fun x => ∃ g1 g2 c1 c2, x = .ok (toldC R C cell g1 g2 c1 c2) (toldH R C cell g1 g2 c1 c2) ∧ Could R C H cell g g1 g2 c1 c2) rfl ?_
  unfold b_could_be
  obtain ⟨b1, b2⟩ := hi cell hc
  have e1 := boxes_again (x := .non) (is := 0) hl c_could_be_1 [some (gD g), some (hidD H), some (bx cell), none, none, none, none, none, none, none, none, none, none, none, none] [] 13 rfl rfl (by simp) (by decide)
  have e2 : D.lst (H.map bx) = hidD H := rfl
  have e3 := fun h => here_yes (h := h) (H := H) (a := cell.1) (b := cell.2) (List.mem_map.mpr ⟨cell, hc, rfl⟩)
  have e3 : ∀ h, oNotInP (bx cell) (hidD H) h = .ok (.bl false) h := e3
  have i0 : ∀ h : Hv, ixD h (bx cell) 0 = some (.int cell.1) := fun _ => rfl
  have i1 : ∀ h : Hv, ixD h (bx cell) 1 = some (.int cell.2) := fun _ => rfl
  have lg : ∀ h, lenD h (gD g) = some (R : Int) := fun h => by rw [← sh.len]; exact len_now (m := false)
  obtain ⟨d0, x0, _, y0⟩ := ixg (h := []) sh (r := 0) (c := 0) (by omega) (by omega)
  have x0 : ixD [] (gD g) 0 = some d0 := x0
  obtain ⟨g1, c1, l1, l2, l3⟩ := lowered_eq' sh nn hi hc hl (by omega)
  obtain ⟨g2, c2, u1, u2, u3⟩ := raised_eq' sh nn hi hc hl (by omega)
  have l1 := callC_low (by simp [frz_gD, frz_hid, frz_bx]) l1 []
  have u1 := callC_low (by simp [frz_gD, frz_hid, frz_bx]) u1
  rw [List.nil_append] at l1
  simp only [List.length_nil] at l1
  have L1 : (oG 0 g1).length = 1 + R := by rw [oG_len, l2.same.sh.len]
  have a1 : ∀ t, At (oG 0 g1 ++ t) 0 g1 := fun t => by
    have := At.here (h := []) (t := t) (n := 0) (g := g1) rfl
    rw [List.nil_append] at this
    exact this
  have ix1 := fun t => ((a1 t).ix l2.same.sh b1 b2).1
  have ix2 := fun t => ((a1 t).ix l2.same.sh b1 b2).2
  have ix10 := ix1 []
  have ix20 := ix2 []
  rw [List.append_nil, Nat.zero_add] at ix10 ix20
  have k1 := (l2.wf.bd hi (by omega)).2
  have s1 := fun h => sorted_came (c := c1) (h := h) (by omega)
  have hs1 : (sortN (keys c1)).length ≤ 16777216 := by rw [(sortN_perm _).length_eq]; unfold keys; rw [List.length_map]; omega
  have s2 : ∀ h, callC (gcS m_sides_of) [natsD (sortN (keys c1)), .int (R : Int)] h = .ok (.tup [.cell h.length, natsD (colsN (sortN (keys c1)) R)]) (h ++ [natC (rowsN (sortN (keys c1)) R)]) := sides_eq' (ns := sortN (keys c1)) (R := R) hs1
  have s3 : ∀ h, callC (gcS m_sides_of) [natsD (restN R C c2), .int (R : Int)] h = .ok (.tup [.cell h.length, natsD (colsN (restN R C c2) R)]) (h ++ [natC (rowsN (restN R C c2) R)]) := sides_eq' (ns := restN R C c2) (R := R) (by
    have : (restN R C c2).length ≤ (List.range (R + C)).length := List.length_filter_le _ _
    rw [List.length_range] at this
    omega)
  have cb : ∀ x3 x7 x8 x9 x10 x11 x13 x14 x12 h, c_could_be_2 [some (gD g), some (hidD H), some (bx cell), x3, x7, x8, some (.int ((R : Int) + (C : Int))), x9, x10, x11, x12, some (cameD c2), x13, x14, none] h = .ok ((restN R C c2).map fun n : Nat => .int (n : Int)) h := by
    intro x3 x7 x8 x9 x10 x11 x13 x14 x12 h
    unfold c_could_be_2
    have e : ((R : Int) + (C : Int)).toNat = R + C := by omega
    refine lLc_filter (fun n : Nat => D.int (0 + (n : Int))) (fun n => !decide (n ∈ keys c2)) (fun n : Nat => .int (n : Int)) (List.range (R + C)) (chk := always) (h0 := h) (show iR1 _ _ _ = .ok (rgD 0 (R + C), always) h by simp (disch := omega) [e]) rfl (by rw [List.length_range]; omega) (fun n _ => ⟨_, rfl, ?_, fun q => by simp⟩)
    · simp [kvOf_came, getD_isSome]
  have ep2 : D.tup [D.int (cell.1 : Int), D.int (cell.2 : Int)] = bx cell := rfl
  have s2' : D.lst ((sortN (keys c1)).map fun n : Nat => .int (n : Int)) = natsD (sortN (keys c1)) := rfl
  have s3' : D.lst ((restN R C c2).map fun n : Nat => .int (n : Int)) = natsD (restN R C c2) := rfl
  have a2 : ∀ (A t : Hv) n, A.length = n → ixD (A ++ oG n g2 ++ t) (.cell n) (cell.1 : Int) = some (.cell (n + (1 + cell.1))) ∧ ixD (A ++ oG n g2 ++ t) (.cell (n + (1 + cell.1))) (cell.2 : Int) = some (.int (gv g2 cell)) := fun A t n e => (At.here e).ix u2.same.sh b1 b2
  have L2 : ∀ n, (oG n g2).length = 1 + R := fun n => by rw [oG_len, u2.same.sh.len]
  by_cases q : 0 < gv g1 cell
  · have a21 := (a2 (oG 0 g1 ++ [natC (rowsN (sortN (keys c1)) R)]) [natC (rowsN (restN R C c2) R)] (1 + R + 1) (by rw [List.length_append, L1]; rfl)).1
    have a22 := (a2 (oG 0 g1 ++ [natC (rowsN (sortN (keys c1)) R)]) [natC (rowsN (restN R C c2) R)] (1 + R + 1) (by rw [List.length_append, L1]; rfl)).2
    simp [e1, e2, e3, ep2, i0, i1, lg, x0, y0, l1, ix10, ix20, q, s1, s2', s2, u1, L1, L2, a21, a22, cb, s3', s3, -ixD_cell, -List.append_assoc]
    exact ⟨g1, g2, c1, c2, ⟨by unfold toldC belD n3F n2F; rw [if_pos q, if_pos q], by unfold toldH belC n2F; rw [if_pos q, if_pos q]⟩, l2, l3, u2, u3⟩
  · have a21 := (a2 (oG 0 g1) [natC (rowsN (restN R C c2) R)] (1 + R) L1).1
    have a22 := (a2 (oG 0 g1) [natC (rowsN (restN R C c2) R)] (1 + R) L1).2
    simp [e1, e2, e3, ep2, i0, i1, lg, x0, y0, l1, ix10, ix20, q, s1, s2', s2, u1, L1, L2, a21, a22, cb, s3', s3, -ixD_cell, -List.append_assoc]
    exact ⟨g1, g2, c1, c2, ⟨by unfold toldC belD n3F n2F; rw [if_neg q, if_neg q], by unfold toldH belC n2F; rw [if_neg q, if_neg q, List.append_nil]⟩, l2, l3, u2, u3⟩
/-- where they lie -/
structure Lay (R C : Nat) (cell : Bx) (h : Hv) (g1 g2 : Gd) (c1 c2 : Came) : Prop where
  a1 : At h 0 g1
  a2 : At h (n2F R cell g1) g2
  a3 : h[n3F R cell g1]? = some (natC (rowsN (restN R C c2) R))
  a4 : 0 < gv g1 cell → h[1 + R]? = some (natC (rowsN (sortN (keys c1)) R))
theorem lay_told {R C : Nat} {cell : Bx} {g1 g2 : Gd} {c1 c2 : Came} (h1 : Sh R C g1) (h2 : Sh R C g2) : Lay R C cell (toldH R C cell g1 g2 c1 c2) g1 g2 c1 c2 := by
  have L1 : (oG 0 g1).length = 1 + R := by rw [oG_len, h1.len]
  have L2 : ∀ n, (oG n g2).length = 1 + R := fun n => by rw [oG_len, h2.len]
  have L3 : (oG 0 g1 ++ belC R cell g1 c1).length = n2F R cell g1 := by
    unfold belC n2F
    by_cases q : 0 < gv g1 cell
    · rw [if_pos q, if_pos q, List.length_append, L1]; rfl
    · rw [if_neg q, if_neg q, List.length_append, L1]; rfl
  refine ⟨?_, At.here L3, ?_, fun q => ?_⟩
  · unfold toldH
    have := At.here (h := []) (t := belC R cell g1 c1 ++ oG (n2F R cell g1) g2 ++ [natC (rowsN (restN R C c2) R)]) (n := 0) (g := g1) rfl
    rw [List.nil_append, ← List.append_assoc, ← List.append_assoc] at this
    exact this
  · unfold toldH
    have e : (oG 0 g1 ++ belC R cell g1 c1 ++ oG (n2F R cell g1) g2).length = n3F R cell g1 := by rw [List.length_append, L3, L2]; rfl
    rw [List.getElem?_append_right (by rw [e]; exact Nat.le_refl _), e, Nat.sub_self]; rfl
  · unfold toldH belC
    rw [if_pos q, List.append_assoc, List.append_assoc, List.getElem?_append_right (by rw [L1]; exact Nat.le_refl _), L1, Nat.sub_self]; rfl
theorem own_told {R C : Nat} {cell : Bx} {g1 g2 : Gd} {c1 c2 : Came} (h1 : Sh R C g1) (h2 : Sh R C g2) : ∃ ns : List Nat, ownD (toldH R C cell g1 g2 c1 c2) 12 0 (toldC R C cell g1 g2 c1 c2) = some (toldC R C cell g1 g2 c1 c2, toldH R C cell g1 g2 c1 c2, ns) ∧ ns.Nodup := by
  have L := lay_told (cell := cell) (c1 := c1) (c2 := c2) h1 h2
  generalize hh : toldH R C cell g1 g2 c1 c2 = h at L
  have o1 := own_at (f := 8) L.a1
  have o2 := own_at (f := 8) L.a2
  have o3 := own_nats (f := 7) L.a3
  have e1 : ∀ f b i, ownD h (f + 1) b (D.int i) = some (.int i, [], []) := fun _ _ _ => rfl
  have l1 : (oG 0 g1).length = 1 + R := by rw [oG_len, h1.len]
  have l2 : ∀ n, (oG n g2).length = 1 + R := fun n => by rw [oG_len, h2.len]
  rw [h1.len] at o1
  rw [h2.len] at o2
  have o4 : ownD h 11 (n3F R cell g1) (.tup [.cell (n3F R cell g1), natsD (colsN (restN R C c2) R)]) = some (.tup [.cell (n3F R cell g1), natsD (colsN (restN R C c2) R)], [natC (rowsN (restN R C c2) R)], [n3F R cell g1]) := by
    have e : ownA (ownD h 10) (n3F R cell g1) [.cell (n3F R cell g1), natsD (colsN (restN R C c2) R)] = some ([.cell (n3F R cell g1), natsD (colsN (restN R C c2) R)], [natC (rowsN (restN R C c2) R)], [n3F R cell g1]) := by
      simp only [ownA, o3, own_val]
      simp [natC]
    show (match ownA (ownD h 10) (n3F R cell g1) [.cell (n3F R cell g1), natsD (colsN (restN R C c2) R)] with
      | some (ds', cs, ns) => some (D.tup ds', cs, ns)
      | none => none) = _
    rw [e]
  have o5 : ownD h 11 (1 + R) (belD R cell g1 c1) = some (belD R cell g1 c1, belC R cell g1 c1, if 0 < gv g1 cell then [1 + R] else []) := by
    unfold belD belC
    by_cases q : 0 < gv g1 cell
    · rw [if_pos q, if_pos q, if_pos q]
      have o6 := own_nats (f := 7) (L.a4 q)
      have e : ownA (ownD h 10) (1 + R) [.cell (1 + R), natsD (colsN (sortN (keys c1)) R)] = some ([.cell (1 + R), natsD (colsN (sortN (keys c1)) R)], [natC (rowsN (sortN (keys c1)) R)], [1 + R]) := by
        simp only [ownA, o6, own_val]
        simp [natC]
      show (match ownA (ownD h 10) (1 + R) [.cell (1 + R), natsD (colsN (sortN (keys c1)) R)] with
        | some (ds', cs, ns) => some (D.tup ds', cs, ns)
        | none => none) = _
      rw [e]
    · rw [if_neg q, if_neg q, if_neg q]; rfl
  have lb : 1 + R + (belC R cell g1 c1).length = n2F R cell g1 := by
    unfold belC n2F
    by_cases q : 0 < gv g1 cell
    · rw [if_pos q, if_pos q]; rfl
    · rw [if_neg q, if_neg q]; rfl
  have l3 : n2F R cell g1 + (1 + R) = n3F R cell g1 := rfl
  refine ⟨((List.range (1 + R)).map fun i => 0 + i) ++ ((if 0 < gv g1 cell then [1 + R] else []) ++ (((List.range (1 + R)).map fun i => n2F R cell g1 + i) ++ [n3F R cell g1])), ?_, ?_⟩
  · have e : ownA (ownD h 11) 0 [.int (gv g1 cell), .cell 0, belD R cell g1 c1, .int (gv g2 cell), .cell (n2F R cell g1), .tup [.cell (n3F R cell g1), natsD (colsN (restN R C c2) R)]] = some ([.int (gv g1 cell), .cell 0, belD R cell g1 c1, .int (gv g2 cell), .cell (n2F R cell g1), .tup [.cell (n3F R cell g1), natsD (colsN (restN R C c2) R)]], h, ((List.range (1 + R)).map fun i => 0 + i) ++ ((if 0 < gv g1 cell then [1 + R] else []) ++ (((List.range (1 + R)).map fun i => n2F R cell g1 + i) ++ [n3F R cell g1]))) := by
      simp only [ownA, e1, o1, l1, List.length_nil, Nat.add_zero, Nat.zero_add, o5, lb, o2, l2, l3, o4]
      rw [← hh]
      unfold toldH
      simp
    show (match ownA (ownD h 11) 0 [.int (gv g1 cell), .cell 0, belD R cell g1 c1, .int (gv g2 cell), .cell (n2F R cell g1), .tup [.cell (n3F R cell g1), natsD (colsN (restN R C c2) R)]] with
      | some (ds', cs, ns) => some (D.tup ds', cs, ns)
      | none => none) = _
    rw [e]; rfl
  · have e0 : ((List.range (1 + R)).map fun i => 0 + i) = List.range (1 + R) := by simp
    have r1 : ∀ a : Nat, List.range (a + 1) = List.range a ++ [a] := fun a => List.range_succ
    have r2 : List.range (n2F R cell g1) = List.range (1 + R) ++ (if 0 < gv g1 cell then [1 + R] else []) := by
      unfold n2F
      by_cases q : 0 < gv g1 cell
      · rw [if_pos q, if_pos q, r1]
      · rw [if_neg q, if_neg q, List.append_nil]
    have r3 : List.range (n3F R cell g1) = List.range (n2F R cell g1) ++ (List.range (1 + R)).map fun i => n2F R cell g1 + i := List.range_add
    rw [e0, ← List.append_assoc, ← r2, ← List.append_assoc, ← r3, ← r1]
    exact List.nodup_range
theorem could_c {R C : Nat} {g : Gd} {H : List Bx} {cell : Bx} (sh : Sh R C g) (nn : Nn g) (hi : In R C H) (hc : cell ∈ H) (hl : H.length ≤ 16777216) (hb : R + C ≤ 50) :
    ∃ g1 g2 c1 c2, callC (gcS m_could_be) [gD g, hidD H, bx cell] [] = .ok (toldC R C cell g1 g2 c1 c2) (toldH R C cell g1 g2 c1 c2) ∧ Could R C H cell g g1 g2 c1 c2 := by
  obtain ⟨g1, g2, c1, c2, e, w⟩ := could_u sh nn hi hc hl hb
  obtain ⟨ns, o, nd⟩ := own_told (cell := cell) (c1 := c1) (c2 := c2) w.dn.same.sh w.up.same.sh
  refine ⟨g1, g2, c1, c2, ?_, w⟩
  have hp : pureD [gD g, hidD H, bx cell] = some [gD g, hidD H, bx cell] := by simp [frz_gD, frz_hid, frz_bx]
  rw [callC_ok (h := []) hp (gcS_of e o nd)]
  congr 1
  · exact shD_z _
  · rw [List.nil_append]
    have sc : ∀ xs : List D, shC 0 (.lst xs) = .lst xs := fun xs => by show Cell.lst (shL 0 xs) = _; rw [shL_z]
    have sg : ∀ n g, (oG n g).map (shC 0) = oG n g := fun n g => by
      unfold oG
      rw [List.map_cons, List.map_map]
      congr 1
      · exact sc _
      · exact List.map_congr_left fun r _ => sc _
    show (toldH R C cell g1 g2 c1 c2).map (shC 0) = _
    unfold toldH
    rw [List.map_append, List.map_append, List.map_append, sg, sg]
    congr 2
    congr 1
    unfold belC
    split
    · exact congrArg (fun c => [c]) (sc _)
    · rfl
    exact congrArg (fun c => [c]) (sc _)
theorem Lay.frz {R C : Nat} {cell : Bx} {h : Hv} {g1 g2 : Gd} {c1 c2 : Came} (L : Lay R C cell h g1 g2 c1 c2) : frz 0 h 12 (toldC R C cell g1 g2 c1 c2) = some (couldD R C cell g1 g2 c1 c2) := by
  have f1 := L.a1.frz (m := 8)
  have f2 := L.a2.frz (m := 8)
  have fc : ∀ {n m : Nat} {ns : List Nat}, h[n]? = some (natC ns) → VD.frz 0 h (m + 2) (.cell n) = some (natsD ns) := fun {n m ns} e => by
    rw [frz_cell, if_neg (Nat.not_lt_zero _), e]
    show (optAll (VD.frz 0 h (m + 1)) (ns.map fun n : Nat => D.int (n : Int))).map D.lst = _
    rw [optAll_map (g := VD.frz 0 h (m + 1)) (e := fun n : Nat => D.int (n : Int)) (e' := fun n : Nat => D.int (n : Int)) fun _ _ => rfl]; rfl
  have f3 := fc (m := 8) L.a3
  have hb : VD.frz 0 h 11 (belD R cell g1 c1) = some (if 0 < gv g1 cell then sidesD (sortN (keys c1)) R else .non) := by
    unfold belD
    by_cases q : 0 < gv g1 cell
    · rw [if_pos q, if_pos q]
      have f4 := fc (m := 8) (L.a4 q)
      simp [f4, frz_nats]
      rfl
    · rw [if_neg q, if_neg q]; rfl
  unfold toldC couldD
  simp [f1, f2, f3, hb, frz_nats]
  rfl
end
end Lk38
namespace Lk38
open PySem PySem.Spec PyProof.Rows L2 VD PW PX PY PU PG PH GC
noncomputable section
theorem whole_ok (v : Int) : ∀ h, callP m__law_whole [.int v] h = .ok (.bl true) h := cP (by
  refine fnS_of (P := fun x => x = .ok (.bl true) []) rfl ?_
  unfold b__law_whole
  simp [kII, kIB]) (by simp)
section
variable {R C : Nat} {g g' : Gd} {H : List Bx}
theorem sums_rows (sh : Sh R C g) {is : IS} {σ : VS} {h : Hv} {own : List Nat} {i : Nat} (hR : R ≤ 1000) (his : is σ h = .ok (g.map (fun r => D.lst (r.map .int)), always) h) (hi : i < (wipeV σ own).length) : lLc is (gN i) cYes (eCa bSum (aCons (eVar i) aNil)) own σ h = .ok (((List.range R).map fun r => rs g r).map .int) h := by
  have e : ((List.range R).map fun r => rs g r).map D.int = g.map fun r => D.int r.sum := by
    rw [List.map_map, ← sh.len]
    exact range_map (fun r : List Int => D.int r.sum) [] g
  rw [e]
  refine lLc_map (fun r : List Int => D.lst (r.map .int)) (fun r => .int r.sum) g his rfl (by rw [sh.len]; omega) fun r _ => ⟨_, rfl, ?_⟩
  simp [hi]
theorem sums_col (sh : Sh R C g) {is : IS} {σ : VS} {h : Hv} {own : List Nat} {i j k : Nat} (hR : R ≤ 1000) (hk : k < C) (his : is σ h = .ok (g.map (fun r => D.lst (r.map .int)), always) h) (hi : i < (wipeV σ own).length) (hj : ∀ d, ((wipeV σ own).set i (some d))[j]? = some (some (.int (k : Int)))) : lLc is (gN i) cYes (eOp oIx (eVar i) (eVar j)) own σ h = .ok ((g.map fun r => r[k]?.getD 0).map .int) h := by
  rw [List.map_map]
  refine lLc_map (fun r : List Int => D.lst (r.map .int)) (fun r => .int (r[k]?.getD 0)) g his rfl (by rw [sh.len]; omega) fun r hr => ⟨_, rfl, ?_⟩
  have e : ixD h (.lst (r.map .int)) (k : Int) = some (.int (r[k]?.getD 0)) := by
    have kr : k < r.length := by rw [sh.row r hr]; exact hk
    rw [List.getElem?_eq_getElem kr]
    exact atI_map (atI_at rfl (List.getElem?_eq_getElem kr))
  simp [hi, hj, e]
theorem table_ok (sh : Sh R C g) (hR : 0 < R ∧ R ≤ 6) (hC : 0 < C ∧ C ≤ 6) (s : Same R C H g g') : m__law_is_table [gD g', gD g, hidD H] [] = .ok (.bl true) [] := by
  refine fnS_of (P := fun x => x = .ok (.bl true) []) rfl ?_
  unfold b__law_is_table
  have sh' := s.sh
  have g0 := ixG sh hR.1
  have g0 : ∀ h, ixD h (gD g) 0 = some (.lst ((g[0]?.getD []).map .int)) := g0
  have l0 : (g[0]?.getD []).length = C := lenR sh hR.1
  have ty : ∀ h, tyName h (gD g') = some "list" := fun _ => rfl
  have i1 : ∀ x3 x4 x5 h, c__law_is_table_1 [some (gD g'), some (gD g), some (hidD H), x3, x4, x5] h = .ok (((List.range R).map fun r => rs g r).map .int) h := by
    intro x3 x4 x5 h
    unfold c__law_is_table_1
    have e : ((List.range R).map fun r => rs g r) = (List.range R).map fun r => rs g' r := List.map_congr_left fun r hr => (s.rs r (List.mem_range.mp hr)).symm
    rw [e]
    exact sums_rows sh' (by omega) rfl (by simp [wipeV])
  have i2 : ∀ x3 x4 x5 h, c__law_is_table_2 [some (gD g'), some (gD g), some (hidD H), x3, x4, x5] h = .ok (((List.range R).map fun r => rs g r).map .int) h := by
    intro x3 x4 x5 h
    unfold c__law_is_table_2
    exact sums_rows sh (by omega) rfl (by simp [wipeV])
  have eqr : ∀ h, eqD h (.lst (((List.range R).map fun r => rs g r).map .int)) (.lst (((List.range R).map fun r => rs g r).map .int)) = some true := fun h => eqD_same (p := .list (((List.range R).map fun r => rs g r).map .int)) (by simp [-List.map_map]) (by simp [-List.map_map])
  simp [ty, kll, lenG sh, lenG sh', -List.map_map]
  unfold l__law_is_table_2
  obtain ⟨I, hI⟩ : ∃ I : Nat → VS → Hv → Prop, I = fun i σ h => ∃ (x3 x4 x5 : Option D), σ = [some (gD g'), some (gD g), some (hidD H), x3, x4, x5] ∧ h = [] := ⟨_, rfl⟩
  refine Wp.range 0 R I (h0 := []) (by simp (disch := omega) [lenG sh]) (by rw [hI]; exact ⟨_, _, _, rfl, rfl⟩) ?_ ?_
  · intro r σ h hr hh
    rw [hI] at hh
    obtain ⟨x3, x4, x5, rfl, rfl⟩ := hh
    refine ⟨_, rfl, ?_⟩
    have e0 : (0 : Int) + (r : Int) = r := by omega
    simp [e0, ixG sh' hr, kll, lenR sh' hr, g0, l0]
    unfold l__law_is_table_1
    refine Wp.range 0 C (fun i σ h => ∃ (x4 x5 : Option D), σ = [some (gD g'), some (gD g), some (hidD H), some (.int (r : Int)), x4, x5] ∧ h = []) (h0 := []) (by simp (disch := omega) [g0, l0]) ⟨_, _, rfl, rfl⟩ ?_ ?_
    · intro c σ h hc hh
      obtain ⟨x4, x5, rfl, rfl⟩ := hh
      refine ⟨_, rfl, ?_⟩
      have e1 : (0 : Int) + (c : Int) = c := by omega
      have n0 : 0 ≤ gv g' (r, c) := s.nn (r, c)
      have eb : D.tup [D.int (r : Int), D.int (c : Int)] = bx (r, c) := rfl
      by_cases q : (r, c) ∈ H
      · have := (box_in (h := []) q).2
        simp [e1, ixG sh' hr, ixR sh' hr hc, whole_ok, n0, eb, this]
      · have := (box_out (h := []) q).2
        have n1 : 0 ≤ gv g (r, c) := by rw [← s.off _ q]; exact n0
        simp [e1, ixG sh' hr, ixR sh' hr hc, ixG sh hr, ixR sh hr hc, whole_ok, n0, n1, eb, this, s.off _ q]
    · intro σ h hh
      obtain ⟨x4, x5, rfl, rfl⟩ := hh
      simp
      rw [hI]
      exact ⟨_, _, _, rfl, rfl⟩
  · intro σ h hh
    rw [hI] at hh
    obtain ⟨x3, x4, x5, rfl, rfl⟩ := hh
    simp [i1, i2, eqr, -List.map_map]
    unfold l__law_is_table_3
    refine Wp.range 0 C I (h0 := []) (by simp (disch := omega) [g0, l0]) (by rw [hI]; exact ⟨_, _, _, rfl, rfl⟩) ?_ ?_
    · intro c σ h hc hh
      rw [hI] at hh
      obtain ⟨x3, x4, x5, rfl, rfl⟩ := hh
      refine ⟨_, rfl, ?_⟩
      have e1 : (0 : Int) + (c : Int) = c := by omega
      have j1 : ∀ h, c__law_is_table_3 [some (gD g'), some (gD g), some (hidD H), x3, some (.int (c : Int)), x5] h = .ok ((g'.map fun r => r[c]?.getD 0).map .int) h := fun h => by
        unfold c__law_is_table_3
        exact sums_col sh' (by omega) hc rfl (by simp [wipeV]) (fun d => rfl)
      have j2 : ∀ h, c__law_is_table_4 [some (gD g'), some (gD g), some (hidD H), x3, some (.int (c : Int)), x5] h = .ok ((g.map fun r => r[c]?.getD 0).map .int) h := fun h => by
        unfold c__law_is_table_4
        exact sums_col sh (by omega) hc rfl (by simp [wipeV]) (fun d => rfl)
      have ec : (g'.map fun r => r[c]?.getD 0).sum = (g.map fun r => r[c]?.getD 0).sum := s.cs c
      simp [e1, j1, j2, ec, -List.map_map]
      rw [hI]
      exact ⟨_, _, _, rfl, rfl⟩
    · intro σ h hh
      rw [hI] at hh
      obtain ⟨x3, x4, x5, rfl, rfl⟩ := hh
      simp
theorem places_ok {L : List Nat} {k : Nat} (hk : k ≤ 1000) (up : L.Pairwise (· < ·)) (hb : ∀ n ∈ L, n < k) : ∀ h, callP m__law_places [natsD L, .int (k : Int)] h = .ok (.bl true) h := cP (by
  refine fnS_of (P := fun x => x = .ok (.bl true) []) rfl ?_
  unfold b__law_places
  have ll := len_up up hb
  have ty : ∀ h, tyName h (natsD L) = some "list" := fun _ => rfl
  have c1 : ∀ x h, c__law_places_1 [some (natsD L), some (.int (k : Int)), x] h = .ok ((L.map fun _ => true).map .bl) h := by
    intro x h
    unfold c__law_places_1
    rw [List.map_map]
    exact lLc_map (fun n : Nat => D.int (n : Int)) (fun _ => .bl true) L (chk := always) (h0 := h) rfl rfl (by omega) fun n _ => ⟨_, rfl, by simp [whole_ok]⟩
  have st : ∀ h, bSortSet [natsD L] h = .ok (L.map fun n : Nat => .int (n : Int)) h := fun h => nats_sort (by omega) up
  have en : D.lst (L.map fun n : Nat => .int (n : Int)) = natsD L := rfl
  have al : (L.map fun _ => true).all id = true := by simp
  simp [ty, kll, c1, al, st, en, eq_nats, nats_nil, -List.map_map, -List.map_const', -List.map_const]
  by_cases q : L = []
  · simp [q]
  · have z : ∃ n, L[0]? = some n := by
      cases L with
      | nil => exact absurd rfl q
      | cons a L => exact ⟨a, rfl⟩
    obtain ⟨n, hn⟩ := z
    have x0 : ixD [] (natsD L) 0 = some (.int (n : Int)) := nats_ix (i := 0) hn
    obtain ⟨m, hm, xl⟩ := nats_last (h := []) q
    have n0 : (0 : Int) ≤ (n : Int) := by omega
    have mk := hb m hm
    simp [q, x0, xl, mk]) (by simp [frz_nats])
theorem ground_ok {cell : Bx} {v : Int} {low : Bool} {rs cs : List Nat} (sh : Sh R C g) (hR : 0 < R ∧ R ≤ 6) (hC : 0 < C ∧ C ≤ 6) (iH : In R C H) (lH : H.length ≤ 1000) (hc : cell ∈ H) (w : Gnd R C H cell g v low rs cs) : m__law_is_ground [.tup [natsD rs, natsD cs], gD g, hidD H, bx cell, .int v, .bl low] [] = .ok (.bl true) [] := by
  refine fnS_of (P := fun x => x = .ok (.bl true) []) rfl ?_
  unfold b__law_is_ground
  have g0 : ∀ h, ixD h (gD g) 0 = some (.lst ((g[0]?.getD []).map .int)) := ixG sh hR.1
  have l0 : (g[0]?.getD []).length = C := lenR sh hR.1
  have p1 := places_ok (k := R) (by omega) w.ur w.br
  have p2 := places_ok (k := C) (by omega) w.uc w.bc
  have i0 : ∀ h : Hv, ixD h (bx cell) 0 = some (.int cell.1) := fun _ => rfl
  have i1 : ∀ h : Hv, ixD h (bx cell) 1 = some (.int cell.2) := fun _ => rfl
  have m1 := fun h => (in_nats (h := h) (r := cell.1) (L := rs)).2
  have m2 := fun h => (in_nats (h := h) (r := cell.2) (L := cs)).1
  obtain ⟨b1, b3⟩ := iH cell hc
  have j0 : ∀ (b : Bx) (h : Hv), ixD h (bx b) 0 = some (.int b.1) := fun _ _ => rfl
  have j1 : ∀ (b : Bx) (h : Hv), ixD h (bx b) 1 = some (.int b.2) := fun _ _ => rfl
  have c1 : ∀ x7 x6 h, c__law_is_ground_1 [some (.tup [natsD rs, natsD cs]), some (gD g), some (hidD H), some (bx cell), some (.int v), some (.bl low), x6, x7, some (natsD rs), some (natsD cs)] h = .ok (((H.filter fun b => decide (b.1 ∈ rs)).map (gv g)).map .int) h := by
    intro x7 x6 h
    unfold c__law_is_ground_1
    rw [List.map_map]
    refine lLc_filter bx (fun b => decide (b.1 ∈ rs)) (fun b => .int (gv g b)) H (chk := always) (h0 := h) rfl rfl (by omega) fun b hb => ⟨_, rfl, ?_, fun _ => ?_⟩
    · simp [j0, in_nats]
    · obtain ⟨q1, q2⟩ := iH b hb
      simp [j0, j1, ixG sh q1, ixR sh q1 q2]
  have c2 : ∀ x7 x6 h, c__law_is_ground_2 [some (.tup [natsD rs, natsD cs]), some (gD g), some (hidD H), some (bx cell), some (.int v), some (.bl low), x6, x7, some (natsD rs), some (natsD cs)] h = .ok (((H.filter fun b => decide (b.2 ∈ cs)).map (gv g)).map .int) h := by
    intro x7 x6 h
    unfold c__law_is_ground_2
    rw [List.map_map]
    refine lLc_filter bx (fun b => decide (b.2 ∈ cs)) (fun b => .int (gv g b)) H (chk := always) (h0 := h) rfl rfl (by omega) fun b hb => ⟨_, rfl, ?_, fun _ => ?_⟩
    · simp [j1, in_nats]
    · obtain ⟨q1, q2⟩ := iH b hb
      simp [j0, j1, ixG sh q1, ixR sh q1 q2]
  have tw := w.two
  simp [ktt, lenG sh, g0, l0, p1, p2, i0, i1, m1, m2, w.cr, w.cc]
  unfold l__law_is_ground_1
  refine Wp.loopA bx H (fun i σ h => ∃ (x6 : Option D), σ = [some (.tup [natsD rs, natsD cs]), some (gD g), some (hidD H), some (bx cell), some (.int v), some (.bl low), x6, none, some (natsD rs), some (natsD cs)] ∧ h = []) (h0 := []) rfl ⟨_, rfl, rfl⟩ ?_ ?_
  · intro i b σ h hk hh
    obtain ⟨x6, rfl, rfl⟩ := hh
    refine ⟨_, rfl, ?_⟩
    have hb := List.mem_of_getElem? hk
    cases low with
    | false =>
      by_cases q : b.2 ∈ cs
      · have q2 := w.up rfl b hb q
        simp [j0, j1, in_nats, q, q2]
      · simp [j0, j1, in_nats, q]
    | true =>
      by_cases q0 : b = cell
      · simp [eqD_bx, q0]
      · by_cases q : b.1 ∈ rs
        · have q2 := w.dn rfl b hb q0 q
          simp [eqD_bx, q0, j0, j1, in_nats, q, q2]
        · simp [eqD_bx, q0, j0, j1, in_nats, q]
  · intro σ h hh
    obtain ⟨x6, rfl, rfl⟩ := hh
    simp [c1, c2, tw, -List.map_map]
theorem atI_5 {α : Type} {a b c d e f : α} {l : List α} : atI (a :: b :: c :: d :: e :: f :: l) 5 = some f := atI_at (j := 5) (by rfl) (by rfl)
theorem right_ok {cell : Bx} {g1 g2 : Gd} {c1 c2 : Came} (sh : Sh R C g) (nn : Nn g) (hR : 0 < R ∧ R ≤ 6) (hC : 0 < C ∧ C ≤ 6) (iH : In R C H) (lH : H.length ≤ 1000) (nd : H.Nodup) (hc : cell ∈ H) (w : Could R C H cell g g1 g2 c1 c2) :
    m__law_right [gD g, hidD H, bx cell, couldD R C cell g1 g2 c1 c2] [] = .ok (.bl true) [] := by
  refine fnS_of (P := fun x => x = .ok (.bl true) []) rfl ?_
  unfold b__law_right
  obtain ⟨b1, b2⟩ := iH cell hc
  have i0 : ∀ h : Hv, ixD h (bx cell) 0 = some (.int cell.1) := fun _ => rfl
  have i1 : ∀ h : Hv, ixD h (bx cell) 1 = some (.int cell.2) := fun _ => rfl
  have hp : ∀ x : Gd, pureD [gD x, gD g, hidD H] = some [gD x, gD g, hidD H] := fun x => by simp [frz_gD, frz_hid]
  have t1 := cP (table_ok sh hR hC w.dn.same) (hp _)
  have t2 := cP (table_ok sh hR hC w.up.same) (hp _)
  have k1 := cP (ground_ok sh hR hC iH lH hc (gnd_up sh w nd iH hc)) (by simp [frz_gD, frz_hid, frz_bx, frz_nats])
  have x1 : ∀ h : Hv, ixD h (gD g1) (cell.1 : Int) = some (.lst ((g1[cell.1]?.getD []).map .int)) := ixG w.dn.same.sh b1
  have x2 := ixG w.up.same.sh b1
  have y1 := ixR w.dn.same.sh b1 b2
  have y2 := ixR w.up.same.sh b1 b2
  have low := w.dn.same.nn cell
  unfold couldD
  by_cases q : 0 < gv g1 cell
  · have k2 := cP (ground_ok sh hR hC iH lH hc (gnd_dn sh w nd iH hc q)) (by simp [frz_gD, frz_hid, frz_bx, frz_nats])
    have q0 : gv g1 cell ≠ 0 := by omega
    simp [ktt, whole_ok, t1, t2, i0, i1, x1, x2, y1, y2, sides_are, atI_5, k1, q, q0, k2]
  · have q0 : gv g1 cell = 0 := by omega
    simp [ktt, whole_ok, t1, t2, i0, i1, x1, x2, y1, y2, sides_are, atI_5, k1, q, q0]
end
end
end Lk38
namespace Lk38
open PySem PySem.Spec PyProof.Rows L2 VD PW PX PY PU PG PH GC
noncomputable section
/-- behind the rows of a told table that grow -/
structure Grown (h h' : Hv) (n m k : Nat) : Prop where
  len : h'.length = h.length
  off : ∀ j, (∀ i < m, j ≠ n + (1 + i)) → h'[j]? = h[j]?
  row : ∀ i < m, ∃ xs : List Int, xs.length ≤ k ∧ h'[n + (1 + i)]? = some (.lst (xs.map .int))
theorem grow {Q : RS → Prop} {R C n : Nat} {g1 : Gd} {h : Hv} {σ0 : Option D → VS} {is : IS} {x8 : Option D} (sh : Sh R C g1) (hR : R ≤ 6) (hC : C ≤ 6) (a : At h n g1) (hn : n < h.length)
    (his : is (σ0 x8) h = .ok ((List.range g1.length).map fun j => .cell (n + (1 + j)), isCell n ((List.range g1.length).map fun j => .cell (n + (1 + j)))) h)
    (h8 : ∀ x d, gN 8 d (σ0 x) = some (σ0 (some d))) (v8 : ∀ d, (σ0 (some d))[8]? = some (some d))
    (fin : ∀ x h', Grown h h' n g1.length (C + R) → Wp Q (.next (σ0 x) h')) : Wp Q (sFor is (gN 8) (sDrop (eBM mAppend (eVar 8) (aCons (eK (.int 1)) (aNil)))) (σ0 x8) h) := by
  refine Wp.loop (fun j : Nat => D.cell (n + (1 + j))) (List.range g1.length) (fun i σ h' => ∃ x, σ = σ0 x ∧ Grown h h' n g1.length (C + i)) his ⟨x8, rfl, rfl, fun j _ => rfl, fun i hi => ?_⟩ ?_ ?_ ?_
  · exact ⟨g1[i], Nat.le_of_eq (sh.row _ (List.getElem_mem hi)), a.row i _ (List.getElem?_eq_getElem hi)⟩
  · rintro i σ h' ⟨x, rfl, w⟩
    refine isCell_of ?_
    rw [w.off n (fun i _ => by omega)]
    exact a.out
  · rintro i j σ h' hj ⟨x, rfl, w⟩
    refine ⟨σ0 (some (.cell (n + (1 + j)))), h8 _ _, ?_⟩
    obtain ⟨hlt, e⟩ := List.getElem?_eq_some_iff.mp hj
    rw [List.length_range] at hlt
    rw [List.getElem_range] at e
    subst e
    obtain ⟨xs, lx, hx⟩ := w.row i hlt
    have il : n + (1 + i) < h'.length := (List.getElem?_eq_some_iff.mp hx).1
    have lx2 : xs.length < 16777216 := by have := sh.len; omega
    have e1 : xs.map D.int ++ [.int 1] = (xs ++ [1]).map .int := by simp
    obtain ⟨J, hJ⟩ : ∃ J : VS → Hv → Prop, J = fun σ h' => ∃ x, σ = σ0 x ∧ Grown h h' n g1.length (C + (i + 1)) := ⟨_, rfl⟩
    rw [← hJ]
    simp [v8, hx, lx2, e1, -List.map_append]
    rw [hJ]
    refine ⟨_, rfl, by rw [List.length_set]; exact w.len, fun k hk => ?_, fun k hk => ?_⟩
    · rw [List.getElem?_set_ne (Ne.symm (hk i hlt))]
      exact w.off k hk
    · by_cases q : k = i
      · subst q
        refine ⟨xs ++ [1], by simp; omega, ?_⟩
        rw [List.getElem?_set_self il]
      · obtain ⟨ys, ly, hy⟩ := w.row k hk
        refine ⟨ys, by omega, ?_⟩
        rw [List.getElem?_set_ne (by omega)]
        exact hy
  · rintro σ h' ⟨x, rfl, w⟩
    rw [List.length_range] at w
    have e : g1.length = R := sh.len
    exact fin x h' ⟨w.len, w.off, fun i hi => by obtain ⟨xs, l, e⟩ := w.row i hi; exact ⟨xs, by omega, e⟩⟩
theorem frz_any {h : Hv} {n m f : Nat} (out : h[n]? = some (outC n m)) (row : ∀ i < m, ∃ xs : List Int, h[n + (1 + i)]? = some (.lst (xs.map .int))) : ∃ G : Gd, frz 0 h (f + 3) (.cell n) = some (gD G) := by
  obtain ⟨F, hF⟩ : ∃ F : Nat → List Int, ∀ i < m, h[n + (1 + i)]? = some (.lst ((F i).map .int)) := by
    refine ⟨fun i => @dite (List Int) (∃ xs : List Int, h[n + (1 + i)]? = some (.lst (xs.map .int))) (Classical.propDecidable _) (fun z => Classical.choose z) (fun _ => []), fun i hi => ?_⟩
    have z := row i hi
    simp only [z, dite_true]
    exact Classical.choose_spec z
  refine ⟨(List.range m).map F, ?_⟩
  rw [frz_cell, if_neg (Nat.not_lt_zero _), out]
  show (optAll (frz 0 h (f + 2)) ((List.range m).map fun j => D.cell (n + (1 + j)))).map D.lst = _
  rw [optAll_map (g := frz 0 h (f + 2)) (e := fun j => D.cell (n + (1 + j))) (e' := fun j => D.lst ((F j).map .int)) fun j hj => by
    rw [frz_cell, if_neg (Nat.not_lt_zero _), hF j (List.mem_range.mp hj)]
    show (optAll (frz 0 h (f + 1)) ((F j).map D.int)).map D.lst = _
    rw [frz_ints]; rfl]
  unfold gD
  rw [List.map_map]; rfl
theorem tail6 {ns : List Int} {R C : Nat} {g : Gd} {H : List Bx} (hl : ns.length ≤ 63) (sh : Sh R C g) (nn : Nn g) (hR : 0 < R ∧ R ≤ 6) (hC : 0 < C ∧ C ≤ 6) (iH : In R C H) (lH : H.length ≤ 36) (h0 : 0 < H.length) (nd : H.Nodup) :
    Wp (Rt fun x => x = .ok (.bl true) []) (t_law_6 [some (scr ns), some (.int (R : Int)), some (.int (C : Int)), some (gD g), some (hidD H), none, none, none, none, none] []) := by
  unfold t_law_6
  have lh : ∀ h, lenD h (hidD H) = some (H.length : Int) := fun h => by unfold hidD; rw [lenD_lst, List.length_map]
  have p5 : (0 : Int) < (H.length : Int) := by omega
  have d5 := drawF_bd ns 5 p5
  obtain ⟨p, hp⟩ : ∃ p : Nat, drawF ns 5 (H.length : Int) = (p : Int) := ⟨(drawF ns 5 H.length).toNat, by omega⟩
  obtain ⟨cell, hcell⟩ : ∃ cell, H[p]? = some cell := ⟨_, List.getElem?_eq_getElem (by omega)⟩
  have hc := List.mem_of_getElem? hcell
  obtain ⟨b1, b2⟩ := iH cell hc
  have x5 : ∀ h, ixD h (hidD H) (p : Int) = some (bx cell) := fun h => atI_map (e := bx) (atI_at rfl hcell)
  have i0 : ∀ h : Hv, ixD h (bx cell) 0 = some (.int cell.1) := fun _ => rfl
  have i1 : ∀ h : Hv, ixD h (bx cell) 1 = some (.int cell.2) := fun _ => rfl
  have cl : ∀ x5 x6 x7 x8 x9 h, c_law_1 [some (scr ns), some (.int (R : Int)), some (.int (C : Int)), some (gD g), some (hidD H), x5, x6, x7, x8, x9] h = .ok (g.map fun r => D.lst (r.map .int)) h := fun x5 x6 x7 x8 x9 h => by
    unfold c_law_1
    exact copy_gD (by rw [sh.len]; omega) rfl (fun r => ⟨_, rfl, rfl⟩)
  have eg : D.lst (g.map fun r => D.lst (r.map .int)) = gD g := rfl
  have eh : D.lst (H.map bx) = hidD H := rfl
  have bl : ∀ h, bList [hidD H] h = .ok (H.map bx) h := fun h => by unfold hidD; simp
  obtain ⟨g1, g2, c1, c2, e7, w⟩ := could_c sh nn iH hc (by omega) (by omega)
  have ro := right_ok sh nn hR hC iH (by omega) nd hc w
  have L := lay_told (cell := cell) (c1 := c1) (c2 := c2) w.dn.same.sh w.up.same.sh
  generalize hh : toldH R C cell g1 g2 c1 c2 = h at e7 L
  have fr := L.frz
  have rb : callB m__law_right [gD g, hidD H, bx cell, toldC R C cell g1 g2 c1 c2] h = .ok (.bl true) h := by
    refine callB_ok ?_ ro rfl
    simp [fr, frz_gD, frz_hid, frz_bx]
  have cd : ∀ h, callP drawM [scr ns, .int 5, .int (H.length : Int)] h = .ok (.int (p : Int)) h := fun h => by rw [← hp]; exact callP_draw (by decide) (by decide) p5 hl
  have xg : ∀ h : Hv, ixD h (gD g) (cell.1 : Int) = some (.lst ((g[cell.1]?.getD []).map .int)) := ixG sh b1
  have yg := ixR sh b1 b2
  have t0 : ∀ h, ixD h (toldC R C cell g1 g2 c1 c2) 0 = some (.int (gv g1 cell)) := fun h => by unfold toldC; simp
  have t1 : ∀ h, ixD h (toldC R C cell g1 g2 c1 c2) 1 = some (.cell 0) := fun h => by unfold toldC; simp
  have t3 : ∀ h, ixD h (toldC R C cell g1 g2 c1 c2) 3 = some (.int (gv g2 cell)) := fun h => by unfold toldC; simp
  have t4 : ∀ h, ixD h (toldC R C cell g1 g2 c1 c2) 4 = some (.cell (n2F R cell g1)) := fun h => by unfold toldC; simp
  have t5 : ∀ h, ixD h (toldC R C cell g1 g2 c1 c2) 5 = some (.tup [.cell (n3F R cell g1), natsD (colsN (restN R C c2) R)]) := fun h => by unfold toldC; simp [atI_5]
  obtain ⟨le1, le2⟩ := w.le
  have le3 : ¬ gv g cell < gv g1 cell := by omega
  have le4 : ¬ gv g2 cell < gv g cell := by omega
  simp (disch := omega) [draw_same, cd, lh, hp, x5, cl, eg, bl, eh, e7, eqD_kept, rb, i0, i1, xg, yg, t0, t1, t3, t4, t5, le1, le2, le3, le4]
  have nn2 : n2F R cell g1 = 1 + R ∨ n2F R cell g1 = 1 + R + 1 := by unfold n2F; split <;> simp
  have nn3 : n3F R cell g1 = n2F R cell g1 + (1 + R) := rfl
  have s1 := w.dn.same.sh
  have s2 := w.up.same.sh
  have ln1 := s1.len
  have ln2 := s2.len
  have n4 : 0 < gv g1 cell → n2F R cell g1 = 1 + R + 1 := fun q => by unfold n2F; rw [if_pos q]
  obtain ⟨σ0, hσ0⟩ : ∃ σ0 : Option D → VS, σ0 = fun x => [some (scr ns), some (.int (R : Int)), some (.int (C : Int)), some (gD g), some (hidD H), some (bx cell), some (.tup [gD g, hidD H]), some (toldC R C cell g1 g2 c1 c2), x, none] := ⟨_, rfl⟩
  have e0 : ∀ x, [some (scr ns), some (.int (R : Int)), some (.int (C : Int)), some (gD g), some (hidD H), some (bx cell), some (.tup [gD g, hidD H]), some (toldC R C cell g1 g2 c1 c2), x, none] = σ0 x := fun x => by rw [hσ0]
  rw [e0]
  unfold l_law_1
  refine grow (σ0 := σ0) s1 hR.2 hC.2 L.a1 (List.getElem?_eq_some_iff.mp L.a1.out).1 ?_ (fun x d => by rw [hσ0]; rfl) (fun d => by rw [hσ0]; rfl) fun x h1 G1 => ?_
  · rw [hσ0]
    have := L.a1.out
    unfold outC at this
    simp [t1, this]
  have a2 : At h1 (n2F R cell g1) g2 := L.a2.same fun k k1 k2 => G1.off k fun i hi => by omega
  have tb : callB m__law_is_table [.cell (n2F R cell g1), gD g, hidD H] h1 = .ok (.bl true) h1 := by
    refine callB_ok ?_ (table_ok sh hR hC w.up.same) rfl
    simp [a2.frz (m := 9), frz_gD, frz_hid]
  have q1 : (σ0 x)[7]? = some (some (toldC R C cell g1 g2 c1 c2)) ∧ (σ0 x)[3]? = some (some (gD g)) ∧ (σ0 x)[4]? = some (some (hidD H)) := by rw [hσ0]; exact ⟨rfl, rfl, rfl⟩
  obtain ⟨q7, q3, q4⟩ := q1
  simp [q7, q3, q4, t4, tb]
  unfold l_law_2
  refine grow (σ0 := σ0) s2 hR.2 hC.2 a2 (List.getElem?_eq_some_iff.mp a2.out).1 ?_ (fun x d => by rw [hσ0]; rfl) (fun d => by rw [hσ0]; rfl) fun x h2 G2 => ?_
  · have := a2.out
    unfold outC at this
    simp [q7, t4, this]
  have o2 : h2[n2F R cell g1]? = some (outC (n2F R cell g1) g2.length) := by rw [G2.off _ (fun i _ => by omega)]; exact a2.out
  have o3 : h2[n3F R cell g1]? = some (natC (rowsN (restN R C c2) R)) := by rw [G2.off _ (fun i _ => by omega), G1.off _ (fun i _ => by omega)]; exact L.a3
  have o4 : 0 < gv g1 cell → h2[1 + R]? = some (natC (rowsN (sortN (keys c1)) R)) := fun q => by
    have := n4 q
    rw [G2.off _ (fun i _ => by omega), G1.off _ (fun i _ => by omega)]; exact L.a4 q
  have o1 : h2[0]? = some (outC 0 g1.length) := by rw [G2.off _ (fun i _ => by omega), G1.off _ (fun i _ => by omega)]; exact L.a1.out
  have r1 : ∀ i < g1.length, ∃ xs : List Int, h2[0 + (1 + i)]? = some (.lst (xs.map .int)) := fun i hi => by
    obtain ⟨xs, _, e⟩ := G1.row i hi
    exact ⟨xs, by rw [G2.off _ (fun k _ => by omega)]; exact e⟩
  have u7 : (σ0 x)[7]? = some (some (toldC R C cell g1 g2 c1 c2)) := by rw [hσ0]; rfl
  have l3 : (rowsN (restN R C c2) R).length < 16777216 := by
    have : (rowsN (restN R C c2) R).length ≤ R := len_up (up_rowsN up_restN) fun n hn => (mem_rowsN.mp hn).2
    omega
  have lt3 : n3F R cell g1 < h2.length := (List.getElem?_eq_some_iff.mp o3).1
  have ne23 : n2F R cell g1 ≠ n3F R cell g1 := by omega
  have o3' : (h2.set (n2F R cell g1) (.lst []))[n3F R cell g1]? = some (natC (rowsN (restN R C c2) R)) := by rw [List.getElem?_set_ne ne23]; exact o3
  have ea : (rowsN (restN R C c2) R).map (fun n : Nat => D.int (n : Int)) ++ [.int 0] = (rowsN (restN R C c2) R ++ [0]).map fun n : Nat => D.int (n : Int) := by simp
  have t50 : ∀ h, ixD h (.tup [.cell (n3F R cell g1), natsD (colsN (restN R C c2) R)]) 0 = some (.cell (n3F R cell g1)) := fun h => by simp
  unfold outC at o2
  unfold natC at o3'
  simp [u7, t4, t5, t50, o2, o3', l3, ea, -List.map_append]
  obtain ⟨h4, hh4⟩ : ∃ h4, h4 = (h2.set (n2F R cell g1) (.lst [])).set (n3F R cell g1) (.lst ((rowsN (restN R C c2) R ++ [0]).map fun n : Nat => D.int (n : Int))) := ⟨_, rfl⟩
  rw [← hh4]
  have w1 : ∀ k, k ≠ n2F R cell g1 → k ≠ n3F R cell g1 → h4[k]? = h2[k]? := fun k k1 k2 => by rw [hh4, List.getElem?_set_ne (Ne.symm k2), List.getElem?_set_ne (Ne.symm k1)]
  obtain ⟨G, fG⟩ := frz_any (h := h4) (n := 0) (m := g1.length) (f := 8) (by rw [w1 0 (by omega) (by omega)]; exact o1) (fun i hi => by rw [w1 _ (by omega) (by omega)]; exact r1 i hi)
  have f2 : frz 0 h4 11 (.cell (n2F R cell g1)) = some (.lst []) := by
    have : h4[n2F R cell g1]? = some (.lst []) := by
      rw [hh4, List.getElem?_set_ne (Ne.symm ne23), List.getElem?_set_self (by omega)]
    rw [frz_cell, if_neg (Nat.not_lt_zero _), this]; rfl
  have f3 : frz 0 h4 10 (.cell (n3F R cell g1)) = some (natsD (rowsN (restN R C c2) R ++ [0])) := by
    have : h4[n3F R cell g1]? = some (.lst ((rowsN (restN R C c2) R ++ [0]).map fun n : Nat => D.int (n : Int))) := by
      rw [hh4, List.getElem?_set_self (by rw [List.length_set]; exact lt3)]
    rw [frz_cell, if_neg (Nat.not_lt_zero _), this]
    show (optAll (frz 0 h4 9) ((rowsN (restN R C c2) R ++ [0]).map fun n : Nat => D.int (n : Int))).map D.lst = _
    rw [optAll_map (g := frz 0 h4 9) (e := fun n : Nat => D.int (n : Int)) (e' := fun n : Nat => D.int (n : Int)) fun _ _ => rfl]; rfl
  obtain ⟨bX, fb, fb2⟩ : ∃ bX, frz 0 h4 11 (belD R cell g1 c1) = some bX ∧ ∀ h, frz 0 h 11 bX = some bX := by
    unfold belD
    by_cases q : 0 < gv g1 cell
    · rw [if_pos q]
      have e := w1 (1 + R) (by have := n4 q; omega) (by have := n4 q; omega)
      rw [o4 q] at e
      have f4 : frz 0 h4 10 (.cell (1 + R)) = some (natsD (rowsN (sortN (keys c1)) R)) := by
        rw [frz_cell, if_neg (Nat.not_lt_zero _), e]
        show (optAll (frz 0 h4 9) ((rowsN (sortN (keys c1)) R).map fun n : Nat => D.int (n : Int))).map D.lst = _
        rw [optAll_map (g := frz 0 h4 9) (e := fun n : Nat => D.int (n : Int)) (e' := fun n : Nat => D.int (n : Int)) fun _ _ => rfl]; rfl
      refine ⟨.tup [natsD (rowsN (sortN (keys c1)) R), natsD (colsN (sortN (keys c1)) R)], by simp [f4, frz_nats], fun h => by simp [frz_nats]⟩
    · rw [if_neg q]
      exact ⟨.non, rfl, fun _ => rfl⟩
  obtain ⟨TX, hTX⟩ : ∃ TX, TX = D.tup [.int (gv g1 cell), gD G, bX, .int (gv g2 cell), .lst [], .tup [natsD (rowsN (restN R C c2) R ++ [0]), natsD (colsN (restN R C c2) R)]] := ⟨_, rfl⟩
  have fT : frz 0 h4 12 (toldC R C cell g1 g2 c1 c2) = some TX := by
    unfold toldC
    rw [hTX]
    simp [fG, f2, f3, fb, frz_nats]
  have fT2 : ∀ h, frz 0 h 12 TX = some TX := fun h => by
    rw [hTX]
    simp [frz_gD, fb2, frz_nats]
  have sT : sl3D TX = some (.tup [.int (gv g1 cell), .int (gv g2 cell)]) := by rw [hTX]; rfl
  have sC : sl3D (couldD R C cell g1 g2 c1 c2) = some (.tup [.int (gv g1 cell), .int (gv g2 cell)]) := rfl
  have ro' := cP ro (by unfold couldD; by_cases q : 0 < gv g1 cell <;> simp [q, frz_gD, frz_hid, frz_bx, frz_nats, sidesD])
  have eqt : ∀ h, eqD h (.tup [.int (gv g1 cell), .int (gv g2 cell)]) (.tup [.int (gv g1 cell), .int (gv g2 cell)]) = some true := fun h => eqD_same (p := .tuple [.int (gv g1 cell), .int (gv g2 cell)]) (by simp) (by simp)
  rw [hσ0]
  simp [fT, frz_gD, frz_hid, frz_bx, e7, fr, fT2, eqD_kept, ro', eSl3_k, sT, sC, eqt]
theorem law_true : ∀ ns : List Int, ns.length ≤ 63 → m_law [.fz (ns.map .int)] [] = .ok (.bl true) [] := by
  intro ns hl
  refine fnS_of (P := fun x => x = .ok (.bl true) []) rfl ?_
  unfold b_law
  have d0 := drawF_bd ns 0 (m := 4) (by decide)
  have d1 := drawF_bd ns 1 (m := 4) (by decide)
  have d64 := drawF_bd ns 0 (m := 64) (by decide)
  obtain ⟨R, C, hR, hC, hr⟩ : ∃ R C : Nat, (0 < R ∧ R ≤ 6) ∧ (0 < C ∧ C ≤ 6) ∧ ∀ {Q : RS → Prop} (s : SS), Wp Q (s [some (scr ns), some (.int (R : Int)), some (.int (C : Int)), none, none, none, none, none, none, none] []) → Wp Q ((sSeq (sSet 1 (eOp oAdd (eK (.int 1)) (eCa (Cm.f .P m__law_draw) (aCons (eVar 0) (aCons (eK (.int 0)) (aCons (eK (.int 4)) (aNil))))))) (sSeq (sSet 2 (eOp oAdd (eK (.int 1)) (eCa (Cm.f .P m__law_draw) (aCons (eVar 0) (aCons (eK (.int 1)) (aCons (eK (.int 4)) (aNil))))))) (sSeq (sIf (toB (eOp oEq (eOp oFdiv (eCa (Cm.f .P m__law_draw) (aCons (eVar 0) (aCons (eK (.int 0)) (aCons (eK (.int 64)) (aNil))))) (eK (.int 4))) (eK (.int 9)))) (sSeq (sSet 1 (eK (.int 6))) (sSet 2 (eK (.int 6)))) (sNext)) s))) [some (scr ns), none, none, none, none, none, none, none, none, none] []) := by
    by_cases q : drawF ns 0 64 / 4 = 9
    · refine ⟨6, 6, by omega, by omega, fun {Q} s w => ?_⟩
      simp (disch := omega) [draw_same, callP_draw, q]
      exact w
    · refine ⟨(1 + drawF ns 0 4).toNat, (1 + drawF ns 1 4).toNat, by omega, by omega, fun {Q} s w => ?_⟩
      have e1 : (((1 + drawF ns 0 4).toNat : Nat) : Int) = 1 + drawF ns 0 4 := by omega
      have e2 : (((1 + drawF ns 1 4).toNat : Nat) : Int) = 1 + drawF ns 1 4 := by omega
      rw [e1, e2] at w
      simp (disch := omega) [draw_same, callP_draw, q]
      exact w
  refine hr _ ?_
  obtain ⟨g, g1, sh, nn⟩ := grid_eq (ns := ns) (R := R) (C := C) hl (by omega) (by omega)
  obtain ⟨H, h1, hi, lH, nd⟩ := hidden_eq (ns := ns) (R := R) (C := C) hl (by omega) (by omega)
  have g1 := cP g1
  have h1 := cP h1
  have lh : ∀ h, lenD h (hidD H) = some (H.length : Int) := fun h => by unfold hidD; rw [lenD_lst, List.length_map]
  have p3 : (0 : Int) < (R : Int) := by omega
  have p4 : (0 : Int) < (C : Int) := by omega
  have d3 := drawF_bd ns 3 p3
  have d4 := drawF_bd ns 4 p4
  by_cases q : H.length = 0
  · obtain ⟨x, hx⟩ : ∃ x : Nat, drawF ns 3 R = (x : Int) := ⟨(drawF ns 3 R).toNat, by omega⟩
    obtain ⟨y, hy⟩ : ∃ x : Nat, drawF ns 4 C = (x : Int) := ⟨(drawF ns 4 C).toNat, by omega⟩
    have t := tail6 (H := [(x, y)]) hl sh nn hR hC (fun b hb => by cases List.mem_singleton.mp hb; exact ⟨by show x < R; omega, by show y < C; omega⟩) (by simp) (by simp) (by simp)
    have q0 : H = [] := List.length_eq_zero_iff.mp q
    subst q0
    simp (disch := omega) [draw_same, callP_draw, g1, h1, lh, hx, hy]
    exact t
  · have q' : ¬ (H.length : Int) = 0 := by omega
    have t := tail6 hl sh nn hR hC hi lH (by omega) nd
    simp (disch := omega) [draw_same, callP_draw, g1, h1, lh, q']
    simp at q
    simp [q]
    exact t
end
end Lk38
namespace Lk38
open PySem PySem.Spec PyProof.Rows L2 VD
noncomputable section
abbrev R0 : PySem.W.OpenRow := PySem.W.OpenLaw.row PySem.Challenge.rw_crosshall_k38_whole_what_a_box_could_be
abbrev hk : PySem.W.Hook := VD.hookE 4 fas dfs efs
def ob (s : PySem.W.SharedT) : He.AlD × Bool := VD.obsE 4 fas dfs efs (HandSHeadRun.getT s)
theorem ob_eq (s : PySem.W.SharedT) : ob s = hk.obs s.abs := VD.obsE_eq (HandSHeadRun.getT_eq s)
def loose : List Str := (["CrossError", "NoVeil", "reached_sides", "boxes_between", "shift_boxes", "raised", "lowered", "sides_of", "could_be", "_law_draw", "_law_grid", "_law_hidden", "_law_whole", "_law_is_table", "_law_places", "_law_is_ground", "_law_right"] : List Str)
set_option maxHeartbeats 0 in
theorem runL (w : World) : VD.RunL R0 (PySem.W.view R0.prog [20]) 8000 loose w := by
  intro os
  kernel_rfl
set_option maxHeartbeats 0 in
theorem runO (w : World) : VD.RunO R0 ob hk.val 8000 w := by
  intro os
  kernel_rfl
theorem run (w : World) : HandSHeadRun.RunEq R0 (PySem.W.view R0.prog [20]) hk ob 8000 loose w := VD.run_of (runL w) (runO w)
end
end Lk38
open PySem PySem.W PySem.Calls PyProof.Rows
set_option maxHeartbeats 0 in
theorem PySem.Challenge.cw_crosshall_k38_whole_what_a_box_could_be_holds : PySem.Challenge.rw_crosshall_k38_whole_what_a_box_could_be.Holds := by
  w_on; o_law
  refine HandSHeadRun.head_any (r := OpenLaw.row PySem.Challenge.rw_crosshall_k38_whole_what_a_box_could_be) (q := view (OpenLaw.row PySem.Challenge.rw_crosshall_k38_whole_what_a_box_could_be).prog [20]) (H := Lk38.hk) (ob := Lk38.ob) (M := 8000) (loose := Lk38.loose) (d := HandSHeadRun.topDef (OpenLaw.row PySem.Challenge.rw_crosshall_k38_whole_what_a_box_could_be).prog 20) (kwd := []) Lk38.ob_eq
    (by kernel_rfl) (fun s => by kernel_rfl) Lk38.run (by kernel_rfl) (by kernel_rfl) (by kernel_rfl) (by rfl) (by first | assumption | decide +kernel) (by decide +kernel) ⟨rfl, rfl, rfl, rfl, rfl, by decide +kernel⟩ ?hw ?hc
  case hw => w_witness2
  case hc =>
    refine VD.walk_own (lw := PySem.Challenge.rw_crosshall_k38_whole_what_a_box_could_be) (num := 63) (lev := 5) (nm := "_law_script") (CC := L2.CX PySem.Challenge.pw_crosshall_k38_whole_what_a_box_could_be) rfl (by decide) (by kernel_rfl) ⟨rfl, by decide, by decide⟩ ?F (fun _ _ _ _ _ z => VD.cx_false z)
    intro w mg fa h Y G hmg0
    obtain ⟨K, KX, c, ce⟩ := Y
    have hmg : mg ("law" : PySem.Str) = some (.ref fa) := by
      have e : (HandSHeadRun.topDef (OpenLaw.row PySem.Challenge.rw_crosshall_k38_whole_what_a_box_could_be).prog 20).name = ("law" : PySem.Str) := by kernel_rfl
      rw [← e]
      exact hmg0
    have T := Lk38.tx_of KX G c ce
    exact VD.law_end KX T.d_law T.g_law hmg (fun fd F s u => by obtain ⟨_, _, _, _, _, _, _, _, _, rfl, _, _⟩ := F.ex; exact .of_eq rfl) (fun base => Lk38.ok_law T) Lk38.law_true
