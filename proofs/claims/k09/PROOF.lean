import PyProof.Rows.All
import Wide.All
import OpenK.AllK
import Wide.FinOn
import HandS.ForMost
import HandS.Exc
import HandS.TryOnly
import HandS.ExcOwn
import HandS.WordsExc
import HandS.IsInst
import HandS.Wide
import HandS.HeadHook1
import HandS.Lambda
import HandS.HeadHook4
import KE.KDictKeyed
import KE.KDictCopyH
import KE.SortKeyHeap
import HandS.Style
import KE.DatumMore
import HandS.SortInts
import HandS.Text
import KE.DataEq
import HandS.More
import HandS.HeadNt
import HandS.Head0
import HandS.Head1
import HandS.Head2
import HandS.HeadEnd
import HandS.HeadHook2
import HandS.Conv
import HandS.ExcIs
import HandS.ExcInit
import HandS.ExcField
import KE.KExcIs
import HandS.SortRule
import HandS.RaiseMore
import PyProof.StrOps2
import HandS.Rev
import HandS.TryMany
import HandS.SetKeys
import HandS.Strs
import HandS.TupSets
import HandS.HotCalls
import HandS.Zip
import HandS.Flt
import HandS.SetFor
import KE.KDictDisplayH
import HandS.ClsMeth
import HandS.SortKw
import KE.DataMinMax
import HandS.TupAny
import HandS.EndTab
import HandS.Deep
import HandS.HeadHook3
import PySem.Challenge.RW_crosshall_k09_sieve_texts
set_option Elab.async false
set_option linter.all false
set_option maxRecDepth 100000
set_option maxHeartbeats 4000000
namespace VD
open PySem PySem.Spec PyProof.Rows L2
/-- the table of code objects of a def of the top; the name of the lambdas in it -/
def tabA (K : PySem.W.Frag) (p : Str) : Addr := (He.cT K (p, none)).2
def tabQ (p : Str) : Str := p ++ ".<locals>." ++ "<lambda>"
inductive D where
  | non | bl (b : Bool) | int (i : Int) | str (x : Str) | lst (xs : List D) | fz (xs : List D) | tup (xs : List D) | cell (n : Nat) | raw (v : V)
  | dct (ks : List Key) (ds : List D) | obj (c : Str) (ks : List Str) (ds : List D) | exv (a dd : Addr) (f : Str) (d : D)
inductive Cell where
  | lst (xs : List D) | dK (kvs : List (Key × D)) | dF (kvs : List (Key × D)) | ins (c : Str) (fs : List (Str × D))
  | dN (w : World) (kvs : List (NestedKey × D))
  | tb (p : Str) (n : Nat)
abbrev VS := List (Option D)
abbrev Hv := List Cell
structure Xn where
  cls : Str
  pay : Option (Str × D)
inductive R (α : Type) where
  | ok (a : α) (h : Hv) | exc (x : Xn) (h : Hv) | stuck
def R.bind {α β : Type} (r : R α) (f : α → Hv → R β) : R β := match r with
  | .ok a h => f a h
  | .exc x h => .exc x h
  | .stuck => .stuck
@[simp] theorem R.bind_ok {α β : Type} (a : α) (h : Hv) (f : α → Hv → R β) : (R.ok a h).bind f = f a h := rfl
@[simp] theorem R.bind_exc {α β : Type} (x : Xn) (h : Hv) (f : α → Hv → R β) : (R.exc x h : R α).bind f = .exc x h := rfl
@[simp] theorem R.bind_stuck {α β : Type} (f : α → Hv → R β) : (R.stuck : R α).bind f = .stuck := rfl
abbrev ES := VS → Hv → R D
abbrev LS := VS → Hv → R (List D)
abbrev CS := VS → Hv → R Bool
inductive RS where
  | next (σ : VS) (h : Hv) | ret (d : D) (h : Hv) | brk (σ : VS) (h : Hv) | cont (σ : VS) (h : Hv) | exc (x : Xn) (σ : VS) (h : Hv) | stuck
abbrev SS := VS → Hv → RS
mutual
def nkD : NestedKey → D
  | .none => .non
  | .num i => .int i
  | .text x => .str x
  | .tup ks => .tup (nkDs ks)
def nkDs : List NestedKey → List D
  | [] => []
  | k :: ks => nkD k :: nkDs ks
end
/-- what stands at a: entries with keys, their tuples, values -/
def NDh (w : World) (a : Addr) (xs : List (NestedKey × Addr × V)) (h : Heap) : Prop := (a == sysModules) = false ∧ xs.length ≤ sizeLine ∧ (∀ x ∈ xs, x.1.depth ≤ 8) ∧ (xs.map (·.1)).Nodup ∧
  ∃ ys : List (NestedKey × Addr × Value), Paired (fun (p : NestedKey × Addr × V) (q : NestedKey × Addr × Value) => p.1 = q.1 ∧ p.2.1 = q.2.1 ∧ RelV p.2.2 q.2.2) xs ys ∧
    ∃ o es ep, h.get? a = some o ∧ o.ExactDict ∧ o.data = .dict es ep ∧ es.toList = ys.map fun y => ⟨y.1.hash w, .ref y.2.1, y.2.2⟩
abbrev NDO (w : World) (a : Addr) (xs : List (NestedKey × Addr × V)) : HO := .ext (NDh w a xs)
section
variable (K : PySem.W.Frag) (φ : List Addr) (S : Hp)
mutual
inductive Rp : V → D → Prop where
  | non : Rp .non .non
  | bl (b : Bool) : Rp (.bl b) (.bl b)
  | int (i : Int) : Rp (.int i) (.int i)
  | str (x : Str) : Rp (.str x) (.str x)
  | lst {a : Addr} {vs : List V} {ds : List D} : S a = some (.lst vs) → RpA vs ds → Rp (.ref a) (.lst ds)
  | fz {a : Addr} {vs : List V} {ds : List D} : SqL K S a vs → RpA vs ds → Rp (.ref a) (.fz ds)
  | tup {a : Addr} {vs : List V} {ds : List D} : SqT K S a vs → RpA vs ds → Rp (.ref a) (.tup ds)
  | cell {a : Addr} {n : Nat} : φ[n]? = some a → Rp (.ref a) (.cell n)
  | raw (v : V) : Rp v (.raw v)
  | dct {a : Addr} {od : Obj} {kv : List (Key × V)} {ks : List Key} {ds : List D} : S a = some (.frz od (.dK kv)) → kv.map (·.1) = ks → RpA (kv.map (·.2)) ds → Rp (.ref a) (.dct ks ds)
  | obj {a dx : Addr} {fv : List (Str × V)} {c : Str} {ks : List Str} {ds : List D} : S a = some (.ins (He.ga K c) dx fv) → fv.map (·.1) = ks → RpA (fv.map (·.2)) ds → Rp (.ref a) (.obj c ks ds)
  | exv {a dd : Addr} {f : Str} {v : V} {d : D} : S dd = some (.xd [(f, v)]) → Rp v d → Rp (.ref a) (.exv a dd f d)
inductive RpA : List V → List D → Prop where
  | nil : RpA [] []
  | cons {v : V} {vs : List V} {d : D} {ds : List D} : Rp v d → RpA vs ds → RpA (v :: vs) (d :: ds)
end
def RpC : Cell → HO → Prop
  | .lst ds, o => ∃ vs, o = .lst vs ∧ RpA K φ S vs ds
  | .dK kvs, o => ∃ kv : List (Key × V), o = .dK kv ∧ kv.map (·.1) = kvs.map (·.1) ∧ RpA K φ S (kv.map (·.2)) (kvs.map (·.2))
  | .dF kvs, o => ∃ (od : Obj) (kv : List (Key × V)), o = .frz od (.dK kv) ∧ kv.map (·.1) = kvs.map (·.1) ∧ RpA K φ S (kv.map (·.2)) (kvs.map (·.2))
  | .ins c fs, o => ∃ dx fv, o = .ins (He.ga K c) dx fv ∧ fv.map (·.1) = fs.map (·.1) ∧ RpA K φ S (fv.map (·.2)) (fs.map (·.2))
  | .dN w kvs, o => ∃ (a : Addr) (xs : List (NestedKey × Addr × V)), o = NDO w a xs ∧ xs.map (·.1) = kvs.map (·.1) ∧ (∀ x ∈ xs, Rp K [] S (.ref x.2.1) (nkD x.1)) ∧ RpA K φ S (xs.map (·.2.2)) (kvs.map (·.2))
  | .tb p n, o => φ[n]? = some (tabA K p) ∧ ∃ ps : Array Value, o = .tbl ps ∧ TriplesOk ps.toList ∧ ∀ (pos : Pos) (cv : Value), codeAmong pos ps.toList = some cv → ∃ c, cv = .ref c ∧ S c = some (LamX.CodeO c (tabQ p))
end
/-- more is known -/
def Ex (H H' : Hp) : Prop := ∀ a o, H a = some o → H' a = some o
theorem Ex.refl (H : Hp) : Ex H H := fun _ _ h => h
theorem Ex.trans {H H1 H2 : Hp} (a : Ex H H1) (b : Ex H1 H2) : Ex H H2 := fun x o h => b x o (a x o h)
theorem Ex.new {H : Hp} {p : Addr} {o : HO} (h : H p = none) : Ex H (upd H p o) := fun a u e => by
  rw [upd_ne (ne_of_none e h)]
  exact e
theorem Ex.rd {H H' : Hp} {a : Addr} {u : HO} (e : Ex H H') (h : Rd H a u) : Rd H' a u := by
  rcases h with h | ⟨o, h⟩
  · exact .inl (e a _ h)
  · exact .inr ⟨o, e a _ h⟩
theorem Ex.sql {K : PySem.W.Frag} {H H' : Hp} {a : Addr} {xs : List V} (e : Ex H H') (h : SqL K H a xs) : SqL K H' a xs := h.imp (fun z => e.rd z) id
theorem Ex.sqt {K : PySem.W.Frag} {H H' : Hp} {a : Addr} {xs : List V} (e : Ex H H') (h : SqT K H a xs) : SqT K H' a xs := h.imp (fun z => e.rd z) id
/-- the cells' addresses only grow -/
def Pre (φ φ' : List Addr) : Prop := ∃ ψ, φ' = φ ++ ψ
theorem Pre.refl (φ : List Addr) : Pre φ φ := ⟨[], (List.append_nil φ).symm⟩
theorem Pre.at {φ φ' : List Addr} (p : Pre φ φ') {n : Nat} {a : Addr} (h : φ[n]? = some a) : φ'[n]? = some a := by
  obtain ⟨ψ, rfl⟩ := p
  rw [List.getElem?_append_left (List.getElem?_eq_some_iff.mp h).1]
  exact h
section
variable {K : PySem.W.Frag} {φ φ' : List Addr} {S S' : Hp}
mutual
theorem Rp.mono (p : Pre φ φ') (e : Ex S S') : ∀ {v : V} {d : D}, Rp K φ S v d → Rp K φ' S' v d
  | _, _, .non => .non
  | _, _, .bl b => .bl b
  | _, _, .int i => .int i
  | _, _, .str x => .str x
  | _, _, .lst h r => .lst (e _ _ h) (RpA.mono p e r)
  | _, _, .fz h r => .fz (e.sql h) (RpA.mono p e r)
  | _, _, .tup h r => .tup (e.sqt h) (RpA.mono p e r)
  | _, _, .cell h => .cell (p.at h)
  | _, _, .raw v => .raw v
  | _, _, .dct h k r => .dct (e _ _ h) k (RpA.mono p e r)
  | _, _, .obj h k r => .obj (e _ _ h) k (RpA.mono p e r)
  | _, _, .exv h r => .exv (e _ _ h) (Rp.mono p e r)
theorem RpA.mono (p : Pre φ φ') (e : Ex S S') : ∀ {vs : List V} {ds : List D}, RpA K φ S vs ds → RpA K φ' S' vs ds
  | _, _, .nil => .nil
  | _, _, .cons r t => .cons (Rp.mono p e r) (RpA.mono p e t)
end
theorem RpC.mono (p : Pre φ φ') (e : Ex S S') {c : Cell} {o : HO} (h : RpC K φ S c o) : RpC K φ' S' c o := by
  cases c with
  | lst ds => obtain ⟨vs, h1, h2⟩ := h; exact ⟨vs, h1, h2.mono p e⟩
  | dK kvs => obtain ⟨vs, h1, h2, h3⟩ := h; exact ⟨vs, h1, h2, h3.mono p e⟩
  | dF kvs => obtain ⟨od, vs, h1, h2, h3⟩ := h; exact ⟨od, vs, h1, h2, h3.mono p e⟩
  | ins C fs => obtain ⟨dx, vs, h1, h2, h3⟩ := h; exact ⟨dx, vs, h1, h2, h3.mono p e⟩
  | dN w kvs => obtain ⟨a, xs, h1, h2, h3, h4⟩ := h; exact ⟨a, xs, h1, h2, fun x hx => (h3 x hx).mono (Pre.refl []) e, h4.mono p e⟩
  | tb m n => obtain ⟨h0, ps, h1, h2, h3⟩ := h; exact ⟨p.at h0, ps, h1, h2, fun pos cv hc => let ⟨c, e1, e2⟩ := h3 pos cv hc; ⟨c, e1, e _ _ e2⟩⟩
theorem RpA.length {vs : List V} {ds : List D} : RpA K φ S vs ds → vs.length = ds.length := by
  intro h
  induction ds generalizing vs with
  | nil => cases h; rfl
  | cons d ds ih =>
    cases h with
    | cons r t => rw [List.length_cons, List.length_cons, ih t]
theorem RpA.at {vs : List V} {ds : List D} (h : RpA K φ S vs ds) {i : Nat} {d : D} (hd : ds[i]? = some d) : ∃ v, vs[i]? = some v ∧ Rp K φ S v d := by
  induction ds generalizing vs i with
  | nil => simp at hd
  | cons d' ds ih =>
    cases h with
    | cons r t =>
      cases i with
      | zero =>
        rw [List.getElem?_cons_zero] at hd ⊢
        cases hd
        exact ⟨_, rfl, r⟩
      | succ i =>
        rw [List.getElem?_cons_succ] at hd ⊢
        exact ih t hd
theorem RpA.append {vs ws : List V} {ds es : List D} (h : RpA K φ S vs ds) (k : RpA K φ S ws es) : RpA K φ S (vs ++ ws) (ds ++ es) := by
  induction ds generalizing vs with
  | nil => cases h; exact k
  | cons d ds ih =>
    cases h with
    | cons r t => exact .cons r (ih t)
theorem RpA.set {vs : List V} {ds : List D} {v : V} {d : D} (h : RpA K φ S vs ds) (r : Rp K φ S v d) (i : Nat) : RpA K φ S (vs.set i v) (ds.set i d) := by
  induction ds generalizing vs i with
  | nil => cases h; exact .nil
  | cons d' ds ih =>
    cases h with
    | cons r' t =>
      cases i with
      | zero => exact .cons r t
      | succ i => exact .cons r' (ih t i)
theorem RpA.take {vs : List V} {ds : List D} (h : RpA K φ S vs ds) (i : Nat) : RpA K φ S (vs.take i) (ds.take i) := by
  induction ds generalizing vs i with
  | nil => cases h; rw [List.take_nil, List.take_nil]; exact .nil
  | cons d' ds ih =>
    cases h with
    | cons r' t =>
      cases i with
      | zero => exact .nil
      | succ i => exact .cons r' (ih t i)
theorem RpA.drop {vs : List V} {ds : List D} (h : RpA K φ S vs ds) (i : Nat) : RpA K φ S (vs.drop i) (ds.drop i) := by
  induction ds generalizing vs i with
  | nil => cases h; rw [List.drop_nil, List.drop_nil]; exact .nil
  | cons d' ds ih =>
    cases h with
    | cons r' t =>
      cases i with
      | zero => exact .cons r' t
      | succ i => exact ih t i
theorem RpA.reverse {vs : List V} {ds : List D} (h : RpA K φ S vs ds) : RpA K φ S vs.reverse ds.reverse := by
  induction ds generalizing vs with
  | nil => cases h; exact .nil
  | cons d ds ih =>
    cases h with
    | cons r t =>
      rw [List.reverse_cons, List.reverse_cons]
      exact (ih t).append (.cons r .nil)
theorem RpA.of_ints (ns : List Int) : RpA K φ S (ns.map .int) (ns.map .int) := by
  induction ns with
  | nil => exact .nil
  | cons n ns ih => exact .cons (.int n) ih
end
structure Rel (K : PySem.W.Frag) (φ : List Addr) (S H : Hp) (h : Hv) : Prop where
  len : φ.length = h.length
  sub : Ex S H
  nd : φ.Nodup
  cel : ∀ (n : Nat) (a : Addr) (c : Cell), φ[n]? = some a → h[n]? = some c → S a = none ∧ ∃ o, H a = some o ∧ RpC K φ S c o
structure Step (φ : List Addr) (S H : Hp) (φ' : List Addr) (S' H' : Hp) : Prop where
  pre : ∃ ψ, φ' = φ ++ ψ ∧ ∀ a ∈ ψ, H a = none
  sub : Ex S S'
  old : ∀ a, H a ≠ none → S' a = S a
  keep : ∀ a o, H a = some o → a ∉ φ → H' a = some o
  there : ∀ a, H a ≠ none → H' a ≠ none
  frz : ∀ a od u, H a = some (.frz od u) → H' a = some (.frz od u)
theorem Step.refl (φ : List Addr) (S H : Hp) : Step φ S H φ S H := ⟨⟨[], (List.append_nil φ).symm, fun _ z => nomatch z⟩, Ex.refl S, fun _ _ => rfl, fun _ _ e _ => e, fun _ z => z, fun _ _ _ z => z⟩
theorem Step.prefix {φ φ' : List Addr} {S H S' H' : Hp} (s : Step φ S H φ' S' H') : Pre φ φ' := let ⟨ψ, e, _⟩ := s.pre; ⟨ψ, e⟩
theorem Step.trans {φ φ1 φ2 : List Addr} {S H S1 H1 S2 H2 : Hp} (a : Step φ S H φ1 S1 H1) (b : Step φ1 S1 H1 φ2 S2 H2) : Step φ S H φ2 S2 H2 := by
  obtain ⟨⟨ψ, e, hn⟩, a2, a3, a4, a5, a6⟩ := a
  obtain ⟨⟨ψ', e', hn'⟩, b2, b3, b4, b5, b6⟩ := b
  have nil : ∀ a, H1 a = none → H a = none := fun a z => by
    cases q : H a with
    | none => rfl
    | some o => exact absurd z (a5 a (by rw [q]; exact fun y => nomatch y))
  refine ⟨⟨ψ ++ ψ', by rw [e', e, List.append_assoc], fun x hx => ?_⟩, a2.trans b2, fun x hx => (b3 x (a5 x hx)).trans (a3 x hx), fun x o hx hn2 => ?_, fun x hx => b5 x (a5 x hx), fun x o u z => b6 x o u (a6 x o u z)⟩
  · rcases List.mem_append.mp hx with z | z
    · exact hn x z
    · exact nil x (hn' x z)
  · refine b4 x o (a4 x o hx hn2) fun z => ?_
    rw [e] at z
    rcases List.mem_append.mp z with z | z
    · exact hn2 z
    · have := hn x z
      rw [this] at hx
      cases hx
theorem Step.fresh {φ φ' : List Addr} {S H S' H' : Hp} (s : Step φ S H φ' S' H') {a : Addr} (h : H' a = none) : H a = none := by
  cases q : H a with
  | none => rfl
  | some o => exact absurd h (s.there a (by rw [q]; exact fun y => nomatch y))
theorem Rel.at {K : PySem.W.Frag} {φ : List Addr} {S H : Hp} {h : Hv} (r : Rel K φ S H h) {n : Nat} {a : Addr} (e : φ[n]? = some a) : ∃ c, h[n]? = some c := by
  have h1 := (List.getElem?_eq_some_iff.mp e).1
  rw [r.len] at h1
  exact ⟨_, List.getElem?_eq_getElem h1⟩
theorem Rel.mem {K : PySem.W.Frag} {φ : List Addr} {S H : Hp} {h : Hv} (r : Rel K φ S H h) {a : Addr} (e : a ∈ φ) : S a = none ∧ H a ≠ none := by
  obtain ⟨n, hn⟩ := List.getElem?_of_mem e
  obtain ⟨c, hc⟩ := r.at hn
  obtain ⟨h1, o, h2, _⟩ := r.cel n a c hn hc
  exact ⟨h1, by rw [h2]; exact fun z => nomatch z⟩
theorem Rel.snone {K : PySem.W.Frag} {φ : List Addr} {S H : Hp} {h : Hv} (r : Rel K φ S H h) {a : Addr} (e : H a = none) : S a = none := by
  cases q : S a with
  | none => rfl
  | some o =>
    rw [r.sub a o q] at e
    cases e
theorem Rel.notin {K : PySem.W.Frag} {φ : List Addr} {S H : Hp} {h : Hv} (r : Rel K φ S H h) {a : Addr} (e : H a = none) : a ∉ φ := fun z => (r.mem z).2 e
/-- a new thing that never changes -/
theorem Rel.lay {K : PySem.W.Frag} {φ : List Addr} {S H : Hp} {h : Hv} (r : Rel K φ S H h) {p : Addr} {o : HO} (hp : H p = none) : Rel K φ (upd S p o) (upd H p o) h ∧ Step φ S H φ (upd S p o) (upd H p o) := by
  have sp := r.snone hp
  refine ⟨⟨r.len, fun a u e => ?_, r.nd, fun n a c e1 e2 => ?_⟩, ⟨⟨[], (List.append_nil φ).symm, fun _ z => nomatch z⟩, Ex.new sp, fun a ha => ?_, fun a u e _ => ?_, fun a ha => ?_, fun a o' u e => by rw [upd_ne (ne_of_none e hp)]; exact e⟩⟩
  · by_cases q : a = p
    · subst q
      rw [upd_same] at e ⊢
      exact e
    · rw [upd_ne q] at e ⊢
      exact r.sub a u e
  · obtain ⟨h1, o', h2, h3⟩ := r.cel n a c e1 e2
    have q : a ≠ p := ne_of_none h2 hp
    exact ⟨by rw [upd_ne q]; exact h1, o', by rw [upd_ne q]; exact h2, h3.mono (Pre.refl φ) (Ex.new sp)⟩
  · have q : a ≠ p := fun z => ha (by rw [z]; exact hp)
    rw [upd_ne q]
  · rw [upd_ne (ne_of_none e hp)]
    exact e
  · have q : a ≠ p := fun z => ha (by rw [z]; exact hp)
    rw [upd_ne q]
    exact ha
/-- a new thing, known to the heap alone -/
theorem Rel.hold {K : PySem.W.Frag} {φ : List Addr} {S H : Hp} {h : Hv} (r : Rel K φ S H h) {p : Addr} {o : HO} (hp : H p = none) : Rel K φ S (upd H p o) h ∧ Step φ S H φ S (upd H p o) := by
  refine ⟨⟨r.len, r.sub.trans (Ex.new hp), r.nd, fun n a c e1 e2 => ?_⟩, ⟨⟨[], (List.append_nil φ).symm, fun _ z => nomatch z⟩, Ex.refl S, fun a ha => rfl, fun a u e _ => ?_, fun a ha => ?_, fun a o' u e => by rw [upd_ne (ne_of_none e hp)]; exact e⟩⟩
  · obtain ⟨h1, o', h2, h3⟩ := r.cel n a c e1 e2
    have q : a ≠ p := ne_of_none h2 hp
    exact ⟨h1, o', by rw [upd_ne q]; exact h2, h3⟩
  · rw [upd_ne (ne_of_none e hp)]
    exact e
  · have q : a ≠ p := fun z => ha (by rw [z]; exact hp)
    rw [upd_ne q]
    exact ha
/-- what is held becomes what never changes -/
theorem Rel.still {K : PySem.W.Frag} {φ : List Addr} {S H : Hp} {h : Hv} (r : Rel K φ S H h) {p : Addr} {o : HO} (hp : H p = some o) (hs : S p = none) (hn : p ∉ φ) : Rel K φ (upd S p o) H h := by
  refine ⟨r.len, fun a u e => ?_, r.nd, fun n a c e1 e2 => ?_⟩
  · by_cases q : a = p
    · subst q
      rw [upd_same] at e
      rw [hp]
      exact e
    · rw [upd_ne q] at e
      exact r.sub a u e
  · obtain ⟨h1, o', h2, h3⟩ := r.cel n a c e1 e2
    have q : a ≠ p := fun z => hn (by rw [← z]; exact List.mem_of_getElem? e1)
    exact ⟨by rw [upd_ne q]; exact h1, o', h2, h3.mono (Pre.refl φ) (Ex.new hs)⟩
/-- what is held becomes a cell -/
theorem Rel.celled {K : PySem.W.Frag} {φ : List Addr} {S H : Hp} {h : Hv} (r : Rel K φ S H h) {p : Addr} {o : HO} {c : Cell} (hp : H p = some o) (hs : S p = none) (hn : p ∉ φ) (hc : RpC K φ S c o) : Rel K (φ ++ [p]) S H (h ++ [c]) := by
  have pr : Pre φ (φ ++ [p]) := ⟨[p], rfl⟩
  refine ⟨by rw [List.length_append, List.length_append, r.len]; rfl, r.sub, List.nodup_append.mpr ⟨r.nd, List.nodup_cons.mpr ⟨List.not_mem_nil, List.nodup_nil⟩, fun a ha b hb => ?_⟩, fun n a c' e1 e2 => ?_⟩
  · rw [List.mem_singleton] at hb
    subst hb
    exact fun z => hn (by rw [← z]; exact ha)
  · by_cases hl : n < φ.length
    · rw [List.getElem?_append_left hl] at e1
      rw [List.getElem?_append_left (by rw [← r.len]; exact hl)] at e2
      obtain ⟨h1, o', h2, h3⟩ := r.cel n a c' e1 e2
      exact ⟨h1, o', h2, h3.mono pr (Ex.refl S)⟩
    · have hl2 := (List.getElem?_eq_some_iff.mp e1).1
      rw [List.length_append, List.length_singleton] at hl2
      have en : n = φ.length := by omega
      subst en
      rw [List.getElem?_append_right (Nat.le_refl _), Nat.sub_self] at e1
      rw [r.len, List.getElem?_append_right (Nat.le_refl _), Nat.sub_self] at e2
      cases e1
      cases e2
      exact ⟨hs, o, hp, hc.mono pr (Ex.refl S)⟩
/-- a cell is written -/
theorem Rel.put {K : PySem.W.Frag} {φ : List Addr} {S H : Hp} {h : Hv} (r : Rel K φ S H h) {n : Nat} {a : Addr} {o : HO} {c : Cell} (hn : φ[n]? = some a) (hc : RpC K φ S c o) {u0 : HO} (hu : H a = some u0) (nf : ∀ od u, u0 ≠ .frz od u := by exact fun _ _ z => nomatch z) : Rel K φ S (upd H a o) (h.set n c) ∧ Step φ S H φ S (upd H a o) := by
  obtain ⟨c0, hc0⟩ := r.at hn
  obtain ⟨sa, o0, ho0, _⟩ := r.cel n a c0 hn hc0
  refine ⟨⟨by rw [List.length_set]; exact r.len, fun b u e => ?_, r.nd, fun m b c' e1 e2 => ?_⟩, ⟨⟨[], (List.append_nil φ).symm, fun _ z => nomatch z⟩, Ex.refl S, fun b hb => rfl, fun b u e hb => ?_, fun b hb => ?_, fun b od u e => by rw [upd_ne (fun z => by rw [z, hu] at e; exact nf od u (Option.some.inj e))]; exact e⟩⟩
  · have q : b ≠ a := ne_of_none e sa
    rw [upd_ne q]
    exact r.sub b u e
  · by_cases q : m = n
    · subst q
      rw [hn] at e1
      cases e1
      rw [List.getElem?_set_self (List.getElem?_eq_some_iff.mp hc0).1] at e2
      cases e2
      exact ⟨sa, o, upd_same, hc⟩
    · rw [List.getElem?_set_ne (Ne.symm q)] at e2
      obtain ⟨h1, o', h2, h3⟩ := r.cel m b c' e1 e2
      have ne : b ≠ a := fun z => by
        subst z
        exact q (nd_ix r.nd e1 hn)
      exact ⟨h1, o', by rw [upd_ne ne]; exact h2, h3⟩
  · have ne : b ≠ a := fun z => hb (by rw [z]; exact List.mem_of_getElem? hn)
    rw [upd_ne ne]
    exact e
  · by_cases ne : b = a
    · subst ne
      rw [upd_same]
      exact fun z => nomatch z
    · rw [upd_ne ne]
      exact hb
structure RelS (K : PySem.W.Frag) (φ : List Addr) (S : Hp) (σv : VS) (σ : L2.St) : Prop where
  len : σ.length = σv.length
  at_ : ∀ (i : Nat) (d : D), σv[i]? = some (some d) → ∃ v, σ[i]? = some (some v) ∧ Rp K φ S v d
section
variable {K : PySem.W.Frag} {φ φ' : List Addr} {S S' : Hp} {σv : VS} {σ : L2.St}
theorem RelS.mono (r : RelS K φ S σv σ) (p : Pre φ φ') (e : Ex S S') : RelS K φ' S' σv σ := ⟨r.len, fun i d hd => let ⟨v, h1, h2⟩ := r.at_ i d hd; ⟨v, h1, h2.mono p e⟩⟩
theorem RelS.step (r : RelS K φ S σv σ) {H H' : Hp} (s : Step φ S H φ' S' H') : RelS K φ' S' σv σ := r.mono s.prefix s.sub
theorem RelS.set (r : RelS K φ S σv σ) {v : V} {d : D} (h : Rp K φ S v d) (i : Nat) : RelS K φ S (σv.set i (some d)) (σ.set i (some v)) := by
  refine ⟨by rw [List.length_set, List.length_set]; exact r.len, fun j e he => ?_⟩
  by_cases q : j = i
  · subst q
    have hl := (List.getElem?_eq_some_iff.mp he).1
    rw [List.length_set] at hl
    rw [List.getElem?_set_self hl] at he
    cases he
    exact ⟨v, List.getElem?_set_self (by rw [r.len]; exact hl), h⟩
  · rw [List.getElem?_set_ne (Ne.symm q)] at he ⊢
    exact r.at_ j e he
theorem RelS.unset (r : RelS K φ S σv σ) (i : Nat) (o : Option V) : RelS K φ S (σv.set i none) (σ.set i o) := by
  refine ⟨by rw [List.length_set, List.length_set]; exact r.len, fun j e he => ?_⟩
  by_cases q : j = i
  · subst q
    have hl := (List.getElem?_eq_some_iff.mp he).1
    rw [List.length_set] at hl
    rw [List.getElem?_set_self hl] at he
    cases he
  · rw [List.getElem?_set_ne (Ne.symm q)] at he ⊢
    exact r.at_ j e he
end
end VD
set_option Elab.async false
set_option linter.all false
set_option maxRecDepth 100000
set_option maxHeartbeats 4000000
namespace VD
open PySem PySem.Spec PyProof.Rows L2
def RpX (K : PySem.W.Frag) (φ : List Addr) (S H : Hp) (x : Xn) (cls : Value) (dd : Option Addr) : Prop :=
  cls = .ref (He.ga K x.cls) ∧ match x.pay with
    | none => dd = none
    | some (f, d) => ∃ dx v, dd = some dx ∧ S dx = some (.xd [(f, v)]) ∧ Rp K φ S v d
/-- how a result stands: the heap ahead, then cells, what is still, the heap behind -/
abbrev Rep (α β : Type) := Hp → List Addr → Hp → Hp → β → α → Prop
class Rep.Up {α β : Type} (rep : Rep α β) : Prop where
  up : ∀ {φ S H φ1 S1 H1 φ' S' H' b a}, Step φ S H φ1 S1 H1 → rep H1 φ' S' H' b a → rep H φ' S' H' b a
def repV (K : PySem.W.Frag) : Rep D V := fun _ φ' S' _ v d => Rp K φ' S' v d
def repA (K : PySem.W.Frag) : Rep (List D) (List V) := fun _ φ' S' _ v d => RpA K φ' S' v d
def repB : Rep Bool Bool := fun _ _ _ _ b a => b = a
/-- a new list -/
def repL (K : PySem.W.Frag) : Rep (List D) V := fun H φ' S' H' v ds => ∃ p vs, v = .ref p ∧ H p = none ∧ H' p = some (.lst vs) ∧ S' p = none ∧ p ∉ φ' ∧ RpA K φ' S' vs ds
instance {K : PySem.W.Frag} : Rep.Up (repV K) := ⟨fun _ h => h⟩
instance {K : PySem.W.Frag} : Rep.Up (repA K) := ⟨fun _ h => h⟩
instance : Rep.Up repB := ⟨fun _ h => h⟩
instance {K : PySem.W.Frag} : Rep.Up (repL K) := ⟨fun s ⟨p, vs, h1, h2, h3⟩ => ⟨p, vs, h1, s.fresh h2, h3⟩⟩
def Post {α β : Type} (K : PySem.W.Frag) (rep : Rep α β) (φ : List Addr) (S H : Hp) (r : R α) (Q : β → Hp → Prop) (E : XK) : Prop := match r with
  | .ok a h' => ∀ b φ' S' H', Rel K φ' S' H' h' → Step φ S H φ' S' H' → rep H φ' S' H' b a → Q b H'
  | .exc x h' => ∀ cls dd φ' S' H', Rel K φ' S' H' h' → Step φ S H φ' S' H' → RpX K φ' S' H' x cls dd → E cls dd H'
  | .stuck => False
theorem Post.up {α β : Type} {K : PySem.W.Frag} {rep : Rep α β} [Rep.Up rep] {φ φ1 : List Addr} {S H S1 H1 : Hp} {r : R α} {Q : β → Hp → Prop} {E : XK} (s : Step φ S H φ1 S1 H1) (p : Post K rep φ S H r Q E) : Post K rep φ1 S1 H1 r Q E := by
  cases r with
  | ok a h' => exact fun b φ' S' H' rl st rp => p b φ' S' H' rl (s.trans st) (Rep.Up.up s rp)
  | exc x h' => exact fun cls dd φ' S' H' rl st rp => p cls dd φ' S' H' rl (s.trans st) rp
  | stuck => exact p
theorem Post.imp {α β : Type} {K : PySem.W.Frag} {rep : Rep α β} {φ : List Addr} {S H : Hp} {r : R α} {Q Q' : β → Hp → Prop} {E E' : XK} (p : Post K rep φ S H r Q E) (h : ∀ b H', Q b H' → Q' b H') (he : ∀ c d H', E c d H' → E' c d H') : Post K rep φ S H r Q' E' := by
  cases r with
  | ok a h' => exact fun b φ' S' H' rl st rp => h _ _ (p b φ' S' H' rl st rp)
  | exc x h' => exact fun cls dd φ' S' H' rl st rp => he _ _ _ (p cls dd φ' S' H' rl st rp)
  | stuck => exact p
/-- the reading t is kept by es: in every state, what es tells comes -/
structure Sn {α β : Type} (K : PySem.W.Frag) (rep : Rep α β) (W : WX) (t : L2.St → Hp → (β → Hp → Prop) → Prop) (es : VS → Hv → R α) : Prop where
  run : ∀ {φ : List Addr} {S H : Hp} {h : Hv} {σv : VS} {σ : L2.St} {Q : β → Hp → Prop}, Rel K φ S H h → RelS K φ S σv σ → Post K rep φ S H (es σv h) Q (fun c d H' => W c d σ H') → t σ H Q
theorem Sn.bind {α β γ δ : Type} {K : PySem.W.Frag} {rep : Rep α β} {rep2 : Rep γ δ} [Rep.Up rep2] {W : WX} {t : L2.St → Hp → (β → Hp → Prop) → Prop} {ea : VS → Hv → R α} {f : α → Hv → R γ}
    {φ : List Addr} {S H : Hp} {h : Hv} {σv : VS} {σ : L2.St} {Q : δ → Hp → Prop} {Q1 : β → Hp → Prop}
    (ha : Sn K rep W t ea) (rl : Rel K φ S H h) (rs : RelS K φ S σv σ) (post : Post K rep2 φ S H ((ea σv h).bind f) Q (fun c d H' => W c d σ H'))
    (k : ∀ a h1 b φ1 S1 H1, Rel K φ1 S1 H1 h1 → RelS K φ1 S1 σv σ → Step φ S H φ1 S1 H1 → rep H φ1 S1 H1 b a → Post K rep2 φ1 S1 H1 (f a h1) Q (fun c d H' => W c d σ H') → Q1 b H1) : t σ H Q1 := by
  refine ha.run rl rs ?_
  cases q : ea σv h with
  | ok a h1 =>
    rw [q] at post
    exact fun b φ1 S1 H1 rl1 st rp => k a h1 b φ1 S1 H1 rl1 (rs.step st) st rp (Post.up st post)
  | exc x h1 =>
    rw [q] at post
    exact post
  | stuck =>
    rw [q] at post
    exact post
def SE (X : Cx) (W : WX) (e : Expr) (es : ES) : Prop := ∃ te, PE X e te ∧ Sn X.K (repV X.K) W te es
def SL (X : Cx) (W : WX) (e : Expr) (es : LS) : Prop := ∃ te, PE X e te ∧ Sn X.K (repL X.K) W te es
def ST (X : Cx) (W : WX) (e : Expr) (es : CS) : Prop := ∃ te, PT X e te ∧ Sn X.K repB W te es
def SW (X : Cx) (W : WX) (e : Expr) (es : CS) : Prop := ∃ te, PW X e te ∧ Sn X.K repB W te es
def SA (X : Cx) (W : WX) (es : List Expr) (as : LS) : Prop := ∃ te, PA X es te ∧ Sn X.K (repA X.K) W te as
theorem Step.still {φ φ1 : List Addr} {S H S1 H1 : Hp} (s : Step φ S H φ1 S1 H1) {p : Addr} {o : HO} (hp : H p = none) (hs : S1 p = none) : Step φ S H φ1 (upd S1 p o) H1 :=
  ⟨s.pre, s.sub.trans (Ex.new hs), fun a ha => by
    have q : a ≠ p := fun z => ha (by rw [z]; exact hp)
    rw [upd_ne q]
    exact s.old a ha, s.keep, s.there, s.frz⟩
theorem Step.celled {φ φ1 : List Addr} {S H S1 H1 : Hp} (s : Step φ S H φ1 S1 H1) {p : Addr} (hp : H p = none) : Step φ S H (φ1 ++ [p]) S1 H1 := by
  obtain ⟨⟨ψ, e, hn⟩, s2, s3, s4, s5, s6⟩ := s
  refine ⟨⟨ψ ++ [p], by rw [e, List.append_assoc], fun a ha => ?_⟩, s2, s3, s4, s5, s6⟩
  rcases List.mem_append.mp ha with z | z
  · exact hn a z
  · rw [List.mem_singleton.mp z]
    exact hp
/-- from one result to the next -/
theorem Post.map {α β γ δ : Type} {K : PySem.W.Frag} {rep : Rep α β} {rep2 : Rep γ δ} {φ : List Addr} {S H : Hp} {r : R α} {f : α → Hv → R γ} {Q1 : β → Hp → Prop} {Q : δ → Hp → Prop} {E : XK} (post : Post K rep2 φ S H (r.bind f) Q E)
    (k : ∀ a h1 b φ1 S1 H1, Rel K φ1 S1 H1 h1 → Step φ S H φ1 S1 H1 → rep H φ1 S1 H1 b a → Post K rep2 φ S H (f a h1) Q E → Q1 b H1) : Post K rep φ S H r Q1 E := by
  cases r with
  | ok a h1 => exact fun b φ1 S1 H1 rl st rp => k a h1 b φ1 S1 H1 rl st rp post
  | exc x h1 => exact post
  | stuck => exact post
section
variable {X : Cx} {W : WX} {e a b c : Expr} {es : List Expr} {pos : Pos} {fa fb fc : ES} {la lb : LS} {ca cb : CS}
/-- a list that is new stays as it is -/
def eV (f : LS) : ES := fun σ h => (f σ h).bind fun ds h' => .ok (.lst ds) h'
theorem se_V (h : SL X W e la) : SE X W e (eV la) := by
  obtain ⟨te, h1, h2⟩ := h
  refine ⟨te, h1, ⟨fun rl rs post => h2.run rl rs (post.map fun ds h1 v φ1 S1 H1 rl1 st rp post => ?_)⟩⟩
  obtain ⟨p, vs, rfl, hp, hp1, hs1, hn1, ra⟩ := rp
  exact post (.ref p) φ1 _ H1 (rl1.still hp1 hs1 hn1) (st.still hp hs1) (.lst upd_same (ra.mono (Pre.refl _) (Ex.new hs1)))
/-- .. or is a cell -/
def eC (f : LS) : ES := fun σ h => (f σ h).bind fun ds h' => .ok (.cell h'.length) (h' ++ [.lst ds])
theorem se_C (h : SL X W e la) : SE X W e (eC la) := by
  obtain ⟨te, h1, h2⟩ := h
  refine ⟨te, h1, ⟨fun rl rs post => h2.run rl rs (post.map fun ds h1 v φ1 S1 H1 rl1 st rp post => ?_)⟩⟩
  obtain ⟨p, vs, rfl, hp, hp1, hs1, hn1, ra⟩ := rp
  refine post (.ref p) (φ1 ++ [p]) S1 H1 (rl1.celled hp1 hs1 hn1 ⟨vs, rfl, ra⟩) (st.celled hp) (.cell ?_)
  rw [← rl1.len, List.getElem?_append_right (Nat.le_refl _), Nat.sub_self]
  rfl
def eVar (i : Nat) : ES := fun σ h => match σ[i]? with
  | some (some d) => .ok d h
  | _ => .stuck
theorem se_var {i : Nat} {x : Str} (hN : X.N[i]? = some x := by rfl) (hv : Vis X.env.scope x := by first | exact Or.inl rfl | exact Or.inr (Or.inl rfl) | exact Or.inr (Or.inr rfl)) (hd : (x == ("__debug__" : Str)) = false := by decide)
    (hcd : (x == ("__classdict__" : Str)) = false := by decide) : SE X W (.Name x pos) (eVar i) := by
  refine ⟨_, pe_var hN hv hd hcd, ⟨fun {φ S H h σv σ Q} rl rs post => ?_⟩⟩
  unfold eVar at post
  cases q : σv[i]? with
  | none => rw [q] at post; exact post.elim
  | some o =>
    cases o with
    | none => rw [q] at post; exact post.elim
    | some d =>
      rw [q] at post
      obtain ⟨v, h1, h2⟩ := rs.at_ i d q
      exact ⟨v, h1, post v φ S H rl (Step.refl _ _ _) h2⟩
def eK (d : D) : ES := fun _ h => .ok d h
theorem se_k {v : V} {d : D} (h : PE X e (tC v)) (r : ∀ K φ S, Rp K φ S v d) : SE X W e (eK d) := ⟨_, h, ⟨fun {φ S H h σv σ Q} rl rs post => post v φ S H rl (Step.refl _ _ _) (r _ _ _)⟩⟩
theorem se_int {i j} : SE X W (.Constant (.int i) j pos) (eK (.int i)) := se_k pe_int fun _ _ _ => .int i
theorem se_bl {i j} : SE X W (.Constant (.bool i) j pos) (eK (.bl i)) := se_k pe_bl fun _ _ _ => .bl i
theorem se_non {j} : SE X W (.Constant .none j pos) (eK .non) := se_k pe_non fun _ _ _ => .non
theorem se_str {i j} : SE X W (.Constant (.str i) j pos) (eK (.str i)) := se_k pe_str fun _ _ _ => .str i
/-- a constant of the module -/
theorem se_glob {x : Str} {v : V} {u : Value} {d : D} (hm : X.mg x = some u) (r : RelV v u) (rd : ∀ φ S, Rp X.K φ S v d) (hg : Gl X x := by rfl) (hd : (x == ("__debug__" : Str)) = false := by decide) : SE X W (.Name x pos) (eK d) :=
  ⟨_, pe_glob hg hm r hd, ⟨fun {φ S H h σv σ Q} rl rs post => post v φ S H rl (Step.refl _ _ _) (rd _ _)⟩⟩
theorem se_globI {x : Str} {i : Int} {t : Tok} (hm : X.mg x = some (.int i t)) (hg : Gl X x := by rfl) (hd : (x == ("__debug__" : Str)) = false := by decide) : SE X W (.Name x pos) (eK (.int i)) := se_glob (v := .int i) hm ⟨t, rfl⟩ (fun _ _ => .int _) hg hd
theorem se_globS {x z : Str} {t : Tok} (hm : X.mg x = some (.str z t)) (hg : Gl X x := by rfl) (hd : (x == ("__debug__" : Str)) = false := by decide) : SE X W (.Name x pos) (eK (.str z)) := se_glob (v := .str z) hm ⟨t, rfl⟩ (fun _ _ => .str _) hg hd
def OpS (K : PySem.W.Frag) (r : R2) (ro : D → D → Hv → R D) : Prop := ∀ {φ : List Addr} {S H : Hp} {h : Hv} {x y : D} {v u : V} {Q : VK} {E : XK}, Rel K φ S H h → Rp K φ S v x → Rp K φ S u y → Post K (repV K) φ S H (ro x y h) Q E → r v u H Q
def OpL (K : PySem.W.Frag) (r : R2) (ro : D → D → Hv → R (List D)) : Prop := ∀ {φ : List Addr} {S H : Hp} {h : Hv} {x y : D} {v u : V} {Q : VK} {E : XK}, Rel K φ S H h → Rp K φ S v x → Rp K φ S u y → Post K (repL K) φ S H (ro x y h) Q E → r v u H Q
def UnS (K : PySem.W.Frag) (r : V → Hp → VK → Prop) (ro : D → Hv → R D) : Prop := ∀ {φ : List Addr} {S H : Hp} {h : Hv} {x : D} {v : V} {Q : VK} {E : XK}, Rel K φ S H h → Rp K φ S v x → Post K (repV K) φ S H (ro x h) Q E → r v H Q
def eOp {α : Type} (ro : D → D → Hv → R α) (fa fb : ES) : VS → Hv → R α := fun σ h => (fa σ h).bind fun x h1 => (fb σ h1).bind fun y h2 => ro x y h2
def eUn (ro : D → Hv → R D) (fa : ES) : ES := fun σ h => (fa σ h).bind fun x h1 => ro x h1
theorem sn_op {ta tb : TE} {r : R2} {ro : D → D → Hv → R D} (hr : OpS X.K r ro) (h2 : Sn X.K (repV X.K) W ta fa) (k2 : Sn X.K (repV X.K) W tb fb) : Sn X.K (repV X.K) W (tOp r ta tb) (eOp ro fa fb) := ⟨fun rl rs post =>
  h2.bind rl rs post fun x h1 v φ1 S1 H1 rl1 rs1 st rp post =>
  k2.bind rl1 rs1 post fun y h2 u φ2 S2 H2 rl2 rs2 st2 rp2 post =>
  hr rl2 (Rp.mono st2.prefix st2.sub rp) rp2 post⟩
theorem sn_opL {ta tb : TE} {r : R2} {ro : D → D → Hv → R (List D)} (hr : OpL X.K r ro) (h2 : Sn X.K (repV X.K) W ta fa) (k2 : Sn X.K (repV X.K) W tb fb) : Sn X.K (repL X.K) W (tOp r ta tb) (eOp ro fa fb) := ⟨fun rl rs post =>
  h2.bind rl rs post fun x h1 v φ1 S1 H1 rl1 rs1 st rp post =>
  k2.bind rl1 rs1 post fun y h2 u φ2 S2 H2 rl2 rs2 st2 rp2 post =>
  hr rl2 (Rp.mono st2.prefix st2.sub rp) rp2 post⟩
theorem se_op {op : Operator} {r : R2} {ro : D → D → Hv → R D} (ho : OpR X (binaryOp op) r) (hr : OpS X.K r ro) (ha : SE X W a fa) (hb : SE X W b fb) : SE X W (.BinOp a op b pos) (eOp ro fa fb) := by
  obtain ⟨ta, h1, h2⟩ := ha
  obtain ⟨tb, k1, k2⟩ := hb
  exact ⟨_, pe_op ho h1 k1, sn_op hr h2 k2⟩
theorem sl_op {op : Operator} {r : R2} {ro : D → D → Hv → R (List D)} (ho : OpR X (binaryOp op) r) (hr : OpL X.K r ro) (ha : SE X W a fa) (hb : SE X W b fb) : SL X W (.BinOp a op b pos) (eOp ro fa fb) := by
  obtain ⟨ta, h1, h2⟩ := ha
  obtain ⟨tb, k1, k2⟩ := hb
  exact ⟨_, pe_op ho h1 k1, sn_opL hr h2 k2⟩
theorem se_cmp {op : CmpOp} {r : R2} {ro : D → D → Hv → R D} (ho : OpR X (compareOp op) r) (hr : OpS X.K r ro) (ha : SE X W a fa) (hb : SE X W b fb) (hm : behindInMarks op b = false) : SE X W (.Compare a [op] [b] pos) (eOp ro fa fb) := by
  obtain ⟨ta, h1, h2⟩ := ha
  obtain ⟨tb, k1, k2⟩ := hb
  exact ⟨_, pe_cmpR ho h1 k1 hm, sn_op hr h2 k2⟩
theorem sn_un {ta : TE} {r : V → Hp → VK → Prop} {ro : D → Hv → R D} (hr : UnS X.K r ro) (h2 : Sn X.K (repV X.K) W ta fa) : Sn X.K (repV X.K) W (tUn r ta) (eUn ro fa) := ⟨fun rl rs post =>
  h2.bind rl rs post fun x h1 v φ1 S1 H1 rl1 rs1 st rp post => hr rl1 rp post⟩
theorem se_un {op : UnaryOp} {r : V → Hp → VK → Prop} {ro : D → Hv → R D} (ho : UnR X (unaryOp op) r) (hr : UnS X.K r ro) (ha : SE X W a fa) : SE X W (.UnaryOp op a pos) (eUn ro fa) := by
  obtain ⟨ta, h1, h2⟩ := ha
  exact ⟨_, pe_un ho h1, sn_un hr h2⟩
/-- a bool of a value -/
def toB (f : ES) : CS := fun σ h => (f σ h).bind fun d h1 => match d with
  | .bl b => .ok b h1
  | _ => .stuck
theorem sn_B {te : TE} (h2 : Sn X.K (repV X.K) W te fa) : Sn X.K repB W (tTest te) (toB fa) := ⟨fun rl rs post =>
  h2.bind rl rs post fun x h1 v φ1 S1 H1 rl1 rs1 st rp post => by
    cases x with
    | bl b =>
      cases (show Rp _ _ _ _ _ from rp)
      exact ⟨b, rfl, post b φ1 S1 H1 rl1 (Step.refl _ _ _) rfl⟩
    | _ => exact post.elim⟩
theorem st_cmp {op : CmpOp} {r : R2} {ro : D → D → Hv → R D} (ho : OpR X (compareOp op) r) (hr : OpS X.K r ro) (ha : SE X W a fa) (hb : SE X W b fb) (hm : behindInMarks op b = false) : ST X W (.Compare a [op] [b] pos) (toB (eOp ro fa fb)) := by
  obtain ⟨ta, h1, h2⟩ := ha
  obtain ⟨tb, k1, k2⟩ := hb
  exact ⟨_, pt_cmpR ho h1 k1 hm, sn_B (sn_op hr h2 k2)⟩
/-- an expression that gives a bool, as a test -/
theorem st_val (ha : SE X W e fa) (he : ∀ whole, isTrue e X.env whole = (do let v ← whole; standAt e.pos; holding [v] (truthy v)) := by intro _; rfl) : ST X W e (toB fa) := by
  obtain ⟨ta, h1, h2⟩ := ha
  exact ⟨_, pt_val h1 he, sn_B h2⟩
end
end VD
set_option Elab.async false
set_option linter.all false
set_option maxRecDepth 100000
set_option maxHeartbeats 4000000
namespace VD
open PySem PySem.Spec PyProof.Rows L2
theorem line_eq : sizeLine = 16777216 := sizeLine_eq
section
variable {X : Cx} {W : WX} {e a b c : Expr} {es rest : List Expr} {pos : Pos} {fa fb fc : ES} {la lb : LS} {ca cb : CS}
def cAnd (f g : CS) : CS := fun σ h => (f σ h).bind fun k h1 => if k then g σ h1 else .ok false h1
def cOr (f g : CS) : CS := fun σ h => (f σ h).bind fun k h1 => if k then .ok true h1 else g σ h1
def cNot (f : CS) : CS := fun σ h => (f σ h).bind fun k h1 => .ok (!k) h1
def eIf {α : Type} (c : CS) (f g : VS → Hv → R α) : VS → Hv → R α := fun σ h => (c σ h).bind fun k h1 => if k then f σ h1 else g σ h1
theorem sw_and1 (ha : ST X W a ca) : SW X W (.BoolOp .And [a] pos) ca := by
  obtain ⟨ta, h1, h2⟩ := ha
  exact ⟨_, pw_and1 h1, h2⟩
theorem sw_or1 (ha : ST X W a ca) : SW X W (.BoolOp .Or [a] pos) ca := by
  obtain ⟨ta, h1, h2⟩ := ha
  exact ⟨_, pw_or1 h1, h2⟩
theorem sw_and (ha : ST X W a ca) (hb : SW X W (.BoolOp .And (b :: rest) pos) cb) : SW X W (.BoolOp .And (a :: b :: rest) pos) (cAnd ca cb) := by
  obtain ⟨ta, h1, h2⟩ := ha
  obtain ⟨tb, k1, k2⟩ := hb
  refine ⟨_, pw_and h1 k1, ⟨fun rl rs post => h2.bind rl rs post fun x h1 v φ1 S1 H1 rl1 rs1 st rp post => ?_⟩⟩
  cases (show v = x from rp)
  cases x with
  | true => exact k2.run rl1 rs1 post
  | false => exact post false φ1 S1 H1 rl1 (Step.refl _ _ _) rfl
theorem sw_or (ha : ST X W a ca) (hb : SW X W (.BoolOp .Or (b :: rest) pos) cb) : SW X W (.BoolOp .Or (a :: b :: rest) pos) (cOr ca cb) := by
  obtain ⟨ta, h1, h2⟩ := ha
  obtain ⟨tb, k1, k2⟩ := hb
  refine ⟨_, pw_or h1 k1, ⟨fun rl rs post => h2.bind rl rs post fun x h1 v φ1 S1 H1 rl1 rs1 st rp post => ?_⟩⟩
  cases (show v = x from rp)
  cases x with
  | false => exact k2.run rl1 rs1 post
  | true => exact post true φ1 S1 H1 rl1 (Step.refl _ _ _) rfl
theorem st_w (h : SW X W e ca) : ST X W e ca := let ⟨t, h1, h2⟩ := h; ⟨t, h1.pt, h2⟩
theorem st_not (ha : ST X W a ca) : ST X W (.UnaryOp .Not a pos) (cNot ca) := by
  obtain ⟨ta, h1, h2⟩ := ha
  refine ⟨_, pt_not h1, ⟨fun rl rs post => h2.bind rl rs post fun x h1 v φ1 S1 H1 rl1 rs1 st rp post => ?_⟩⟩
  cases (show v = x from rp)
  exact post _ φ1 S1 H1 rl1 (Step.refl _ _ _) rfl
/-- a value's truth -/
def dTru (h : Hv) : D → Option Bool
  | .non => some false
  | .bl b => some b
  | .int i => some (i != 0)
  | .lst xs => some (!xs.isEmpty)
  | .fz xs => some (!xs.isEmpty)
  | .tup xs => some (!xs.isEmpty)
  | .str x => if x.length ≤ 16777216 then some (x.length != 0) else none
  | .cell n => match h[n]? with
    | some (.lst xs) => some (!xs.isEmpty)
    | some (.dK kvs) => some (!kvs.isEmpty)
    | _ => none
  | .raw _ => none
  | .dct _ _ => none
  | .obj _ _ _ => none
  | .exv _ _ _ _ => none
theorem RpA.isEmpty {K : PySem.W.Frag} {φ : List Addr} {S : Hp} {vs : List V} {ds : List D} (h : RpA K φ S vs ds) : vs.isEmpty = ds.isEmpty := by
  cases h <;> rfl
def cTru (f : ES) : CS := fun σ h => (f σ h).bind fun d h1 => match dTru h1 d with
  | some b => .ok b h1
  | none => .stuck
def aNil : LS := fun _ h => .ok [] h
def aCons (f : ES) (g : LS) : LS := fun σ h => (f σ h).bind fun d h1 => (g σ h1).bind fun ds h2 => .ok (d :: ds) h2
theorem sa_nil : SA X W [] aNil := ⟨_, pa_nil, ⟨fun {φ S H h σv σ Q} rl rs post => post [] φ S H rl (Step.refl _ _ _) .nil⟩⟩
theorem sa_cons (ha : SE X W e fa) (hr : SA X W es la) (hs : starEach (e :: es) X.env = (false, eval e X.env) :: starEach es X.env := by rfl) : SA X W (e :: es) (aCons fa la) := by
  obtain ⟨ta, h1, h2⟩ := ha
  obtain ⟨tr, k1, k2⟩ := hr
  exact ⟨_, pa_cons h1 k1 hs, ⟨fun rl rs post => h2.bind rl rs post fun x h1 v φ1 S1 H1 rl1 rs1 st rp post =>
    k2.bind rl1 rs1 post fun ds h2 vs φ2 S2 H2 rl2 rs2 st2 rp2 post => post (v :: vs) φ2 S2 H2 rl2 (Step.refl _ _ _) (.cons (Rp.mono st2.prefix st2.sub rp) rp2)⟩⟩
def eTup (g : LS) : ES := fun σ h => (g σ h).bind fun ds h1 => if ds.length ≤ 16777216 then .ok (.tup ds) h1 else .stuck
theorem se_tup {x1} (ha : SA X W es la) : SE X W (.Tuple es x1 pos) (eTup la) := by
  obtain ⟨ta, h1, h2⟩ := ha
  refine ⟨_, pe_tup h1, ⟨fun rl rs post => h2.bind rl rs post fun ds h1 vs φ1 S1 H1 rl1 rs1 st rp post => ?_⟩⟩
  have ra : RpA X.K φ1 S1 vs ds := rp
  by_cases q : ds.length ≤ 16777216
  · rw [if_pos q] at post
    refine ⟨by rw [ra.length, line_eq]; exact q, fun p hp => ?_⟩
    obtain ⟨r2, s2⟩ := rl1.lay (o := .tup vs) hp
    exact post (.ref p) φ1 _ _ r2 s2 (.tup (.inl (.inl upd_same)) (ra.mono (Pre.refl _) s2.sub))
  · rw [if_neg q] at post
    exact post.elim
def lLst (g : LS) : LS := fun σ h => (g σ h).bind fun ds h1 => if ds.length ≤ 16777216 then .ok ds h1 else .stuck
theorem sl_lst (ha : SA X W es la) : SL X W (.List es pos) (lLst la) := by
  obtain ⟨ta, h1, h2⟩ := ha
  refine ⟨_, pe_lst h1, ⟨fun rl rs post => h2.bind rl rs post fun ds h1 vs φ1 S1 H1 rl1 rs1 st rp post => ?_⟩⟩
  have ra : RpA X.K φ1 S1 vs ds := rp
  by_cases q : ds.length ≤ 16777216
  · rw [if_pos q] at post
    refine ⟨by rw [ra.length, line_eq]; exact q, fun p hp => ?_⟩
    obtain ⟨r2, s2⟩ := rl1.hold (o := .lst vs) hp
    exact post (.ref p) φ1 _ _ r2 s2 ⟨p, vs, rfl, hp, upd_same, rl1.snone hp, rl1.notin hp, ra⟩
  · rw [if_neg q] at post
    exact post.elim
def eAndV (f g : ES) : ES := fun σ h => (f σ h).bind fun d h1 => match d with
  | .bl true => g σ h1
  | .bl false => .ok (.bl false) h1
  | _ => .stuck
def eOrV (f g : ES) : ES := fun σ h => (f σ h).bind fun d h1 => match d with
  | .bl false => g σ h1
  | .bl true => .ok (.bl true) h1
  | _ => .stuck
def eNotV (f : ES) : ES := fun σ h => (f σ h).bind fun d h1 => match d with
  | .bl b => .ok (.bl (!b)) h1
  | _ => .stuck
theorem se_one {op} (h : SE X W a fa) : SE X W (.BoolOp op [a] pos) fa := let ⟨t, h1, h2⟩ := h; ⟨t, pe_one h1, h2⟩
theorem se_or (ha : SE X W a fa) (hb : SE X W (.BoolOp .Or (b :: rest) pos) fb) : SE X W (.BoolOp .Or (a :: b :: rest) pos) (eOrV fa fb) := by
  obtain ⟨ta, h1, h2⟩ := ha
  obtain ⟨tb, k1, k2⟩ := hb
  refine ⟨_, pe_or h1 k1, ⟨fun rl rs post => h2.bind rl rs post fun x h1 v φ1 S1 H1 rl1 rs1 st rp post => ?_⟩⟩
  cases x with
  | bl q =>
    cases (show Rp _ _ _ _ _ from rp)
    cases q with
    | false => exact ⟨false, rfl, k2.run rl1 rs1 post⟩
    | true => exact ⟨true, rfl, post _ φ1 S1 H1 rl1 (Step.refl _ _ _) (.bl true)⟩
  | _ => exact post.elim
end
end VD
set_option Elab.async false
set_option linter.all false
set_option maxRecDepth 100000
set_option maxHeartbeats 4000000
namespace VD
open PySem PySem.Spec PyProof.Rows L2
noncomputable section
def optAll {α β : Type} (g : β → Option α) : List β → Option (List α)
  | [] => some []
  | d :: ds => match g d with
    | some a => (match optAll g ds with
      | some as => some (a :: as)
      | none => none)
    | none => none
def toPy (h : Hv) : Nat → D → Option PyData
  | 0, _ => none
  | _ + 1, .non => some .none
  | _ + 1, .bl b => some (.bool b)
  | _ + 1, .int i => some (.int i)
  | _ + 1, .str x => some (.str x)
  | f + 1, .lst ds => (optAll (toPy h f) ds).map .list
  | f + 1, .fz ds => (optAll (toPy h f) ds).map .list
  | f + 1, .tup ds => (optAll (toPy h f) ds).map .tuple
  | f + 1, .cell n => match h[n]? with
    | some (.lst ds) => (optAll (toPy h f) ds).map .list
    | _ => none
  | _ + 1, .raw _ => none
  | _ + 1, .dct _ _ => none
  | _ + 1, .obj _ _ _ => none
  | _ + 1, .exv _ _ _ _ => none
section
variable {K : PySem.W.Frag} {φ : List Addr} {S H : Hp} {h : Hv}
theorem dp_of (rl : Rel K φ S H h) : ∀ (f : Nat) (d : D) (v : V) (p : PyData), Rp K φ S v d → toPy h f d = some p → Dp K H v p := by
  intro f
  induction f with
  | zero => intro d v p _ e; cases e
  | succ f ih =>
    have all : ∀ (ds : List D) (vs : List V) (ps : List PyData), RpA K φ S vs ds → optAll (toPy h f) ds = some ps → DpAll K H vs ps := by
      intro ds
      induction ds with
      | nil => intro vs ps r e; cases r; cases e; exact .nil
      | cons d ds ih2 =>
        intro vs ps r e
        cases r with
        | cons r t =>
          simp only [optAll] at e
          cases q : toPy h f d with
          | none => rw [q] at e; cases e
          | some p0 =>
            rw [q] at e
            cases q2 : optAll (toPy h f) ds with
            | none => simp only [q2] at e; cases e
            | some p1 =>
              simp only [q2] at e
              cases e
              exact .cons (ih d _ p0 r q) (ih2 _ p1 t q2)
    intro d v p r e
    cases r with
    | non => cases e; exact .non
    | bl b => cases e; exact .bl b
    | int i => cases e; exact .int i
    | str x => cases e; exact .str x
    | @lst a vs ds h1 h2 =>
      obtain ⟨ps, q, rfl⟩ := Option.map_eq_some_iff.mp (show (optAll (toPy h f) ds).map .list = some p from e)
      exact .lst (.inl (.inl (rl.sub _ _ h1))) (all ds vs ps h2 q)
    | @fz a vs ds h1 h2 =>
      obtain ⟨ps, q, rfl⟩ := Option.map_eq_some_iff.mp (show (optAll (toPy h f) ds).map .list = some p from e)
      exact .lst (rl.sub.sql h1) (all ds vs ps h2 q)
    | @tup a vs ds h1 h2 =>
      obtain ⟨ps, q, rfl⟩ := Option.map_eq_some_iff.mp (show (optAll (toPy h f) ds).map .tuple = some p from e)
      exact .tup (rl.sub.sqt h1) (all ds vs ps h2 q)
    | @cell a n h1 =>
      obtain ⟨c, hc⟩ := rl.at h1
      obtain ⟨_, o, ho, rc⟩ := rl.cel _ _ _ h1 hc
      simp only [toPy] at e
      rw [hc] at e
      cases c with
      | lst ds =>
        obtain ⟨vs, rfl, ra⟩ := rc
        obtain ⟨ps, q, rfl⟩ := Option.map_eq_some_iff.mp (show (optAll (toPy h f) ds).map .list = some p from e)
        exact .lst (.inl (.inl ho)) (all ds vs ps ra q)
      | dK kvs => cases e
      | dF kvs => cases e
      | ins C fs => cases e
      | dN w kvs => cases e
      | tb q n => cases e
    | raw v => cases e
    | dct h1 h2 h3 => cases e
    | obj h1 h2 h3 => cases e
    | exv h1 h2 => cases e
/-- a list to be read, a tuple -/
def lOf (h : Hv) : D → Option (List D)
  | .lst xs => some xs
  | .fz xs => some xs
  | .cell n => match h[n]? with
    | some (.lst xs) => some xs
    | _ => none
  | _ => none
def tOf : D → Option (List D)
  | .tup xs => some xs
  | _ => none
theorem lOf_ok (rl : Rel K φ S H h) {d : D} {v : V} {ds : List D} (r : Rp K φ S v d) (e : lOf h d = some ds) : ∃ a vs, v = .ref a ∧ SqL K H a vs ∧ RpA K φ S vs ds := by
  cases r with
  | lst h1 h2 => cases e; exact ⟨_, _, rfl, .inl (.inl (rl.sub _ _ h1)), h2⟩
  | fz h1 h2 => cases e; exact ⟨_, _, rfl, rl.sub.sql h1, h2⟩
  | @cell a n h1 =>
    obtain ⟨c, hc⟩ := rl.at h1
    obtain ⟨_, o, ho, rc⟩ := rl.cel _ _ _ h1 hc
    simp only [lOf] at e
    rw [hc] at e
    cases c with
    | lst xs =>
      obtain ⟨vs, rfl, ra⟩ := rc
      cases e
      exact ⟨a, vs, rfl, .inl (.inl ho), ra⟩
    | dK kvs => cases e
    | dF kvs => cases e
    | ins C fs => cases e
    | dN w kvs => cases e
    | tb q n => cases e
  | _ => cases e
theorem tOf_ok (rl : Rel K φ S H h) {d : D} {v : V} {ds : List D} (r : Rp K φ S v d) (e : tOf d = some ds) : ∃ a vs, v = .ref a ∧ SqT K H a vs ∧ RpA K φ S vs ds := by
  cases r with
  | tup h1 h2 => cases e; exact ⟨_, _, rfl, rl.sub.sqt h1, h2⟩
  | _ => cases e
/-- a list that is tracked as it stands -/
def kOf (h : Hv) : D → Option (List D)
  | .lst xs => some xs
  | .cell n => match h[n]? with
    | some (.lst xs) => some xs
    | _ => none
  | _ => none
theorem kOf_ok (rl : Rel K φ S H h) {d : D} {v : V} {ds : List D} (r : Rp K φ S v d) (e : kOf h d = some ds) : ∃ a vs, v = .ref a ∧ H a = some (.lst vs) ∧ RpA K φ S vs ds := by
  cases r with
  | lst h1 h2 => cases e; exact ⟨_, _, rfl, rl.sub _ _ h1, h2⟩
  | @cell a n h1 =>
    obtain ⟨c, hc⟩ := rl.at h1
    obtain ⟨_, o, ho, rc⟩ := rl.cel _ _ _ h1 hc
    simp only [kOf] at e
    rw [hc] at e
    cases c with
    | lst xs =>
      obtain ⟨vs, rfl, ra⟩ := rc
      cases e
      exact ⟨a, vs, rfl, ho, ra⟩
    | dK kvs => cases e
    | dF kvs => cases e
    | ins C fs => cases e
    | dN w kvs => cases e
    | tb q n => cases e
  | _ => cases e
/-- flat values -/
def toV : D → Option V
  | .non => some .non
  | .bl b => some (.bl b)
  | .int i => some (.int i)
  | .str x => some (.str x)
  | _ => none
theorem toV_ok {d : D} {v w : V} (r : Rp K φ S v d) (e : toV d = some w) : v = w ∧ flatV v = true := by
  cases r <;> cases e <;> exact ⟨rfl, rfl⟩
theorem toVs_ok {ds : List D} {vs ws : List V} (r : RpA K φ S vs ds) (e : optAll toV ds = some ws) : vs = ws ∧ vs.all flatV = true := by
  induction ds generalizing vs ws with
  | nil => cases r; cases e; exact ⟨rfl, rfl⟩
  | cons d ds ih =>
    cases r with
    | cons r t =>
      simp only [optAll] at e
      cases q : toV d with
      | none => rw [q] at e; cases e
      | some w0 =>
        rw [q] at e
        cases q2 : optAll toV ds with
        | none => simp only [q2] at e; cases e
        | some w1 =>
          simp only [q2] at e
          cases e
          obtain ⟨e1, f1⟩ := toV_ok r q
          obtain ⟨e2, f2⟩ := ih t q2
          exact ⟨by rw [e1, e2], by rw [List.all_cons, f1, f2]; rfl⟩
def toI : D → Option Int
  | .int i => some i
  | _ => none
theorem toIs_ok {ds : List D} {vs : List V} {ns : List Int} (r : RpA K φ S vs ds) (e : optAll toI ds = some ns) : vs = ns.map V.int := by
  induction ds generalizing vs ns with
  | nil => cases r; cases e; rfl
  | cons d ds ih =>
    cases r with
    | cons r t =>
      simp only [optAll] at e
      cases q : toI d with
      | none => rw [q] at e; cases e
      | some w0 =>
        rw [q] at e
        cases q2 : optAll toI ds with
        | none => simp only [q2] at e; cases e
        | some w1 =>
          simp only [q2] at e
          cases e
          cases d with
          | int i => cases q; cases r; rw [ih t q2]; rfl
          | _ => cases q
def toBl : D → Option Bool
  | .bl i => some i
  | _ => none
def toS : D → Option Str
  | .str i => some i
  | _ => none
theorem toSs_ok {ds : List D} {vs : List V} {ns : List Str} (r : RpA K φ S vs ds) (e : optAll toS ds = some ns) : vs = ns.map V.str := by
  induction ds generalizing vs ns with
  | nil => cases r; cases e; rfl
  | cons d ds ih =>
    cases r with
    | cons r t =>
      simp only [optAll] at e
      cases q : toS d with
      | none => rw [q] at e; cases e
      | some w0 =>
        rw [q] at e
        cases q2 : optAll toS ds with
        | none => simp only [q2] at e; cases e
        | some w1 =>
          simp only [q2] at e
          cases e
          cases d with
          | str i => cases q; cases r; rw [ih t q2]; rfl
          | _ => cases q
end
section
variable {X : Cx} {K : PySem.W.Frag}
def oSub : D → D → Hv → R D
  | .int i, .int j, h => .ok (.int (i - j)) h
  | _, _, _ => .stuck
theorem os_sub : OpS K (rI0 fun i j => .int (i - j)) oSub := by
  intro φ S H h x y v u Q E rl rx ry post
  cases rx <;> cases ry <;> first
    | exact post.elim
    | exact ⟨_, _, rfl, rfl, post _ φ S H rl (Step.refl _ _ _) (.int _)⟩
def mulOk (i j : Int) : Bool := decide (i.natAbs.log2 + j.natAbs.log2 < 1000000)
def oMul : D → D → Hv → R D
  | .int i, .int j, h => if mulOk i j then .ok (.int (i * j)) h else .stuck
  | _, _, _ => .stuck
theorem os_mul : OpS K (rI CMulW fun i j => .int (i * j)) oMul := by
  intro φ S H h x y v u Q E rl rx ry post
  cases rx <;> cases ry <;> first
    | exact post.elim
    | skip
  next i j =>
    simp only [oMul] at post
    by_cases q : mulOk i j = true
    · rw [if_pos q] at post
      exact ⟨_, _, rfl, rfl, (show CMulW _ _ by unfold mulOk at q; exact of_decide_eq_true (p := _ < _) q), post _ φ S H rl (Step.refl _ _ _) (.int _)⟩
    · rw [if_neg q] at post
      exact post.elim
def oMod : D → D → Hv → R D
  | .int i, .int j, h => if 0 < j then .ok (.int (i % j)) h else .stuck
  | _, _, _ => .stuck
theorem os_mod : OpS K (rI (fun _ j => 0 < j) fun i j => .int (i % j)) oMod := by
  intro φ S H h x y v u Q E rl rx ry post
  cases rx <;> cases ry <;> first
    | exact post.elim
    | skip
  next i j =>
    simp only [oMod] at post
    by_cases q : 0 < j
    · rw [if_pos q] at post
      exact ⟨_, _, rfl, rfl, q, post _ φ S H rl (Step.refl _ _ _) (.int _)⟩
    · rw [if_neg q] at post
      exact post.elim
def divOk (j : Int) : Bool := decide (0 < j ∧ j.natAbs.log2 < 9000)
def oFdiv : D → D → Hv → R D
  | .int i, .int j, h => if divOk j then .ok (.int (i / j)) h else .stuck
  | _, _, _ => .stuck
theorem os_fdiv : OpS K (rI CDivW fun i j => .int (i / j)) oFdiv := by
  intro φ S H h x y v u Q E rl rx ry post
  cases rx <;> cases ry <;> first
    | exact post.elim
    | skip
  next i j =>
    simp only [oFdiv] at post
    by_cases q : divOk j = true
    · rw [if_pos q] at post
      exact ⟨_, _, rfl, rfl, (show CDivW _ _ by unfold divOk at q; exact of_decide_eq_true (p := _ ∧ _) q), post _ φ S H rl (Step.refl _ _ _) (.int _)⟩
    · rw [if_neg q] at post
      exact post.elim
def powOk (i j : Int) : Bool := decide (0 ≤ j ∧ j ≤ 1000000 ∧ i.natAbs < 2 ^ 64)
def oPow : D → D → Hv → R D
  | .int i, .int j, h => if powOk i j then .ok (.int (i ^ j.toNat)) h else .stuck
  | _, _, _ => .stuck
theorem os_pow : OpS K (rI CPow fun i j => .int (i ^ j.toNat)) oPow := by
  intro φ S H h x y v u Q E rl rx ry post
  cases rx <;> cases ry <;> first
    | exact post.elim
    | skip
  next i j =>
    simp only [oPow] at post
    by_cases q : powOk i j = true
    · rw [if_pos q] at post
      exact ⟨_, _, rfl, rfl, (show CPow _ _ by unfold powOk at q; exact of_decide_eq_true (p := _ ∧ _) q), post _ φ S H rl (Step.refl _ _ _) (.int _)⟩
    · rw [if_neg q] at post
      exact post.elim
def uNeg : D → Hv → R D
  | .int i, h => .ok (.int (-i)) h
  | _, _ => .stuck
theorem us_neg : UnS K (rU fun i => .int (-i)) uNeg := by
  intro φ S H h x v Q E rl rx post
  cases rx <;> first
    | exact post.elim
    | exact ⟨_, rfl, post _ φ S H rl (Step.refl _ _ _) (.int _)⟩
/-- + of ints, texts, tuples -/
def rAddA (K : PySem.W.Frag) : R2 := fun x y H Q => rI0 (fun i j => .int (i + j)) x y H Q ∨ (∃ i j, x = .str i ∧ y = .str j ∧ i.length + j.length ≤ sizeLine ∧ Q (.str (i ++ j)) H) ∨ rCatT K x y H Q
theorem op_addA : OpR X (binaryOp .Add) (rAddA X.K) := op_add.or (op_add_str.or op_catT)
def oAdd : D → D → Hv → R D
  | .int i, .int j, h => .ok (.int (i + j)) h
  | .str i, .str j, h => if i.length + j.length ≤ 16777216 then .ok (.str (i ++ j)) h else .stuck
  | .tup (x :: xs), .tup ys, h => if (x :: xs).length + ys.length ≤ 16777216 then .ok (.tup (x :: xs ++ ys)) h else .stuck
  | _, _, _ => .stuck
theorem os_add : OpS K (rAddA K) oAdd := by
  intro φ S H h x y v u Q E rl rx ry post
  cases rx with
  | int i =>
    cases ry with
    | int j => exact .inl ⟨_, _, rfl, rfl, post _ φ S H rl (Step.refl _ _ _) (.int _)⟩
    | _ => exact post.elim
  | str i =>
    cases ry with
    | str j =>
      simp only [oAdd] at post
      by_cases q : i.length + j.length ≤ 16777216
      · rw [if_pos q] at post
        exact .inr (.inl ⟨_, _, rfl, rfl, by rw [line_eq]; exact q, post _ φ S H rl (Step.refl _ _ _) (.str _)⟩)
      · rw [if_neg q] at post
        exact post.elim
    | _ => exact post.elim
  | tup h1 h2 =>
    cases h2 with
    | nil => cases ry <;> exact post.elim
    | @cons v0 vs d0 ds r0 rr =>
      cases ry with
      | @tup b ws es k1 k2 =>
        simp only [oAdd] at post
        by_cases q : (d0 :: ds).length + es.length ≤ 16777216
        · rw [if_pos q] at post
          refine .inr (.inr ⟨_, _, v0 :: vs, ws, rfl, rfl, rl.sub.sqt h1, rl.sub.sqt k1, List.cons_ne_nil _ _, ?_, fun e => ?_, fun e p hp => ?_⟩)
          · rw [line_eq, k2.length, List.length_cons, rr.length, ← List.length_cons (a := d0)]
            exact q
          · subst e
            cases k2
            rw [List.append_nil] at post
            exact post _ φ S H rl (Step.refl _ _ _) (.tup h1 (.cons r0 rr))
          · obtain ⟨r2, s2⟩ := rl.lay (o := .tup (v0 :: vs ++ ws)) hp
            exact post _ φ _ _ r2 s2 (.tup (.inl (.inl upd_same)) (((RpA.cons r0 rr).append k2).mono (Pre.refl _) s2.sub))
        · rw [if_neg q] at post
          exact post.elim
      | _ => exact post.elim
  | _ => exact post.elim
/-- + of lists -/
def oCat : D → D → Hv → R (List D) := fun x y h => match kOf h x, kOf h y with
  | some xs, some ys => if xs.length + ys.length ≤ 16777216 then .ok (xs ++ ys) h else .stuck
  | _, _ => .stuck
theorem ol_cat : OpL K rCat oCat := by
  intro φ S H h x y v u Q E rl rx ry post
  simp only [oCat] at post
  cases e1 : kOf h x with
  | none => simp only [e1] at post; exact post.elim
  | some xs =>
    cases e2 : kOf h y with
    | none => simp only [e1, e2] at post; exact post.elim
    | some ys =>
      simp only [e1, e2] at post
      by_cases q : xs.length + ys.length ≤ 16777216
      · rw [if_pos q] at post
        obtain ⟨a, vs, rfl, ha, ra⟩ := kOf_ok rl rx e1
        obtain ⟨b, ws, rfl, hb, rb⟩ := kOf_ok rl ry e2
        refine ⟨a, b, vs, ws, rfl, rfl, ha, hb, by rw [line_eq, ra.length, rb.length]; exact q, fun p hp => ?_⟩
        obtain ⟨r2, s2⟩ := rl.hold (o := .lst (vs ++ ws)) hp
        exact post _ φ _ _ r2 s2 ⟨p, _, rfl, hp, upd_same, rl.snone hp, rl.notin hp, ra.append rb⟩
      · rw [if_neg q] at post
        exact post.elim
/-- list * int -/
def oRep : D → D → Hv → R (List D) := fun x y h => match kOf h x, toI y with
  | some xs, some k => @ite _ (xs.length * k.toNat ≤ 16777216 ∧ -(2 ^ 63) ≤ k ∧ k < 2 ^ 63) (Classical.propDecidable _) (.ok (List.replicate k.toNat xs).flatten h) .stuck
  | _, _ => .stuck
theorem RpA.rep {φ : List Addr} {S : Hp} {vs : List V} {ds : List D} (h : RpA K φ S vs ds) : ∀ k : Nat, RpA K φ S (List.replicate k vs).flatten (List.replicate k ds).flatten
  | 0 => .nil
  | k + 1 => by
    rw [List.replicate_succ, List.replicate_succ, List.flatten_cons, List.flatten_cons]
    exact h.append (RpA.rep h k)
end
end
end VD
set_option Elab.async false
set_option linter.all false
set_option maxRecDepth 100000
set_option maxHeartbeats 4000000
namespace VD
open PySem PySem.Spec PyProof.Rows L2
noncomputable section
section
variable {X : Cx} {K : PySem.W.Frag}
def rLtA : R2 := fun x y H Q => rI0 (fun i j => .bl (decide (i < j))) x y H Q ∨ ∃ i j, x = .str i ∧ y = .str j ∧ Q (.bl (decide (i.cps.toList < j.cps.toList))) H
def rGtA : R2 := fun x y H Q => rI0 (fun i j => .bl (decide (j < i))) x y H Q ∨ ∃ i j, x = .str i ∧ y = .str j ∧ Q (.bl (decide (j.cps.toList < i.cps.toList))) H
theorem op_ltA : OpR X (compareOp .Lt) rLtA := op_lt.or op_lt_str
theorem op_gtA : OpR X (compareOp .Gt) rGtA := op_gt.or op_gt_str
def oLt : D → D → Hv → R D
  | .int i, .int j, h => .ok (.bl (decide (i < j))) h
  | .str i, .str j, h => .ok (.bl (decide (i.cps.toList < j.cps.toList))) h
  | _, _, _ => .stuck
def oGt : D → D → Hv → R D
  | .int i, .int j, h => .ok (.bl (decide (j < i))) h
  | .str i, .str j, h => .ok (.bl (decide (j.cps.toList < i.cps.toList))) h
  | _, _, _ => .stuck
def oLe : D → D → Hv → R D
  | .int i, .int j, h => .ok (.bl (decide (i ≤ j))) h
  | _, _, _ => .stuck
def oGe : D → D → Hv → R D
  | .int i, .int j, h => .ok (.bl (decide (j ≤ i))) h
  | _, _, _ => .stuck
theorem os_lt : OpS K rLtA oLt := by
  intro φ S H h x y v u Q E rl rx ry post
  cases rx <;> cases ry <;> first
    | exact post.elim
    | exact .inl ⟨_, _, rfl, rfl, post _ φ S H rl (Step.refl _ _ _) (.bl _)⟩
    | exact .inr ⟨_, _, rfl, rfl, post _ φ S H rl (Step.refl _ _ _) (.bl _)⟩
theorem os_gt : OpS K rGtA oGt := by
  intro φ S H h x y v u Q E rl rx ry post
  cases rx <;> cases ry <;> first
    | exact post.elim
    | exact .inl ⟨_, _, rfl, rfl, post _ φ S H rl (Step.refl _ _ _) (.bl _)⟩
    | exact .inr ⟨_, _, rfl, rfl, post _ φ S H rl (Step.refl _ _ _) (.bl _)⟩
theorem os_le : OpS K (rI0 fun i j => .bl (decide (i ≤ j))) oLe := by
  intro φ S H h x y v u Q E rl rx ry post
  cases rx <;> cases ry <;> first
    | exact post.elim
    | exact ⟨_, _, rfl, rfl, post _ φ S H rl (Step.refl _ _ _) (.bl _)⟩
/-- == of data -/
def rEqP (K : PySem.W.Frag) : R2 := fun x y H Q => ∃ d e, Dp K H x d ∧ Dp K H y e ∧ (d.plain = true ∧ e.plain = true ∧ d.depth ≤ 63) ∧ Q (.bl (PyData.eqv d e)) H
def rNeP (K : PySem.W.Frag) : R2 := fun x y H Q => ∃ d e, Dp K H x d ∧ Dp K H y e ∧ (d.plain = true ∧ e.plain = true ∧ d.depth ≤ 63) ∧ Q (.bl (!PyData.eqv d e)) H
theorem op_eqP (hu : X.A.units + 64 < cLine) : OpR X (compareOp .Eq) (rEqP X.K) := by
  intro pins s σ H x y v u Q I rx ry h
  obtain ⟨d, e, hd, he, ⟨pd, pe, dd⟩, q⟩ := h
  obtain ⟨as, r1⟩ := Dp.reads I d x v hd rx
  obtain ⟨bs, r2⟩ := Dp.reads I e y u he ry
  exact PySem.SeqAt.eq_plain r1 r2 pd pe (Nat.lt_of_le_of_lt (Nat.add_le_add_left (Nat.le_trans (Nat.min_le_left _ _) dd) _) (by omega)) ⟨.bl _, H, I, rfl, q⟩
theorem op_neP (hu : X.A.units + 64 < cLine) : OpR X (compareOp .NotEq) (rNeP X.K) := by
  intro pins s σ H x y v u Q I rx ry h
  obtain ⟨d, e, hd, he, ⟨pd, pe, dd⟩, q⟩ := h
  obtain ⟨as, r1⟩ := Dp.reads I d x v hd rx
  obtain ⟨bs, r2⟩ := Dp.reads I e y u he ry
  exact PySem.SeqAt.ne_plain r1 r2 pd pe (Nat.lt_of_le_of_lt (Nat.add_le_add_left (Nat.le_trans (Nat.min_le_left _ _) dd) _) (by omega)) ⟨.bl _, H, I, rfl, q⟩
def eqD (h : Hv) (x y : D) : Option Bool := match toPy h 12 x, toPy h 12 y with
  | some d, some e => some (PyData.eqv d e)
  | _, _ => none
def oEq : D → D → Hv → R D := fun x y h => match eqD h x y with
  | some b => .ok (.bl b) h
  | none => .stuck
def oNe : D → D → Hv → R D := fun x y h => match eqD h x y with
  | some b => .ok (.bl (!b)) h
  | none => .stuck
theorem toPy_plain {h : Hv} : ∀ (f : Nat) (d : D) (p : PyData), toPy h f d = some p → p.plain = true ∧ p.depth ≤ f := by
  intro f
  induction f with
  | zero => intro d p e; cases e
  | succ f ih =>
    have all : ∀ (ds : List D) (ps : List PyData), optAll (toPy h f) ds = some ps → PyData.plainAll ps = true ∧ PyData.depthAll ps ≤ f := by
      intro ds
      induction ds with
      | nil => intro ps e; cases e; exact ⟨by simp only [PyData.plainAll], by simp only [PyData.depthAll]; exact Nat.zero_le _⟩
      | cons d ds ih2 =>
        intro ps e
        simp only [optAll] at e
        cases q : toPy h f d with
        | none => rw [q] at e; cases e
        | some p0 =>
          rw [q] at e
          cases q2 : optAll (toPy h f) ds with
          | none => simp only [q2] at e; cases e
          | some p1 =>
            simp only [q2] at e
            cases e
            obtain ⟨a1, a2⟩ := ih d p0 q
            obtain ⟨b1, b2⟩ := ih2 p1 q2
            exact ⟨by simp only [PyData.plainAll, a1, b1, Bool.and_self], by simp only [PyData.depthAll]; exact Nat.max_le.mpr ⟨a2, b2⟩⟩
    have lst : ∀ ds p, (optAll (toPy h f) ds).map PyData.list = some p → p.plain = true ∧ p.depth ≤ f + 1 := fun ds p e => by
      obtain ⟨ps, q, rfl⟩ := Option.map_eq_some_iff.mp e
      obtain ⟨a, b⟩ := all ds ps q
      exact ⟨by simp only [PyData.plain, a], by simp only [PyData.depth]; omega⟩
    have tup : ∀ ds p, (optAll (toPy h f) ds).map PyData.tuple = some p → p.plain = true ∧ p.depth ≤ f + 1 := fun ds p e => by
      obtain ⟨ps, q, rfl⟩ := Option.map_eq_some_iff.mp e
      obtain ⟨a, b⟩ := all ds ps q
      exact ⟨by simp only [PyData.plain, a], by simp only [PyData.depth]; omega⟩
    intro d p e
    cases d with
    | non => cases e; exact ⟨by simp only [PyData.plain], by simp only [PyData.depth]; exact Nat.zero_le _⟩
    | bl b => cases e; exact ⟨by simp only [PyData.plain], by simp only [PyData.depth]; exact Nat.zero_le _⟩
    | int b => cases e; exact ⟨by simp only [PyData.plain], by simp only [PyData.depth]; exact Nat.zero_le _⟩
    | str b => cases e; exact ⟨by simp only [PyData.plain], by simp only [PyData.depth]; exact Nat.zero_le _⟩
    | lst ds => exact lst ds p e
    | fz ds => exact lst ds p e
    | tup ds => exact tup ds p e
    | cell n =>
      simp only [toPy] at e
      split at e
      · exact lst _ p e
      · cases e
    | dct _ _ => cases e
    | obj _ _ _ => cases e
    | exv _ _ _ _ => cases e
    | raw v => cases e
theorem eqD_ok {φ : List Addr} {S H : Hp} {h : Hv} {x y : D} {v u : V} {b : Bool} (rl : Rel K φ S H h) (rx : Rp K φ S v x) (ry : Rp K φ S u y) (e : eqD h x y = some b) :
    ∃ d e, Dp K H v d ∧ Dp K H u e ∧ (d.plain = true ∧ e.plain = true ∧ d.depth ≤ 63) ∧ PyData.eqv d e = b := by
  unfold eqD at e
  cases e1 : toPy h 12 x with
  | none => simp only [e1] at e; cases e
  | some d =>
    cases e2 : toPy h 12 y with
    | none => simp only [e1, e2] at e; cases e
    | some d2 =>
      simp only [e1, e2] at e
      obtain ⟨p1, q1⟩ := toPy_plain _ _ _ e1
      obtain ⟨p2, q2⟩ := toPy_plain _ _ _ e2
      exact ⟨d, d2, dp_of rl _ _ _ _ rx e1, dp_of rl _ _ _ _ ry e2, ⟨p1, p2, by omega⟩, Option.some.inj e⟩
theorem os_eq : OpS K (rEqP K) oEq := by
  intro φ S H h x y v u Q E rl rx ry post
  simp only [oEq] at post
  cases e : eqD h x y with
  | none => simp only [e] at post; exact post.elim
  | some b =>
    simp only [e] at post
    obtain ⟨d, d2, h1, h2, h3, h5⟩ := eqD_ok rl rx ry e
    exact ⟨d, d2, h1, h2, h3, by rw [h5]; exact post _ φ S H rl (Step.refl _ _ _) (.bl _)⟩
theorem os_ne : OpS K (rNeP K) oNe := by
  intro φ S H h x y v u Q E rl rx ry post
  simp only [oNe] at post
  cases e : eqD h x y with
  | none => simp only [e] at post; exact post.elim
  | some b =>
    simp only [e] at post
    obtain ⟨d, d2, h1, h2, h3, h5⟩ := eqD_ok rl rx ry e
    exact ⟨d, d2, h1, h2, h3, by rw [h5]; exact post _ φ S H rl (Step.refl _ _ _) (.bl _)⟩
/-- is None, is True -/
def rIsA : R2 := fun x y H Q => (y = .non ∧ Q (.bl (decide (x = .non))) H) ∨ rIsB x y H Q
theorem op_isA : OpR X (compareOp .Is) rIsA := op_isN.or op_isBl
def isD : D → D → Option Bool
  | .non, .non => some true
  | .raw _, .non => none
  | _, .non => some false
  | .bl a, .bl b => some (decide (a = b))
  | _, _ => none
def oIs : D → D → Hv → R D := fun x y h => match isD x y with
  | some b => .ok (.bl b) h
  | none => .stuck
def oIsNot : D → D → Hv → R D := fun x y h => match isD x y with
  | some b => .ok (.bl (!b)) h
  | none => .stuck
theorem isD_ok {φ : List Addr} {S : Hp} {x y : D} {v u : V} {b : Bool} (rx : Rp K φ S v x) (ry : Rp K φ S u y) (e : isD x y = some b) :
    (u = .non ∧ decide (v = .non) = b) ∨ ∃ p q, v = .bl p ∧ u = .bl q ∧ decide (p = q) = b := by
  cases ry with
  | non => refine .inl ⟨rfl, ?_⟩; cases rx <;> first | (cases e; done) | (cases e; rfl) | (cases e; exact decide_eq_false (fun z => nomatch z))
  | bl q => cases rx <;> first | (cases e; done) | (exact .inr ⟨_, _, rfl, rfl, Option.some.inj e⟩)
  | _ => cases rx <;> cases e
theorem os_is : OpS K rIsA oIs := by
  intro φ S H h x y v u Q E rl rx ry post
  simp only [oIs] at post
  cases e : isD x y with
  | none => simp only [e] at post; exact post.elim
  | some b =>
    simp only [e] at post
    have fin := post _ φ S H rl (Step.refl _ _ _) (.bl b)
    rcases isD_ok rx ry e with ⟨h1, h2⟩ | ⟨p, q, h1, h2, h3⟩
    · exact .inl ⟨h1, by rw [h2]; exact fin⟩
    · exact .inr ⟨p, q, h1, h2, by rw [h3]; exact fin⟩
/-- one sign in a text, a flat value in a list or tuple -/
def rInA (K : PySem.W.Frag) : R2 := fun x y H Q => (∃ (c : Nat) (z : Str), x = .str ⟨#[c]⟩ ∧ y = .str z ∧ Q (.bl (decide (c ∈ z.cps.toList))) H) ∨ rIn K false x y H Q
def rNotInA (K : PySem.W.Frag) : R2 := fun x y H Q => (∃ (c : Nat) (z : Str), x = .str ⟨#[c]⟩ ∧ y = .str z ∧ Q (.bl (!decide (c ∈ z.cps.toList))) H) ∨ rIn K true x y H Q
theorem op_inA : OpR X (compareOp .In) (rInA X.K) := op_in_sign.or op_in_seq
theorem op_notInA : OpR X (compareOp .NotIn) (rNotInA X.K) := op_notIn_sign.or op_notIn_seq
def sqOf (h : Hv) (d : D) : Option (List D) := match lOf h d with
  | some xs => some xs
  | none => tOf d
def inD (h : Hv) (x y : D) : Option Bool := match x, y with
  | .str s, .str z => match s.cps.toList with
    | [c] => some (decide (c ∈ z.cps.toList))
    | _ => none
  | x, y => match toV x, (sqOf h y).bind (optAll toV) with
    | some v, some vs => some (inV v vs)
    | _, _ => none
def oIn : D → D → Hv → R D := fun x y h => match inD h x y with
  | some b => .ok (.bl b) h
  | none => .stuck
def oNotIn : D → D → Hv → R D := fun x y h => match inD h x y with
  | some b => .ok (.bl (!b)) h
  | none => .stuck
theorem sqOf_ok {φ : List Addr} {S H : Hp} {h : Hv} {d : D} {v : V} {ds : List D} (rl : Rel K φ S H h) (r : Rp K φ S v d) (e : sqOf h d = some ds) : ∃ a vs, v = .ref a ∧ (SqL K H a vs ∨ SqT K H a vs) ∧ RpA K φ S vs ds := by
  unfold sqOf at e
  cases q : lOf h d with
  | some xs =>
    simp only [q] at e
    cases e
    obtain ⟨a, vs, h1, h2, h3⟩ := lOf_ok rl r q
    exact ⟨a, vs, h1, .inl h2, h3⟩
  | none =>
    simp only [q] at e
    obtain ⟨a, vs, h1, h2, h3⟩ := tOf_ok rl r e
    exact ⟨a, vs, h1, .inr h2, h3⟩
theorem inD_ok {φ : List Addr} {S H : Hp} {h : Hv} {x y : D} {v u : V} {b : Bool} (rl : Rel K φ S H h) (rx : Rp K φ S v x) (ry : Rp K φ S u y) (e : inD h x y = some b) :
    (∃ (c : Nat) (z : Str), v = .str ⟨#[c]⟩ ∧ u = .str z ∧ decide (c ∈ z.cps.toList) = b) ∨ ∃ p xs, u = .ref p ∧ (SqL K H p xs ∨ SqT K H p xs) ∧ flatV v = true ∧ xs.all flatV = true ∧ inV v xs = b := by
  have gen : (match toV x, (sqOf h y).bind (optAll toV) with
    | some v, some vs => some (inV v vs)
    | _, _ => none) = some b → ∃ p xs, u = .ref p ∧ (SqL K H p xs ∨ SqT K H p xs) ∧ flatV v = true ∧ xs.all flatV = true ∧ inV v xs = b := by
    intro e
    cases q1 : toV x with
    | none => simp only [q1] at e; cases e
    | some w =>
      cases q2 : sqOf h y with
      | none => simp only [q1, q2, Option.bind_none] at e; cases e
      | some ds =>
        cases q3 : optAll toV ds with
        | none => simp only [q1, q2, Option.bind_some, q3] at e; cases e
        | some ws =>
          simp only [q1, q2, Option.bind_some, q3] at e
          obtain ⟨e1, f1⟩ := toV_ok rx q1
          obtain ⟨a, vs, rfl, h2, h3⟩ := sqOf_ok rl ry q2
          obtain ⟨e2, f2⟩ := toVs_ok h3 q3
          exact ⟨a, vs, rfl, h2, f1, f2, by rw [e1, e2]; exact Option.some.inj e⟩
  unfold inD at e
  split at e
  · next s z =>
    split at e
    · next c hc =>
      cases rx
      cases ry
      refine .inl ⟨c, z, ?_, rfl, Option.some.inj e⟩
      have : s = ⟨#[c]⟩ := Str.ext' (Array.toList_inj.mp (by rw [hc]))
      rw [this]
    · cases e
  · exact .inr (gen e)
theorem os_in : OpS K (rInA K) oIn := by
  intro φ S H h x y v u Q E rl rx ry post
  simp only [oIn] at post
  cases e : inD h x y with
  | none => simp only [e] at post; exact post.elim
  | some b =>
    simp only [e] at post
    have fin := post _ φ S H rl (Step.refl _ _ _) (.bl b)
    rcases inD_ok rl rx ry e with ⟨c, z, h1, h2, h3⟩ | ⟨p, xs, h1, h2, h3, h4, h5⟩
    · exact .inl ⟨c, z, h1, h2, by rw [h3]; exact fin⟩
    · exact .inr ⟨p, xs, h1, h2, h3, h4, by rw [if_neg Bool.false_ne_true, h5]; exact fin⟩
theorem os_notIn : OpS K (rNotInA K) oNotIn := by
  intro φ S H h x y v u Q E rl rx ry post
  simp only [oNotIn] at post
  cases e : inD h x y with
  | none => simp only [e] at post; exact post.elim
  | some b =>
    simp only [e] at post
    have fin := post _ φ S H rl (Step.refl _ _ _) (.bl (!b))
    rcases inD_ok rl rx ry e with ⟨c, z, h1, h2, h3⟩ | ⟨p, xs, h1, h2, h3, h4, h5⟩
    · exact .inl ⟨c, z, h1, h2, by rw [h3]; exact fin⟩
    · exact .inr ⟨p, xs, h1, h2, h3, h4, by rw [if_pos rfl, h5]; exact fin⟩
def ixD (h : Hv) (x : D) (i : Int) : Option D := match x with
  | .str z => if z.length ≤ 16777216 then (match atI z.cps.toList i with
    | some c => some (.str ⟨#[c]⟩)
    | none => none) else none
  | x => match sqOf h x with
    | some ds => atI ds i
    | none => none
def oIx : D → D → Hv → R D := fun x y h => match y with
  | .int i => match ixD h x i with
    | some d => .ok d h
    | none => .stuck
  | _ => .stuck
theorem RpA.atI {φ : List Addr} {S : Hp} {vs : List V} {ds : List D} (r : RpA K φ S vs ds) {i : Int} {d : D} (e : L2.atI ds i = some d) : ∃ v, L2.atI vs i = some v ∧ Rp K φ S v d := by
  unfold L2.atI at e ⊢
  rw [r.length]
  cases q : ixN ds.length i with
  | none => rw [q] at e; cases e
  | some j =>
    rw [q] at e
    exact r.at e
theorem os_ix : OpS K (rIx K) oIx := by
  intro φ S H h x y v u Q E rl rx ry post
  simp only [oIx] at post
  cases y with
  | int i =>
    cases ry
    cases e : ixD h x i with
    | none => simp only [e] at post; exact post.elim
    | some d =>
      simp only [e] at post
      unfold ixD at e
      split at e
      · next z =>
        cases rx
        split at e
        · next hz =>
          split at e
          · next c hc =>
            cases e
            exact .inr (.inr ⟨z, i, c, rfl, rfl, by rw [line_eq]; exact hz, hc, post _ φ S H rl (Step.refl _ _ _) (.str _)⟩)
          · cases e
        · cases e
      · split at e
        · next ds hd =>
          obtain ⟨a, vs, rfl, h2, h3⟩ := sqOf_ok rl rx hd
          obtain ⟨w, hw, rw_⟩ := h3.atI e
          have fin := post _ φ S H rl (Step.refl _ _ _) rw_
          rcases h2 with h2 | h2
          · exact .inl ⟨a, vs, i, w, rfl, rfl, h2, hw, fin⟩
          · exact .inr (.inl ⟨a, vs, i, w, rfl, rfl, h2, hw, fin⟩)
        · cases e
  | _ => exact post.elim
variable {W : WX} {e a b : Expr} {pos p2 : Pos} {fa fb fl fh : ES}
theorem se_ix (ha : SE X W a fa) (hb : SE X W b fb) (hs : PlainIx b := by exact fun _ _ => rfl) : SE X W (.Subscript a b pos) (eOp oIx fa fb) := by
  obtain ⟨ta, h1, h2⟩ := ha
  obtain ⟨tb, k1, k2⟩ := hb
  exact ⟨_, pe_ix ix_seq h1 k1 hs, sn_op os_ix h2 k2⟩
def cutD (xs : List D) (lo hi : Option Int) : List D := (xs.drop (HT.sIx xs.length 0 lo)).take (HT.sIx xs.length xs.length hi - HT.sIx xs.length 0 lo)
/-- a part of a slice -/
abbrev OS := VS → Hv → R (Option Int)
def repO : Rep (Option Int) (Option Int) := fun _ _ _ _ b a => b = a
instance : Rep.Up repO := ⟨fun _ h => h⟩
def SO (X : Cx) (W : WX) (e : Option Expr) (es : OS) : Prop := ∃ te, PO X e te ∧ Sn X.K repO W te es
def pNo : OS := fun _ h => .ok none h
def pAt (f : ES) : OS := fun σ h => (f σ h).bind fun d h1 => match d with
  | .int i => .ok (some i) h1
  | _ => .stuck
theorem so_no : SO X W none pNo := ⟨_, po_none, ⟨fun {φ S H h σv σ Q} rl rs post => post none φ S H rl (Step.refl _ _ _) rfl⟩⟩
theorem so_at (ha : SE X W e fa) : SO X W (some e) (pAt fa) := by
  obtain ⟨ta, h1, h2⟩ := ha
  refine ⟨_, po_some h1, ⟨fun rl rs post => h2.bind rl rs post fun x h1 v φ1 S1 H1 rl1 rs1 st rp post => ?_⟩⟩
  cases x with
  | int i =>
    cases (show Rp _ _ _ _ _ from rp)
    exact ⟨i, rfl, post _ φ1 S1 H1 rl1 (Step.refl _ _ _) rfl⟩
  | _ => exact post.elim
/-- a list's slice: new -/
def lSl (f : ES) (lo hi : OS) : LS := fun σ h => (f σ h).bind fun d h1 => (lo σ h1).bind fun l h2 => (hi σ h2).bind fun u h3 => match lOf h3 d with
  | some xs => .ok (cutD xs l u) h3
  | none => .stuck
theorem RpA.cut {φ : List Addr} {S : Hp} {vs : List V} {ds : List D} (r : RpA K φ S vs ds) (lo hi : Option Int) : RpA K φ S (cutV vs lo hi) (cutD ds lo hi) := by
  unfold cutV cutD
  rw [r.length]
  exact (r.drop _).take _
theorem sl_sl {lo hi : Option Expr} {pl ph : OS} (ha : SE X W a fa) (hl : SO X W lo pl) (hh : SO X W hi ph) : SL X W (.Subscript a (.Slice lo hi none p2) pos) (lSl fa pl ph) := by
  obtain ⟨ta, h1, h2⟩ := ha
  obtain ⟨tl, k1, k2⟩ := hl
  obtain ⟨th, l1, l2⟩ := hh
  refine ⟨_, pe_slice sl_list h1 k1 l1, ⟨fun rl rs post => h2.bind rl rs post fun x h1 v φ1 S1 H1 rl1 rs1 st rp post =>
    k2.bind rl1 rs1 post fun l h2 l' φ2 S2 H2 rl2 rs2 st2 rp2 post => l2.bind rl2 rs2 post fun u h3 u' φ3 S3 H3 rl3 rs3 st3 rp3 post => ?_⟩⟩
  cases (show l' = l from rp2)
  cases (show u' = u from rp3)
  have r3 : Rp X.K φ3 S3 v x := Rp.mono (st2.trans st3).prefix (st2.trans st3).sub rp
  cases q : lOf h3 x with
  | none => rw [q] at post; exact post.elim
  | some xs =>
    rw [q] at post
    obtain ⟨a, vs, rfl, h2, ra⟩ := lOf_ok rl3 r3 q
    refine ⟨a, vs, rfl, h2, fun p hp => ?_⟩
    obtain ⟨r2, s2⟩ := rl3.hold (o := .lst (cutV vs l u)) hp
    exact post _ φ3 _ _ r2 s2 ⟨p, _, rfl, hp, upd_same, rl3.snone hp, rl3.notin hp, ra.cut _ _⟩
/-- t[lo:hi], the whole of t: t itself -/
theorem tup_whole {P : Program} {w : World} {A : Around} {E : Value → Shared → Prop} {s : Shared} {t sl : Addr} {items : Array Value} {vl vu : Value} {lo hi : Option Int} {Q : Value → Shared → Prop} (ht : IsTup s.heap t items) (hs : s.heap.IsSliceOf sl vl vu .none) (pl : IsPart vl lo) (pu : IsPart vu hi)
    (hw : HT.sIx items.size 0 lo = 0 ∧ HT.sIx items.size items.size hi = items.size) (h : Q (.ref t) s) : wpAny (model P w) A (getItem (.ref t) (.ref sl)) Q E s := by
  obtain ⟨os, hos, hcs, hds⟩ := id hs
  have ty : s.TypeIs (.ref sl) "slice" := ⟨os, hos, hcs⟩
  unfold getItem
  (try with_reducible refine wpAny_holding ?_); (first | refine wpAny_bind (wpAny_pure ?_) | skip)
  refine wpAny_bind (wpAny_sequenceKey ht.typeIs (by decide) ?_); refine wpAny_bind (wpAny_callSpecial?_slot (name := Str.ofString "__getitem__") ht.typeIs PyProof.Rows.slot_tuple_getitem (wpAny_call_entry PyProof.Rows.slot_tuple_getitem ht.typeIs PyProof.Rows.entry_tuple_getitem ?_ (PyProof.Rows.args_tuple_getitem _ _)))
  show wpAny _ _ (Builtin.Tuple.tupleItemsOf (.ref t) >>= _) _ _ s; refine wpAny_bind (tupleItemsOf_ ht ?_)
  refine wpAny_bind (wpAny_typeOf ty ?_); rw [if_pos (by decide)]; refine wpAny_bind (HT.sliceApplied_gen hs pl pu ?_)
  have yes : (((HT.sIx items.size 0 lo : Nat) : Int) == 0 && (1 : Int) == 1 && (HT.sIx items.size items.size hi - HT.sIx items.size 0 lo) == items.size) = true := by rw [hw.1, hw.2]; simp
  show wpAny _ _ (if (((HT.sIx items.size 0 lo : Nat) : Int) == 0 && (1 : Int) == 1 && (HT.sIx items.size items.size hi - HT.sIx items.size 0 lo) == items.size) = true then _ else _) _ _ s
  rw [if_pos yes]
  unfold Builtin.Tuple.tupleIsExact
  refine wpAny_bind (wpAny_bind (wpAny_typeOf ht.typeIs (wpAny_pure ?_)))
  rw [if_pos (by decide)]
  exact wpAny_bind (wpAny_rule (wpAny_pure ⟨_, rfl, wpAny_pure h⟩))
def rSlW (K : PySem.W.Frag) : V → Option Int → Option Int → Hp → VK → Prop := fun x lo hi H Q => ∃ a xs, x = .ref a ∧ SqT K H a xs ∧ (HT.sIx xs.length 0 lo = 0 ∧ HT.sIx xs.length xs.length hi = xs.length) ∧ Q (.ref a) H
theorem sl_tupW : SlR X (rSlW X.K) := by
  intro pins s σ H x v vl vu lo hi sl Q I rx hs pl pu ⟨a, xs, ex, hx, hw, q⟩
  subst ex
  cases rx
  obtain ⟨its, r, ht, hz⟩ := I.tuple hx
  have el : its.toArray.size = xs.length := by rw [List.size_toArray]; exact r.length.symm
  exact ⟨"tuple", _, PyProof.Rows.slot_tuple_getitem.lookup, ht.typeIs, tup_whole ht hs pl pu (by rw [el]; exact hw) ⟨.ref a, H, I, rfl, q⟩⟩
theorem tup_of {K : PySem.W.Frag} {φ : List Addr} {S : Hp} {v : V} {ds : List D} (r : Rp K φ S v (.tup ds)) : ∃ a vs, v = .ref a ∧ SqT K S a vs ∧ RpA K φ S vs ds := by
  cases r with
  | tup g1 g2 => exact ⟨_, _, rfl, g1, g2⟩
/-- a text's, a tuple's slice -/
def slD (d : D) (l u : Option Int) : Option D := match d with
  | .str z => if z.length ≤ 16777216 then some (.str (cutS z l u)) else none
  | .tup xs => some (.tup (cutD xs l u))
  | _ => none
def eSl (f : ES) (lo hi : OS) : ES := fun σ h => (f σ h).bind fun d h1 => (lo σ h1).bind fun l h2 => (hi σ h2).bind fun u h3 => match slD d l u with
  | some d' => .ok d' h3
  | none => .stuck
theorem se_sl {lo hi : Option Expr} {pl ph : OS} (ha : SE X W a fa) (hl : SO X W lo pl) (hh : SO X W hi ph) : SE X W (.Subscript a (.Slice lo hi none p2) pos) (eSl fa pl ph) := by
  obtain ⟨ta, h1, h2⟩ := ha
  obtain ⟨tl, k1, k2⟩ := hl
  obtain ⟨th, l1, l2⟩ := hh
  refine ⟨_, pe_slice (SlR.or sl_str (SlR.or sl_tup sl_tupW)) h1 k1 l1, ⟨fun rl rs post => h2.bind rl rs post fun x h1 v φ1 S1 H1 rl1 rs1 st rp post =>
    k2.bind rl1 rs1 post fun l h2 l' φ2 S2 H2 rl2 rs2 st2 rp2 post => l2.bind rl2 rs2 post fun u h3 u' φ3 S3 H3 rl3 rs3 st3 rp3 post => ?_⟩⟩
  cases (show l' = l from rp2)
  cases (show u' = u from rp3)
  have r3 : Rp X.K φ3 S3 v x := Rp.mono (st2.trans st3).prefix (st2.trans st3).sub rp
  cases q : slD x l u with
  | none => rw [q] at post; exact post.elim
  | some d' =>
    rw [q] at post
    unfold slD at q
    split at q
    · next z =>
      split at q
      · next hz =>
        cases q
        cases r3
        exact .inl ⟨_, rfl, by rw [line_eq]; exact hz, post _ φ3 S3 H3 rl3 (Step.refl _ _ _) (.str _)⟩
      · cases q
    · cases q
      obtain ⟨a, vs, rfl, g1, g2⟩ := tup_of r3
      · by_cases hz : HT.sIx vs.length 0 l = 0 ∧ HT.sIx vs.length vs.length u = vs.length
        · have e : ∀ ds : List D, vs.length = ds.length → cutD ds l u = ds := fun ds g2 => by
            unfold cutD
            rw [← g2, hz.1, hz.2, g2, List.drop_zero, Nat.sub_zero, List.take_length]
          rw [e _ g2.length] at post
          exact .inr (.inr ⟨a, vs, rfl, rl3.sub.sqt g1, hz, post _ φ3 S3 H3 rl3 (Step.refl _ _ _) (.tup g1 g2)⟩)
        · refine .inr (.inl ⟨a, vs, rfl, rl3.sub.sqt g1, hz, fun p hp => ?_⟩)
          obtain ⟨r2, s2⟩ := rl3.lay (o := .tup (cutV vs l u)) hp
          exact post _ φ3 _ _ r2 s2 (.tup (.inl (.inl upd_same)) ((g2.cut _ _).mono (Pre.refl _) s2.sub))
    · cases q
end
end
end VD
set_option Elab.async false
set_option linter.all false
set_option maxRecDepth 100000
set_option maxHeartbeats 4000000
namespace VD
open PySem PySem.Spec PyProof.Rows L2
noncomputable section
def CaS (K : PySem.W.Frag) (r : List V → Hp → VK → Prop) (ro : List D → Hv → R D) : Prop := ∀ {φ : List Addr} {S H : Hp} {h : Hv} {ds : List D} {vs : List V} {Q : VK} {E : XK}, Rel K φ S H h → RpA K φ S vs ds → Post K (repV K) φ S H (ro ds h) Q E → r vs H Q
def CaL (K : PySem.W.Frag) (r : List V → Hp → VK → Prop) (ro : List D → Hv → R (List D)) : Prop := ∀ {φ : List Addr} {S H : Hp} {h : Hv} {ds : List D} {vs : List V} {Q : VK} {E : XK}, Rel K φ S H h → RpA K φ S vs ds → Post K (repL K) φ S H (ro ds h) Q E → r vs H Q
def eCa {α : Type} (ro : List D → Hv → R α) (g : LS) : VS → Hv → R α := fun σ h => (g σ h).bind fun ds h1 => ro ds h1
section
variable {X : Cx} {W : WX} {e : Expr} {es : List Expr} {p pos : Pos} {la : LS} {x : Str} {id T : String} {r : List V → Hp → VK → Prop}
theorem sn_ca {t : TA} {ro : List D → Hv → R D} (hr : CaS X.K r ro) (h2 : Sn X.K (repA X.K) W t la) : Sn X.K (repV X.K) W (tCB r t) (eCa ro la) := ⟨fun rl rs post => h2.bind rl rs post fun x h1 v φ1 S1 H1 rl1 rs1 st rp post => hr rl1 rp post⟩
theorem sn_caL {t : TA} {ro : List D → Hv → R (List D)} (hr : CaL X.K r ro) (h2 : Sn X.K (repA X.K) W t la) : Sn X.K (repL X.K) W (tCB r t) (eCa ro la) := ⟨fun rl rs post => h2.bind rl rs post fun x h1 v φ1 S1 H1 rl1 rs1 st rp post => hr rl1 rp post⟩
theorem se_callB {ro : List D → Hv → R D} (hc : CallR X (.builtin id) r) (hr : CaS X.K r ro) (hm : X.mg x = none) (hv : bootBuiltins x = some (.builtin id)) (ha : SA X W (e :: es) la) (hg : Gl X x := by rfl) (hn : x ≠ "__name__" := by decide) (hdb : (x == ("__debug__" : Str)) = false := by decide)
    (he : starEach (e :: es) X.env = (false, eval e X.env) :: starEach es X.env := by rfl) (hpl : (backTo pos (starEach es X.env)).any (·.1) = false := by rfl) : SE X W (.Call (.Name x p) (e :: es) [] pos) (eCa ro la) := by
  obtain ⟨ta, h1, h2⟩ := ha
  exact ⟨_, pe_callB hc hg hm hv h1 hn hdb he hpl, sn_ca hr h2⟩
theorem se_callT {ro : List D → Hv → R D} (hc : CallR X (.type T) r) (hr : CaS X.K r ro) (hm : X.mg x = none) (hv : bootBuiltins x = some (.type T)) (ha : SA X W (e :: es) la) (hg : Gl X x := by rfl) (hn : x ≠ "__name__" := by decide) (hdb : (x == ("__debug__" : Str)) = false := by decide)
    (he : starEach (e :: es) X.env = (false, eval e X.env) :: starEach es X.env := by rfl) (hpl : (backTo pos (starEach es X.env)).any (·.1) = false := by rfl) : SE X W (.Call (.Name x p) (e :: es) [] pos) (eCa ro la) := by
  obtain ⟨ta, h1, h2⟩ := ha
  exact ⟨_, pe_callTy hc hg hm hv h1 hn hdb he hpl, sn_ca hr h2⟩
theorem sl_callT {ro : List D → Hv → R (List D)} (hc : CallR X (.type T) r) (hr : CaL X.K r ro) (hm : X.mg x = none) (hv : bootBuiltins x = some (.type T)) (ha : SA X W (e :: es) la) (hg : Gl X x := by rfl) (hn : x ≠ "__name__" := by decide) (hdb : (x == ("__debug__" : Str)) = false := by decide)
    (he : starEach (e :: es) X.env = (false, eval e X.env) :: starEach es X.env := by rfl) (hpl : (backTo pos (starEach es X.env)).any (·.1) = false := by rfl) : SL X W (.Call (.Name x p) (e :: es) [] pos) (eCa ro la) := by
  obtain ⟨ta, h1, h2⟩ := ha
  exact ⟨_, pe_callTy hc hg hm hv h1 hn hdb he hpl, sn_caL hr h2⟩
end
section
variable {X : Cx} {K : PySem.W.Frag}
theorem RpA.one {φ : List Addr} {S : Hp} {vs : List V} {d : D} (r : RpA K φ S vs [d]) : ∃ v, vs = [v] ∧ Rp K φ S v d := by
  cases r with
  | cons r t => cases t; exact ⟨_, rfl, r⟩
theorem RpA.two {φ : List Addr} {S : Hp} {vs : List V} {d e : D} (r : RpA K φ S vs [d, e]) : ∃ v w, vs = [v, w] ∧ Rp K φ S v d ∧ Rp K φ S w e := by
  cases r with
  | cons r t =>
    obtain ⟨w, rfl, r2⟩ := t.one
    exact ⟨_, w, rfl, r, r2⟩
/-- len -/
def lenD (h : Hv) (d : D) : Option Int := match d with
  | .str z => if z.length ≤ 16777216 then some (z.length : Int) else none
  | d => (sqOf h d).map fun xs => (xs.length : Int)
def bLen : List D → Hv → R D := fun ds h => match ds with
  | [d] => (match lenD h d with
    | some n => .ok (.int n) h
    | none => .stuck)
  | _ => .stuck
def rLenA (K : PySem.W.Frag) : List V → Hp → VK → Prop := fun xs H Q => ∃ x n, xs = [x] ∧ LenV K x H n ∧ Q (.int n) H
theorem cs_len : CaS K (rLenA K) bLen := by
  intro φ S H h ds vs Q E rl ra post
  unfold bLen at post
  split at post
  · next d =>
    obtain ⟨v, rfl, r⟩ := ra.one
    cases q : lenD h d with
    | none => simp only [q] at post; exact post.elim
    | some n =>
      simp only [q] at post
      unfold lenD at q
      split at q
      · next z =>
        split at q
        · next hz =>
          cases q
          cases r
          exact ⟨.str z, z.length, rfl, ⟨by rw [line_eq]; exact hz, rfl⟩, post _ φ S H rl (Step.refl _ _ _) (.int _)⟩
        · cases q
      · obtain ⟨xs, q1, q2⟩ := Option.map_eq_some_iff.mp q
        subst q2
        obtain ⟨a, vs, rfl, h2, h3⟩ := sqOf_ok rl r q1
        refine ⟨.ref a, vs.length, rfl, ?_, by rw [h3.length]; exact post _ φ S H rl (Step.refl _ _ _) (.int _)⟩
        rcases h2 with h2 | h2
        · exact .inl ⟨vs, h2, rfl⟩
        · exact .inr ⟨vs, h2, rfl⟩
  · exact post.elim
/-- int -> int -/
def bAbs : List D → Hv → R D := fun ds h => match ds with
  | [.int i] => .ok (.int (if i < 0 then -i else i)) h
  | _ => .stuck
theorem cs_abs : CaS K (fun xs H Q => ∃ i, xs = [.int i] ∧ Q (.int (if i < 0 then -i else i)) H) bAbs := by
  intro φ S H h ds vs Q E rl ra post
  unfold bAbs at post
  split at post
  · obtain ⟨v, rfl, r⟩ := ra.one
    cases r
    exact ⟨_, rfl, post _ φ S H rl (Step.refl _ _ _) (.int _)⟩
  · exact post.elim
def bMax2 : List D → Hv → R D := fun ds h => match ds with
  | [.int i, .int j] => .ok (.int (if j > i then j else i)) h
  | _ => .stuck
def bMin2 : List D → Hv → R D := fun ds h => match ds with
  | [.int i, .int j] => .ok (.int (if j < i then j else i)) h
  | _ => .stuck
/-- sum, max, min of ints; any, all of bools -/
def bInts (f : List Int → Option D) : List D → Hv → R D := fun ds h => match ds with
  | [d] => (match (lOf h d).bind (optAll toI) with
    | some ns => (match f ns with
      | some z => .ok z h
      | none => .stuck)
    | none => .stuck)
  | _ => .stuck
theorem bInts_ok {f : List Int → Option D} {φ : List Addr} {S H : Hp} {h : Hv} {ds : List D} {vs : List V} {Q : VK} {E : XK} (rl : Rel K φ S H h) (ra : RpA K φ S vs ds) (post : Post K (repV K) φ S H (bInts f ds h) Q E) :
    ∃ a ns z, vs = [.ref a] ∧ SqL K H a (ns.map V.int) ∧ f ns = some z ∧ ∀ v, Rp K φ S v z → Q v H := by
  unfold bInts at post
  split at post
  · next d =>
    obtain ⟨v, rfl, r⟩ := ra.one
    split at post
    · next ns hn =>
      split at post
      · next z hz =>
        obtain ⟨xs, q1, q2⟩ := Option.bind_eq_some_iff.mp hn
        obtain ⟨a, vs, rfl, h2, h3⟩ := lOf_ok rl r q1
        rw [toIs_ok h3 q2] at h2
        exact ⟨a, ns, z, rfl, h2, hz, fun v rv => post v φ S H rl (Step.refl _ _ _) rv⟩
      · exact post.elim
    · exact post.elim
  · exact post.elim
def bSum := bInts fun ns => some (.int ns.sum)
theorem cs_sum : CaS K (rSum K) bSum := by
  intro φ S H h ds vs Q E rl ra post
  obtain ⟨a, ns, z, rfl, h1, h2, h3⟩ := bInts_ok rl ra post
  cases h2
  exact ⟨a, ns, rfl, h1, h3 _ (.int _)⟩
def bBools (f : List Bool → Bool) : List D → Hv → R D := fun ds h => match ds with
  | [d] => (match (lOf h d).bind (optAll toBl) with
    | some ns => .ok (.bl (f ns)) h
    | none => .stuck)
  | _ => .stuck
def bAll := bBools fun bs => bs.all id
def bAny := bBools fun bs => bs.any id
/-- list(xs): new -/
def bList : List D → Hv → R (List D) := fun ds h => match ds with
  | [d] => (match sqOf h d with
    | some xs => .ok xs h
    | none => .stuck)
  | _ => .stuck
theorem cl_list : CaL K (fun xs H Q => ∃ p ys, xs = [.ref p] ∧ (SqL K H p ys ∨ SqT K H p ys) ∧ ∀ l, H l = none → Q (.ref l) (upd H l (.lst ys))) bList := by
  intro φ S H h ds vs Q E rl ra post
  unfold bList at post
  split at post
  · next d =>
    obtain ⟨v, rfl, r⟩ := ra.one
    split at post
    · next xs hx =>
      obtain ⟨a, vs, rfl, h2, h3⟩ := sqOf_ok rl r hx
      refine ⟨a, vs, rfl, h2, fun p hp => ?_⟩
      obtain ⟨r2, s2⟩ := rl.hold (o := .lst vs) hp
      exact post _ φ _ _ r2 s2 ⟨p, _, rfl, hp, upd_same, rl.snone hp, rl.notin hp, h3⟩
    · exact post.elim
  · exact post.elim
/-- tuple(xs) of a list -/
def bTuple : List D → Hv → R D := fun ds h => match ds with
  | [d] => (match lOf h d with
    | some xs => .ok (.tup xs) h
    | none => (match tOf d with
      | some xs => .ok (.tup xs) h
      | none => .stuck))
  | _ => .stuck
theorem cs_tuple : CaS K (fun xs H Q => ∃ p ys, xs = [.ref p] ∧ ((SqL K H p ys ∧ ∀ l, H l = none → Q (.ref l) (upd H l (.tup ys))) ∨ (SqT K H p ys ∧ Q (.ref p) H))) bTuple := by
  intro φ S H h ds vs Q E rl ra post
  unfold bTuple at post
  split at post
  · next d =>
    obtain ⟨v, rfl, r⟩ := ra.one
    split at post
    · next xs hx =>
      obtain ⟨a, vs, rfl, h2, h3⟩ := lOf_ok rl r hx
      refine ⟨a, vs, rfl, .inl ⟨h2, fun p hp => ?_⟩⟩
      obtain ⟨r2, s2⟩ := rl.lay (o := .tup vs) hp
      exact post _ φ _ _ r2 s2 (.tup (.inl (.inl upd_same)) (h3.mono (Pre.refl _) s2.sub))
    · split at post
      · next xs hx =>
        cases r with
        | tup g1 g2 =>
          cases hx
          exact ⟨_, _, rfl, .inr ⟨rl.sub.sqt g1, post _ φ S H rl (Step.refl _ _ _) (.tup g1 g2)⟩⟩
        | _ => cases hx
      · exact post.elim
  · exact post.elim
end
end
end VD
set_option Elab.async false
set_option linter.all false
set_option maxRecDepth 100000
set_option maxHeartbeats 4000000
namespace VD
open PySem PySem.Spec PyProof.Rows L2
noncomputable section
def PostS (K : PySem.W.Frag) (φ : List Addr) (S H : Hp) (r : RS) (D : Ends) (W : WX) : Prop := match r with
  | .next σv h' => ∀ σ φ' S' H', Rel K φ' S' H' h' → RelS K φ' S' σv σ → Step φ S H φ' S' H' → D.nx σ H'
  | .brk σv h' => ∀ σ φ' S' H', Rel K φ' S' H' h' → RelS K φ' S' σv σ → Step φ S H φ' S' H' → D.bk σ H'
  | .cont σv h' => ∀ σ φ' S' H', Rel K φ' S' H' h' → RelS K φ' S' σv σ → Step φ S H φ' S' H' → D.ct σ H'
  | .ret d h' => ∀ v φ' S' H', Rel K φ' S' H' h' → Step φ S H φ' S' H' → Rp K φ' S' v d → D.rt v H'
  | .exc x σv h' => ∀ σ cls dd φ' S' H', Rel K φ' S' H' h' → RelS K φ' S' σv σ → Step φ S H φ' S' H' → RpX K φ' S' H' x cls dd → W cls dd σ H'
  | .stuck => False
theorem PostS.up {K : PySem.W.Frag} {φ φ1 : List Addr} {S H S1 H1 : Hp} {r : RS} {D : Ends} {W : WX} (s : Step φ S H φ1 S1 H1) (p : PostS K φ S H r D W) : PostS K φ1 S1 H1 r D W := by
  cases r with
  | next σv h' => exact fun σ φ' S' H' a b c => p σ φ' S' H' a b (s.trans c)
  | brk σv h' => exact fun σ φ' S' H' a b c => p σ φ' S' H' a b (s.trans c)
  | cont σv h' => exact fun σ φ' S' H' a b c => p σ φ' S' H' a b (s.trans c)
  | ret d h' => exact fun v φ' S' H' a b c => p v φ' S' H' a (s.trans b) c
  | exc x σv h' => exact fun σ cls dd φ' S' H' a b c d => p σ cls dd φ' S' H' a b (s.trans c) d
  | stuck => exact p
structure SnS (K : PySem.W.Frag) (W : WX) (ts : TS) (ss : SS) : Prop where
  run : ∀ {φ : List Addr} {S H : Hp} {h : Hv} {σv : VS} {σ : L2.St} {D : Ends}, Rel K φ S H h → RelS K φ S σv σ → PostS K φ S H (ss σv h) D W → ts D σ H
/-- a value, then a statement's end -/
def R.then {α : Type} (r : R α) (σ : VS) (f : α → Hv → RS) : RS := match r with
  | .ok a h => f a h
  | .exc x h => .exc x σ h
  | .stuck => .stuck
@[simp] theorem R.then_ok {α : Type} (a : α) (h : Hv) (σ : VS) (f : α → Hv → RS) : (R.ok a h).then σ f = f a h := rfl
@[simp] theorem R.then_exc {α : Type} (x : Xn) (h : Hv) (σ : VS) (f : α → Hv → RS) : (R.exc x h : R α).then σ f = .exc x σ h := rfl
@[simp] theorem R.then_stuck {α : Type} (σ : VS) (f : α → Hv → RS) : (R.stuck : R α).then σ f = .stuck := rfl
theorem Sn.thenS {α β : Type} {K : PySem.W.Frag} {rep : Rep α β} {W : WX} {t : L2.St → Hp → (β → Hp → Prop) → Prop} {ea : VS → Hv → R α} {f : α → Hv → RS}
    {φ : List Addr} {S H : Hp} {h : Hv} {σv : VS} {σ : L2.St} {D : Ends} {Q1 : β → Hp → Prop}
    (ha : Sn K rep W t ea) (rl : Rel K φ S H h) (rs : RelS K φ S σv σ) (post : PostS K φ S H ((ea σv h).then σv f) D W)
    (k : ∀ a h1 b φ1 S1 H1, Rel K φ1 S1 H1 h1 → RelS K φ1 S1 σv σ → Step φ S H φ1 S1 H1 → rep H φ1 S1 H1 b a → PostS K φ1 S1 H1 (f a h1) D W → Q1 b H1) : t σ H Q1 := by
  refine ha.run rl rs ?_
  cases q : ea σv h with
  | ok a h1 =>
    rw [q] at post
    exact fun b φ1 S1 H1 rl1 st rp => k a h1 b φ1 S1 H1 rl1 (rs.step st) st rp (PostS.up st post)
  | exc x h1 =>
    rw [q] at post
    exact fun cls dd φ' S' H' a b c => post σ cls dd φ' S' H' a (rs.step b) b c
  | stuck =>
    rw [q] at post
    exact post.elim
def QS (X : Cx) (W : WX) (st : Stmt) (ss : SS) : Prop := ∃ t, PS X st t ∧ SnS X.K W t ss
def QB (X : Cx) (W : WX) (st : List Stmt) (ss : SS) : Prop := ∃ t, PSs X st t ∧ SnS X.K W t ss
def sNext : SS := fun σ h => .next σ h
def sSeq (f g : SS) : SS := fun σ h => match f σ h with
  | .next σ' h' => g σ' h'
  | r => r
section
variable {X : Cx} {W : WX} {e a b c : Expr} {st : Stmt} {rest : List Stmt} {pos pos' : Pos} {fa fb fc : ES} {la lb : LS} {ca cb : CS} {s1 s2 s3 : SS}
theorem qb_nil : QB X W [] sNext := ⟨_, pss_nil, ⟨fun {φ S H h σv σ D} rl rs post => post σ φ S H rl rs (Step.refl _ _ _)⟩⟩
theorem qb_cons (h1 : QS X W st s1) (h2 : QB X W rest s2) : QB X W (st :: rest) (sSeq s1 s2) := by
  obtain ⟨t1, a1, b1⟩ := h1
  obtain ⟨t2, a2, b2⟩ := h2
  refine ⟨_, pss_cons a1 a2, ⟨fun {φ S H h σv σ D} rl rs post => b1.run rl rs ?_⟩⟩
  unfold sSeq at post
  cases q : s1 σv h with
  | next σ' h' =>
    rw [q] at post
    exact fun σ1 φ1 S1 H1 rl1 rs1 st1 => b2.run rl1 rs1 (PostS.up st1 post)
  | _ => rw [q] at post; exact post
theorem qb_one (h1 : QS X W st s1) : QB X W [st] s1 := by
  obtain ⟨t1, a1, b1⟩ := h1
  exact ⟨_, pss_one a1, b1⟩
/-- what the proof never comes to -/
def sNever : SS := fun _ _ => .stuck
theorem qb_never : QB X W rest sNever := ⟨_, pss_never, ⟨fun rl rs post => post.elim⟩⟩
def sDrop (f : ES) : SS := fun σ h => (f σ h).then σ fun _ h' => .next σ h'
theorem qs_expr (he : SE X W e fa) (hs : swapsWith e none pos.line X.env = pure false := by rfl) : QS X W (.Expr e pos) (sDrop fa) := by
  obtain ⟨ta, h1, h2⟩ := he
  exact ⟨_, ps_expr h1 hs, ⟨fun rl rs post => h2.thenS rl rs post fun x h1 v φ1 S1 H1 rl1 rs1 st rp post => post _ φ1 S1 H1 rl1 rs1 (Step.refl _ _ _)⟩⟩
def sRet (f : ES) : SS := fun σ h => (f σ h).then σ fun d h' => .ret d h'
theorem qs_ret (he : SE X W e fa) : QS X W (.Return (some e) pos) (sRet fa) := by
  obtain ⟨ta, h1, h2⟩ := he
  exact ⟨_, ps_ret h1, ⟨fun rl rs post => h2.thenS rl rs post fun x h1 v φ1 S1 H1 rl1 rs1 st rp post => post v φ1 S1 H1 rl1 (Step.refl _ _ _) rp⟩⟩
def sIf (c : CS) (f g : SS) : SS := fun σ h => (c σ h).then σ fun k h' => if k then f σ h' else g σ h'
theorem qs_if {x y : List Stmt} (hc : ST X W c ca) (ha : QB X W x s1) (hb : QB X W y s2) : QS X W (.If c x y pos) (sIf ca s1 s2) := by
  obtain ⟨tc, h1, h2⟩ := hc
  obtain ⟨ta, k1, k2⟩ := ha
  obtain ⟨tb, l1, l2⟩ := hb
  refine ⟨_, ps_if h1 k1 l1, ⟨fun rl rs post => h2.thenS rl rs post fun x h1 v φ1 S1 H1 rl1 rs1 st rp post => ?_⟩⟩
  cases (show v = x from rp)
  cases x with
  | true => exact k2.run rl1 rs1 post
  | false => exact l2.run rl1 rs1 post
def sSet (i : Nat) (f : ES) : SS := fun σ h => (f σ h).then σ fun d h' => .next (σ.set i (some d)) h'
theorem qs_set {i : Nat} {x : Str} (nd : X.N.Nodup) (he : SE X W e fa) (hi : X.N[i]? = some x := by rfl) (hx : Loc X.env.scope x := by first | exact Or.inl rfl | exact Or.inr rfl) (hs : swapsWith e (some (.Name x pos')) pos.line X.env = pure false := by rfl)
    (hf : X.fn x = true ∨ X.env.scope.names.lookup x = some .local := by first | exact .inl rfl | exact .inr rfl | assumption) : QS X W (.Assign [.Name x pos'] e pos) (sSet i fa) := by
  obtain ⟨ta, h1, h2⟩ := he
  exact ⟨_, ps_set nd hi hx h1 hs hf, ⟨fun rl rs post => h2.thenS rl rs post fun d h1 v φ1 S1 H1 rl1 rs1 st rp post => post _ φ1 S1 H1 rl1 (rs1.set rp i) (Step.refl _ _ _)⟩⟩
/-- a, b = x, y -/
def sPar (i j : Nat) (g : LS) : SS := fun σ h => (g σ h).then σ fun ds h' => match ds with
  | [x, y] => .next ((σ.set i (some x)).set j (some y)) h'
  | _ => .stuck
end
abbrev GD := D → VS → Option VS
abbrev GDs := List D → VS → Option VS
structure SnG (K : PySem.W.Frag) (g : TG) (gs : GD) (own : List Nat) : Prop where
  run : ∀ {φ : List Addr} {S H : Hp} {d : D} {v : V} {σv σv' : VS} {σ : L2.St} {Q : L2.St → Hp → Prop}, Ex S H → RelS K φ S σv σ → Rp K φ S v d → gs d σv = some σv' →
    (∀ σ', RelS K φ S σv' σ' → σ'.length = σ.length → (∀ j, j ∉ own → σ'[j]? = σ[j]?) → Q σ' H) → g v σ H Q
structure SnGs (K : PySem.W.Frag) (g : TGs) (gs : GDs) (own : List Nat) : Prop where
  run : ∀ {φ : List Addr} {S H : Hp} {d : List D} {v : List V} {σv σv' : VS} {σ : L2.St} {Q : L2.St → Hp → Prop}, Ex S H → RelS K φ S σv σ → RpA K φ S v d → gs d σv = some σv' →
    (∀ σ', RelS K φ S σv' σ' → σ'.length = σ.length → (∀ j, j ∉ own → σ'[j]? = σ[j]?) → Q σ' H) → g v σ H Q
def QG (X : Cx) (tg : Expr) (gs : GD) (own : List Nat) : Prop := ∃ g, PG X tg g ∧ SnG X.K g gs own
def QGs (X : Cx) (ts : List Expr) (gs : GDs) (own : List Nat) : Prop := ∃ g, PGs X ts g ∧ SnGs X.K g gs own
def gN (i : Nat) : GD := fun d σ => some (σ.set i (some d))
def gsNil : GDs := fun ds σ => match ds with
  | [] => some σ
  | _ => none
def gsCons (g : GD) (gs : GDs) : GDs := fun ds σ => match ds with
  | d :: r => (match g d σ with
    | some σ' => gs r σ'
    | none => none)
  | _ => none
def gT (n : Nat) (gs : GDs) : GD := fun d σ => match d with
  | .tup ds => if ds.length = n then gs ds σ else none
  | _ => none
section
variable {X : Cx} {pos : Pos} {e : Expr} {es : List Expr} {g : GD} {gs : GDs} {own own2 : List Nat}
theorem sng_name {K : PySem.W.Frag} (i : Nat) : SnG K (gName i) (gN i) [i] := ⟨fun {φ S H d v σv σv' σ Q} ex rs rp h k => by
  cases h
  refine k _ (rs.set rp i) (List.length_set) fun j hj => ?_
  exact List.getElem?_set_ne (fun z => hj (by rw [← z]; exact List.mem_singleton.mpr rfl))⟩
theorem qg_name {i : Nat} {x : Str} (nd : X.N.Nodup) (hi : X.N[i]? = some x := by rfl) (hx : Loc X.env.scope x := by first | exact Or.inl rfl | exact Or.inr rfl)
    (hf : X.fn x = true ∨ X.env.scope.names.lookup x = some .local := by first | exact .inl rfl | exact .inr rfl | assumption) : QG X (.Name x pos) (gN i) [i] := ⟨_, pg_name nd hi hx hf, sng_name i⟩
theorem qgs_nil : QGs X [] gsNil [] := ⟨_, pgs_nil, ⟨fun {φ S H d v σv σv' σ Q} ex rs rp h k => by
  cases d with
  | nil =>
    cases h
    cases rp
    exact ⟨rfl, k σ rs rfl fun _ _ => rfl⟩
  | cons _ _ => cases h⟩⟩
theorem qgs_cons (h1 : QG X e g own) (h2 : QGs X es gs own2) (hs : (assignEach (e :: es) X.env).map (·.2) = assign e X.env :: (assignEach es X.env).map (·.2) := by rfl) : QGs X (e :: es) (gsCons g gs) (own ++ own2) := by
  obtain ⟨t1, a1, b1⟩ := h1
  obtain ⟨t2, a2, b2⟩ := h2
  refine ⟨_, pgs_cons a1 a2 hs, ⟨fun {φ S H d v σv σv' σ Q} ex rs rp h k => ?_⟩⟩
  cases d with
  | nil => cases h
  | cons d r =>
    cases rp with
    | cons rv rr =>
      simp only [gsCons] at h
      cases q : g d σv with
      | none => rw [q] at h; cases h
      | some σ1 =>
        rw [q] at h
        refine ⟨_, _, rfl, b1.run ex rs rv q fun σ' rs1 l1 f1 => b2.run ex rs1 rr h fun σ2 rs2 l2 f2 => k σ2 rs2 (l2.trans l1) fun j hj => ?_⟩
        have hj' : ¬ (j ∈ own ∨ j ∈ own2) := fun z => hj (List.mem_append.mpr z)
        exact (f2 j fun z => hj' (.inr z)).trans (f1 j fun z => hj' (.inl z))
theorem qg_tup {k : Nat} {n : Nat} (h : QGs X es gs own) (hc : X.calm = true := by rfl) (hn : (assignEach es X.env).length = n := by rfl) (hst : (assignEach es X.env).findIdx? (·.1) = none := by rfl) : QG X (.Tuple es k pos) (gT n gs) own := by
  obtain ⟨t1, a1, b1⟩ := h
  refine ⟨_, pg_tup hc a1 hn hst, ⟨fun {φ S H d v σv σv' σ Q} ex rs rp h k => ?_⟩⟩
  cases rp with
  | @tup a vs ds h1 h2 =>
    simp only [gT] at h
    split at h
    · next q => exact ⟨a, vs, rfl, ex.sqt h1, by rw [h2.length]; exact q, b1.run ex rs h2 h k⟩
    · cases h
  | _ => cases h
end
/-- target = value -/
def sAsg (f : ES) (g : GD) : SS := fun σ h => (f σ h).then σ fun d h' => match g d σ with
  | some σ' => .next σ' h'
  | none => .stuck
theorem qs_asg {X : Cx} {W : WX} {tg e : Expr} {pos : Pos} {fa : ES} {g : GD} {own : List Nat} (he : SE X W e fa) (hg : QG X tg g own) (hs : swapsWithSole [tg] e pos.line X.env = pure false := by rfl) (hw : swappedStores [tg] e X.env = pure none := by rfl)
    (h1 : (assignEach [tg] X.env).map (·.2) = [assign tg X.env] := by rfl) : QS X W (.Assign [tg] e pos) (sAsg fa g) := by
  obtain ⟨ta, k1, k2⟩ := he
  obtain ⟨tg, l1, l2⟩ := hg
  refine ⟨_, ps_asg k1 l1 hs hw h1, ⟨fun rl rs post => k2.thenS rl rs post fun d h1 v φ1 S1 H1 rl1 rs1 st rp post => ?_⟩⟩
  split at post
  · next σ' q => exact l2.run rl1.sub rs1 rp q fun σ2 rs2 _ _ => post σ2 φ1 S1 H1 rl1 rs2 (Step.refl _ _ _)
  · exact post.elim
structure ItOk (K : PySem.W.Frag) (φ0 : List Addr) (S0 H0 : Hp) (J : It) (ds : List D) (chk : Hv → Bool) : Prop where
  go : ∀ {i φ S H h} {fz : ∀ a od u, H0 a = some (HO.frz od u) → H a = some (.frz od u)}, Rel K φ S H h → Pre φ0 φ → Ex S0 S → chk h = true → i < ds.length → J.go i H ∧ ∀ x H', J.yld i H x H' → ∃ S' d, ds[i]? = some d ∧ Rel K φ S' H' h ∧ Step φ S H φ S' H' ∧ Rp K φ S' x d
  stop : ∀ {φ S H h} {fz : ∀ a od u, H0 a = some (HO.frz od u) → H a = some (.frz od u)}, Rel K φ S H h → Pre φ0 φ → Ex S0 S → chk h = true → J.stop ds.length H
abbrev IS := VS → Hv → R (List D × (Hv → Bool))
def repI (K : PySem.W.Frag) : Rep (List D × (Hv → Bool)) It := fun _ φ' S' H' J p => ItOk K φ' S' H' J p.1 p.2
instance {K : PySem.W.Frag} : Rep.Up (repI K) := ⟨fun _ h => h⟩
def QI (X : Cx) (W : WX) (tg iter : Expr) (is : IS) : Prop := ∃ wi, PI X tg iter wi ∧ Sn X.K (repI X.K) W wi is
def always : Hv → Bool := fun _ => true
section
variable {X : Cx} {W : WX} {tg e e2 : Expr} {p pos : Pos} {fa : ES} {la : LS}
/-- a list; a tuple -/
def iL (f : ES) : IS := fun σ h => (f σ h).bind fun d h1 => match d with
  | .lst ds => .ok (ds, always) h1
  | .fz ds => .ok (ds, always) h1
  | _ => .stuck
/-- a list that is a cell: it stays while it is walked -/
noncomputable def isCell (n : Nat) (ds : List D) (h : Hv) : Bool := @decide (h[n]? = some (.lst ds)) (Classical.propDecidable _)
theorem isCell_of {n : Nat} {ds : List D} {h : Hv} (e : h[n]? = some (.lst ds)) : isCell n ds h = true := by
  unfold isCell
  exact @decide_eq_true _ (Classical.propDecidable _) e
noncomputable def iC (f : ES) : IS := fun σ h => (f σ h).bind fun d h1 => match d with
  | .cell n => (match h1[n]? with
    | some (.lst ds) => .ok (ds, isCell n ds) h1
    | _ => .stuck)
  | _ => .stuck
theorem qi_cell (he : SE X W e fa) : QI X W tg e (iC fa) := by
  obtain ⟨ta, h1, h2⟩ := he
  refine ⟨_, pi_list h1, ⟨fun rl rs post => h2.bind rl rs post fun d h1 v φ1 S1 H1 rl1 rs1 st rp post => ?_⟩⟩
  split at post
  · next n =>
    split at post
    · next ds hds =>
      cases (show Rp _ _ _ _ _ from rp) with
      | @cell a _ ha =>
        have look : ∀ {φ S H h}, Rel X.K φ S H h → Pre φ1 φ → isCell n ds h = true → ∃ vs, H a = some (.lst vs) ∧ RpA X.K φ S vs ds := fun {φ S H h} r2 pr ck => by
          have e : h[n]? = some (.lst ds) := by
            unfold isCell at ck
            exact @of_decide_eq_true _ (Classical.propDecidable _) ck
          obtain ⟨_, o, ho, vs, rfl, ra⟩ := r2.cel n a _ (pr.at ha) e
          exact ⟨vs, ho, ra⟩
        obtain ⟨vs0, hv0, _⟩ := look rl1 (Pre.refl _) (isCell_of hds)
        refine ⟨a, rfl, ⟨vs0, .inl (.inl hv0)⟩, post _ φ1 S1 H1 rl1 (Step.refl _ _ _) ⟨fun {i φ S H h fz} r2 pr ex ck hi => ?_, fun {φ S H h fz} r2 pr ex ck => ?_⟩⟩
        · obtain ⟨vs, hv, ra⟩ := look r2 pr ck
          obtain ⟨w, hw, rw_⟩ := ra.at (List.getElem?_eq_getElem hi)
          refine ⟨⟨vs, w, .inl (.inl hv), hw⟩, fun x H' y => ?_⟩
          obtain ⟨rfl, y⟩ := y
          have ew := y vs (.inl (.inl hv))
          rw [hw] at ew
          cases ew
          exact ⟨S, _, List.getElem?_eq_getElem hi, r2, Step.refl _ _ _, rw_⟩
        · obtain ⟨vs, hv, ra⟩ := look r2 pr ck
          exact ⟨vs, .inl (.inl hv), Nat.le_of_eq ra.length⟩
    · exact post.elim
  · exact post.elim
def iT (f : ES) : IS := fun σ h => (f σ h).bind fun d h1 => match d with
  | .tup ds => .ok (ds, always) h1
  | _ => .stuck
theorem qi_tup (he : SE X W e fa) : QI X W tg e (iT fa) := by
  obtain ⟨ta, h1, h2⟩ := he
  refine ⟨_, pi_tup h1, ⟨fun rl rs post => h2.bind rl rs post fun d h1 v φ1 S1 H1 rl1 rs1 st rp post => ?_⟩⟩
  cases d with
  | tup ds =>
    cases (show Rp _ _ _ _ _ from rp) with
    | @tup a vs _ g1 g2 =>
      refine ⟨a, rfl, ⟨vs, rl1.sub.sqt g1⟩, post (Itt X.K a) φ1 S1 H1 rl1 (Step.refl _ _ _) ⟨fun {i φ S H h fz} r2 pr ex _ hi => ?_, fun {φ S H h fz} r2 pr ex _ => ?_⟩⟩
      · have hS : SqT X.K S a vs := ex.sqt g1
        obtain ⟨w, hw, rw_⟩ := g2.at (List.getElem?_eq_getElem hi)
        refine ⟨⟨vs, w, r2.sub.sqt hS, hw⟩, fun x H' y => ?_⟩
        obtain ⟨rfl, y⟩ := y
        have ew := y vs (r2.sub.sqt hS)
        rw [hw] at ew
        cases ew
        exact ⟨S, _, List.getElem?_eq_getElem hi, r2, Step.refl _ _ _, Rp.mono pr ex rw_⟩
      · exact ⟨vs, r2.sub.sqt (ex.sqt g1), Nat.le_of_eq g2.length⟩
  | _ => exact post.elim
def rgD (lo : Int) (n : Nat) : List D := (List.range n).map fun i => .int (lo + (i : Nat))
theorem itr_ok {K : PySem.W.Frag} {φ0 : List Addr} {S0 H0 : Hp} (lo : Int) (n : Nat) : ItOk K φ0 S0 H0 (Itr lo n) (rgD lo n) always where
  go := fun {i φ S H h fz} r2 pr ex _ hi => by
    unfold rgD at hi ⊢
    rw [List.length_map, List.length_range] at hi
    refine ⟨hi, fun x H' y => ?_⟩
    obtain ⟨rfl, rfl⟩ := y
    exact ⟨S, .int (lo + (i : Nat)), by rw [List.getElem?_map, List.getElem?_range hi]; rfl, r2, Step.refl _ _ _, .int _⟩
  stop := fun {φ S H h fz} r2 pr ex _ => by
    unfold rgD
    rw [List.length_map, List.length_range]
    exact Nat.le_refl _
def iR1 (g : LS) : IS := fun σ h => (g σ h).bind fun ds h1 => match ds with
  | [.int n] => @ite _ (-(2 ^ 62) ≤ n ∧ n < 2 ^ 62) (Classical.propDecidable _) (.ok (rgD 0 n.toNat, always) h1) .stuck
  | _ => .stuck
theorem qi_range1 {a : Expr} (hm : X.mg "range" = none) (ha : SA X W [a] la) (hg : Gl X "range" := by rfl) (hs : starEach [a] X.env = [(false, eval a X.env)] := by rfl) : QI X W tg (.Call (.Name "range" p) [a] [] pos) (iR1 la) := by
  obtain ⟨ta, h1, h2⟩ := ha
  refine ⟨_, pi_range1 hg hm h1 hs, ⟨fun rl rs post => h2.bind rl rs post fun ds h1 vs φ1 S1 H1 rl1 rs1 st rp post => ?_⟩⟩
  have ra : RpA X.K φ1 S1 vs ds := rp
  split at post
  · next n =>
    obtain ⟨v, rfl, r⟩ := ra.one
    cases r
    split at post
    · next q => exact ⟨n, rfl, q.1, q.2, post (Itr 0 n.toNat) φ1 S1 H1 rl1 (Step.refl _ _ _) (itr_ok 0 n.toNat)⟩
    · exact post.elim
  · exact post.elim
def iR2 (g : LS) : IS := fun σ h => (g σ h).bind fun ds h1 => match ds with
  | [.int m, .int n] => @ite _ ((-(2 ^ 62) ≤ m ∧ m < 2 ^ 62) ∧ (-(2 ^ 62) ≤ n ∧ n < 2 ^ 62)) (Classical.propDecidable _) (.ok (rgD m (n - m).toNat, always) h1) .stuck
  | _ => .stuck
theorem qi_range2 {a b : Expr} (hm : X.mg "range" = none) (ha : SA X W [a, b] la) (hg : Gl X "range" := by rfl) (hs : starEach [a, b] X.env = [(false, eval a X.env), (false, eval b X.env)] := by rfl) (hs2 : starEach [b] X.env = [(false, eval b X.env)] := by rfl) :
    QI X W tg (.Call (.Name "range" p) [a, b] [] pos) (iR2 la) := by
  obtain ⟨ta, h1, h2⟩ := ha
  refine ⟨_, pi_range2 hg hm h1 hs hs2, ⟨fun rl rs post => h2.bind rl rs post fun ds h1 vs φ1 S1 H1 rl1 rs1 st rp post => ?_⟩⟩
  have ra : RpA X.K φ1 S1 vs ds := rp
  split at post
  · next m n =>
    obtain ⟨v, w, rfl, r, r2⟩ := ra.two
    cases r
    cases r2
    split at post
    · next q => exact ⟨m, n, rfl, ⟨q.1.1, q.1.2, q.2.1, q.2.2⟩, post (Itr m (n - m).toNat) φ1 S1 H1 rl1 (Step.refl _ _ _) (itr_ok m _)⟩
    · exact post.elim
  · exact post.elim
/-- zip of two lists -/
def zipD : List D → List D → List D
  | x :: xs, y :: ys => .tup [x, y] :: zipD xs ys
  | _, _ => []
def lsOf : D → Option (List D)
  | .lst xs => some xs
  | .fz xs => some xs
  | _ => none
def iZ (g : LS) : IS := fun σ h => (g σ h).bind fun ds h1 => match ds with
  | [x, y] => (match lsOf x, lsOf y with
    | some xs, some ys => if xs.length = ys.length then .ok (zipD xs ys, always) h1 else .stuck
    | _, _ => .stuck)
  | _ => .stuck
end
def forD (chk : Hv → Bool) (g : GD) (body : SS) : List D → VS → Hv → RS
  | [], σ, h => if chk h then .next σ h else .stuck
  | d :: ds, σ, h => if chk h then (match g d σ with
    | some σ1 => (match body σ1 h with
      | .next σ2 h2 => forD chk g body ds σ2 h2
      | .cont σ2 h2 => forD chk g body ds σ2 h2
      | .brk σ2 h2 => .next σ2 h2
      | r => r)
    | none => .stuck) else .stuck
def sFor (is : IS) (g : GD) (body : SS) : SS := fun σ h => (is σ h).then σ fun p h1 => forD p.2 g body p.1 σ h1
theorem qs_for {X : Cx} {W : WX} {tg iter : Expr} {body : List Stmt} {is : IS} {g : GD} {own : List Nat} {s1 : SS} {pos : Pos} (hp : PassesOwn (model X.prog X.w) X.A X.env X.xe) (hi : QI X W tg iter is) (hg : QG X tg g own) (hb : QB X W body s1) (hc : X.calm = true := by rfl)
    (hs : ∀ x, foldedSetIterable iter X.env x = pure x := by intro _; rfl) : QS X W (.For tg iter body [] pos) (sFor is g s1) := by
  obtain ⟨wi, a1, a2⟩ := hi
  obtain ⟨tg', b1, b2⟩ := hg
  obtain ⟨tb, c1, c2⟩ := hb
  refine ⟨_, ps_for hp hc a1 b1 c1 hs, ⟨fun {φ S H h σv σ D} rl rs post => a2.thenS rl rs post fun pr h1 J φ1 S1 H1 rl1 rs1 st rp post => ?_⟩⟩
  obtain ⟨ds, chk⟩ := pr
  have ok : ItOk X.K φ1 S1 H1 J ds chk := rp
  refine ⟨fun i m σ' H' => m = ds.length - i ∧ i ≤ ds.length ∧ ∃ φ' S' h' σv', Rel X.K φ' S' H' h' ∧ RelS X.K φ' S' σv' σ' ∧ Step φ1 S1 H1 φ' S' H' ∧ PostS X.K φ' S' H' (forD chk g s1 (ds.drop i) σv' h') D W,
    ⟨ds.length, rfl, Nat.zero_le _, φ1, S1, h1, σv, rl1, rs1, Step.refl _ _ _, post⟩, ?_⟩
  rintro i m σ' H' ⟨rfl, hi, φ', S', h', σv', r2, rs2, st2, post⟩
  by_cases hlt : i < ds.length
  · rw [List.drop_eq_getElem_cons hlt] at post
    by_cases hck : chk h' = true
    · simp only [forD, hck, if_true] at post
      obtain ⟨go, yl⟩ := ok.go (fz := st2.frz) r2 st2.prefix st2.sub hck hlt
      cases q : g ds[i] σv' with
      | none => simp only [q] at post; exact post.elim
      | some σ1 =>
        simp only [q] at post
        refine .inr ⟨go, fun σ2 H2 => ∃ φ2 S2 h2 σv2, Rel X.K φ2 S2 H2 h2 ∧ RelS X.K φ2 S2 σv2 σ2 ∧ Step φ1 S1 H1 φ2 S2 H2 ∧ PostS X.K φ2 S2 H2 (forD chk g s1 (ds.drop (i + 1)) σv2 h2) D W, fun σ2 H2 hN => ⟨ds.length - (i + 1), by omega, rfl, hlt, hN⟩, fun x H3 hy => ?_⟩
        obtain ⟨S3, d, hd, r3, st3, rx⟩ := yl x H3 hy
        rw [List.getElem?_eq_getElem hlt] at hd
        cases hd
        refine b2.run r3.sub (rs2.step st3) rx q fun σ4 rs4 _ _ => c2.run r3 rs4 ?_
        cases qb : s1 σ1 h' with
        | next σ5 h5 =>
          simp only [qb] at post
          exact fun σ6 φ6 S6 H6 r6 rs6 st6 => ⟨φ6, S6, h5, σ5, r6, rs6, (st2.trans st3).trans st6, PostS.up (st3.trans st6) post⟩
        | cont σ5 h5 =>
          simp only [qb] at post
          exact fun σ6 φ6 S6 H6 r6 rs6 st6 => ⟨φ6, S6, h5, σ5, r6, rs6, (st2.trans st3).trans st6, PostS.up (st3.trans st6) post⟩
        | brk σ5 h5 =>
          simp only [qb] at post
          exact fun σ6 φ6 S6 H6 r6 rs6 st6 => post σ6 φ6 S6 H6 r6 rs6 (st3.trans st6)
        | ret d h5 =>
          simp only [qb] at post
          exact fun v φ6 S6 H6 r6 st6 rv => post v φ6 S6 H6 r6 (st3.trans st6) rv
        | exc x σ5 h5 =>
          simp only [qb] at post
          exact fun σ6 cls dd φ6 S6 H6 r6 rs6 st6 rx => post σ6 cls dd φ6 S6 H6 r6 rs6 (st3.trans st6) rx
        | stuck => simp only [qb] at post; exact post.elim
    · simp only [forD, hck] at post
      exact post.elim
  · have e : i = ds.length := by omega
    subst e
    rw [List.drop_length] at post
    by_cases hck : chk h' = true
    · simp only [forD, hck, if_true] at post
      exact .inl ⟨ok.stop (fz := st2.frz) r2 st2.prefix st2.sub hck, post σ' φ' S' H' r2 rs2 (Step.refl _ _ _)⟩
    · simp only [forD, hck] at post
      exact post.elim
def whileD (c : CS) (body : SS) : Nat → VS → Hv → RS
  | 0, _, _ => .stuck
  | n + 1, σ, h => (c σ h).then σ fun k h1 => if k then (match body σ h1 with
    | .next σ2 h2 => whileD c body n σ2 h2
    | .cont σ2 h2 => whileD c body n σ2 h2
    | .brk σ2 h2 => .next σ2 h2
    | r => r) else .next σ h1
/-- fuel: what one's own proof knows to be enough -/
def sWhile (fuel : VS → Hv → Nat) (c : CS) (body : SS) : SS := fun σ h => whileD c body (fuel σ h) σ h
theorem qs_while {X : Cx} {W : WX} {c : Expr} {body : List Stmt} {ca : CS} {s1 : SS} {pos : Pos} (fuel : VS → Hv → Nat) (hp : PassesOwn (model X.prog X.w) X.A X.env X.xe) (hc : ST X W c ca) (hb : QB X W body s1) : QS X W (.While c body [] pos) (sWhile fuel ca s1) := by
  obtain ⟨tc, a1, a2⟩ := hc
  obtain ⟨tb, c1, c2⟩ := hb
  refine ⟨_, ps_while hp a1 c1, ⟨fun {φ S H h σv σ D} rl rs post => ?_⟩⟩
  refine ⟨fun m σ' H' => ∃ φ' S' h' σv', Rel X.K φ' S' H' h' ∧ RelS X.K φ' S' σv' σ' ∧ PostS X.K φ' S' H' (whileD ca s1 m σv' h') D W, ⟨_, φ, S, h, σv, rl, rs, post⟩, ?_⟩
  rintro m σ' H' ⟨φ', S', h', σv', r2, rs2, post⟩
  cases m with
  | zero => exact post.elim
  | succ m =>
    refine a2.thenS r2 rs2 post fun k h1 k' φ1 S1 H1 rl1 rs1 st rp post => ?_
    cases (show k' = k from rp)
    cases k with
    | true =>
      rw [if_pos rfl] at post
      refine (if_pos rfl : (if true = true then _ else _) = _) ▸ ⟨fun σ2 H2 => ∃ φ2 S2 h2 σv2, Rel X.K φ2 S2 H2 h2 ∧ RelS X.K φ2 S2 σv2 σ2 ∧ PostS X.K φ2 S2 H2 (whileD ca s1 m σv2 h2) D W, fun σ2 H2 hN => ⟨m, Nat.lt_succ_self m, hN⟩, c2.run rl1 rs1 ?_⟩
      cases qb : s1 σv' h1 with
      | next σ5 h5 =>
        simp only [qb] at post
        exact fun σ6 φ6 S6 H6 r6 rs6 st6 => ⟨φ6, S6, h5, σ5, r6, rs6, PostS.up st6 post⟩
      | cont σ5 h5 =>
        simp only [qb] at post
        exact fun σ6 φ6 S6 H6 r6 rs6 st6 => ⟨φ6, S6, h5, σ5, r6, rs6, PostS.up st6 post⟩
      | brk σ5 h5 => simp only [qb] at post; exact post
      | ret d h5 => simp only [qb] at post; exact post
      | exc x σ5 h5 => simp only [qb] at post; exact post
      | stuck => simp only [qb] at post; exact post.elim
    | false =>
      exact post σ' φ1 S1 H1 rl1 rs1 (Step.refl _ _ _)
/-- fuel enough, where some is -/
def fuelC (c : CS) (body : SS) (σ : VS) (h : Hv) : Nat := @dite Nat (∃ n, whileD c body n σ h ≠ .stuck) (Classical.propDecidable _) (fun z => Classical.choose z) (fun _ => 0)
def sLoop (c : CS) (body : SS) : SS := sWhile (fuelC c body) c body
theorem qs_loop {X : Cx} {W : WX} {c : Expr} {body : List Stmt} {ca : CS} {s1 : SS} {pos : Pos} (hp : PassesOwn (model X.prog X.w) X.A X.env X.xe) (hc : ST X W c ca) (hb : QB X W body s1) : QS X W (.While c body [] pos) (sLoop ca s1) := qs_while (fuelC ca s1) hp hc hb
theorem whileD_up {c : CS} {body : SS} : ∀ (n : Nat) (σ : VS) (h : Hv), whileD c body n σ h ≠ .stuck → ∀ m, n ≤ m → whileD c body m σ h = whileD c body n σ h
  | 0, σ, h, q, m, hm => absurd rfl q
  | n + 1, σ, h, q, 0, hm => absurd hm (by omega)
  | n + 1, σ, h, q, m + 1, hm => by
    have ih := fun σ h q => whileD_up (c := c) (body := body) n σ h q m (by omega)
    simp only [whileD] at q ⊢
    cases e1 : c σ h with
    | ok k h1 =>
      simp only [e1, R.then_ok] at q ⊢
      cases k with
      | false => rfl
      | true =>
        simp only [if_true] at q ⊢
        cases e2 : body σ h1 with
        | next σ2 h2 => simp only [e2] at q ⊢; exact ih _ _ q
        | cont σ2 h2 => simp only [e2] at q ⊢; exact ih _ _ q
        | brk σ2 h2 => rfl
        | ret d h2 => rfl
        | exc x σ2 h2 => rfl
        | stuck => rfl
    | exc x h1 => rfl
    | stuck => rfl
theorem sLoop_at {c : CS} {body : SS} {n : Nat} {σ : VS} {h : Hv} (q : whileD c body n σ h ≠ .stuck) : sLoop c body σ h = whileD c body n σ h := by
  have z : ∃ n, whileD c body n σ h ≠ .stuck := ⟨n, q⟩
  show whileD c body (fuelC c body σ h) σ h = _
  unfold fuelC
  rw [dif_pos z]
  have z2 := Classical.choose_spec z
  rcases Nat.le_total (Classical.choose z) n with hh | hh
  · exact (whileD_up _ _ _ z2 _ hh).symm
  · exact whileD_up _ _ _ q _ hh
end
end VD
set_option Elab.async false
set_option linter.all false
set_option maxRecDepth 100000
set_option maxHeartbeats 4000000
namespace VD
open PySem PySem.Spec PyProof.Rows L2
noncomputable section
/-- no exception leaves here -/
abbrev W0 : WX := fun _ _ _ _ => False
def R.calm {α : Type} (r : R α) : R α := match r with
  | .ok a h => .ok a h
  | _ => .stuck
@[simp] theorem R.calm_ok {α : Type} (a : α) (h : Hv) : (R.ok a h).calm = .ok a h := rfl
@[simp] theorem R.calm_stuck {α : Type} : (R.stuck : R α).calm = .stuck := rfl
/-- the slots of a block's own names -/
def wipeV (σ : VS) : List Nat → VS
  | [] => σ
  | v :: vs => (wipeV σ vs).set v none
def lcD (chk : Hv → Bool) (g : GD) (c : CS) (elt : ES) : List D → VS → Hv → R (List D)
  | [], _, h => if chk h then .ok [] h else .stuck
  | d :: ds, σ, h => if chk h then (match g d σ with
    | some σ1 => (c σ1 h).calm.bind fun b h1 => if b then (elt σ1 h1).calm.bind fun y h2 => (lcD chk g c elt ds σ h2).bind fun ys h3 => .ok (y :: ys) h3 else lcD chk g c elt ds σ h1
    | none => .stuck) else .stuck
def lLc (is : IS) (g : GD) (c : CS) (elt : ES) (own : List Nat) : LS := fun σ h => (is σ h).bind fun p h1 => if p.1.length ≤ 16777216 then lcD p.2 g c elt p.1 (wipeV σ own) h1 else .stuck
theorem wipe_at {σ : L2.St} : ∀ {vs : List Nat} {j : Nat}, (wipe σ vs)[j]? = if j ∈ vs then (if j < σ.length then some none else none) else σ[j]?
  | [], j => by simp [wipe]
  | v :: vs, j => by
    unfold wipe
    by_cases q : v = j
    · subst q
      rw [if_pos List.mem_cons_self]
      by_cases hl : v < σ.length
      · rw [if_pos hl, List.getElem?_set_self (by rw [wipe_length]; exact hl)]
      · rw [if_neg hl, List.getElem?_eq_none (by rw [List.length_set, wipe_length]; omega)]
    · rw [List.getElem?_set_ne q, wipe_at (vs := vs) (j := j)]
      by_cases hm : j ∈ vs
      · rw [if_pos hm, if_pos (List.mem_cons_of_mem _ hm)]
      · rw [if_neg hm, if_neg (fun z => (List.mem_cons.mp z).elim (fun z => q z.symm) hm)]
theorem wipe_same {σ σ' : L2.St} {own vs : List Nat} (hl : σ'.length = (wipe σ vs).length) (h : ∀ j, j ∉ own → σ'[j]? = (wipe σ vs)[j]?) (hs : ∀ j ∈ own, j ∈ vs) : wipe σ' vs = wipe σ vs := by
  refine List.ext_getElem? fun j => ?_
  rw [wipe_at, wipe_at]
  have hl2 : σ'.length = σ.length := by rw [hl, wipe_length]
  by_cases hm : j ∈ vs
  · rw [if_pos hm, if_pos hm, hl2]
  · rw [if_neg hm, if_neg hm, h j (fun z => hm (hs j z)), wipe_at, if_neg hm]
theorem RelS.wipe {K : PySem.W.Frag} {φ : List Addr} {S : Hp} {σv : VS} {σ : L2.St} (r : RelS K φ S σv σ) : ∀ vs : List Nat, RelS K φ S (wipeV σv vs) (L2.wipe σ vs)
  | [] => r
  | v :: vs => (RelS.wipe r vs).unset v none
def tS {α β : Type} (K : PySem.W.Frag) (rep : Rep α β) (W : WX) (es : VS → Hv → R α) : L2.St → Hp → (β → Hp → Prop) → Prop := fun σ H Q => ∃ φ S h σv, Rel K φ S H h ∧ RelS K φ S σv σ ∧ Post K rep φ S H (es σv h) Q (fun c d H' => W c d σ H')
def SCs (X : Cx) (W : WX) (ifs : List Expr) (c : CS) : Prop := ∃ t, PTs X ifs t ∧ Sn X.K repB W t c
section
variable {X : Cx} {W : WX} {e : Expr} {es : List Expr} {fa : ES} {ca : CS}
theorem SE.can (h : SE X W e fa) : PE X e (tS X.K (repV X.K) W fa) := by
  obtain ⟨t, h1, h2⟩ := h
  exact ⟨fun pins s σ H Q I ⟨φ, S, h, σv, rl, rs, post⟩ => h1.run pins s σ H Q I (h2.run rl rs post)⟩
theorem SCs.can (h : SCs X W es ca) : PTs X es (tS X.K repB W ca) := by
  obtain ⟨t, h1, h2⟩ := h
  exact ⟨fun pins s σ H Q I ⟨φ, S, h, σv, rl, rs, post⟩ => h1.run pins s σ H Q I (h2.run rl rs post)⟩
def cYes : CS := fun _ h => .ok true h
theorem scs_nil : SCs X W [] cYes := ⟨_, pts_nil, ⟨fun {φ S H h σv σ Q} rl rs post => post true φ S H rl (Step.refl _ _ _) rfl⟩⟩
end
def tGd (K : PySem.W.Frag) (gs : GD) (own : List Nat) : TG := fun v σ H Q => ∃ φ S σv σv' d, Ex S H ∧ RelS K φ S σv σ ∧ Rp K φ S v d ∧ gs d σv = some σv' ∧ ∀ σ', RelS K φ S σv' σ' → σ'.length = σ.length → (∀ j, j ∉ own → σ'[j]? = σ[j]?) → Q σ' H
theorem QG.can {X : Cx} {tg : Expr} {gs : GD} {own : List Nat} (h : QG X tg gs own) : PG X tg (tGd X.K gs own) := by
  obtain ⟨t, h1, h2⟩ := h
  exact ⟨fun pins s σ H v u Q I r ⟨φ, S, σv, σv', d, ex, rs, rp, e, k⟩ => h1.run pins s σ H v u Q I r (h2.run ex rs rp e k)⟩
section
variable {X : Cx} {W : WX} {elt tg iter : Expr} {ifs : List Expr} {scope : Scope} {own : List (Str × Nat)} {is : IS} {g : GD} {gown : List Nat} {c : CS} {el : ES} {pos spos : Pos}
theorem sn_lc {wi : TI} (h2 : Sn X.K (repI X.K) W wi is) (hown : ∀ j ∈ gown, j ∈ own.map (·.2)) :
    Sn X.K (repL X.K) W (tLc wi (tGd X.K g gown) (tS X.K repB W0 c) (tS X.K (repV X.K) W0 el) (own.map (·.2))) (lLc is g c el (own.map (·.2))) := by
  refine ⟨fun {φ S H h σv σ Q} rl rs post => h2.run rl rs (post.map fun pr h1 J φ1 S1 H1 rl1 st rp post => ?_)⟩
  obtain ⟨ds, chk⟩ := pr
  have ok : ItOk X.K φ1 S1 H1 J ds chk := rp
  have hz : ds.length ≤ 16777216 := by
    refine Classical.byContradiction fun hz => ?_
    simp only [hz, if_false] at post
    exact post.elim
  simp only [hz, if_true] at post
  intro D hD
  have rs1 : RelS X.K φ1 S1 σv σ := rs.step st
  have hD0 : H D = none := st.fresh hD
  generalize hvs : own.map (·.2) = vs at post hown ⊢
  -- what is still to come, put behind what is made
  refine ⟨fun i m H' => m = ds.length - i ∧ i ≤ ds.length ∧ ∃ φ' S' h' acc da, Rel X.K φ' S' H' h' ∧ Step φ1 S1 H1 φ' S' H' ∧ S' D = none ∧ D ∉ φ' ∧ H' D = some (.lst acc) ∧ RpA X.K φ' S' acc da ∧ da.length ≤ i ∧
      Post X.K (repL X.K) φ S H ((lcD chk g c el (ds.drop i) (wipeV σv vs) h').bind fun ys h3 => .ok (da ++ ys) h3) Q (fun c d H' => W c d σ H'), ?_, ?_⟩
  · obtain ⟨r2, s2⟩ := rl1.hold (o := .lst []) hD
    refine ⟨ds.length, rfl, Nat.zero_le _, φ1, S1, h1, [], [], r2, s2, rl1.snone hD, rl1.notin hD, upd_same, .nil, Nat.le_refl _, ?_⟩
    rw [List.drop_zero]
    cases q : lcD chk g c el ds (wipeV σv vs) h1 with
    | ok a h => rw [q] at post; exact post
    | exc x h => rw [q] at post; exact post
    | stuck => rw [q] at post; exact post
  · rintro i m H' ⟨rfl, hi, φ', S', h', acc, da, r2, st2, sD, nD, hDl, ra, hda, post⟩
    have s12 : Step φ1 S1 H1 φ' S' H' := st2
    by_cases hlt : i < ds.length
    · rw [List.drop_eq_getElem_cons hlt] at post
      have hck : chk h' = true := by
        refine Classical.byContradiction fun hck => ?_
        simp only [lcD, hck] at post
        exact post.elim
      simp only [lcD, hck, if_true] at post
      obtain ⟨go, yl⟩ := ok.go (fz := st2.frz) r2 st2.prefix st2.sub hck hlt
      cases q : g ds[i] (wipeV σv vs) with
      | none => simp only [q] at post; exact post.elim
      | some σ1 =>
        simp only [q] at post
        refine .inr ⟨go, fun H2 => ∃ φ2 S2 h2 acc2 da2, Rel X.K φ2 S2 H2 h2 ∧ Step φ1 S1 H1 φ2 S2 H2 ∧ S2 D = none ∧ D ∉ φ2 ∧ H2 D = some (.lst acc2) ∧ RpA X.K φ2 S2 acc2 da2 ∧ da2.length ≤ i + 1 ∧
          Post X.K (repL X.K) φ S H ((lcD chk g c el (ds.drop (i + 1)) (wipeV σv vs) h2).bind fun ys h3 => .ok (da2 ++ ys) h3) Q (fun c d H' => W c d σ H'), fun H2 hN => ⟨ds.length - (i + 1), by omega, rfl, hlt, hN⟩, fun x H3 hy => ?_⟩
        obtain ⟨S3, d, hd, r3, st3, rx⟩ := yl x H3 hy
        rw [List.getElem?_eq_getElem hlt] at hd
        cases hd
        have rsw : RelS X.K φ' S3 (wipeV σv vs) (wipe σ vs) := ((rs1.step s12).step st3).wipe vs
        refine ⟨φ', S3, _, _, _, r3.sub, rsw, rx, q, fun σ4 rs4 l4 f4 => ⟨wipe_same l4 f4 hown, ?_⟩⟩
        refine ⟨φ', S3, h', σ1, r3, rs4, ?_⟩
        cases qc : c σ1 h' with
        | stuck => simp only [qc, R.calm_stuck, R.bind_stuck] at post; exact post.elim
        | exc x h => simp only [qc, R.calm, R.bind_stuck] at post; exact post.elim
        | ok b h5 =>
          simp only [qc, R.calm_ok, R.bind_ok] at post
          intro b' φ5 S5 H5 r5 st5 eb
          cases (show b' = b from eb)
          have s15 : Step φ1 S1 H1 φ5 S5 H5 := (st2.trans st3).trans st5
          have nD' : H' D ≠ none := by rw [hDl]; exact fun z => nomatch z
          have S3D : S3 D = none := (st3.old D nD').trans sD
          have H3D : H3 D = some (.lst acc) := st3.keep D _ hDl nD
          have S5D : S5 D = none := (st5.old D (by rw [H3D]; exact fun z => nomatch z)).trans S3D
          have H5D : H5 D = some (.lst acc) := st5.keep D _ H3D nD
          have n5D : D ∉ φ5 := fun z => by
            obtain ⟨ψ, e, hn⟩ := st5.pre
            rw [e] at z
            rcases List.mem_append.mp z with z | z
            · exact nD z
            · rw [hn D z] at H3D; cases H3D
          have ra5 : RpA X.K φ5 S5 acc da := ra.mono (st3.trans st5).prefix (st3.trans st5).sub
          cases b with
          | false =>
            rw [if_neg Bool.false_ne_true]
            exact ⟨φ5, S5, h5, acc, da, r5, s15, S5D, n5D, H5D, ra5, by omega, post⟩
          | true =>
            rw [if_pos rfl]
            simp only [if_true] at post
            refine ⟨φ5, S5, h5, σ1, r5, rs4.step st5, ?_⟩
            cases qe : el σ1 h5 with
            | stuck => simp only [qe, R.calm_stuck, R.bind_stuck] at post; exact post.elim
            | exc x h => simp only [qe, R.calm, R.bind_stuck] at post; exact post.elim
            | ok y h6 =>
              simp only [qe, R.calm_ok, R.bind_ok] at post
              intro v φ6 S6 H6 r6 st6 rv
              have S6D : S6 D = none := (st6.old D (by rw [H5D]; exact fun z => nomatch z)).trans S5D
              have H6D : H6 D = some (.lst acc) := st6.keep D _ H5D n5D
              have n6D : D ∉ φ6 := fun z => by
                obtain ⟨ψ, e, hn⟩ := st6.pre
                rw [e] at z
                rcases List.mem_append.mp z with z | z
                · exact n5D z
                · rw [hn D z] at H5D; cases H5D
              have ra6 : RpA X.K φ6 S6 acc da := ra5.mono st6.prefix st6.sub
              refine ⟨acc, H6D, by rw [ra.length, line_eq]; omega, φ6, S6, h6, acc ++ [v], da ++ [y], ?_, ?_, S6D, n6D, upd_same, ra6.append (.cons rv .nil), by rw [List.length_append, List.length_singleton]; omega, ?_⟩
              · refine ⟨r6.len, fun a o e => ?_, r6.nd, fun n a c e1 e2 => ?_⟩
                · rw [upd_ne (ne_of_none e S6D)]; exact r6.sub a o e
                · obtain ⟨h1, o', h2, h3⟩ := r6.cel n a c e1 e2
                  exact ⟨h1, o', by rw [upd_ne (fun z => n6D (by rw [← z]; exact List.mem_of_getElem? e1))]; exact h2, h3⟩
              · have s16 := s15.trans st6
                refine ⟨s16.pre, s16.sub, s16.old, fun a o e hn => ?_, fun a ha => ?_, fun a od u e => by rw [upd_ne (ne_of_none e hD)]; exact s16.frz a od u e⟩
                · rw [upd_ne (ne_of_none e hD)]; exact s16.keep a o e hn
                · rw [upd_ne (fun z => ha (by rw [z]; exact hD))]; exact s16.there a ha
              · cases ql : lcD chk g c el (ds.drop (i + 1)) (wipeV σv vs) h6 with
                | ok ys h7 => simp only [ql, R.bind_ok, List.append_assoc, List.singleton_append] at post ⊢; exact post
                | exc x h7 => simp only [ql, R.bind_exc] at post ⊢; exact post
                | stuck => simp only [ql, R.bind_stuck] at post; exact post.elim
    · have e : i = ds.length := by omega
      subst e
      rw [List.drop_length] at post
      have hck : chk h' = true := by
        refine Classical.byContradiction fun hck => ?_
        simp only [lcD, hck] at post
        exact post.elim
      simp only [lcD, hck, if_true, R.bind_ok, List.append_nil] at post
      exact .inl ⟨ok.stop (fz := st2.frz) r2 st2.prefix st2.sub hck, post (.ref D) φ' S' H' r2 (st.trans s12) ⟨D, acc, rfl, hD0, hDl, sD, nD, ra⟩⟩
theorem sn_V {K : PySem.W.Frag} {W : WX} {te : TE} {f : LS} (h : Sn K (repL K) W te f) : Sn K (repV K) W te (eV f) := ⟨fun rl rs post => h.run rl rs (post.map fun ds h1 v φ1 S1 H1 rl1 st rp post => by
  obtain ⟨p, vs, rfl, hp, hp1, hs1, hn1, ra⟩ := rp
  exact post (.ref p) φ1 _ H1 (rl1.still hp1 hs1 hn1) (st.still hp hs1) (.lst upd_same (ra.mono (Pre.refl _) (Ex.new hs1))))⟩
theorem sl_lc (nd : X.N.Nodup) (hi : QI X W tg iter is) (ok : BlkOk X.N X.env.scope scope own)
    (hg : ∀ (s : Shared) (H : Hp) (C : Addr) (cl : List (Str × Addr)) (fp : List Addr), QG (X.blk s H scope (compEnvC scope cl C X.env) fp) tg g gown) (hown : ∀ j ∈ gown, j ∈ own.map (·.2))
    (ht : ∀ (s : Shared) (H : Hp) (C : Addr) (cl : List (Str × Addr)) (fp : List Addr), SCs (X.blk s H scope (compEnvC scope cl C X.env) fp) W0 ifs c)
    (he : ∀ (s : Shared) (H : Hp) (C : Addr) (cl : List (Str × Addr)) (fp : List Addr), SE (X.blk s H scope (compEnvC scope cl C X.env) fp) W0 elt el) (hc : X.calm = true := by rfl) (hs : ∀ x, foldedSetIterable iter X.env x = pure x := by intro _; rfl) :
    SL X W (.ListComp elt [⟨tg, iter, ifs, 0⟩] scope pos) (lLc is g c el (own.map (·.2))) := by
  obtain ⟨wi, h1, h2⟩ := hi
  exact ⟨_, pe_lc hc nd h1 ok (fun s H C cl fp => (hg s H C cl fp).can) (fun s H C cl fp => (ht s H C cl fp).can) (fun s H C cl fp => (he s H C cl fp).can) hs, sn_lc h2 hown⟩
theorem sns_set {K : PySem.W.Frag} {W : WX} {te : TE} {f : ES} {i : Nat} (h : Sn K (repV K) W te f) : SnS K W (tAsg te (gName i)) (sSet i f) := ⟨fun rl rs post => h.thenS rl rs post fun d h1 v φ1 S1 H1 rl1 rs1 st rp post => post _ φ1 S1 H1 rl1 (rs1.set rp i) (Step.refl _ _ _)⟩
/-- y = [..] -/
theorem qs_setLc {i : Nat} {y : Str} {py : Pos} {f : LS → ES} (hf : ∀ {K : PySem.W.Frag} {W : WX} {te : TE} {l : LS}, Sn K (repL K) W te l → Sn K (repV K) W te (f l)) (nd : X.N.Nodup)
    (hsw : swapsWith (.ListComp elt [⟨tg, iter, ifs, 0⟩] scope pos) (some (.Name y py)) spos.line X.env = pure true) (hi : QI X W tg iter is) (ok : BlkOk X.N X.env.scope scope own)
    (hg : ∀ (s : Shared) (H : Hp) (C : Addr) (cl : List (Str × Addr)) (fp : List Addr), QG (X.blk s H scope (compEnvC scope cl C X.env) fp) tg g gown) (hown : ∀ j ∈ gown, j ∈ own.map (·.2))
    (ht : ∀ (s : Shared) (H : Hp) (C : Addr) (cl : List (Str × Addr)) (fp : List Addr), SCs (X.blk s H scope (compEnvC scope cl C X.env) fp) W0 ifs c)
    (he : ∀ (s : Shared) (H : Hp) (C : Addr) (cl : List (Str × Addr)) (fp : List Addr), SE (X.blk s H scope (compEnvC scope cl C X.env) fp) W0 elt el)
    (hy : X.N[i]? = some y := by rfl) (hyl : X.env.scope.names.lookup y = some .local := by rfl) (hc : X.calm = true := by rfl) (hs : ∀ x, foldedSetIterable iter X.env x = pure x := by intro _; rfl) :
    QS X W (.Assign [.Name y py] (.ListComp elt [⟨tg, iter, ifs, 0⟩] scope pos) spos) (sSet i (f (lLc is g c el (own.map (·.2))))) := by
  obtain ⟨wi, h1, h2⟩ := hi
  exact ⟨_, ps_setLc hc nd hy hyl hsw h1 ok (fun s H C cl fp => (hg s H C cl fp).can) (fun s H C cl fp => (ht s H C cl fp).can) (fun s H C cl fp => (he s H C cl fp).can) hs, sns_set (hf (sn_lc h2 hown))⟩
end
end
end VD
set_option Elab.async false
set_option linter.all false
set_option maxRecDepth 100000
set_option maxHeartbeats 4000000
namespace VD
open PySem PySem.Spec PyProof.Rows L2
noncomputable section
def frz (n0 : Nat) (h : Hv) : Nat → D → Option D
  | 0, _ => none
  | _ + 1, .non => some .non
  | _ + 1, .bl b => some (.bl b)
  | _ + 1, .int i => some (.int i)
  | _ + 1, .str x => some (.str x)
  | f + 1, .lst ds => (optAll (frz n0 h f) ds).map .lst
  | f + 1, .fz ds => (optAll (frz n0 h f) ds).map .fz
  | f + 1, .tup ds => (optAll (frz n0 h f) ds).map .tup
  | f + 1, .cell n => if n < n0 then some (.cell n) else match h[n]? with
    | some (.lst ds) => (optAll (frz n0 h f) ds).map .lst
    | some (.dF kvs) => (optAll (frz n0 h f) (kvs.map (·.2))).map (.dct (kvs.map (·.1)))
    | some (.ins c fs) => (optAll (frz n0 h f) (fs.map (·.2))).map (.obj c (fs.map (·.1)))
    | _ => none
  | _ + 1, .raw v => some (.raw v)
  | f + 1, .dct ks ds => (optAll (frz n0 h f) ds).map (.dct ks)
  | f + 1, .obj c ks ds => (optAll (frz n0 h f) ds).map (.obj c ks)
  | _ + 1, .exv _ _ _ _ => none
def still (φ : List Addr) (n0 : Nat) (S H : Hp) : Hp := fun a => if a ∈ φ.drop n0 then H a else S a
section
variable {K : PySem.W.Frag} {φ : List Addr} {S H : Hp} {h : Hv} {n0 : Nat}
theorem still_ex (rl : Rel K φ S H h) : Ex S (still φ n0 S H) := fun a o e => by
  unfold still
  rw [if_neg]
  · exact e
  · intro z
    have := (rl.mem (List.mem_of_mem_drop z)).1
    rw [this] at e
    cases e
theorem still_sub (rl : Rel K φ S H h) : Ex (still φ n0 S H) H := fun a o e => by
  unfold still at e
  split at e
  · exact e
  · exact rl.sub a o e
theorem frzA_of {f : Nat} {K : PySem.W.Frag} {φ φ' : List Addr} {S S' : Hp} (ih : ∀ (d : D) (v : V) (d' : D), Rp K φ S v d → frz n0 h f d = some d' → Rp K φ' S' v d') :
    ∀ (ds : List D) (vs : List V) (ds' : List D), RpA K φ S vs ds → optAll (frz n0 h f) ds = some ds' → RpA K φ' S' vs ds' := by
  intro ds
  induction ds with
  | nil => intro vs ps r e; cases r; cases e; exact .nil
  | cons d ds ih2 =>
    intro vs ps r e
    cases r with
    | cons r t =>
      simp only [optAll] at e
      cases q : frz n0 h f d with
      | none => rw [q] at e; cases e
      | some p0 =>
        rw [q] at e
        cases q2 : optAll (frz n0 h f) ds with
        | none => simp only [q2] at e; cases e
        | some p1 =>
          simp only [q2] at e
          cases e
          exact .cons (ih d _ p0 r q) (ih2 _ p1 t q2)
theorem frz_ok (rl : Rel K φ S H h) : ∀ (f : Nat) (d : D) (v : V) (d' : D), Rp K φ S v d → frz n0 h f d = some d' → Rp K (φ.take n0) (still φ n0 S H) v d' := by
  intro f
  induction f with
  | zero => intro d v p _ e; cases e
  | succ f ih =>
    have all := frzA_of (K := K) (n0 := n0) (h := h) ih
    intro d v p r e
    cases r with
    | non => cases e; exact .non
    | bl b => cases e; exact .bl b
    | int i => cases e; exact .int i
    | str x => cases e; exact .str x
    | @lst a vs ds h1 h2 =>
      obtain ⟨ps, q, rfl⟩ := Option.map_eq_some_iff.mp (show (optAll (frz n0 h f) ds).map .lst = some p from e)
      exact .lst (still_ex rl _ _ h1) (all ds vs ps h2 q)
    | @fz a vs ds h1 h2 =>
      obtain ⟨ps, q, rfl⟩ := Option.map_eq_some_iff.mp (show (optAll (frz n0 h f) ds).map .fz = some p from e)
      exact .fz ((still_ex rl).sql h1) (all ds vs ps h2 q)
    | @tup a vs ds h1 h2 =>
      obtain ⟨ps, q, rfl⟩ := Option.map_eq_some_iff.mp (show (optAll (frz n0 h f) ds).map .tup = some p from e)
      exact .tup ((still_ex rl).sqt h1) (all ds vs ps h2 q)
    | @cell a n h1 =>
      simp only [frz] at e
      by_cases hn : n < n0
      · rw [if_pos hn] at e
        cases e
        refine .cell ?_
        rw [List.getElem?_take]
        rw [if_pos hn]
        exact h1
      · rw [if_neg hn] at e
        obtain ⟨c, hc⟩ := rl.at h1
        obtain ⟨_, o, ho, rc⟩ := rl.cel _ _ _ h1 hc
        rw [hc] at e
        cases c with
        | lst ds =>
          obtain ⟨vs, rfl, ra⟩ := rc
          obtain ⟨ps, q, rfl⟩ := Option.map_eq_some_iff.mp (show (optAll (frz n0 h f) ds).map .lst = some p from e)
          refine .lst (vs := vs) ?_ (all ds vs ps ra q)
          unfold still
          rw [if_pos]
          · exact ho
          · refine List.mem_of_getElem? (i := n - n0) ?_
            rw [List.getElem?_drop, show n0 + (n - n0) = n by omega]
            exact h1
        | dK kvs => cases e
        | dF kvs =>
          obtain ⟨od, kv, rfl, ek, ra⟩ := rc
          obtain ⟨ps, q, rfl⟩ := Option.map_eq_some_iff.mp (show (optAll (frz n0 h f) (kvs.map (·.2))).map (.dct (kvs.map (·.1))) = some p from e)
          refine .dct (kv := kv) (od := od) ?_ ek (all _ _ ps ra q)
          unfold still
          rw [if_pos]
          · exact ho
          · refine List.mem_of_getElem? (i := n - n0) ?_
            rw [List.getElem?_drop, show n0 + (n - n0) = n by omega]
            exact h1
        | dN w kvs => cases e
        | tb q n => cases e
        | ins c fs =>
          obtain ⟨dx, kv, rfl, ek, ra⟩ := rc
          obtain ⟨ps, q, rfl⟩ := Option.map_eq_some_iff.mp (show (optAll (frz n0 h f) (fs.map (·.2))).map (.obj c (fs.map (·.1))) = some p from e)
          refine .obj (fv := kv) (dx := dx) ?_ ek (all _ _ ps ra q)
          unfold still
          rw [if_pos]
          · exact ho
          · refine List.mem_of_getElem? (i := n - n0) ?_
            rw [List.getElem?_drop, show n0 + (n - n0) = n by omega]
            exact h1
    | raw v => cases e; exact .raw v
    | @dct a od kv ks ds h1 h2 h3 =>
      obtain ⟨ps, q, rfl⟩ := Option.map_eq_some_iff.mp (show (optAll (frz n0 h f) ds).map (.dct ks) = some p from e)
      exact .dct (still_ex rl _ _ h1) h2 (all ds _ ps h3 q)
    | @obj a dx fv c ks ds h1 h2 h3 =>
      obtain ⟨ps, q, rfl⟩ := Option.map_eq_some_iff.mp (show (optAll (frz n0 h f) ds).map (.obj c ks) = some p from e)
      exact .obj (still_ex rl _ _ h1) h2 (all ds _ ps h3 q)
    | exv h1 h2 => cases e
def frzC (n0 : Nat) (h : Hv) : Cell → Option Cell
  | .lst ds => (optAll (frz n0 h 12) ds).map .lst
  | .dK kvs => (optAll (fun kv : Key × D => (frz n0 h 12 kv.2).map fun d => (kv.1, d)) kvs).map .dK
  | .dF kvs => (optAll (fun kv : Key × D => (frz n0 h 12 kv.2).map fun d => (kv.1, d)) kvs).map .dF
  | .ins C fs => (optAll (fun kv : Str × D => (frz n0 h 12 kv.2).map fun d => (kv.1, d)) fs).map (.ins C)
  | .dN w kvs => (optAll (fun kv : NestedKey × D => (frz n0 h 12 kv.2).map fun d => (kv.1, d)) kvs).map (.dN w)
  | .tb p n => if n < n0 then some (.tb p n) else none
theorem frzP_of {κ : Type} (rl : Rel K φ S H h) : ∀ (fs fs' : List (κ × D)) (fv : List (κ × V)), optAll (fun kv : κ × D => (frz n0 h 12 kv.2).map fun d => (kv.1, d)) fs = some fs' → fv.map (·.1) = fs.map (·.1) → RpA K φ S (fv.map (·.2)) (fs.map (·.2)) →
    fv.map (·.1) = fs'.map (·.1) ∧ RpA K (φ.take n0) (still φ n0 S H) (fv.map (·.2)) (fs'.map (·.2))
  | [], fs', fv, e, ek, ra => by
    cases e
    cases fv with
    | nil => exact ⟨rfl, .nil⟩
    | cons _ _ => cases ek
  | (k, d) :: fs, fs', fv, e, ek, ra => by
    cases fv with
    | nil => cases ek
    | cons p fv =>
      rw [List.map_cons, List.map_cons] at ek ra
      cases ra with
      | cons r t =>
        simp only [optAll] at e
        cases q : frz n0 h 12 d with
        | none => rw [q] at e; simp at e
        | some d1 =>
          rw [q] at e
          simp only [Option.map_some] at e
          cases q2 : optAll (fun kv : κ × D => (frz n0 h 12 kv.2).map fun d => (kv.1, d)) fs with
          | none => rw [q2] at e; cases e
          | some r1 =>
            rw [q2] at e
            cases e
            injection ek with e1 e2
            obtain ⟨a1, a2⟩ := frzP_of rl fs r1 fv q2 e2 t
            refine ⟨?_, ?_⟩
            · rw [List.map_cons, List.map_cons, e1, a1]
            · rw [List.map_cons, List.map_cons]
              exact .cons (frz_ok rl _ _ _ _ r q) a2
theorem frzC_ok (rl : Rel K φ S H h) {c c' : Cell} {o : HO} (r : RpC K φ S c o) (e : frzC n0 h c = some c') : RpC K (φ.take n0) (still φ n0 S H) c' o := by
  cases c with
  | lst ds =>
    obtain ⟨vs, rfl, ra⟩ := r
    obtain ⟨ps, q, rfl⟩ := Option.map_eq_some_iff.mp (show (optAll (frz n0 h 12) ds).map Cell.lst = some c' from e)
    exact ⟨vs, rfl, frzA_of (fun d v d' r e => frz_ok rl _ d v d' r e) ds vs ps ra q⟩
  | dK kvs =>
    obtain ⟨kv, rfl, ek, ra⟩ := r
    obtain ⟨ps, q, rfl⟩ := Option.map_eq_some_iff.mp (show (optAll _ kvs).map Cell.dK = some c' from e)
    obtain ⟨a1, a2⟩ := frzP_of rl kvs ps kv q ek ra
    exact ⟨kv, rfl, a1, a2⟩
  | dF kvs =>
    obtain ⟨od, kv, rfl, ek, ra⟩ := r
    obtain ⟨ps, q, rfl⟩ := Option.map_eq_some_iff.mp (show (optAll _ kvs).map Cell.dF = some c' from e)
    obtain ⟨a1, a2⟩ := frzP_of rl kvs ps kv q ek ra
    exact ⟨od, kv, rfl, a1, a2⟩
  | ins C fs =>
    obtain ⟨dx, fv, rfl, ek, ra⟩ := r
    obtain ⟨ps, q, rfl⟩ := Option.map_eq_some_iff.mp (show (optAll _ fs).map (Cell.ins C) = some c' from e)
    obtain ⟨a1, a2⟩ := frzP_of rl fs ps fv q ek ra
    exact ⟨dx, fv, rfl, a1, a2⟩
  | dN w kvs =>
    obtain ⟨a, xs, rfl, ek, h3, ra⟩ := r
    obtain ⟨ps, q, rfl⟩ := Option.map_eq_some_iff.mp (show (optAll _ kvs).map (Cell.dN w) = some c' from e)
    have m1 : (xs.map fun x => (x.1, x.2.2)).map (·.1) = kvs.map (·.1) := by rw [List.map_map]; exact ek
    have m2 : (xs.map fun x => (x.1, x.2.2)).map (·.2) = xs.map (·.2.2) := by rw [List.map_map]; rfl
    obtain ⟨a1, a2⟩ := frzP_of rl kvs ps (xs.map fun x => (x.1, x.2.2)) q m1 (by rw [m2]; exact ra)
    rw [m2] at a2
    rw [List.map_map] at a1
    exact ⟨a, xs, rfl, a1, fun x hx => (h3 x hx).mono (Pre.refl []) (still_ex rl), a2⟩
  | tb p n =>
    obtain ⟨h0, ps, h1, h2, h3⟩ := r
    by_cases hn : n < n0
    · rw [show frzC n0 h (.tb p n) = some (.tb p n) from if_pos hn] at e
      cases e
      exact ⟨by rw [List.getElem?_take, if_pos hn]; exact h0, ps, h1, h2, fun pos cv hc => let ⟨c, e1, e2⟩ := h3 pos cv hc; ⟨c, e1, still_ex rl _ _ e2⟩⟩
    · rw [show frzC n0 h (.tb p n) = none from if_neg hn] at e
      cases e
theorem optAll_at {α β : Type} {g : β → Option α} : ∀ {xs : List β} {ys : List α}, optAll g xs = some ys → xs.length = ys.length ∧ ∀ (i : Nat) (y : α), ys[i]? = some y → ∃ x, xs[i]? = some x ∧ g x = some y
  | [], ys, e => by
    cases e
    exact ⟨rfl, fun i y h => by simp at h⟩
  | x :: xs, ys, e => by
    simp only [optAll] at e
    cases q : g x with
    | none => rw [q] at e; cases e
    | some y0 =>
      rw [q] at e
      cases q2 : optAll g xs with
      | none => simp only [q2] at e; cases e
      | some ys0 =>
        simp only [q2] at e
        cases e
        obtain ⟨h1, h2⟩ := optAll_at q2
        refine ⟨by rw [List.length_cons, List.length_cons, h1], fun i y h => ?_⟩
        cases i with
        | zero =>
          rw [List.getElem?_cons_zero] at h ⊢
          cases h
          exact ⟨x, rfl, q⟩
        | succ i =>
          rw [List.getElem?_cons_succ] at h ⊢
          exact h2 i y h
/-- behind the def: the heap as the caller has it -/
theorem exit_rel (rl : Rel K φ S H h) {h' : Hv} (hn : n0 ≤ h.length) (e : optAll (frzC n0 h) (h.take n0) = some h') : Rel K (φ.take n0) (still φ n0 S H) H h' := by
  obtain ⟨el, ea⟩ := optAll_at e
  rw [List.length_take] at el
  refine ⟨?_, still_sub rl, List.Nodup.sublist (List.take_sublist _ _) rl.nd, fun n a c e1 e2 => ?_⟩
  · rw [List.length_take, rl.len]
    omega
  · obtain ⟨c0, hc0, q⟩ := ea n c e2
    have hl := (List.getElem?_eq_some_iff.mp e2).1
    have hn2 : n < n0 := by omega
    rw [List.getElem?_take, if_pos hn2] at e1 hc0
    obtain ⟨sa, o, ho, rc⟩ := rl.cel n a c0 e1 hc0
    refine ⟨?_, o, ho, frzC_ok rl rc q⟩
    unfold still
    rw [if_neg]
    · exact sa
    · intro z
      obtain ⟨m, hm⟩ := List.getElem?_of_mem z
      rw [List.getElem?_drop] at hm
      have := nd_ix rl.nd e1 hm
      omega
theorem exit_step {φ0 : List Addr} {S0 H0 : Hp} (st : Step φ0 S0 H0 φ S H) (rl : Rel K φ S H h) : Step φ0 S0 H0 (φ.take φ0.length) (still φ φ0.length S H) H ∧ φ.take φ0.length = φ0 := by
  obtain ⟨ψ, rfl, hn⟩ := st.pre
  have e : (φ0 ++ ψ).take φ0.length = φ0 := by rw [List.take_append_of_le_length (Nat.le_refl _), List.take_length]
  refine ⟨?_, e⟩
  rw [e]
  refine ⟨⟨[], (List.append_nil _).symm, fun _ z => nomatch z⟩, st.sub.trans (still_ex rl), fun a ha => ?_, st.keep, st.there, st.frz⟩
  unfold still
  rw [if_neg]
  · exact st.old a ha
  · intro z
    rw [List.drop_append_of_le_length (Nat.le_refl _), List.drop_length, List.nil_append] at z
    exact ha (hn a z)
end
def exitD (n0 : Nat) (d : D) (h : Hv) : R D := match frz n0 h 12 d, optAll (frzC n0 h) (h.take n0) with
  | some d', some h' => if n0 ≤ h.length then .ok d' h' else .stuck
  | _, _ => .stuck
def exitX (n0 : Nat) (x : Xn) (h : Hv) : R D := match x.pay with
  | none => (match optAll (frzC n0 h) (h.take n0) with
    | some h' => if n0 ≤ h.length then .exc x h' else .stuck
    | none => .stuck)
  | some (f, d) => (match frz n0 h 12 d, optAll (frzC n0 h) (h.take n0) with
    | some d', some h' => if n0 ≤ h.length then .exc ⟨x.cls, some (f, d')⟩ h' else .stuck
    | _, _ => .stuck)
/-- what a def computes: np parameters, nl other names -/
def fnS (np nl : Nat) (body : SS) : List D → Hv → R D := fun ds h => if ds.length = np then (match body (ds.map some ++ List.replicate nl none) h with
  | .ret d h' => exitD h.length d h'
  | .next _ h' => exitD h.length .non h'
  | .exc x _ h' => exitX h.length x h'
  | _ => .stuck) else .stuck
/-- a def keeps what sem tells -/
def spOf (K : PySem.W.Frag) (sem : List D → Hv → R D) : Sp := fun vs H Q E => ∃ φ S h ds, Rel K φ S H h ∧ RpA K φ S vs ds ∧ Post K (repV K) φ S H (sem ds h) Q E
theorem fnS_len {np nl : Nat} {body : SS} {ds : List D} {h : Hv} (e : fnS np nl body ds h ≠ .stuck) : ds.length = np := by
  unfold fnS at e
  split at e
  · next q => exact q
  · exact absurd rfl e
theorem relS_start {K : PySem.W.Frag} {φ : List Addr} {S : Hp} {vs : List V} {ds : List D} (ra : RpA K φ S vs ds) (nl : Nat) (N : List Str) (hN : N.length = ds.length + nl) : RelS K φ S (ds.map some ++ List.replicate nl none) (L2.start N vs) := by
  have hl := ra.length
  unfold L2.start
  rw [hN, hl, Nat.add_sub_cancel_left]
  refine ⟨by rw [List.length_append, List.length_append, List.length_map, List.length_map, hl, List.length_replicate, List.length_replicate], fun i d hd => ?_⟩
  by_cases hi : i < ds.length
  · rw [List.getElem?_append_left (by rw [List.length_map]; exact hi), List.getElem?_map] at hd
    cases q : ds[i]? with
    | none => rw [q] at hd; cases hd
    | some d0 =>
      rw [q] at hd
      cases hd
      obtain ⟨v, hv, rv⟩ := ra.at q
      refine ⟨v, ?_, rv⟩
      rw [List.getElem?_append_left (by rw [List.length_map, hl]; exact hi), List.getElem?_map, hv]
      rfl
  · rw [List.getElem?_append_right (by rw [List.length_map]; omega), List.getElem?_replicate] at hd
    split at hd <;> cases hd
section
variable {P : Program} {w : World} {K : PySem.W.Frag} {mg : Str → Option Value} {base : Heap}
theorem fn_ok {x qual : Str} {st : Stmt} {f : Addr} {fd : FuncData} {N ps : List Str} {k np nl : Nat} {body : SS} (F : Fun K x qual st f fd) (Sc : FnScope N ps (defScope st)) (hps : ps.length = np) (hN : N.length = np + nl)
    (hbody : ∀ (cdv : Value) (A : Around) (outer : List Env) (s : Shared) (H : Hp) (E : XK), Room k (A.deeper (envOfC qual (defScope st) s.heap.objs.size f cdv)) →
      QB (cxOf (L2.CX P w) P w K mg base N qual (defScope st) f cdv A outer s H E) (fun cls d _ H' => E cls d H') (defBody st) body) : FnOk P w K mg base (L2.CX P w) (k + 1) f fd ps (spOf K (fnS np nl body)) := by
  refine F.okX Sc (fun vs H Q E h => ?_) (fun cdv A outer s H vs Q E hr h => ?_)
  · obtain ⟨φ, S, h, ds, rl, ra, post⟩ := h
    rw [ra.length, hps]
    refine fnS_len (nl := nl) (body := body) (h := h) fun z => ?_
    rw [z] at post
    exact post.elim
  · obtain ⟨φ, S, h, ds, rl, ra, post⟩ := h
    obtain ⟨t, h1, h2⟩ := hbody cdv A outer s H E hr
    refine ⟨t, h1, h2.run rl (relS_start ra nl N (by
      have hl : ds.length = np := fnS_len (nl := nl) (body := body) (h := h) fun z => by
        rw [z] at post
        exact post.elim
      rw [hl]
      exact hN)) ?_⟩
    unfold fnS at post
    have hl : ds.length = np := by
      refine Classical.byContradiction fun z => ?_
      rw [if_neg z] at post
      exact post.elim
    rw [if_pos hl] at post
    have en : h.length = φ.length := rl.len.symm
    have out : ∀ {φ' S' H' h' d v}, Rel K φ' S' H' h' → Step φ S H φ' S' H' → Rp K φ' S' v d → Post K (repV K) φ S H (exitD h.length d h') Q E → Q v H' := fun {φ' S' H' h' d v} r2 st rv post => by
      unfold exitD at post
      split at post
      · next d' h'' q1 q2 =>
        split at post
        · next hn =>
          rw [en] at q1 q2 hn
          obtain ⟨s2, _⟩ := exit_step st r2
          exact post v _ _ H' (exit_rel r2 hn q2) s2 (frz_ok r2 _ _ _ _ rv q1)
        · exact post.elim
      · exact post.elim
    cases hb : body (ds.map some ++ List.replicate nl none) h with
    | next σ' h' =>
      rw [hb] at post
      exact fun σ1 φ' S' H' r2 _ st => out r2 st .non post
    | ret d h' =>
      rw [hb] at post
      exact fun v φ' S' H' r2 st rv => out r2 st rv post
    | brk σ' h' => rw [hb] at post; exact post.elim
    | cont σ' h' => rw [hb] at post; exact post.elim
    | stuck => rw [hb] at post; exact post.elim
    | exc x σ' h' =>
      rw [hb] at post
      intro σ1 cls dd φ' S' H' r2 _ st rx
      simp only [exitX] at post
      obtain ⟨s2, _⟩ := exit_step st r2
      obtain ⟨e1, rx⟩ := rx
      cases hp : x.pay with
      | none =>
        simp only [hp] at post rx
        split at post
        · next h'' q2 =>
          split at post
          · next hn =>
            rw [en] at q2 hn
            exact post cls dd _ _ H' (exit_rel r2 hn q2) s2 ⟨e1, by rw [hp]; exact rx⟩
          · exact post.elim
        · exact post.elim
      | some p =>
        obtain ⟨fl, d⟩ := p
        simp only [hp] at post rx
        obtain ⟨dx, v, e2, e3, rv⟩ := rx
        split at post
        · next d' h'' q1 q2 =>
          split at post
          · next hn =>
            rw [en] at q1 q2 hn
            exact post cls dd _ _ H' (exit_rel r2 hn q2) s2 ⟨e1, dx, v, e2, still_ex r2 _ _ e3, frz_ok r2 _ _ _ _ rv q1⟩
          · exact post.elim
        · exact post.elim
end
/-- data without cells -/
def pureD (ds : List D) : Option (List D) := optAll (frz 0 [] 12) ds
theorem frz0_ok {K : PySem.W.Frag} {φ : List Addr} {S : Hp} : ∀ (f : Nat) (d : D) (v : V) (d' : D), Rp K φ S v d → frz 0 [] f d = some d' → Rp K [] S v d' := by
  intro f
  induction f with
  | zero => intro d v p _ e; cases e
  | succ f ih =>
    have all := frzA_of (K := K) (n0 := 0) (h := []) ih
    intro d v p r e
    cases r with
    | non => cases e; exact .non
    | bl b => cases e; exact .bl b
    | int i => cases e; exact .int i
    | str x => cases e; exact .str x
    | @lst a vs ds h1 h2 =>
      obtain ⟨ps, q, rfl⟩ := Option.map_eq_some_iff.mp (show (optAll (frz 0 [] f) ds).map .lst = some p from e)
      exact .lst h1 (all ds vs ps h2 q)
    | @fz a vs ds h1 h2 =>
      obtain ⟨ps, q, rfl⟩ := Option.map_eq_some_iff.mp (show (optAll (frz 0 [] f) ds).map .fz = some p from e)
      exact .fz h1 (all ds vs ps h2 q)
    | @tup a vs ds h1 h2 =>
      obtain ⟨ps, q, rfl⟩ := Option.map_eq_some_iff.mp (show (optAll (frz 0 [] f) ds).map .tup = some p from e)
      exact .tup h1 (all ds vs ps h2 q)
    | cell h1 => simp [frz] at e
    | raw v => cases e; exact .raw v
    | @dct a od kv ks ds h1 h2 h3 =>
      obtain ⟨ps, q, rfl⟩ := Option.map_eq_some_iff.mp (show (optAll (frz 0 [] f) ds).map (.dct ks) = some p from e)
      exact .dct h1 h2 (all ds _ ps h3 q)
    | @obj a dx fv c ks ds h1 h2 h3 =>
      obtain ⟨ps, q, rfl⟩ := Option.map_eq_some_iff.mp (show (optAll (frz 0 [] f) ds).map (.obj c ks) = some p from e)
      exact .obj h1 h2 (all ds _ ps h3 q)
    | exv h1 h2 => cases e
theorem Rel.bare {K : PySem.W.Frag} {S H : Hp} (e : Ex S H) : Rel K [] S H [] := ⟨rfl, e, List.nodup_nil, fun n a c h => by simp at h⟩
/-- the callee's steps are the caller's -/
theorem Rel.frame {K : PySem.W.Frag} {φ φ' : List Addr} {S H S' H' : Hp} {h : Hv} (rl : Rel K φ S H h) (r2 : Rel K φ' S' H' []) (st : Step [] S H φ' S' H') : φ' = [] ∧ Rel K φ S' H' h ∧ Step φ S H φ S' H' := by
  have e : φ' = [] := List.length_eq_zero_iff.mp r2.len
  subst e
  refine ⟨rfl, ⟨rl.len, r2.sub, rl.nd, fun n a c e1 e2 => ?_⟩, ⟨⟨[], (List.append_nil _).symm, fun _ z => nomatch z⟩, st.sub, st.old, fun a o e _ => st.keep a o e (fun z => nomatch z), st.there, st.frz⟩⟩
  obtain ⟨h1, o, h2, h3⟩ := rl.cel n a c e1 e2
  exact ⟨(st.old a (by rw [h2]; exact fun z => nomatch z)).trans h1, o, st.keep a o h2 (fun z => nomatch z), h3.mono (Pre.refl _) st.sub⟩
def callP (sem : List D → Hv → R D) (ds : List D) (h : Hv) : R D := match pureD ds with
  | some ds' => (match sem ds' [] with
    | .ok d [] => .ok d h
    | .exc x [] => .exc x h
    | _ => .stuck)
  | none => .stuck
theorem spOf_P {K : PySem.W.Frag} {sem : List D → Hv → R D} {φ : List Addr} {S H : Hp} {h : Hv} {ds : List D} {vs : List V} {Q : VK} {E : XK} (rl : Rel K φ S H h) (ra : RpA K φ S vs ds) (post : Post K (repV K) φ S H (callP sem ds h) Q E) : spOf K sem vs H Q E := by
  unfold callP at post
  split at post
  · next ds' q =>
    refine ⟨[], S, [], ds', Rel.bare rl.sub, frzA_of (n0 := 0) (h := []) (fun d v d' r e => frz0_ok 12 d v d' r e) ds vs ds' ra q, ?_⟩
    split at post
    · next d hs =>
      rw [hs]
      intro v φ' S' H' r2 st rv
      obtain ⟨rfl, r3, s3⟩ := rl.frame r2 st
      exact post v φ S' H' r3 s3 (Rp.mono ⟨φ, rfl⟩ (Ex.refl _) rv)
    · next x hs =>
      rw [hs]
      intro cls dd φ' S' H' r2 st rx
      obtain ⟨rfl, r3, s3⟩ := rl.frame r2 st
      refine post cls dd φ S' H' r3 s3 ⟨rx.1, ?_⟩
      have rx2 := rx.2
      cases hp : x.pay with
      | none => rw [hp] at rx2; exact rx2
      | some p =>
        rw [hp] at rx2
        obtain ⟨dx, v, e2, e3, rv⟩ := rx2
        exact ⟨dx, v, e2, e3, Rp.mono ⟨φ, rfl⟩ (Ex.refl _) rv⟩
    · exact post.elim
  · exact post.elim
mutual
def isScal : D → Bool
  | .non => true
  | .bl _ => true
  | .int _ => true
  | .str _ => true
  | .tup ds => isScalL ds
  | .lst _ => false
  | .fz _ => false
  | .cell _ => false
  | .raw _ => false
  | .dct _ _ => false
  | .obj _ _ _ => false
  | .exv _ _ _ _ => false
def isScalL : List D → Bool
  | [] => true
  | d :: ds => isScal d && isScalL ds
end
/-- the objects that are still, but those of the caller's cells -/
def offS (φ : List Addr) (S S' : Hp) : Hp := fun a => if a ∈ φ then S a else S' a
section
variable {K : PySem.W.Frag} {φ : List Addr} {S S' : Hp}
theorem offS_sqt (nt : ∀ (a : Addr) (vs : List V), Rd S' a (.tup vs) → a ∉ φ) {a : Addr} {vs : List V} (h : SqT K S' a vs) : SqT K (offS φ S S') a vs := by
  refine h.imp (fun z => ?_) id
  have na := nt a vs z
  unfold Rd offS at *
  rw [if_neg na]
  exact z
mutual
theorem scal_tr (nt : ∀ (a : Addr) (vs : List V), Rd S' a (.tup vs) → a ∉ φ) : ∀ {v : V} {d : D}, isScal d = true → Rp K [] S' v d → Rp K φ (offS φ S S') v d
  | _, _, _, .non => .non
  | _, _, _, .bl b => .bl b
  | _, _, _, .int i => .int i
  | _, _, _, .str x => .str x
  | _, .tup ds, hs, .tup h r => .tup (offS_sqt nt h) (scalA_tr nt (by rw [isScal] at hs; exact hs) r)
  | _, _, hs, .lst _ _ => by rw [isScal] at hs; cases hs
  | _, _, hs, .fz _ _ => by rw [isScal] at hs; cases hs
  | _, _, hs, .cell _ => by rw [isScal] at hs; cases hs
  | _, _, hs, .raw _ => by rw [isScal] at hs; cases hs
  | _, _, hs, .dct _ _ _ => by rw [isScal] at hs; cases hs
  | _, _, hs, .obj _ _ _ => by rw [isScal] at hs; cases hs
  | _, _, hs, .exv _ _ => by rw [isScal] at hs; cases hs
theorem scalA_tr (nt : ∀ (a : Addr) (vs : List V), Rd S' a (.tup vs) → a ∉ φ) : ∀ {vs : List V} {ds : List D}, isScalL ds = true → RpA K [] S' vs ds → RpA K φ (offS φ S S') vs ds
  | _, _, _, .nil => .nil
  | _, d :: ds, hs, .cons r t => by
    rw [isScalL, Bool.and_eq_true] at hs
    exact .cons (scal_tr nt hs.1 r) (scalA_tr nt hs.2 t)
end
end
/-- a call that only looks: its arguments may hold cells, its answer is a plain value -/
def callB (sem : List D → Hv → R D) (ds : List D) (h : Hv) : R D := match optAll (frz 0 h 12) ds with
  | some ds' => (match sem ds' [] with
    | .ok d [] => if isScal d then .ok d h else .stuck
    | .exc x [] => (match x.pay with
      | none => .exc x h
      | some (_, d) => if isScal d then .exc x h else .stuck)
    | _ => .stuck)
  | none => .stuck
theorem rel_B {K : PySem.W.Frag} {φ : List Addr} {S H S' H' : Hp} {h : Hv} (rl : Rel K φ S H h) (r2 : Rel K [] S' H' []) (st : Step [] (still φ 0 S H) H [] S' H') :
    (∀ (a : Addr) (vs : List V), Rd S' a (.tup vs) → a ∉ φ) ∧ (∀ (a : Addr) (vs : List (Str × V)), S' a = some (.xd vs) → a ∉ φ) ∧ Rel K φ (offS φ S S') H' h ∧ Step φ S H φ (offS φ S S') H' := by
  have kp : ∀ a o, H a = some o → H' a = some o := fun a o e => st.keep a o e (fun z => nomatch z)
  have sS : ∀ a o, S a = some o → a ∉ φ := fun a o e z => by rw [(rl.mem z).1] at e; cases e
  have nt : ∀ (a : Addr) (vs : List V), Rd S' a (.tup vs) → a ∉ φ := fun a vs z hm => by
    obtain ⟨n, hn⟩ := List.getElem?_of_mem hm
    obtain ⟨c, hc⟩ := rl.at hn
    obtain ⟨_, o, ho, rc⟩ := rl.cel n a c hn hc
    have ho' := kp a o ho
    rcases z with z | ⟨u, z⟩
    · have := r2.sub _ _ z
      rw [ho'] at this
      cases this
      cases c with
      | lst ds => obtain ⟨_, e, _⟩ := rc; cases e
      | dK kvs => obtain ⟨_, e, _⟩ := rc; cases e
      | dF kvs => obtain ⟨_, _, e, _⟩ := rc; cases e
      | ins C fs => obtain ⟨_, _, e, _⟩ := rc; cases e
      | dN w kvs => obtain ⟨_, _, e, _⟩ := rc; cases e
      | tb q n => obtain ⟨_, _, e, _⟩ := rc; cases e
    · have := r2.sub _ _ z
      rw [ho'] at this
      cases this
      cases c with
      | lst ds => obtain ⟨_, e, _⟩ := rc; cases e
      | dK kvs => obtain ⟨_, e, _⟩ := rc; cases e
      | dF kvs => obtain ⟨_, _, e, _⟩ := rc; cases e
      | ins C fs => obtain ⟨_, _, e, _⟩ := rc; cases e
      | dN w kvs => obtain ⟨_, _, e, _⟩ := rc; cases e
      | tb q n => obtain ⟨_, _, e, _⟩ := rc; cases e
  have nx : ∀ (a : Addr) (vs : List (Str × V)), S' a = some (.xd vs) → a ∉ φ := fun a vs z hm => by
    obtain ⟨n, hn⟩ := List.getElem?_of_mem hm
    obtain ⟨c, hc⟩ := rl.at hn
    obtain ⟨_, o, ho, rc⟩ := rl.cel n a c hn hc
    have ho' := kp a o ho
    have := r2.sub _ _ z
    rw [ho'] at this
    cases this
    cases c with
    | lst ds => obtain ⟨_, e, _⟩ := rc; cases e
    | dK kvs => obtain ⟨_, e, _⟩ := rc; cases e
    | dF kvs => obtain ⟨_, _, e, _⟩ := rc; cases e
    | ins C fs => obtain ⟨_, _, e, _⟩ := rc; cases e
    | dN w kvs => obtain ⟨_, _, e, _⟩ := rc; cases e
    | tb q n => obtain ⟨_, _, e, _⟩ := rc; cases e
  have ex : Ex S (offS φ S S') := fun a o e => by
    unfold offS
    rw [if_neg (sS a o e)]
    exact st.sub a o (still_ex rl a o e)
  refine ⟨nt, nx, ⟨rl.len, fun a o e => ?_, rl.nd, fun n a c e1 e2 => ?_⟩, ⟨⟨[], (List.append_nil _).symm, fun _ z => nomatch z⟩, ex, fun a ha => ?_, fun a o e _ => kp a o e, st.there, st.frz⟩⟩
  · unfold offS at e
    split at e
    · exact kp a o (rl.sub a o e)
    · exact r2.sub a o e
  · obtain ⟨h1, o, h2, h3⟩ := rl.cel n a c e1 e2
    refine ⟨?_, o, kp a o h2, h3.mono ⟨[], (List.append_nil _).symm⟩ ex⟩
    unfold offS
    rw [if_pos (List.mem_of_getElem? e1)]
    exact h1
  · unfold offS
    split
    · rfl
    · next na =>
      rw [st.old a ha]
      unfold still
      rw [if_neg (fun z => na (List.mem_of_mem_drop z))]
theorem spOf_B {K : PySem.W.Frag} {sem : List D → Hv → R D} {φ : List Addr} {S H : Hp} {h : Hv} {ds : List D} {vs : List V} {Q : VK} {E : XK} (rl : Rel K φ S H h) (ra : RpA K φ S vs ds) (post : Post K (repV K) φ S H (callB sem ds h) Q E) : spOf K sem vs H Q E := by
  unfold callB at post
  split at post
  · next ds' q =>
    refine ⟨[], still φ 0 S H, [], ds', Rel.bare (still_sub rl), ?_, ?_⟩
    · have := frzA_of (n0 := 0) (h := h) (fun d v d' r e => frz_ok rl 12 d v d' r e) ds vs ds' ra q
      rw [List.take_zero] at this
      exact this
    split at post
    · next d hs =>
      rw [hs]
      split at post
      · next hsc =>
        intro v φ' S' H' r2 st rv
        have e : φ' = [] := List.length_eq_zero_iff.mp r2.len
        subst e
        obtain ⟨nt, _, r3, s3⟩ := rel_B rl r2 st
        exact post v φ (offS φ S S') H' r3 s3 (scal_tr nt hsc rv)
      · exact post.elim
    · next x hs =>
      rw [hs]
      intro cls dd φ' S' H' r2 st rx
      have e : φ' = [] := List.length_eq_zero_iff.mp r2.len
      subst e
      obtain ⟨nt, nx, r3, s3⟩ := rel_B rl r2 st
      have rx2 := rx.2
      split at post
      · next hp =>
        refine post cls dd φ (offS φ S S') H' r3 s3 ⟨rx.1, ?_⟩
        rw [hp] at rx2 ⊢
        exact rx2
      · next f d hp =>
        split at post
        · next hsc =>
          refine post cls dd φ (offS φ S S') H' r3 s3 ⟨rx.1, ?_⟩
          rw [hp] at rx2 ⊢
          obtain ⟨dx, v, e2, e3, rv⟩ := rx2
          refine ⟨dx, v, e2, ?_, scal_tr nt hsc rv⟩
          unfold offS
          rw [if_neg (nx _ _ e3)]
          exact e3
        · exact post.elim
    · exact post.elim
  · exact post.elim
section
variable {X : Cx} {W : WX} {k : Nat} {f : Addr} {fd : FuncData} {ps : List Str} {sem sem' : List D → Hv → R D} {x : Str} {p pos : Pos} {e : Expr} {es : List Expr} {la : LS}
theorem se_call (hsem : ∀ {φ : List Addr} {S H : Hp} {h : Hv} {ds : List D} {vs : List V} {Q : VK} {E : XK}, Rel X.K φ S H h → RpA X.K φ S vs ds → Post X.K (repV X.K) φ S H (sem' ds h) Q E → spOf X.K sem vs H Q E)
    (F : FnOk X.prog X.w X.K X.mg X.base (L2.CX X.prog X.w) k f fd ps (spOf X.K sem)) (hr : Room k X.A) (tk : Takes X W) (hm : X.mg x = some (.ref f)) (hk : PySem.W.keepIn X.K (.ref f) = true) (hb : Binds X.K fd ps []) (ha : SA X W (e :: es) la)
    (hg : Gl X x := by rfl) (hdb : (x == ("__debug__" : Str)) = false := by decide) (he : starEach (e :: es) X.env = (false, eval e X.env) :: starEach es X.env := by rfl) (hpl : (backTo pos (starEach es X.env)).any (·.1) = false := by rfl) :
    SE X W (.Call (.Name x p) (e :: es) [] pos) (eCa sem' la) := by
  obtain ⟨t, h1, h2⟩ := ha
  exact ⟨_, pe_callS F hr hg hm hk hb (fun σ => passAt tk σ) h1 hdb he hpl, ⟨fun rl rs post => h2.bind rl rs post fun ds h1 vs φ1 S1 H1 rl1 rs1 st rp post => hsem rl1 rp post⟩⟩
end
def callM (sem : List D → Hv → R D) : List D → Hv → R D := sem
theorem spOf_M {K : PySem.W.Frag} {sem : List D → Hv → R D} {φ : List Addr} {S H : Hp} {h : Hv} {ds : List D} {vs : List V} {Q : VK} {E : XK} (rl : Rel K φ S H h) (ra : RpA K φ S vs ds) (post : Post K (repV K) φ S H (callM sem ds h) Q E) : spOf K sem vs H Q E := ⟨φ, S, h, ds, rl, ra, post⟩
end
end VD
set_option Elab.async false
set_option linter.all false
set_option maxRecDepth 100000
set_option maxHeartbeats 4000000
namespace VD
open PySem PySem.Spec PyProof.Rows L2
noncomputable section
def MtS (K : PySem.W.Frag) (r : V → List V → Hp → VK → Prop) (ro : D → List D → Hv → R D) : Prop :=
  ∀ {φ : List Addr} {S H : Hp} {h : Hv} {x : D} {v : V} {ds : List D} {vs : List V} {Q : VK} {E : XK}, Rel K φ S H h → Rp K φ S v x → RpA K φ S vs ds → Post K (repV K) φ S H (ro x ds h) Q E → r v vs H Q
def eBM (ro : D → List D → Hv → R D) (fo : ES) (la : LS) : ES := fun σ h => (fo σ h).bind fun x h1 => match lOf h1 x with
  | some _ => (la σ h1).bind fun ds h2 => ro x ds h2
  | none => .stuck
theorem Rel.cell {K : PySem.W.Frag} {φ : List Addr} {S H : Hp} {h : Hv} (rl : Rel K φ S H h) {n : Nat} {v : V} {xs : List D} (r : Rp K φ S v (.cell n)) (e : h[n]? = some (.lst xs)) : ∃ a vs, v = .ref a ∧ φ[n]? = some a ∧ H a = some (.lst vs) ∧ RpA K φ S vs xs := by
  cases r with
  | @cell a n h1 =>
    obtain ⟨_, o, ho, vs, rfl, ra⟩ := rl.cel _ _ _ h1 e
    exact ⟨a, vs, rfl, h1, ho, ra⟩
section
variable {X : Cx} {W : WX} {K : PySem.W.Frag} {o e : Expr} {es : List Expr} {fo fv fi : ES} {la : LS} {name : Str} {apos cpos pos tpos : Pos} {id : String} {r : V → List V → Hp → VK → Prop} {ro : D → List D → Hv → R D}
theorem se_bm (slot : Slot "list" name id) (hty : typeOf (.builtin id) = pure (.type "method_descriptor")) (hm : MtR X id r) (hr : MtS X.K r ro) (ho : SE X W o fo) (ha : SA X W (e :: es) la)
    (hbase : attributeBase o name X.env (eval o X.env) = eval o X.env := by rfl)
    (hfew : ((backTo cpos (starEach (e :: es) X.env)).all (fun x => !x.1) && (backToKw cpos (keywordEach [] X.env)).all (fun x => x.1.isSome)
      && decide ((e :: es).length + ([] : List Keyword).length + (if ([] : List Keyword).isEmpty then 0 else 1) < 30)) = true := by rfl)
    (hline : (apos.endLine == cpos.line) = true := by rfl) (hs : starEach (e :: es) X.env = (false, eval e X.env) :: starEach es X.env := by rfl) (hplain : (backTo cpos (starEach es X.env)).any (·.1) = false := by rfl) :
    SE X W (.Call (.Attribute o name apos) (e :: es) [] cpos) (eBM ro fo la) := by
  obtain ⟨to, h1, h2⟩ := ho
  obtain ⟨ta, k1, k2⟩ := ha
  refine ⟨_, pe_bm PySem.F.plainAttrs_list slot hty hm h1 k1 hbase hfew hline hs hplain, ⟨fun rl rs post => h2.bind rl rs post fun x h1 v φ1 S1 H1 rl1 rs1 st rp post => ?_⟩⟩
  cases q : lOf h1 x with
  | none => simp only [q] at post; exact post.elim
  | some xs =>
    simp only [q] at post
    obtain ⟨a, vs, rfl, g2, g3⟩ := lOf_ok rl1 rp q
    exact ⟨.inl ⟨rfl, vs, g2⟩, k2.bind rl1 rs1 post fun ds h2 us φ2 S2 H2 rl2 rs2 st2 rp2 post => hr rl2 (Rp.mono st2.prefix st2.sub rp) rp2 post⟩
theorem se_bm0 (slot : Slot "list" name id) (hty : typeOf (.builtin id) = pure (.type "method_descriptor")) (hm : MtR X id r) (hr : MtS X.K r ro) (ho : SE X W o fo)
    (hbase : attributeBase o name X.env (eval o X.env) = eval o X.env := by rfl) (hline : (apos.endLine == cpos.line) = true := by rfl) : SE X W (.Call (.Attribute o name apos) [] [] cpos) (eBM ro fo aNil) := by
  obtain ⟨to, h1, h2⟩ := ho
  refine ⟨_, pe_bm0 PySem.F.plainAttrs_list slot hty hm h1 hbase hline, ⟨fun rl rs post => h2.bind rl rs post fun x h1 v φ1 S1 H1 rl1 rs1 st rp post => ?_⟩⟩
  cases q : lOf h1 x with
  | none => simp only [q] at post; exact post.elim
  | some xs =>
    simp only [q] at post
    obtain ⟨a, vs, rfl, g2, g3⟩ := lOf_ok rl1 rp q
    exact ⟨.inl ⟨rfl, vs, g2⟩, hr rl1 rp .nil post⟩
def mAppend : D → List D → Hv → R D := fun x ds h => match x, ds with
  | .cell n, [d] => (match h[n]? with
    | some (.lst xs) => if xs.length < 16777216 then .ok .non (h.set n (.lst (xs ++ [d]))) else .stuck
    | _ => .stuck)
  | _, _ => .stuck
theorem ms_append : MtS K rAppend mAppend := by
  intro φ S H h x v ds vs Q E rl rx ra post
  unfold mAppend at post
  split at post
  · next n d =>
    split at post
    · next xs hx =>
      split at post
      · next hz =>
        obtain ⟨a, ws, rfl, hn, ho, rw_⟩ := rl.cell rx hx
        obtain ⟨u, rfl, ru⟩ := ra.one
        obtain ⟨r2, s2⟩ := rl.put hn (c := .lst (xs ++ [d])) (o := .lst (ws ++ [u])) ⟨_, rfl, rw_.append (.cons ru .nil)⟩ ho
        exact ⟨a, ws, u, rfl, rfl, ho, by rw [rw_.length, line_eq]; exact hz, post _ φ S _ r2 s2 .non⟩
      · exact post.elim
    · exact post.elim
  · exact post.elim
def mReverse : D → List D → Hv → R D := fun x ds h => match x, ds with
  | .cell n, [] => (match h[n]? with
    | some (.lst xs) => .ok .non (h.set n (.lst xs.reverse))
    | _ => .stuck)
  | _, _ => .stuck
def sSetIx (fv fo fi : ES) : SS := fun σ h => (fv σ h).then σ fun d h1 => (fo σ h1).then σ fun x h2 => (fi σ h2).then σ fun i h3 => match x, i with
  | .cell n, .int k => (match h3[n]? with
    | some (.lst xs) => (match ixN xs.length k with
      | some j => .next σ (h3.set n (.lst (xs.set j d)))
      | none => .stuck)
    | _ => .stuck)
  | _, _ => .stuck
structure ExcT (K : PySem.W.Frag) (mg : Str → Option Value) (x : Str) (C : Addr) : Prop where
  g : mg x = some (.ref C)
  exc : PySem.W.excIn K C [.type "ValueError", .type "Exception", .type "BaseException", .type "object"] "ValueError.__new__" = true
  keep : PySem.W.keepIn K (.ref C) = true
  sub : PySem.W.subIn K (.ref C) (.type "BaseException") = some true
  ty : PySem.W.typeIn K (.ref C) = some (.type "type")
def sRaise (C : Str) : SS := fun σ h => .exc ⟨C, none⟩ σ h
theorem qs_raise {x m : Str} {j : Nat} {p p2 p3 : Pos} (T : ExcT X.K X.mg x (He.ga X.K x)) (tk : Takes X W) (hg : Gl X x := by rfl) (hdb : (x == ("__debug__" : Str)) = false := by decide) (hc : X.calm = true := by rfl) :
    QS X W (.Raise (some (.Call (.Name x p) [.Constant (.str m) j p2] [] pos)) none p3) (sRaise x) :=
  ⟨_, ps_raise hc tk (pmk_own PySem.F.excBase_ValueError T.exc T.g T.keep (raises_own T.sub T.ty) hg hdb), ⟨fun {φ S H h σv σ D} rl rs post => post σ (.ref (He.ga X.K x)) none φ S H rl rs (Step.refl _ _ _) ⟨rfl, rfl⟩⟩⟩
end
theorem law_sp {K : PySem.W.Frag} {sem : List D → Hv → R D} {n : Nat} (hs : ∀ ns : List Int, ns.length ≤ n → sem [.fz (ns.map .int)] [] = .ok (.bl true) []) (H : Hp) (a : Addr) (ns : List Int) (hl : ns.length ≤ n) (hS : SqL K H a (ns.map V.int)) :
    spOf K sem [.ref a] H (fun v _ => v = .bl true) fun _ _ _ => False := by
  refine ⟨[], H, [], [.fz (ns.map .int)], Rel.bare (Ex.refl H), .cons (.fz hS (.of_ints ns)) .nil, ?_⟩
  rw [hs ns hl]
  intro v φ' S' H' r2 st rv
  cases (show Rp _ _ _ _ _ from rv)
  rfl
end
end VD
set_option Elab.async false
set_option linter.all false
set_option maxRecDepth 100000
set_option maxHeartbeats 4000000
namespace VD
open PySem PySem.Spec PyProof.Rows L2
noncomputable section
def tyName (h : Hv) : D → Option String
  | .non => some "NoneType"
  | .bl _ => some "bool"
  | .int _ => some "int"
  | .str _ => some "str"
  | .lst _ => some "list"
  | .fz _ => some "list"
  | .tup _ => some "tuple"
  | .cell n => match h[n]? with
    | some (.lst _) => some "list"
    | some (.dK _) => some "dict"
    | _ => none
  | .dct _ _ => some "dict"
  | _ => none
theorem tyx_l {K : PySem.W.Frag} {H : Hp} {a : Addr} {vs : List V} (h : SqL K H a vs) : TyX K H (.ref a) (.type "list") := by
  rcases h with (h | ⟨o, h⟩) | ⟨o, its, n, h1, h2, _⟩
  · exact .base (.lst h)
  · exact .base (.frz h)
  · exact .kList h1 h2
theorem tyx_t {K : PySem.W.Frag} {H : Hp} {a : Addr} {vs : List V} (h : SqT K H a vs) : TyX K H (.ref a) (.type "tuple") := by
  rcases h with (h | ⟨o, h⟩) | ⟨o, its, n, h1, h2, _⟩
  · exact .base (.tup h)
  · exact .fTuple h
  · exact .kTuple h1 h2
theorem tyName_ok {K : PySem.W.Frag} {φ : List Addr} {S H : Hp} {h : Hv} {d : D} {v : V} {t : String} (rl : Rel K φ S H h) (r : Rp K φ S v d) (e : tyName h d = some t) : TyX K H v (.type t) := by
  cases r with
  | non => cases e; exact .base .non
  | bl b => cases e; exact .base (.bl b)
  | int i => cases e; exact .base (.int i)
  | str x => cases e; exact .base (.str x)
  | lst h1 h2 => cases e; exact .base (.lst (rl.sub _ _ h1))
  | fz h1 h2 => cases e; exact tyx_l (rl.sub.sql h1)
  | tup h1 h2 => cases e; exact tyx_t (rl.sub.sqt h1)
  | @cell a n h1 =>
    obtain ⟨c, hc⟩ := rl.at h1
    obtain ⟨_, o, ho, rc⟩ := rl.cel _ _ _ h1 hc
    simp only [tyName] at e
    rw [hc] at e
    cases c with
    | lst ds =>
      obtain ⟨vs, rfl, ra⟩ := rc
      cases e
      exact .base (.lst ho)
    | dK kvs =>
      obtain ⟨vs, rfl, _⟩ := rc
      cases e
      exact .base (.dK ho)
    | dF kvs => cases e
    | ins C fs => cases e
    | dN w kvs => cases e
    | tb q n => cases e
  | dct h1 h2 h3 => cases e; exact .fDict (rl.sub _ _ h1)
  | _ => cases e
section
variable {X : Cx} {W : WX} {K : PySem.W.Frag} {a b c e : Expr} {fa fb fc : ES} {pos p p2 apos : Pos}
def eIsi (T : String) (f : ES) : ES := fun σ h => (f σ h).bind fun d h1 => match (tyName h1 d).bind fun t => kitB t T with
  | some r => .ok (.bl r) h1
  | none => .stuck
theorem se_isi {T : String} {tx : Str} (hm : X.mg "isinstance" = none) (hm2 : X.mg tx = none) (hv : bootBuiltins tx = some (.type T)) (ha : SE X W a fa) (hg : Gl X "isinstance" := by rfl) (hg2 : Gl X tx := by rfl) (hn : tx ≠ "__name__" := by decide) (hdb : (tx == ("__debug__" : Str)) = false := by decide)
    (h1 : starEach [.Name tx p2] X.env = (false, eval (.Name tx p2) X.env) :: starEach [] X.env := by rfl)
    (he : starEach (a :: [.Name tx p2]) X.env = (false, eval a X.env) :: starEach [.Name tx p2] X.env := by rfl) (hpl : (backTo pos (starEach [.Name tx p2] X.env)).any (·.1) = false := by rfl) :
    SE X W (.Call (.Name "isinstance" p) [a, .Name tx p2] [] pos) (eIsi T fa) := by
  obtain ⟨ta, k1, k2⟩ := ha
  have hT : PE X (.Name tx p2) (tC (.ty T)) := pe_bltn hg2 hm2 hv rfl hn hdb
  have hA : PA X [a, .Name tx p2] (tCons ta (tCons (tC (.ty T)) tNil)) := pa_cons k1 (pa_cons hT pa_nil h1) he
  refine ⟨_, pe_callB call_isi hg hm (by decide +kernel) hA (by decide) (by decide) he hpl, ⟨fun rl rs post => k2.bind rl rs post fun d h1 v φ1 S1 H1 rl1 rs1 st rp post => ?_⟩⟩
  cases q : tyName h1 d with
  | none => simp only [q, Option.bind_none] at post; exact post.elim
  | some t =>
    simp only [q, Option.bind_some] at post
    cases q2 : kitB t T with
    | none => simp only [q2] at post; exact post.elim
    | some r =>
      simp only [q2] at post
      exact ⟨v, .ty T, .type t, .type T, r, rfl, .ty T, tyName_ok rl1 rp q, kit_ty q2, post _ φ1 S1 H1 rl1 (Step.refl _ _ _) (.bl r)⟩
def eChain (o1 o2 : D → D → Hv → R D) (fa fb fc : ES) : ES := fun σ h => (fa σ h).bind fun x h1 => (fb σ h1).bind fun y h2 => (o1 x y h2).bind fun z h3 => match z with
  | .bl true => (fc σ h3).bind fun u h4 => o2 y u h4
  | .bl false => .ok (.bl false) h3
  | _ => .stuck
def signsD (x : Str) : List D := x.cps.toList.map fun c => .str ⟨#[c]⟩
def iS (f : ES) : IS := fun σ h => (f σ h).bind fun d h1 => match d with
  | .str x => .ok (signsD x, always) h1
  | _ => .stuck
theorem qi_str {tg : Expr} (he : SE X W e fa) : QI X W tg e (iS fa) := by
  obtain ⟨ta, h1, h2⟩ := he
  refine ⟨_, pi_str h1, ⟨fun rl rs post => h2.bind rl rs post fun d h1 v φ1 S1 H1 rl1 rs1 st rp post => ?_⟩⟩
  cases d with
  | str x =>
    cases (show Rp _ _ _ _ _ from rp)
    refine ⟨x, rfl, post (Its x) φ1 S1 H1 rl1 (Step.refl _ _ _) ⟨fun {i φ S H h fz} r2 pr ex _ hi => ?_, fun {φ S H h fz} r2 pr ex _ => ?_⟩⟩
    · unfold signsD at hi ⊢
      rw [List.length_map, Array.length_toList] at hi
      refine ⟨hi, fun y H' yl => ?_⟩
      obtain ⟨rfl, c, hc, rfl⟩ := yl
      refine ⟨S, .str ⟨#[c]⟩, ?_, r2, Step.refl _ _ _, .str _⟩
      rw [List.getElem?_map, Array.getElem?_toList, hc]
      rfl
    · show x.cps.size ≤ (signsD x).length
      unfold signsD
      rw [List.length_map, Array.length_toList]
      exact Nat.le_refl _
  | _ => exact post.elim
theorem se_m1 {id : String} {name : Str} {r : V → List V → Hp → VK → Prop} {ro : D → D → Hv → R D} (slot : Slot "str" name id) (ty : typeOf (.builtin id) = pure (.type "method_descriptor")) (rule : MtR X id r)
    (hr : ∀ {φ S H h x y} {v : V} {u : V} {Q : VK} {E : XK}, Rel X.K φ S H h → Rp X.K φ S v x → Rp X.K φ S u y → Post X.K (repV X.K) φ S H (ro x y h) Q E → r v [u] H Q) (hs0 : ∀ {x y h}, ro x y h ≠ .stuck → ∃ z, x = .str z) (ho : SE X W a fa) (he : SE X W b fb)
    (hs : starEach [b] X.env = [(false, eval b X.env)] := by rfl) (hbase : attributeBase a name X.env (eval a X.env) = eval a X.env := by rfl) (hline : (apos.endLine == pos.line) = true := by rfl) :
    SE X W (.Call (.Attribute a name apos) [b] [] pos) (fun σ h => (fa σ h).bind fun x h1 => match x with
      | .str _ => (fb σ h1).bind fun y h2 => ro x y h2
      | _ => .stuck) := by
  obtain ⟨ta, h1, h2⟩ := ho
  obtain ⟨tb, k1, k2⟩ := he
  refine ⟨_, pe_m1 slot ty rule h1 k1 hs hbase hline, ⟨fun rl rs post => h2.bind rl rs post fun x h1 v φ1 S1 H1 rl1 rs1 st rp post => ?_⟩⟩
  cases x with
  | str z =>
    cases (show Rp _ _ _ _ _ from rp)
    exact ⟨⟨z, rfl⟩, k2.bind rl1 rs1 post fun y h2 u φ2 S2 H2 rl2 rs2 st2 rp2 post => hr rl2 (.str z) rp2 post⟩
  | _ => exact post.elim
def eStr1 (ro : D → D → Hv → R D) (fa fb : ES) : ES := fun σ h => (fa σ h).bind fun x h1 => match x with
      | .str _ => (fb σ h1).bind fun y h2 => ro x y h2
      | _ => .stuck
def oJoin : D → D → Hv → R D := fun x y h => match x with
  | .str a => (match (sqOf h y).bind (optAll toS) with
    | some ys => if (ys.map (·.length)).sum + ys.length * a.length ≤ 16777216 then .ok (.str (Txt.join a ys)) h else .stuck
    | none => .stuck)
  | _ => .stuck
theorem se_join (ho : SE X W a fa) (he : SE X W b fb) (hs : starEach [b] X.env = [(false, eval b X.env)] := by rfl) (hbase : attributeBase a "join" X.env (eval a X.env) = eval a X.env := by rfl) (hline : (apos.endLine == pos.line) = true := by rfl) :
    SE X W (.Call (.Attribute a "join" apos) [b] [] pos) (eStr1 oJoin fa fb) := by
  refine se_m1 PySem.F.slot_str_join PySem.F.type_str_join mt_join (ro := oJoin) (fun {φ S H h x y v u Q E} rl rx ry post => ?_) (fun {x y h} q => ?_) ho he hs hbase hline
  · cases rx with
    | str z =>
      simp only [oJoin] at post
      split at post
      · next ys hy =>
        split at post
        · next hz =>
          obtain ⟨xs, q1, q2⟩ := Option.bind_eq_some_iff.mp hy
          obtain ⟨p, vs, rfl, g2, g3⟩ := sqOf_ok rl ry q1
          rw [toSs_ok g3 q2] at g2
          exact ⟨z, p, ys, rfl, rfl, g2, hz, post _ φ S H rl (Step.refl _ _ _) (.str _)⟩
        · exact post.elim
      · exact post.elim
    | _ => exact post.elim
  · cases x <;> first
      | exact ⟨_, rfl⟩
      | exact absurd rfl q
end
def OkF (P : Program) (w : World) (K : PySem.W.Frag) (mg : Str → Option Value) (base : Heap) (k : Nat) (x : Str) (ps : List Str) (sem : List D → Hv → R D) : Prop :=
  ∃ fd, (∃ oc od osl, K.lookup (He.ga K x) = some ⟨oc, od, .func fd, osl⟩) ∧ FnOk P w K mg base (L2.CX P w) k (He.ga K x) fd ps (spOf K sem) ∧ Binds K fd ps [] ∧ mg x = some (.ref (He.ga K x)) ∧ PySem.W.keepIn K (.ref (He.ga K x)) = true
section
variable {P : Program} {w : World} {K : PySem.W.Frag} {mg : Str → Option Value} {base : Heap}
theorem okF_mk {x : Str} {st : Stmt} {fd : FuncData} {N ps : List Str} {k np nl : Nat} {body : SS} (F : Fun K x x st (He.ga K x) fd) (Sc : FnScope N ps (defScope st)) (hps : ps.length = np) (hN : N.length = np + nl) (g : mg x = some (.ref (He.ga K x))) (b : Binds K fd ps [])
    (hbody : ∀ (cdv : Value) (A : Around) (outer : List Env) (s : Shared) (H : Hp) (E : XK), Room k (A.deeper (envOfC x (defScope st) s.heap.objs.size (He.ga K x) cdv)) →
      QB (cxOf (L2.CX P w) P w K mg base N x (defScope st) (He.ga K x) cdv A outer s H E) (fun cls d _ H' => E cls d H') (defBody st) body) : OkF P w K mg base (k + 1) x ps (fnS np nl body) := ⟨fd, let ⟨oc, od, _, _, _, _, _, _, osl, _, lk, _⟩ := F.ex; ⟨oc, od, osl, lk⟩, fn_ok F Sc hps hN hbody, b, g, F.kp⟩
theorem takes_fn {N : List Str} {qual : Str} {scope : Scope} {f : Addr} {cd : Value} {A : Around} {outer : List Env} {s : Shared} {H : Hp} {E : XK} : Takes (cxOf (L2.CX P w) P w K mg base N qual scope f cd A outer s H E) (fun cls d _ H' => E cls d H') := takes_of rfl rfl rfl rfl
theorem passes_fn {N : List Str} {qual : Str} {scope : Scope} {f : Addr} {cd : Value} {A : Around} {outer : List Env} {s : Shared} {H : Hp} {E : XK} :
    PassesOwn (model (cxOf (L2.CX P w) P w K mg base N qual scope f cd A outer s H E).prog (cxOf (L2.CX P w) P w K mg base N qual scope f cd A outer s H E).w) (cxOf (L2.CX P w) P w K mg base N qual scope f cd A outer s H E).A (cxOf (L2.CX P w) P w K mg base N qual scope f cd A outer s H E).env (cxOf (L2.CX P w) P w K mg base N qual scope f cd A outer s H E).xe :=
  passes_of (X := cxOf (L2.CX P w) P w K mg base N qual scope f cd A outer s H E) (K := fun e s'' => L2.CX P w outer H s E e s'') (E₁ := fun e' s'' => L2.CX P w outer H s E e' s'') rfl
end
/-- how a call is told -/
inductive Cm where
  | P | B | M
def Cm.f : Cm → (List D → Hv → R D) → List D → Hv → R D
  | .P => callP
  | .B => callB
  | .M => callM
theorem cm_ok (c : Cm) {K : PySem.W.Frag} {sem : List D → Hv → R D} {φ : List Addr} {S H : Hp} {h : Hv} {ds : List D} {vs : List V} {Q : VK} {E : XK} (rl : Rel K φ S H h) (ra : RpA K φ S vs ds) (post : Post K (repV K) φ S H (c.f sem ds h) Q E) : spOf K sem vs H Q E := by
  cases c with
  | P => exact spOf_P rl ra post
  | B => exact spOf_B rl ra post
  | M => exact spOf_M rl ra post
theorem se_fn {X : Cx} {W : WX} {k : Nat} {ps : List Str} {sem : List D → Hv → R D} {x : Str} {p pos : Pos} {e : Expr} {es : List Expr} {la : LS} (c : Cm)
    (o : OkF X.prog X.w X.K X.mg X.base k x ps sem) (hr : Room k X.A) (tk : Takes X W) (ha : SA X W (e :: es) la)
    (hg : Gl X x := by rfl) (hdb : (x == ("__debug__" : Str)) = false := by decide) (he : starEach (e :: es) X.env = (false, eval e X.env) :: starEach es X.env := by rfl) (hpl : (backTo pos (starEach es X.env)).any (·.1) = false := by rfl) :
    SE X W (.Call (.Name x p) (e :: es) [] pos) (eCa (c.f sem) la) := by
  obtain ⟨fd, _, F, b, g, kp⟩ := o
  exact se_call (cm_ok c) F hr tk g kp b ha hg hdb he hpl
theorem cx_false {P : Program} {w : World} {outer : List Env} {H : Hp} {s : Shared} {e : Value} {s' : Shared} (z : L2.CX P w outer H s (fun _ _ _ => False) e s') : False := by
  obtain ⟨_, _, _, _, _, _, _, _, _, _, _, _, z⟩ := z
  exact z
theorem excT_of {K : PySem.W.Frag} {mg : Str → Option Value} {x : Str} (g : mg x = some (.ref (He.ga K x))) (c : PySem.W.excIn K (He.ga K x) He.veBase "ValueError.__new__" = true ∧ PySem.W.keepIn K (.ref (He.ga K x)) = true ∧ PySem.W.subIn K (.ref (He.ga K x)) (.type "BaseException") = some true ∧
    PySem.W.typeIn K (.ref (He.ga K x)) = some (.type "type")) : ExcT K mg x (He.ga K x) := ⟨g, c.1, c.2.1, c.2.2.1, c.2.2.2⟩
theorem law_end {P : Program} {w : World} {K : PySem.W.Frag} {mg : Str → Option Value} {h : Heap} {x : Str} {k n : Nat} {fa : Addr} {sem : List D → Hv → R D} {st : Stmt} (KX : K.In h) (hF : ∃ fd, Fun K "law" "law" st (He.ga K "law") fd) (g : mg "law" = some (.ref (He.ga K "law"))) (hmg : mg "law" = some (.ref fa))
    (hb : ∀ fd : FuncData, Fun K "law" "law" st (He.ga K "law") fd → ∀ (s : Shared) (u : Value), BindsTo s fd ⟨[u], []⟩ [(x, u)])
    (o : ∀ base : Heap, OkF P w K mg base k "law" [x] sem) (hs : ∀ ns : List Int, ns.length ≤ n → sem [.fz (ns.map .int)] [] = .ok (.bl true) []) :
    ∃ (K : PySem.W.Frag) (fd : FuncData) (sp : Sp), K.In h ∧ (∀ (s : Shared) (u : Value), BindsTo s fd ⟨[u], []⟩ [(x, u)]) ∧
        (∀ (H : Hp) (a : Addr) (ns : List Int), ns.length ≤ n → Only H → SqL K H a (ns.map V.int) → sp [.ref a] H (fun v _ => v = .bl true) fun _ _ _ => False) ∧
        ∀ base : Heap, K.In base → base.Ns mainGlobals mg → FnOk P w K mg base (L2.CX P w) k fa fd [x] sp := by
  obtain ⟨fd, F⟩ := hF
  have e := g.symm.trans hmg
  cases e
  refine ⟨K, fd, spOf K sem, KX, hb fd F, fun H a ns hl _ hS => law_sp hs H a ns hl hS, fun base _ _ => ?_⟩
  obtain ⟨fd', ⟨oc, od, osl, lk⟩, F', _⟩ := o base
  obtain ⟨oc2, od2, _, _, _, _, _, _, osl2, _, lk2, _⟩ := F.ex
  rw [lk] at lk2
  have e2 : fd' = fd := by
    injection lk2 with lk2
    injection lk2 with _ _ lk2 _
    injection lk2
  subst e2
  exact F'
/-- list(range(n)) -/
noncomputable def lRg1 (f : ES) : LS := fun σ h => (f σ h).bind fun d h1 => match d with
  | .int n => @ite _ ((-(2 ^ 62) ≤ n ∧ n < 2 ^ 62) ∧ n.toNat ≤ 2 ^ 24) (Classical.propDecidable _) (.ok (rgD 0 n.toNat) h1) .stuck
  | _ => .stuck
/-- a law's end, where what a raise leaves may lean on the world -/
theorem walk_own {lw : PySem.W.OpenLaw} {num lev : Nat} {pr : Program} {ls : List Str} {X1 : (Str → Option Value) → Heap → Prop} {Y1 : World → Heap → Prop} {dr : DefRec} {CC : World → CXT} {nm : Str} (e1 : lw.most = some num) (e2 : num ≤ sizeLine) (e3 : dr.params.defaults = []) (e4 : Room lev callerA)
    (body : ∀ (w : World) (mg : Str → Option Value) (fa : Addr) (h : Heap), Y1 w h → h.Ns mainGlobals mg → mg dr.name = some (.ref fa) → ∃ (K : PySem.W.Frag) (fd : FuncData) (sp : Sp), K.In h ∧ (∀ (s : Shared) (u : Value), BindsTo s fd ⟨[u], []⟩ [(nm, u)]) ∧ (∀ (H : Hp) (a : Addr) (ns : List Int), ns.length ≤ num → Only H → SqL K H a (ns.map V.int) → sp [.ref a] H (fun v _ => v = .bl true) fun _ _ _ => False) ∧ ∀ base : Heap, K.In base → base.Ns mainGlobals mg → FnOk lw.prog w K mg base (CC w) lev fa fd [nm] sp)
    (noX : ∀ (w : World) (H : Hp) (s : Shared) (e : Value) (s' : Shared), CC w [] H s (fun _ _ _ => False) e s' → False) : PySem.W.WalkO pr ls X1 Y1 lw.row.toRowW dr [] (fun f vs => PySem.call f vs) := by
  refine Att.attach_call e1 e3 fun w s0 s1 mg mb fa ob pm cdv doc ad vals nms gg yy q1 q2 q3 q4 q5 q6 q7 q8 => ?_
  obtain ⟨K, fd, sp, kx, kb, ks, kf⟩ := body w mg fa _ yy gg.T.g q4
  exact law_call kx gg.T.g gg.T.b gg.T.builtins gg.T.nolimit q8 q5 q6 (Nat.le_trans q7 e2) e4 kf kb (fun H hO hS => ks H ad nms q7 hO hS) fun H e s' => noX w H s1 e s'
end
end VD
set_option Elab.async false
set_option linter.all false
set_option maxRecDepth 100000
set_option maxHeartbeats 4000000
namespace VD
open PySem PySem.Spec PyProof.Rows L2
noncomputable section
mutual
def shD (n : Nat) : D → D
  | .lst ds => .lst (shL n ds)
  | .fz ds => .fz (shL n ds)
  | .tup ds => .tup (shL n ds)
  | .cell m => .cell (n + m)
  | .non => .non
  | .bl b => .bl b
  | .int i => .int i
  | .str x => .str x
  | .raw v => .raw v
  | .dct ks ds => .dct ks (shL n ds)
  | .obj c ks ds => .obj c ks (shL n ds)
  | .exv a dd f d => .exv a dd f (shD n d)
def shL (n : Nat) : List D → List D
  | [] => []
  | d :: ds => shD n d :: shL n ds
end
theorem shL_eq (n : Nat) : ∀ ds : List D, shL n ds = ds.map (shD n)
  | [] => rfl
  | d :: ds => by rw [shL, shL_eq n ds]; rfl
end
end VD
set_option Elab.async false
set_option linter.all false
set_option maxRecDepth 100000
set_option maxHeartbeats 4000000
namespace VD
open PySem PySem.Spec PyProof.Rows L2
noncomputable section
/-- a slot forgotten behind the suite -/
def wipeR (i : Nat) (r : RS) : RS := match r with
  | .next σ h => .next (σ.set i none) h
  | .brk σ h => .brk (σ.set i none) h
  | .cont σ h => .cont (σ.set i none) h
  | .ret d h => .ret d h
  | _ => .stuck
/-- what the slot of a caught error holds -/
def exD (a dd : Addr) : Option (Str × D) → D
  | none => .raw (.ref a)
  | some (f, d) => .exv a dd f d
abbrev exM (a dd : Addr) (p : Option (Str × D)) : Option D := some (exD a dd p)
/-- a suite's end, where it is the same whatever address the error has -/
def tryA (i : Nat) (p : Option (Str × D)) (s : Addr → Addr → SS) (σ : VS) (h : Hv) : RS := @dite RS (∃ r, ∀ a dd, wipeR i (s a dd (σ.set i (exM a dd p)) h) = r) (Classical.propDecidable _) (fun z => Classical.choose z) (fun _ => .stuck)
/-- try: body; except y as (slot i): suite; tb tells whether a class is under another -/
def sTryAs (tb : Str → Str → Option Bool) (y : Str) (i : Nat) (suite : Xn → Addr → Addr → SS) (body : SS) : SS := fun σ h => match body σ h with
  | .exc x σ' h' => (match tb x.cls y with
    | some true => tryA i x.pay (suite x) σ' h'
    | some false => .exc x σ' h'
    | none => .stuck)
  | r => r
/-- try: body; except y: suite -/
def sTryO (tb : Str → Str → Option Bool) (y : Str) (suite : SS) (body : SS) : SS := fun σ h => match body σ h with
  | .exc x σ' h' => (match tb x.cls y with
    | some true => (match suite σ' h' with
      | .exc _ _ _ => .stuck
      | r => r)
    | some false => .exc x σ' h'
    | none => .stuck)
  | r => r
/-- what is asked of the classes: one's own exceptions; one under another; isinstance -/
inductive Ef where
  | exc (x : Str)
  | sub (x y : Str) (b : Bool)
  | isa (x y : Str) (b : Bool)
  | isT (x : Str) (T : String) (b : Bool)
  | oex (x : Str)
  | nof (x f : Str)
  | bi (x : Str)
def excB (K : PySem.W.Frag) (D : Addr) : Bool := decide (PySem.W.findIn K (.ref D) "__getattribute__" = some (some (.builtin "BaseException.__getattribute__"))) && (decide (PySem.W.findIn K (.ref D) "__getattr__" = some none) && (decide (PySem.W.subIn K (.ref D) (.type "BaseException") = some true) && (PySem.W.hasDictIn K D && (decide (PySem.W.findIn K (.ref D) "__class__" = some (some (.builtin "object.__class__"))) && (decide (PySem.W.specialIn K (.builtin "object.__class__") "__get__" = some (some (.builtin "getset_descriptor.__get__"))) && (decide (PySem.W.takesIn K (.builtin "object.__class__") = some true) && decide (PySem.W.mroIn K D (.type "object") = some true)))))))
theorem and_of {a b : Bool} (h : (a && b) = true) : a = true ∧ b = true := by
  cases a <;> cases b <;> first | exact ⟨rfl, rfl⟩ | cases h
/-- a class of errors with an __init__ of its own -/
def oexB (K : PySem.W.Frag) (C : Addr) : Bool := (match K.lookup C with
  | some ⟨.type "type", _, .cls cd, sl⟩ => (match cd.mro, sl.toList with
    | .ref C' :: bm, [_, _, _, _, some (.builtin n), _] => decide (C' = C) && (decide (n = "ValueError.__new__") && (!cd.hasDel && (cd.hasDict && PySem.HandSPX.refsVE bm)))
    | _, _ => false)
  | _ => false) && (decide (PySem.W.findIn K (.ref C) "__setattr__" = some (some (.builtin "object.__setattr__"))) && (decide (PySem.W.subIn K (.ref C) (.type "BaseException") = some true) && (decide (PySem.W.typeIn K (.ref C) = some (.type "type")) && PySem.W.keepIn K (.ref C))))
theorem oexB_ok {K : PySem.W.Frag} {C : Addr} (h : oexB K C = true) : OexC K C := by
  obtain ⟨q, h⟩ := and_of h
  obtain ⟨h1, h⟩ := and_of h
  obtain ⟨h2, h⟩ := and_of h
  obtain ⟨h3, h4⟩ := and_of h
  refine ⟨?_, of_decide_eq_true h1, of_decide_eq_true h2, of_decide_eq_true h3, h4⟩
  split at q
  · rename_i dd cd sl ho
    split at q
    · rename_i C' bm k0 k1 k2 k3 n k5 hm hs
      obtain ⟨q1, q⟩ := and_of q
      obtain ⟨q2, q⟩ := and_of q
      obtain ⟨q3, q⟩ := and_of q
      obtain ⟨q4, q5⟩ := and_of q
      cases of_decide_eq_true q1
      cases of_decide_eq_true q2
      obtain ⟨cn, cb, cm, cns, cq, chd, csn, csub, cab, ccol, cdl⟩ := cd
      dsimp only at hm q3 q4
      subst hm q4
      have q3 : cdl = false := by cases cdl <;> first | rfl | cases q3
      subst q3
      have esl : sl = #[k0, k1, k2, k3, some (.builtin "ValueError.__new__"), k5] := Array.toList_inj.mp hs
      subst esl
      exact ⟨cn, cq, cns, cb, bm, csn, csub, cab, ccol, dd, k0, k1, k2, k3, k5, ho, q5⟩
    · cases q
  · cases q
/-- a class whose __init__ is ValueError's -/
def biB (K : PySem.W.Frag) (C : Addr) : Bool := PySem.W.readsIn K C (.type "type") && (decide (PySem.W.specialIn K (.ref C) "__getattribute__" = some (some (.builtin "type.__getattribute__"))) && (match PySem.W.findCls K (.ref C) (.type "type") "__init__" with
  | some (.val (.builtin s)) => decide (s = "ValueError.__init__")
  | _ => false))
def Ef.ok (K : PySem.W.Frag) : Ef → Bool
  | .exc x => excB K (He.ga K x)
  | .sub x y b => decide (PySem.W.exmOne K (.ref (He.ga K x)) (.ref (He.ga K y)) = some b)
  | .isa x y b => decide (PySem.W.kitOne K (.ref (He.ga K x)) (.ref (He.ga K y)) = some b)
  | .isT x T b => decide (PySem.W.kitOne K (.ref (He.ga K x)) (.type T) = some b)
  | .oex x => oexB K (He.ga K x)
  | .nof x f => decide (PySem.W.findIn K (.ref (He.ga K x)) f = some none)
  | .bi x => biB K (He.ga K x)
/-- what the top's names come to, each address once (the seen ones as bits) -/
def ddA : List Addr → Nat → List Addr → (Nat → List Addr → List Addr) → List Addr
  | [], m, acc, k => k m acc
  | a :: r, m, acc, k => match Nat.beq (Nat.land (Nat.shiftRight m a) 1) 1 with
    | true => ddA r m acc k
    | false => HandSHeadRun.frNat (Nat.lor m (Nat.shiftLeft 1 a)) fun m' => ddA r m' (a :: acc) k
def bfsA (g : Addr → Option Obj) : Nat → List Addr → Nat → List Addr → List Addr
  | 0, _, _, al => al
  | n + 1, fr, m, al => ddA (fr.flatMap fun a => match g a with | some o => He.refsD o | none => []) m [] fun m' l => bfsA g n l m' (al ++ l)
def asF (g : Addr → Option Obj) (n : Nat) : List Addr := bfsA g n [mainGlobals] (Nat.shiftLeft 1 mainGlobals) [mainGlobals]
def RunL (r : PySem.W.OpenRow) (q : Program) (M : Nat) (loose : List Str) (w : World) : Prop :=
  ∀ os : OsState, (HandSHeadRun.endF (HandSHeadRun.stepQ (HandSHeadRun.denQ HandSHeadRun.tabQ) r.prog w) M r.prog w os).map (fun s => (HandSHeadRun.looksF r.prog (open PySem.W PySem.Calls PyProof.Rows in boot_heap w.params) s.abs, HandSHeadRun.seenQ q loose (importedModules r.prog.main.body) (fun s => PySem.W.xlAt q [] s && PySem.W.recOk r.toRowW.records s) s.abs)) = some (true, PySem.W.openGood q loose)
def RunO {α : Type} (r : PySem.W.OpenRow) (f : PySem.W.SharedT → α) (v : World → α) (M : Nat) (w : World) : Prop :=
  ∀ os : OsState, (HandSHeadRun.endF (HandSHeadRun.stepQ (HandSHeadRun.denQ HandSHeadRun.tabQ) r.prog w) M r.prog w os).map f = some (v w)
theorem map_3 {σ α β γ : Type} {X : Option σ} {f : σ → α} {g : σ → β} {k : σ → γ} {a : α} {b : β} {c : γ} (h1 : X.map (fun s => (f s, g s)) = some (a, b)) (h2 : X.map k = some c) : X.map (fun s => (f s, g s, k s)) = some (a, b, c) := by
  cases X with
  | none => cases h1
  | some s =>
    cases h2
    have e := Option.some.inj h1
    have e1 : f s = a := congrArg (fun z => z.1) e
    have e2 : g s = b := congrArg (fun z => z.2) e
    show some (f s, g s, k s) = _
    rw [e1, e2]
theorem run_of {r : PySem.W.OpenRow} {q : Program} {H : PySem.W.Hook} {ob : PySem.W.SharedT → H.α} {M : Nat} {loose : List Str} {w : World} (h1 : RunL r q M loose w) (h2 : RunO r ob H.val M w) : HandSHeadRun.RunEq r q H ob M loose w := fun os => map_3 (h1 os) (h2 os)
theorem ef_at {K : PySem.W.Frag} {ef : List Ef} (h : (ef.all fun f => f.ok K) = true) {f : Ef} (hm : f ∈ ef) : f.ok K = true := List.all_eq_true.mp h f hm
/-- the slot still holds what was caught -/
def isEx (a dd : Addr) (p : Option (Str × D)) (d : D) : Bool := match p, d with
  | none, .raw (.ref b) => decide (b = a)
  | some _, .exv b d0 _ _ => decide (b = a) && decide (d0 = dd)
  | _, _ => false
/-- what the suite asks of what it caught: o, where the slot holds it -/
def eIsO (i : Nat) (x : Xn) (a dd : Addr) (o : Option Bool) : ES := fun σ h => (eVar i σ h).bind fun d h1 => if isEx a dd x.pay d = true then (match o with
    | some r => .ok (.bl r) h1
    | none => .stuck) else .stuck
end
end VD
set_option Elab.async false
set_option linter.all false
set_option maxRecDepth 100000
set_option maxHeartbeats 4000000
namespace VD
open PySem PySem.Spec PyProof.Rows L2
noncomputable section
/-- a method's statement -/
def clsS : Stmt → Nat → Stmt
  | .ClassDef _ _ _ b _ _ _ _ _ _ _, j => b.getD j (.Pass ⟨0, 0, 0, 0⟩)
  | s, _ => s
/-- what such an __init__ does -/
def spPay (K : PySem.W.Frag) (C : Addr) (f : Str) : Sp := fun vs H Q _ => ∃ (a : Addr) (v : V), vs = [.ref a, v] ∧ H a = some (exo a C none) ∧ OexC K C ∧ PySem.W.findIn K (.ref C) f = some none ∧
  ∀ dx, H dx = none → dx ≠ a → Q .non (upd (upd H dx (exd dx [(f, v)])) a (exo a C (some dx)))
section
variable {X : Cx} {e : Expr} {es : List Expr} {ta : TA} {b : Str} {B : Addr} {p1 p2 pos : Pos}
theorem biB_ok {K : PySem.W.Frag} {C : Addr} (h : biB K C = true) : PySem.W.readsIn K C (.type "type") = true ∧ PySem.W.specialIn K (.ref C) "__getattribute__" = some (some (.builtin "type.__getattribute__")) ∧ PySem.W.findCls K (.ref C) (.type "type") "__init__" = some (.val (.builtin "ValueError.__init__")) := by
  unfold biB at h
  obtain ⟨h1, h⟩ := and_of h
  obtain ⟨h2, h3⟩ := and_of h
  refine ⟨h1, of_decide_eq_true h2, ?_⟩
  split at h3
  · next s q =>
    rw [q, of_decide_eq_true h3]
  · cases h3
theorem pe_ceinit {pl : Sem Bool} (hg : Gl X b) (hm : X.mg b = some (.ref B)) (bi : biB X.K B = true) (ha : PA X (e :: es) ta) (hdb : (b == ("__debug__" : Str)) = false := by decide)
    (hc : eval (.Call (.Attribute (.Name b p1) "__init__" p2) (e :: es) [] pos) X.env = (do
      let ov ← eval (.Name b p1) X.env
      standAt p2.atName
      let (f, first) ← holding [ov] (getMethod ov "__init__" pl)
      callWith pos f first (backTo pos (starEach (e :: es) X.env)) (backToKw pos (keywordEach [] X.env))) := by rfl)
    (he : starEach (e :: es) X.env = (false, eval e X.env) :: starEach es X.env := by rfl) (hpl : (backTo pos (starEach es X.env)).any (·.1) = false := by rfl) :
    PE X (.Call (.Attribute (.Name b p1) "__init__" p2) (e :: es) [] pos) (tVeI X.K ta) := by
  obtain ⟨b1, b2, b3⟩ := biB_ok bi
  have fin : ∀ {pins : List (Addr × Obj)} {s1 : Shared} {σ : L2.St} {H1 : Hp} {Q : VK} {us : List Value} {vs : List V}, Inv X pins σ H1 s1 → Vals vs us → (∃ (x Y : Addr) (more : List V), vs = .ref x :: more ∧ more.length ≤ 1000 ∧ OexC X.K Y ∧ H1 x = some (exo x Y none) ∧ Q .non H1) →
      wpAny (model X.prog X.w) X.A (call (.builtin "ValueError.__init__") us) (EP X pins σ Q) X.xe s1 := fun {pins s1 σ H1 Q us vs} J rv z => by
    obtain ⟨x, Y, more, rfl, few, oy, at_, done⟩ := z
    cases rv with
    | cons r0 rt =>
      cases r0
      refine oinit_ok oy J at_ ?_ fun s2 J2 => ⟨.non, H1, J2, rfl, done⟩
      have e := Paired.length rt
      rw [sizeLine_eq]
      omega
  constructor
  intro pins s σ H Q I0 rd
  exact PySem.W.methodCall_KW (ld_glob I0 hg hm (PySem.W.method_cls I0.kIn b2 (PySem.W.cls_value I0.kIn b1 b3 (by decide +kernel)
    (PyProof.Rows.callWith_method1 (thn (ha.run pos pins _ σ H _ (I0.tok _) rd) fun us s1 ⟨vs, H1, I1, rv, z⟩ => fin I1 rv z) he hpl))) hdb) hc
end
section
variable {P : Program} {w : World} {K : PySem.W.Frag} {mg : Str → Option Value} {base : Heap}
theorem payInit_ok {x qual z fl : Str} {st : Stmt} {f C : Addr} {fd : FuncData} {N ps : List Str} {k : Nat} (F : Fun K x qual st f fd) (Sc : FnScope N ps (defScope st)) (hps : ps.length = 2) (hN : N.length = 2)
    (hbody : ∀ (cdv : Value) (A : Around) (outer : List Env) (s : Shared) (H : Hp) (E : XK), Room k (A.deeper (envOfC qual (defScope st) s.heap.objs.size f cdv)) →
      PSs (cxOf (L2.CX P w) P w K mg base N qual (defScope st) f cdv A outer s H E) (defBody st) (tSeq (tDrop (tVeI K (tCons (tVar 0) (tCons (tC (.str z)) tNil)))) (tOst K fl (tVar 0) (tVar 1)))) : FnOk P w K mg base (L2.CX P w) (k + 1) f fd ps (spPay K C fl) := by
  refine F.okX Sc (fun vs H Q E h => ?_) (fun cdv A outer s H vs Q E hr h => ?_)
  · obtain ⟨a, v, rfl, _⟩ := h
    exact hps.symm
  · obtain ⟨a, v, rfl, ea, ox, no, q⟩ := h
    refine ⟨_, hbody cdv A outer s H E hr, ?_⟩
    have es : L2.start N [.ref a, v] = [some (.ref a), some v] := by
      unfold L2.start
      rw [hN]
      rfl
    rw [es]
    refine ⟨.ref a, rfl, a, C, [.str z], rfl, by simp, ox, ea, v, rfl, .ref a, rfl, a, C, rfl, ox, no, .inl ⟨ea, q⟩⟩
/-- a class of errors that bear a value in the field f -/
structure PayT (P : Program) (w : World) (K : PySem.W.Frag) (mg : Str → Option Value) (base : Heap) (k : Nat) (x f : Str) : Prop where
  g : mg x = some (.ref (He.ga K x))
  ox : OexC K (He.ga K x)
  no : PySem.W.findIn K (.ref (He.ga K x)) f = some none
  ini : ∃ (fI : Addr) (fd : FuncData) (ps : List Str), PySem.W.findIn K (.ref (He.ga K x)) "__init__" = some (some (.ref fI)) ∧ PySem.W.typeIn K (.ref fI) = some (.type "function") ∧ FnOk P w K mg base (L2.CX P w) k fI fd ps (spPay K (He.ga K x) f) ∧ Binds K fd ps []
end
def sRaiseP (C f : Str) (fe : ES) : SS := fun σ h => (fe σ h).then σ fun d h' => .exc ⟨C, some (f, d)⟩ σ h'
theorem del_upd {H : Hp} {a dx : Addr} {o1 o2 o3 u : HO} (ha : H a = none) (hd : dx ≠ a) : upd (del (upd (upd (upd H a o1) dx o2) a o3) a) dx u = upd H dx u := by
  funext b
  by_cases q : b = dx
  · subst q
    rw [upd_same, upd_same]
  · rw [upd_ne q, upd_ne q]
    by_cases q2 : b = a
    · subst q2
      rw [del_same, ha]
    · rw [del_ne q2, upd_ne q2, upd_ne q, upd_ne q2]
section
variable {X : Cx} {W : WX} {e : Expr} {fe : ES} {x f : Str} {k : Nat} {p pos p3 : Pos}
theorem qs_raiseP (T : PayT X.prog X.w X.K X.mg X.base k x f) (hr : Room (k + 1) X.A) (tk : Takes X W) (ha : SE X W e fe) (hg : Gl X x := by rfl) (hdb : (x == ("__debug__" : Str)) = false := by decide) (hc : X.calm = true := by rfl)
    (he : starEach [e] X.env = (false, eval e X.env) :: starEach [] X.env := by rfl) (hpl : (backTo pos (starEach [] X.env)).any (·.1) = false := by rfl) :
    QS X W (.Raise (some (.Call (.Name x p) [e] [] pos)) none p3) (sRaiseP x f fe) := by
  obtain ⟨fI, fd, ps, iC, tI, F1, hb⟩ := T.ini
  obtain ⟨te, k1, k2⟩ := ha
  refine ⟨_, ps_raise hc tk (pmk_oex (ds := []) (dvs := []) T.ox iC tI F1 hr hb .nil (fun _ _ _ _ _ _ _ h => (cx_false h).elim) hg T.g (pa_cons k1 pa_nil he) hdb he hpl), ⟨fun {φ S H h σv σ D} rl rs post => ?_⟩⟩
  · refine k2.thenS rl rs post fun d h1 v φ1 S1 H1 rl1 rs1 st rp post => ?_
    refine ⟨by simp, fun a ha => ⟨a, v, rfl, upd_same, T.ox, T.no, fun dx hdx hne => ?_⟩⟩
    have hdx' : H1 dx = none := by rw [upd_ne hne] at hdx; exact hdx
    refine ⟨rfl, dx, [(f, v)], upd_same, by rw [upd_ne hne, upd_same], hdx', ?_⟩
    rw [del_upd ha hne]
    obtain ⟨r2, s2⟩ := rl1.lay (o := .xd [(f, v)]) hdx'
    exact post σ (.ref (He.ga X.K x)) (some dx) φ1 _ _ r2 (rs1.step s2) s2 ⟨rfl, dx, v, rfl, upd_same, Rp.mono s2.prefix s2.sub rp⟩
end
end
end VD
set_option Elab.async false
set_option linter.all false
set_option maxRecDepth 100000
set_option maxHeartbeats 4000000
namespace VD
open PySem PySem.Spec PyProof.Rows L2
end VD
set_option Elab.async false
set_option linter.all false
set_option maxRecDepth 100000
set_option maxHeartbeats 4000000
namespace VD
open PySem PySem.Spec PyProof.Rows L2
noncomputable section
def keyOf : D → Option Key
  | .int i => some (.inl i)
  | .str x => some (.inr x)
  | _ => none
def keyD : Key → D
  | .inl i => .int i
  | .inr x => .str x
theorem keyOf_ok {K : PySem.W.Frag} {φ : List Addr} {S : Hp} {v : V} {d : D} {k : Key} (r : Rp K φ S v d) (e : keyOf d = some k) : v = kV k := by
  cases r <;> cases e <;> rfl
def getD (kvs : List (Key × D)) (k : Key) : Option D := (kvs.find? fun p => decide (p.1 = k)).map (·.2)
def putD (kvs : List (Key × D)) (k : Key) (d : D) : List (Key × D) := if (kvs.any fun p => decide (p.1 = k)) = true then kvs.map (fun p => if p.1 = k then (p.1, d) else p) else kvs ++ [(k, d)]
def dropD (kvs : List (Key × D)) (k : Key) : List (Key × D) := kvs.filter fun p => decide (p.1 ≠ k)
inductive RpK (K : PySem.W.Frag) (φ : List Addr) (S : Hp) : List (Key × V) → List (Key × D) → Prop where
  | nil : RpK K φ S [] []
  | cons {k : Key} {v : V} {d : D} {kv : List (Key × V)} {kd : List (Key × D)} : Rp K φ S v d → RpK K φ S kv kd → RpK K φ S ((k, v) :: kv) ((k, d) :: kd)
section
variable {K : PySem.W.Frag} {φ : List Addr} {S H : Hp} {h : Hv} {kv : List (Key × V)} {kd : List (Key × D)}
theorem RpK.of : ∀ {kv : List (Key × V)} {kd : List (Key × D)}, kv.map (·.1) = kd.map (·.1) → RpA K φ S (kv.map (·.2)) (kd.map (·.2)) → RpK K φ S kv kd
  | [], [], _, _ => .nil
  | [], _ :: _, e, _ => nomatch e
  | _ :: _, [], e, _ => nomatch e
  | (k, v) :: kv, (j, d) :: kd, e, r => by
    rw [List.map_cons, List.map_cons] at e r
    injection e with e1 e2
    have e1 : k = j := e1
    subst e1
    cases r with
    | cons r t => exact .cons r (RpK.of e2 t)
theorem RpK.to (r : RpK K φ S kv kd) : kv.map (·.1) = kd.map (·.1) ∧ RpA K φ S (kv.map (·.2)) (kd.map (·.2)) := by
  induction r with
  | nil => exact ⟨rfl, .nil⟩
  | cons r _ ih => exact ⟨by rw [List.map_cons, List.map_cons, ih.1], .cons r ih.2⟩
theorem RpK.len (r : RpK K φ S kv kd) : kv.length = kd.length := by
  have := congrArg List.length r.to.1
  rw [List.length_map, List.length_map] at this
  exact this
theorem RpK.get (r : RpK K φ S kv kd) (k : Key) : (getD kd k = none ∧ valV kv k = none) ∨ ∃ d v, getD kd k = some d ∧ valV kv k = some v ∧ Rp K φ S v d := by
  induction r with
  | nil => exact .inl ⟨rfl, rfl⟩
  | @cons j v d kv kd r _ ih =>
    by_cases q : j = k
    · refine .inr ⟨d, v, ?_, ?_, r⟩
      · unfold getD; rw [List.find?_cons_of_pos (by exact decide_eq_true q)]; rfl
      · unfold valV; rw [List.find?_cons_of_pos (by exact decide_eq_true q)]; rfl
    · unfold getD valV at ih ⊢
      rw [List.find?_cons_of_neg (by exact fun z => q (of_decide_eq_true z)), List.find?_cons_of_neg (by exact fun z => q (of_decide_eq_true z))]
      exact ih
theorem RpK.any (r : RpK K φ S kv kd) (k : Key) : (kv.any fun p => decide (p.1 = k)) = (kd.any fun p => decide (p.1 = k)) := by
  induction r with
  | nil => rfl
  | cons r _ ih => rw [List.any_cons, List.any_cons, ih]
theorem RpK.rep (r : RpK K φ S kv kd) (k : Key) {v : V} {d : D} (rv : Rp K φ S v d) : RpK K φ S (kv.map fun p => if p.1 = k then (p.1, v) else p) (kd.map fun p => if p.1 = k then (p.1, d) else p) := by
  induction r with
  | nil => exact .nil
  | @cons j w e kv kd r _ ih =>
    rw [List.map_cons, List.map_cons]
    by_cases q : j = k
    · rw [if_pos q, if_pos q]
      exact .cons rv ih
    · rw [if_neg q, if_neg q]
      exact .cons r ih
theorem RpK.snoc (r : RpK K φ S kv kd) (k : Key) {v : V} {d : D} (rv : Rp K φ S v d) : RpK K φ S (kv ++ [(k, v)]) (kd ++ [(k, d)]) := by
  induction r with
  | nil => exact .cons rv .nil
  | cons r _ ih => exact .cons r ih
theorem RpK.put (r : RpK K φ S kv kd) (k : Key) {v : V} {d : D} (rv : Rp K φ S v d) : RpK K φ S (putK kv k v) (putD kd k d) := by
  unfold putK putD
  rw [r.any k]
  split
  · exact r.rep k rv
  · exact r.snoc k rv
theorem RpK.drop (r : RpK K φ S kv kd) (k : Key) : RpK K φ S (dropK kv k) (dropD kd k) := by
  unfold dropK dropD
  induction r with
  | nil => exact .nil
  | @cons j w e kv kd r _ ih =>
    by_cases q : j = k
    · rw [List.filter_cons_of_neg (by simp [q]), List.filter_cons_of_neg (by simp [q])]
      exact ih
    · rw [List.filter_cons_of_pos (by simp [q]), List.filter_cons_of_pos (by simp [q])]
      exact .cons r ih
theorem RpK.at (r : RpK K φ S kv kd) {i : Nat} {k : Key} {d : D} (e : kd[i]? = some (k, d)) : ∃ v, kv[i]? = some (k, v) ∧ Rp K φ S v d := by
  induction r generalizing i with
  | nil => simp at e
  | cons r _ ih =>
    cases i with
    | zero =>
      rw [List.getElem?_cons_zero] at e ⊢
      cases e
      exact ⟨_, rfl, r⟩
    | succ i =>
      rw [List.getElem?_cons_succ] at e ⊢
      exact ih e
/-- a dict to be read -/
def kvOf (h : Hv) : D → Option (List (Key × D))
  | .cell n => match h[n]? with
    | some (.dK kvs) => some kvs
    | some (.dF kvs) => some kvs
    | _ => none
  | .dct ks ds => if ks.length = ds.length then some (ks.zip ds) else none
  | _ => none
theorem zip_1 : ∀ {ks : List Key} {ds : List D}, ks.length = ds.length → (ks.zip ds).map (·.1) = ks ∧ (ks.zip ds).map (·.2) = ds
  | [], [], _ => ⟨rfl, rfl⟩
  | [], _ :: _, e => nomatch e
  | _ :: _, [], e => nomatch e
  | k :: ks, d :: ds, e => by
    obtain ⟨a, b⟩ := zip_1 (ks := ks) (ds := ds) (Nat.succ.inj e)
    exact ⟨by rw [List.zip_cons_cons, List.map_cons, a], by rw [List.zip_cons_cons, List.map_cons, b]⟩
theorem kvOf_ok (rl : Rel K φ S H h) {d : D} {v : V} (r : Rp K φ S v d) (e : kvOf h d = some kd) : ∃ a kv, v = .ref a ∧ Rd H a (.dK kv) ∧ RpK K φ S kv kd := by
  cases r with
  | @cell a n h1 =>
    obtain ⟨c, hc⟩ := rl.at h1
    obtain ⟨_, o, ho, rc⟩ := rl.cel _ _ _ h1 hc
    simp only [kvOf] at e
    rw [hc] at e
    cases c with
    | dK kvs =>
      obtain ⟨kv, rfl, ek, ra⟩ := rc
      cases e
      exact ⟨a, kv, rfl, .inl ho, .of ek ra⟩
    | dF kvs =>
      obtain ⟨od, kv, rfl, ek, ra⟩ := rc
      cases e
      exact ⟨a, kv, rfl, .inr ⟨od, ho⟩, .of ek ra⟩
    | lst xs => cases e
    | ins C fs => cases e
    | dN w kvs => cases e
    | tb q n => cases e
  | @dct a od kv ks ds h1 h2 h3 =>
    simp only [kvOf] at e
    split at e
    · next q =>
      cases e
      obtain ⟨z1, z2⟩ := zip_1 q
      exact ⟨a, kv, rfl, .inr ⟨od, rl.sub _ _ h1⟩, .of (by rw [z1]; exact h2) (by rw [z2]; exact h3)⟩
    · cases e
  | _ => cases e
def oDget : D → D → Hv → R D := fun x y h => match kvOf h x, keyOf y with
  | some kd, some k => (match getD kd k with
    | some d => .ok d h
    | none => .stuck)
  | _, _ => .stuck
def oDin : D → D → Hv → R D := fun y x h => match kvOf h x, keyOf y with
  | some kd, some k => .ok (.bl (getD kd k).isSome) h
  | _, _ => .stuck
def oDnin : D → D → Hv → R D := fun y x h => match kvOf h x, keyOf y with
  | some kd, some k => .ok (.bl (!(getD kd k).isSome)) h
  | _, _ => .stuck
end
section
variable {X : Cx} {W : WX} {o i e f value : Expr} {fo fi fe fv : ES} {pos pos' apos cpos : Pos}
theorem se_dget (hu : X.A.units + 1 < cLine) (ho : SE X W o fo) (hi : SE X W i fi) (hs : NoSl i := by intro _ _; rfl) : SE X W (.Subscript o i pos) (eOp oDget fo fi) := by
  obtain ⟨to, h1, h2⟩ := ho
  obtain ⟨ti, k1, k2⟩ := hi
  refine ⟨_, pe_dget hu h1 k1 hs, ⟨fun rl rs post =>
    h2.bind rl rs post fun x h1 v φ1 S1 H1 rl1 rs1 st rp post =>
    k2.bind rl1 rs1 post fun y h2 u φ2 S2 H2 rl2 rs2 st2 rp2 post => ?_⟩⟩
  have rv : Rp X.K φ2 S2 v x := Rp.mono st2.prefix st2.sub rp
  cases qx : kvOf h2 x with
  | none => simp only [oDget, qx] at post; exact post.elim
  | some kd =>
    cases qk : keyOf y with
    | none => simp only [oDget, qx, qk] at post; exact post.elim
    | some k =>
      obtain ⟨a, kv, rfl, ha, rk⟩ := kvOf_ok rl2 rv qx
      have ev := keyOf_ok rp2 qk
      subst ev
      rcases rk.get k with ⟨g1, g2⟩ | ⟨d, w, g1, g2, rd⟩
      · simp only [oDget, qx, qk, g1] at post; exact post.elim
      · simp only [oDget, qx, qk, g1] at post
        refine ⟨a, w, rfl, ?_, post w φ2 S2 H2 rl2 (Step.refl _ _ _) rd⟩
        exact .inl ⟨kv, k, ha, rfl, g2.symm⟩
/-- d[i] = v -/
def sDput (fv fo fi : ES) : SS := fun σ h => (fv σ h).then σ fun d h1 => (fo σ h1).then σ fun x h2 => (fi σ h2).then σ fun y h3 => match x, keyOf y with
  | .cell n, some k => (match h3[n]? with
    | some (.dK kd) => if kd.length < 16777216 then .next σ (h3.set n (.dK (putD kd k d))) else .stuck
    | _ => .stuck)
  | _, _ => .stuck
/-- {} -/
def eDnew : ES := fun _ h => .ok (.cell h.length) (h ++ [.dK []])
/-- a dict that changes no more -/
def eLock (f : ES) : ES := fun σ h => (f σ h).bind fun d h1 => match d with
  | .cell n => (match h1[n]? with
    | some (.dK kd) => .ok (.cell n) (h1.set n (.dF kd))
    | _ => .stuck)
  | _ => .stuck
theorem pe_lockP {t : TE} (he : PE X e t) : PE X e (fun σ H Q => t σ H fun v H1 => ∃ d u, H1 d = some u ∧ Mut (some u) ∧ ∀ od, Q v (upd H1 d (.frz od u))) := by
  constructor
  intro pins s σ H Q I rd
  refine thn (he.run pins s σ H _ I rd) fun v s1 z => ?_
  obtain ⟨x, H1, I1, rx, d, u, hd, mu, q⟩ := z
  obtain ⟨od, I2⟩ := I1.lock hd mu
  exact ⟨x, _, I2, rx, q od⟩
/-- the keys of a dict that changes no more -/
def iD (f : ES) : IS := fun σ h => (f σ h).bind fun d h1 => match d with
  | .dct ks ds => .ok (ks.map keyD, always) h1
  | _ => .stuck
abbrev PSd := VS → Hv → R (List (D × D))
def repP (K : PySem.W.Frag) : Rep (List (D × D)) (List (V × V)) := fun _ φ' S' _ b a => RpA K φ' S' (b.map (·.1)) (a.map (·.1)) ∧ RpA K φ' S' (b.map (·.2)) (a.map (·.2))
instance {K : PySem.W.Frag} : Rep.Up (repP K) := ⟨fun _ h => h⟩
def SP (X : Cx) (W : WX) (pos : Pos) (ks : List (Option Expr)) (vs : List Expr) (g : PSd) : Prop := ∃ trs, PPs X pos ks vs trs ∧ Sn X.K (repP X.K) W (tPairs trs) g
def pNil : PSd := fun _ h => .ok [] h
def pCons (fk fv : ES) (g : PSd) : PSd := fun σ h => (fk σ h).bind fun k h1 => (fv σ h1).bind fun v h2 => (g σ h2).bind fun r h3 => .ok ((k, v) :: r) h3
theorem sp_nil : SP X W pos [] [] pNil := ⟨[], pps_nil, ⟨fun {φ S H h σv σ Q} rl rs post => post [] φ S H rl (Step.refl _ _ _) ⟨.nil, .nil⟩⟩⟩
theorem sp_cons {ks : List (Option Expr)} {vs : List Expr} {g : PSd} (hk : SE X W i fi) (hv : SE X W value fv) (hr : SP X W pos ks vs g) : SP X W pos (some i :: ks) (value :: vs) (pCons fi fv g) := by
  obtain ⟨tk, a1, a2⟩ := hk
  obtain ⟨tv, b1, b2⟩ := hv
  obtain ⟨trs, c1, c2⟩ := hr
  exact ⟨_, pps_cons a1 b1 c1, ⟨fun rl rs post =>
    a2.bind rl rs post fun k h1 u φ1 S1 H1 rl1 rs1 st rp post =>
    b2.bind rl1 rs1 post fun v h2 w φ2 S2 H2 rl2 rs2 st2 rp2 post =>
    c2.bind rl2 rs2 post fun r h3 z φ3 S3 H3 rl3 rs3 st3 rp3 post =>
      post ((u, w) :: z) φ3 S3 H3 rl3 (Step.refl _ _ _) ⟨.cons (Rp.mono st3.prefix st3.sub (Rp.mono st2.prefix st2.sub rp)) rp3.1, .cons (Rp.mono st3.prefix st3.sub rp2) rp3.2⟩⟩⟩
def mergeD (kd more : List (Key × D)) : List (Key × D) := more.foldl (fun acc p => putD acc p.1 p.2) kd
theorem RpK.merge {K : PySem.W.Frag} {φ : List Addr} {S : Hp} {more : List (Key × V)} {mored : List (Key × D)} (r2 : RpK K φ S more mored) : ∀ {kv : List (Key × V)} {kd : List (Key × D)}, RpK K φ S kv kd → RpK K φ S (mergeK kv more) (mergeD kd mored) := by
  induction r2 with
  | nil => intro kv kd r; exact r
  | cons r _ ih => intro kv kd r0; exact ih (r0.put _ r)
def keyP (p : D × D) : Option (Key × D) := (keyOf p.1).map fun k => (k, p.2)
theorem keyPs_ok {K : PySem.W.Frag} {φ : List Addr} {S : Hp} : ∀ {b : List (V × V)} {a : List (D × D)} {kd : List (Key × D)}, RpA K φ S (b.map (·.1)) (a.map (·.1)) → RpA K φ S (b.map (·.2)) (a.map (·.2)) → optAll keyP a = some kd → ∃ kv : List (Key × V), b = kv.map (fun p => (kV p.1, p.2)) ∧ RpK K φ S kv kd
  | [], [], kd, _, _, e => by
    cases e
    exact ⟨[], rfl, .nil⟩
  | [], _ :: _, _, r, _, _ => by cases r
  | _ :: _, [], _, r, _, _ => by cases r
  | (u, w) :: b, (k, d) :: a, kd, r1, r2, e => by
    rw [List.map_cons, List.map_cons] at r1 r2
    cases r1 with
    | cons q1 t1 =>
      cases r2 with
      | cons q2 t2 =>
        simp only [optAll] at e
        cases hk : keyOf k with
        | none => simp only [keyP, hk, Option.map_none] at e; cases e
        | some k0 =>
          simp only [keyP, hk, Option.map_some] at e
          cases hr : optAll keyP a with
          | none => simp only [hr] at e; cases e
          | some kd0 =>
            simp only [hr] at e
            cases e
            obtain ⟨kv, rfl, rk⟩ := keyPs_ok t1 t2 hr
            have ev : u = kV k0 := keyOf_ok q1 hk
            refine ⟨(k0, w) :: kv, ?_, .cons q2 rk⟩
            rw [List.map_cons, ev]
def eDisp (g : PSd) : ES := fun σ h => (g σ h).bind fun ps h1 => match optAll keyP ps with
  | some kd => if kd.length ≤ 15 then .ok (.cell h1.length) (h1 ++ [.dK (mergeD [] kd)]) else .stuck
  | none => .stuck
theorem sn_disp {trs : List (TE × TE)} {g : PSd} {α : Type} {rep : Rep α V} {fin : List (Key × D) → Hv → R α} {φ : List Addr} {S H : Hp} {h : Hv} {σv : VS} {σ : L2.St} {E : XK} {T : V → Hp → Prop} {p : Addr} (h2 : Sn X.K (repP X.K) W (tPairs trs) g) (rl : Rel X.K φ S H h) (rs : RelS X.K φ S σv σ) (hp : H p = none)
    (post : ∀ cls dd φ' S' H' h' x, g σv h = .exc x h' → Rel X.K φ' S' H' h' → Step φ S H φ' S' H' → RpX X.K φ' S' H' x cls dd → W cls dd σ H')
    (ok : ∀ ps h' kd (kv : List (Key × V)) φ' S' H', g σv h = .ok ps h' → optAll keyP ps = some kd → Rel X.K φ' S' H' h' → Step φ S (upd H p (.dK [])) φ' S' H' → RpK X.K φ' S' kv kd → S' p = none → p ∉ φ' → H' p = some (.dK []) → kv.length ≤ 15 ∧ T (.ref p) (upd H' p (.dK (mergeK [] kv))))
    (good : ∃ ps h' kd, g σv h = .ok ps h' ∧ optAll keyP ps = some kd ∨ ∃ x, g σv h = .exc x h') :
    tPairs trs σ (upd H p (.dK [])) fun ps H2 => H2 p = some (.dK []) ∧ ∃ kvs : List (Key × V), ps = kvs.map (fun kv => (kV kv.1, kv.2)) ∧ kvs.length ≤ 15 ∧ T (.ref p) (upd H2 p (.dK (mergeK [] kvs))) := by
  obtain ⟨r0, s0⟩ := rl.hold (o := .dK []) hp
  have sp := rl.snone hp
  have np := rl.notin hp
  refine h2.run r0 (rs.step s0) ?_
  cases hg : g σv h with
  | stuck =>
    obtain ⟨ps, h', kd, ⟨e, _⟩ | ⟨x, e⟩⟩ := good
    · rw [hg] at e; cases e
    · rw [hg] at e; cases e
  | exc x h' => exact fun cls dd φ' S' H' r2 st rx => post cls dd φ' S' H' h' x hg r2 (s0.trans st) rx
  | ok ps h' =>
    intro b φ' S' H' r2 st rp
    obtain ⟨ps2, h2', kd, ⟨e, hk⟩ | ⟨x, e⟩⟩ := good
    · rw [hg] at e
      cases e
      obtain ⟨kv, rfl, rk⟩ := keyPs_ok rp.1 rp.2 hk
      have np' : p ∉ φ' := by
        obtain ⟨ψ, e, hn⟩ := st.pre
        rw [e]
        intro z
        rcases List.mem_append.mp z with z | z
        · exact np z
        · have := hn p z
          rw [upd_same] at this
          cases this
      have hp' : H' p = some (.dK []) := st.keep p _ upd_same np
      have sp' : S' p = none := (st.old p (by rw [upd_same]; exact fun z => nomatch z)).trans sp
      obtain ⟨z1, z2⟩ := ok ps h' kd kv φ' S' H' hg hk r2 st rk sp' np' hp'
      exact ⟨hp', kv, rfl, z1, z2⟩
    · rw [hg] at e; cases e
theorem upd_rel {K : PySem.W.Frag} {φ : List Addr} {S H : Hp} {h : Hv} (r : Rel K φ S H h) {p : Addr} {o : HO} (sp : S p = none) (np : p ∉ φ) : Rel K φ S (upd H p o) h := ⟨r.len, fun c u e => by
    have q : c ≠ p := fun z => by rw [z, sp] at e; cases e
    rw [upd_ne q]
    exact r.sub c u e, r.nd, fun n c x e1 e2 => by
    obtain ⟨z1, o, z2, z3⟩ := r.cel n c x e1 e2
    have q : c ≠ p := fun z => np (by rw [← z]; exact List.mem_of_getElem? e1)
    exact ⟨z1, o, by rw [upd_ne q]; exact z2, z3⟩⟩
theorem upd_step {φ φ' : List Addr} {S H S' H' : Hp} (st : Step φ S H φ' S' H') {p : Addr} {o : HO} (hp : H p = none) : Step φ S H φ' S' (upd H' p o) := ⟨st.pre, st.sub, st.old, fun a u e hn => by
    have q : a ≠ p := ne_of_none e hp
    rw [upd_ne q]
    exact st.keep a u e hn, fun a ha => by
    by_cases q : a = p
    · rw [q, upd_same]; exact fun z => nomatch z
    · rw [upd_ne q]; exact st.there a ha, fun a od u e => by rw [upd_ne (ne_of_none e hp)]; exact st.frz a od u e⟩
/-- a display that changes no more -/
def eDispF (g : PSd) : ES := fun σ h => (g σ h).bind fun ps h1 => match optAll keyP ps with
  | some kd => if kd.length ≤ 15 then .ok (.dct ((mergeD [] kd).map (·.1)) ((mergeD [] kd).map (·.2))) h1 else .stuck
  | none => .stuck
theorem se_dispF {ks : List (Option Expr)} {vs : List Expr} {g : PSd} (h : SP X W pos ks vs g) (hall : ks.all (·.isSome) = true := by rfl) (hl : ks.length = vs.length := by rfl) (h0 : ks ≠ [] := by exact fun z => nomatch z) (h15 : ks.length ≤ 15 := by decide) : SE X W (.Dict ks vs pos) (eDispF g) := by
  obtain ⟨trs, h1, h2⟩ := h
  refine ⟨_, pe_lockP (pe_disp h1 hall hl h0 h15), ⟨fun {φ S H h σv σ Q} rl rs post p hp => ?_⟩⟩
  obtain ⟨_, s0⟩ := rl.hold (o := .dK []) hp
  unfold eDispF at post
  refine sn_disp (T := fun v H1 => ∃ d u, H1 d = some u ∧ Mut (some u) ∧ ∀ (od : Obj), Q v (upd H1 d (.frz od u))) (rep := repV X.K) (fin := fun _ _ => .stuck) (E := fun c d H' => W c d σ H') h2 rl rs hp (fun cls dd φ' S' H' h' x e r2 st rx => ?_) (fun ps h' kd kv φ' S' H' e hk r2 st rk sp' np' hp' => ?_) ?_
  · rw [e] at post
    exact post cls dd φ' S' H' r2 st rx
  · rw [e, R.bind_ok] at post
    simp only [hk] at post
    by_cases hz : kd.length ≤ 15
    · rw [if_pos hz] at post
      have rm := ((rk.merge .nil).to : _)
      refine ⟨by rw [rk.len]; exact hz, p, _, upd_same, True.intro, fun od => ?_⟩
      rw [upd_upd]
      have r4 := (upd_rel (o := .frz od (.dK (mergeK [] kv))) r2 sp' np').still upd_same sp' np'
      exact post (.ref p) _ _ _ r4 ((upd_step (s0.trans st) hp).still hp sp') (.dct upd_same rm.1 (rm.2.mono (Pre.refl _) (Ex.new sp')))
    · rw [if_neg hz] at post
      exact post.elim
  · cases hg : g σv h with
    | stuck => rw [hg] at post; exact post.elim
    | exc x h' => exact ⟨[], h', [], .inr ⟨x, rfl⟩⟩
    | ok ps h' =>
      rw [hg, R.bind_ok] at post
      cases hk : optAll keyP ps with
      | none => simp only [hk] at post; exact post.elim
      | some kd => exact ⟨ps, h', kd, .inl ⟨rfl, hk⟩⟩
def eDpop (fo fi : ES) : ES := fun σ h => (fo σ h).bind fun x h1 => match kvOf h1 x with
  | some _ => (fi σ h1).bind fun y h2 => (match x, keyOf y with
    | .cell n, some k => (match h2[n]? with
      | some (.dK kd) => (match getD kd k with
        | some d => .ok d (h2.set n (.dK (dropD kd k)))
        | none => .stuck)
      | _ => .stuck)
    | _, _ => .stuck)
  | none => .stuck
end
end
end VD
set_option Elab.async false
set_option linter.all false
set_option maxRecDepth 100000
set_option maxHeartbeats 4000000
namespace VD
open PySem PySem.Spec PyProof.Rows L2
noncomputable section
def repS (a : Str) (n : Int) : Str := ⟨((List.replicate n.toNat a.cps.toList).flatten).toArray⟩
theorem rep_fold (xs : List Nat) : ∀ (n : Nat) (acc : Array Nat), ((List.replicate n xs.toArray).foldl (· ++ ·) acc) = acc ++ ((List.replicate n xs).flatten).toArray
  | 0, acc => by simp
  | n + 1, acc => by
    rw [List.replicate_succ, List.replicate_succ, List.foldl_cons, rep_fold xs n, List.flatten_cons]
    simp
def rMulS : R2 := fun x y H Q => ∃ (a : Str) (n : Int), x = .str a ∧ y = .int n ∧ (-1000 ≤ n ∧ n ≤ 1000) ∧ a.length ≤ 1000 ∧ Q (.str (repS a n)) H
theorem op_mulS {X : Cx} : OpR X (binaryOp .Mult) rMulS := by
  intro pins s σ H x y v u Q I rx ry h
  obtain ⟨a, n, rfl, rfl, ⟨b0, b1⟩, hl, q⟩ := h
  obtain ⟨t, rfl⟩ := rx
  obtain ⟨t', rfl⟩ := ry
  have ok : ∀ {tk : Tok} {s' : Shared}, Inv X pins σ H s' → EP X pins σ Q (.str (repS a n) tk) s' := fun {tk s'} J => ⟨.str (repS a n), H, J, ⟨_, rfl⟩, q⟩
  have z0 : ¬ n < -(2 ^ 63 : Int) := by omega
  have z1 : ¬ n ≥ 2 ^ 63 := by omega
  refine P.mul_str (by rw [decide_eq_false z0, decide_eq_false z1]; rfl) (fun h1 _ => ?_) (fun h1 _ => ?_) ?_
  · have h3 : (1000 : Int) ≤ (2 ^ 63 - 1) / n := (Int.le_ediv_iff_mul_le (by omega)).mpr (by omega)
    omega
  · have : a.length * n.toNat ≤ 1000 * 1000 := Nat.mul_le_mul hl (by omega)
    exact decide_eq_false (by rw [line_eq]; omega)
  · by_cases h1 : n < 1
    · rw [if_pos h1]
      have e : repS a n = Str.empty := by
        unfold repS
        have : n.toNat = 0 := by omega
        rw [this]; rfl
      rw [e] at ok
      exact ⟨by decide, ok (I.tok _)⟩
    · rw [if_neg h1]
      by_cases h2 : (n == 1 || a.length == 0) = true
      · rw [if_pos h2]
        have e : repS a n = a := by
          cases a with
          | mk cs =>
            unfold repS
            rw [Bool.or_eq_true, beq_iff_eq, beq_iff_eq] at h2
            rcases h2 with h2 | h2
            · rw [h2]
              show Str.mk _ = Str.mk _
              simp
            · have h2 : cs.size = 0 := h2
              have : cs = #[] := Array.size_eq_zero_iff.mp h2
              subst this
              show Str.mk _ = Str.mk _
              simp
        show EP X pins σ Q (.str a t) s
        exact ⟨.str (repS a n), H, I, ⟨t, by rw [e]⟩, q⟩
      · rw [if_neg h2]
        have e : (⟨(List.replicate n.toNat a.cps).foldl (· ++ ·) #[]⟩ : Str) = repS a n := by
          unfold repS
          have := rep_fold a.cps.toList n.toNat #[]
          rw [Array.toArray_toList] at this
          rw [this]
          simp
        rw [e]
        refine ⟨?_, ok (I.tok _)⟩
        rw [line_eq]
        have : (repS a n).length = n.toNat * a.length := by
          show (((List.replicate n.toNat a.cps.toList).flatten).toArray).size = _
          simp [Str.length]
        rw [this]
        exact Nat.le_trans (Nat.mul_le_mul (show n.toNat ≤ 1000 by omega) hl) (by decide)
section
variable {K : PySem.W.Frag}
def oMulS : D → D → Hv → R D := fun x y h => match x, y with
  | .str a, .int n => @ite _ ((-1000 ≤ n ∧ n ≤ 1000) ∧ a.length ≤ 1000) (Classical.propDecidable _) (.ok (.str (repS a n)) h) .stuck
  | _, _ => .stuck
theorem os_mulS : OpS K rMulS oMulS := by
  intro φ S H h x y v u Q E rl rx ry post
  unfold oMulS at post
  split at post
  · cases rx
    cases ry
    split at post
    · next q => exact ⟨_, _, rfl, rfl, q.1, q.2, post _ φ S H rl (Step.refl _ _ _) (.str _)⟩
    · exact post.elim
  · exact post.elim
/-- str of a whole number or a text, int of a whole number, a truth or a text -/
def bStrA : List D → Hv → R D := fun ds h => match ds with
  | [.int i] => if i.natAbs.log2 < 1920 then .ok (.str (toString i)) h else .stuck
  | [.str a] => .ok (.str a) h
  | _ => .stuck
def rStrA : List V → Hp → VK → Prop := fun xs H Q => (∃ i, xs = [.int i] ∧ i.natAbs.log2 < 1920 ∧ Q (.str (toString i)) H) ∨ ∃ a, xs = [.str a] ∧ Q (.str a) H
theorem call_strA {X : Cx} : CallR X (.type "str") rStrA := by
  intro pins s σ H xs us Q I r h
  rcases h with h | h
  · exact call_str_int pins s σ H xs us Q I r h
  · exact SkE.call_str_str pins s σ H xs us Q I r h
theorem cs_strA : CaS K rStrA bStrA := by
  intro φ S H h ds vs Q E rl ra post
  unfold bStrA at post
  split at post
  · obtain ⟨v, rfl, r⟩ := ra.one
    cases r
    split at post
    · next q => exact .inl ⟨_, rfl, q, post _ φ S H rl (Step.refl _ _ _) (.str _)⟩
    · exact post.elim
  · obtain ⟨v, rfl, r⟩ := ra.one
    cases r
    exact .inr ⟨_, rfl, post _ φ S H rl (Step.refl _ _ _) (.str _)⟩
  · exact post.elim
def bIntA : List D → Hv → R D := fun ds h => match ds with
  | [.int i] => .ok (.int i) h
  | [.bl b] => .ok (.int (if b then 1 else 0)) h
  | [.str a] => (match PySem.intText? a with
    | some n => if a.length ≤ 640 then .ok (.int n) h else .stuck
    | none => .stuck)
  | _ => .stuck
def rIntA : List V → Hp → VK → Prop := fun xs H Q => ((∃ i, xs = [.int i] ∧ Q (.int i) H) ∨ ∃ k, xs = [.bl k] ∧ Q (.int (if k then 1 else 0)) H) ∨ ∃ a n, xs = [.str a] ∧ PySem.intText? a = some n ∧ a.length ≤ 640 ∧ Q (.int n) H
theorem call_intA {X : Cx} : CallR X (.type "int") rIntA := by
  intro pins s σ H xs us Q I r h
  rcases h with h | h
  · exact call_int1 pins s σ H xs us Q I r h
  · exact call_int_str pins s σ H xs us Q I r h
theorem cs_intA : CaS K rIntA bIntA := by
  intro φ S H h ds vs Q E rl ra post
  unfold bIntA at post
  split at post
  · obtain ⟨v, rfl, r⟩ := ra.one
    cases r
    exact .inl (.inl ⟨_, rfl, post _ φ S H rl (Step.refl _ _ _) (.int _)⟩)
  · obtain ⟨v, rfl, r⟩ := ra.one
    cases r
    exact .inl (.inr ⟨_, rfl, post _ φ S H rl (Step.refl _ _ _) (.int _)⟩)
  · split at post
    · next n hn =>
      obtain ⟨v, rfl, r⟩ := ra.one
      cases r
      split at post
      · next hl => exact .inr ⟨_, n, rfl, hn, hl, post _ φ S H rl (Step.refl _ _ _) (.int _)⟩
      · exact post.elim
    · exact post.elim
  · exact post.elim
@[simp] theorem bStrA_str {a : Str} {h : Hv} : bStrA [.str a] h = .ok (.str a) h := rfl
theorem bStrA_int {i : Int} {h : Hv} (h1 : -(10 ^ 77) < i) (h2 : i < 10 ^ 77) : bStrA [.int i] h = .ok (.str (toString i)) h := by
  have e : (10 : Int) ^ 77 = 100000000000000000000000000000000000000000000000000000000000000000000000000000 := by decide
  have e2 : (2 : Nat) ^ 256 = 115792089237316195423570985008687907853269984665640564039457584007913129639936 := by decide
  have l : i.natAbs < 2 ^ 256 := by rw [e] at h1 h2; rw [e2]; omega
  exact if_pos (Nat.lt_of_lt_of_le (PySem.Flt.log2_lt_of (by decide) l) (by decide))
@[simp] theorem bIntA_int {i : Int} {h : Hv} : bIntA [.int i] h = .ok (.int i) h := rfl
@[simp] theorem bIntA_bl {b : Bool} {h : Hv} : bIntA [.bl b] h = .ok (.int (if b then 1 else 0)) h := rfl
theorem bIntA_str {a : Str} {n : Int} {h : Hv} (e : PySem.intText? a = some n) (hl : a.length ≤ 640) : bIntA [.str a] h = .ok (.int n) h := by
  show (match PySem.intText? a with | some n => if a.length ≤ 640 then R.ok (D.int n) h else .stuck | none => .stuck) = _
  rw [e]
  exact if_pos hl
theorem oMulS_ap {a : Str} {n : Int} {h : Hv} (h1 : -1000 ≤ n) (h2 : n ≤ 1000) (h3 : a.length ≤ 1000) : oMulS (.str a) (.int n) h = .ok (.str (repS a n)) h := if_pos ⟨⟨h1, h2⟩, h3⟩
end
def seqP : PyData → Option (List PyData)
  | .list xs => some xs
  | .tuple xs => some xs
  | _ => none
def inP (h : Hv) (x y : D) : Option Bool := match toPy h 12 x, (toPy h 12 y).bind seqP with
  | some d, some xs => some (xs.any fun z => PyData.eqv z d)
  | _, _ => none
def oInP : D → D → Hv → R D := fun x y h => match inP h x y with
  | some b => .ok (.bl b) h
  | none => .stuck
def oNotInP : D → D → Hv → R D := fun x y h => match inP h x y with
  | some b => .ok (.bl (!b)) h
  | none => .stuck
def rInP (K : PySem.W.Frag) (neg : Bool) : R2 := fun x y H Q => ∃ d e xs, Dp K H x d ∧ Dp K H y e ∧ seqP e = some xs ∧ (d.plain = true ∧ e.plain = true ∧ d.depth ≤ 63) ∧ Q (.bl (if neg then !xs.any fun z => PyData.eqv z d else xs.any fun z => PyData.eqv z d)) H
theorem op_inP {X : Cx} (hu : X.A.units + 64 < cLine) : OpR X (compareOp .In) (rInP X.K false) := by
  intro pins s σ H x y v u Q I rx ry h
  obtain ⟨d, e, xs, hd, he, es, ⟨pd, pe, dd⟩, q⟩ := h
  obtain ⟨as, r1⟩ := Dp.reads I d x v hd rx
  obtain ⟨bs, r2⟩ := Dp.reads I e y u he ry
  have line : ∀ ys : List PyData, X.A.units + 1 + min (PyData.depthAll ys) d.depth < cLine := fun ys => by
    have := Nat.min_le_right (PyData.depthAll ys) d.depth
    omega
  cases e with
  | list ys =>
    cases es
    exact PySem.SeqAt.in_list_data r2 r1 (by simpa only [PyData.plain] using pe) pd (line _) ⟨.bl _, H, I, rfl, q⟩
  | tuple ys =>
    cases es
    exact PySem.SeqAt.in_tuple_data r2 r1 (by simpa only [PyData.plain] using pe) pd (line _) ⟨.bl _, H, I, rfl, q⟩
  | _ => cases es
theorem op_notInP {X : Cx} (hu : X.A.units + 64 < cLine) : OpR X (compareOp .NotIn) (rInP X.K true) := by
  intro pins s σ H x y v u Q I rx ry h
  obtain ⟨d, e, xs, hd, he, es, ⟨pd, pe, dd⟩, q⟩ := h
  obtain ⟨as, r1⟩ := Dp.reads I d x v hd rx
  obtain ⟨bs, r2⟩ := Dp.reads I e y u he ry
  have line : ∀ ys : List PyData, X.A.units + 1 + min (PyData.depthAll ys) d.depth < cLine := fun ys => by
    have := Nat.min_le_right (PyData.depthAll ys) d.depth
    omega
  cases e with
  | list ys =>
    cases es
    exact PySem.SeqAt.notIn_list_data r2 r1 (by simpa only [PyData.plain] using pe) pd (line _) ⟨.bl _, H, I, rfl, q⟩
  | tuple ys =>
    cases es
    exact PySem.SeqAt.notIn_tuple_data r2 r1 (by simpa only [PyData.plain] using pe) pd (line _) ⟨.bl _, H, I, rfl, q⟩
  | _ => cases es
theorem inP_ok {K : PySem.W.Frag} {φ : List Addr} {S H : Hp} {h : Hv} {x y : D} {v u : V} {b : Bool} (rl : Rel K φ S H h) (rx : Rp K φ S v x) (ry : Rp K φ S u y) (e : inP h x y = some b) :
    ∃ d e xs, Dp K H v d ∧ Dp K H u e ∧ seqP e = some xs ∧ (d.plain = true ∧ e.plain = true ∧ d.depth ≤ 63) ∧ (xs.any fun z => PyData.eqv z d) = b := by
  unfold inP at e
  cases e1 : toPy h 12 x with
  | none => simp only [e1] at e; cases e
  | some d =>
    cases e2 : toPy h 12 y with
    | none => simp only [e1, e2, Option.bind_none] at e; cases e
    | some d2 =>
      simp only [e1, e2, Option.bind_some] at e
      cases e3 : seqP d2 with
      | none => simp only [e3] at e; cases e
      | some xs =>
        simp only [e3] at e
        obtain ⟨p1, p2⟩ := toPy_plain 12 x d e1
        obtain ⟨q1, q2⟩ := toPy_plain 12 y d2 e2
        exact ⟨d, d2, xs, dp_of rl _ _ _ _ rx e1, dp_of rl _ _ _ _ ry e2, e3, ⟨p1, q1, by omega⟩, Option.some.inj e⟩
theorem os_inP {K : PySem.W.Frag} : OpS K (rInP K false) oInP := by
  intro φ S H h x y v u Q E rl rx ry post
  simp only [oInP] at post
  cases e : inP h x y with
  | none => simp only [e] at post; exact post.elim
  | some b =>
    simp only [e] at post
    have fin := post _ φ S H rl (Step.refl _ _ _) (.bl b)
    obtain ⟨d, e', xs, h1, h2, h3, h4, h5⟩ := inP_ok rl rx ry e
    exact ⟨d, e', xs, h1, h2, h3, h4, by rw [if_neg Bool.false_ne_true, h5]; exact fin⟩
theorem os_notInP {K : PySem.W.Frag} : OpS K (rInP K true) oNotInP := by
  intro φ S H h x y v u Q E rl rx ry post
  simp only [oNotInP] at post
  cases e : inP h x y with
  | none => simp only [e] at post; exact post.elim
  | some b =>
    simp only [e] at post
    have fin := post _ φ S H rl (Step.refl _ _ _) (.bl (!b))
    obtain ⟨d, e', xs, h1, h2, h3, h4, h5⟩ := inP_ok rl rx ry e
    exact ⟨d, e', xs, h1, h2, h3, h4, by rw [if_pos rfl, h5]; exact fin⟩
def frzR (n0 : Nat) (r : R D) : R D := match r with
  | .ok d h => exitD n0 d h
  | _ => .stuck
def eFrz (f : ES) : ES := fun σ h => frzR h.length (f σ h)
end
end VD
set_option Elab.async false
set_option linter.all false
set_option maxRecDepth 100000
set_option maxHeartbeats 4000000
namespace VD
open PySem PySem.Spec PyProof.Rows L2
noncomputable section
@[simp high] theorem at0 {α : Type} (a : α) (l : List α) : (a :: l)[0]? = some a := rfl
section
variable {σ : VS} {h : Hv} {i j : Nat} {d : D} {f g k : ES} {l : LS} {c c2 : CS} {α : Type}
@[simp] theorem eVar_ap : eVar i σ h = (match σ[i]? with
  | some (some d) => .ok d h
  | _ => .stuck) := rfl
@[simp] theorem eK_ap : eK d σ h = .ok d h := rfl
@[simp] theorem eV_ap : eV l σ h = (l σ h).bind fun ds h' => .ok (.lst ds) h' := rfl
@[simp] theorem eC_ap : eC l σ h = (l σ h).bind fun ds h' => .ok (.cell h'.length) (h' ++ [.lst ds]) := rfl
def kOp (ro : D → D → Hv → R α) (g : ES) (σ : VS) (x : D) (h : Hv) : R α := (g σ h).bind (ro x)
@[simp] theorem eOp_ap {ro : D → D → Hv → R α} : eOp ro f g σ h = (f σ h).bind (kOp ro g σ) := rfl
@[simp] theorem kOp_ap {ro : D → D → Hv → R α} {x : D} : kOp ro g σ x h = (g σ h).bind (ro x) := rfl
@[simp] theorem eUn_ap {ro : D → Hv → R D} : eUn ro f σ h = (f σ h).bind ro := rfl
@[simp] theorem toB_ap : toB f σ h = (f σ h).bind fun d h1 => (match d with
  | .bl b => .ok b h1
  | _ => .stuck) := rfl
@[simp] theorem cTru_ap : cTru f σ h = (f σ h).bind fun d h1 => (match dTru h1 d with
  | some b => .ok b h1
  | none => .stuck) := rfl
def kAnd (c2 : CS) (σ : VS) (k : Bool) (h : Hv) : R Bool := if k then c2 σ h else .ok false h
@[simp] theorem cAnd_ap : cAnd c c2 σ h = (c σ h).bind (kAnd c2 σ) := rfl
@[simp] theorem kAnd_ap {k : Bool} : kAnd c2 σ k h = if k then c2 σ h else .ok false h := rfl
def kOr (c2 : CS) (σ : VS) (k : Bool) (h : Hv) : R Bool := if k then .ok true h else c2 σ h
@[simp] theorem cOr_ap : cOr c c2 σ h = (c σ h).bind (kOr c2 σ) := rfl
@[simp] theorem kOr_ap {k : Bool} : kOr c2 σ k h = if k then .ok true h else c2 σ h := rfl
@[simp] theorem cNot_ap : cNot c σ h = (c σ h).bind fun k h1 => .ok (!k) h1 := rfl
def kIf (u v : VS → Hv → R α) (σ : VS) (k : Bool) (h : Hv) : R α := if k then u σ h else v σ h
@[simp] theorem eIf_ap {u v : VS → Hv → R α} : eIf c u v σ h = (c σ h).bind (kIf u v σ) := rfl
@[simp] theorem kIf_ap {u v : VS → Hv → R α} {k : Bool} : kIf u v σ k h = if k then u σ h else v σ h := rfl
@[simp] theorem aNil_ap : aNil σ h = .ok [] h := rfl
def kCons (l : LS) (σ : VS) (d : D) (h : Hv) : R (List D) := (l σ h).bind fun ds h2 => .ok (d :: ds) h2
@[simp] theorem aCons_ap : aCons f l σ h = (f σ h).bind (kCons l σ) := rfl
@[simp] theorem kCons_ap : kCons l σ d h = (l σ h).bind fun ds h2 => .ok (d :: ds) h2 := rfl
@[simp] theorem eTup_ap : eTup l σ h = (l σ h).bind fun ds h1 => if ds.length ≤ 16777216 then .ok (.tup ds) h1 else .stuck := rfl
@[simp] theorem lLst_ap : lLst l σ h = (l σ h).bind fun ds h1 => if ds.length ≤ 16777216 then .ok ds h1 else .stuck := rfl
def kAndV (g : ES) (σ : VS) (d : D) (h : Hv) : R D := match d with
  | .bl true => g σ h
  | .bl false => .ok (.bl false) h
  | _ => .stuck
@[simp] theorem eAndV_ap : eAndV f g σ h = (f σ h).bind (kAndV g σ) := by
  show (f σ h).bind _ = _
  cases f σ h with
  | ok d h1 => cases d with
    | bl b => cases b <;> rfl
    | _ => rfl
  | exc x h1 => rfl
  | stuck => rfl
@[simp] theorem kAndV_ap {k : Bool} : kAndV g σ (.bl k) h = if k then g σ h else .ok (.bl false) h := by cases k <;> rfl
def kOrV (g : ES) (σ : VS) (d : D) (h : Hv) : R D := match d with
  | .bl true => .ok (.bl true) h
  | .bl false => g σ h
  | _ => .stuck
@[simp] theorem eOrV_ap : eOrV f g σ h = (f σ h).bind (kOrV g σ) := by
  show (f σ h).bind _ = _
  cases f σ h with
  | ok d h1 => cases d with
    | bl b => cases b <;> rfl
    | _ => rfl
  | exc x h1 => rfl
  | stuck => rfl
@[simp] theorem kOrV_ap {k : Bool} : kOrV g σ (.bl k) h = if k then .ok (.bl true) h else g σ h := by cases k <;> rfl
@[simp] theorem eNotV_ap : eNotV f σ h = (f σ h).bind fun d h1 => (match d with
  | .bl b => .ok (.bl (!b)) h1
  | _ => .stuck) := rfl
@[simp] theorem eCa_ap {ro : List D → Hv → R α} : eCa ro l σ h = (l σ h).bind ro := rfl
@[simp] theorem eIsi_ap {T : String} : eIsi T f σ h = (f σ h).bind fun d h1 => (match (tyName h1 d).bind fun t => kitB t T with
  | some r => .ok (.bl r) h1
  | none => .stuck) := rfl
@[simp] theorem eChain_ap {o1 o2 : D → D → Hv → R D} : eChain o1 o2 f g k σ h = (f σ h).bind fun x h1 => (g σ h1).bind fun y h2 => (o1 x y h2).bind fun z h3 => (match z with
  | .bl true => (k σ h3).bind fun u h4 => o2 y u h4
  | .bl false => .ok (.bl false) h3
  | _ => .stuck) := rfl
def kStr1 (ro : D → D → Hv → R D) (g : ES) (σ : VS) (x : D) (h : Hv) : R D := match x with
      | .str _ => (g σ h).bind fun y h2 => ro x y h2
      | _ => .stuck
@[simp] theorem eStr1_ap {ro : D → D → Hv → R D} : eStr1 ro f g σ h = (f σ h).bind (kStr1 ro g σ) := rfl
@[simp] theorem kStr1_ap {ro : D → D → Hv → R D} {x : Str} : kStr1 ro g σ (.str x) h = (g σ h).bind (ro (.str x)) := rfl
def kBM (ro : D → List D → Hv → R D) (l : LS) (σ : VS) (x : D) (h : Hv) : R D := match lOf h x with
  | some _ => (l σ h).bind fun ds h2 => ro x ds h2
  | none => .stuck
@[simp] theorem eBM_ap {ro : D → List D → Hv → R D} : eBM ro f l σ h = (f σ h).bind (kBM ro l σ) := rfl
@[simp] theorem kBM_ap {ro : D → List D → Hv → R D} {x : D} : kBM ro l σ x h = match lOf h x with
  | some _ => (l σ h).bind (ro x)
  | none => .stuck := rfl
@[simp] theorem pNo_ap : pNo σ h = .ok none h := rfl
@[simp] theorem pAt_ap : pAt f σ h = (f σ h).bind fun d h1 => (match d with
  | .int i => .ok (some i) h1
  | _ => .stuck) := rfl
def kSl (d : D) (l u : Option Int) (h : Hv) : R (List D) := match lOf h d with
  | some xs => .ok (cutD xs l u) h
  | none => .stuck
def kSl1 (hi : OS) (σ : VS) (d : D) (l : Option Int) (h : Hv) : R (List D) := (hi σ h).bind (kSl d l)
def kSl2 (lo hi : OS) (σ : VS) (d : D) (h : Hv) : R (List D) := (lo σ h).bind (kSl1 hi σ d)
@[simp] theorem lSl_ap {lo hi : OS} : lSl f lo hi σ h = (f σ h).bind (kSl2 lo hi σ) := rfl
@[simp] theorem kSl2_ap {lo hi : OS} : kSl2 lo hi σ d h = (lo σ h).bind (kSl1 hi σ d) := rfl
@[simp] theorem kSl1_ap {hi : OS} {u : Option Int} : kSl1 hi σ d u h = (hi σ h).bind (kSl d u) := rfl
@[simp] theorem kSl_ap {u v : Option Int} : kSl d u v h = match lOf h d with
  | some xs => .ok (cutD xs u v) h
  | none => .stuck := rfl
def kSe (d : D) (l u : Option Int) (h : Hv) : R D := match slD d l u with
  | some d' => .ok d' h
  | none => .stuck
def kSe1 (hi : OS) (σ : VS) (d : D) (l : Option Int) (h : Hv) : R D := (hi σ h).bind (kSe d l)
def kSe2 (lo hi : OS) (σ : VS) (d : D) (h : Hv) : R D := (lo σ h).bind (kSe1 hi σ d)
@[simp] theorem eSl_ap {lo hi : OS} : eSl f lo hi σ h = (f σ h).bind (kSe2 lo hi σ) := rfl
@[simp] theorem kSe2_ap {lo hi : OS} : kSe2 lo hi σ d h = (lo σ h).bind (kSe1 hi σ d) := rfl
@[simp] theorem kSe1_ap {hi : OS} {u : Option Int} : kSe1 hi σ d u h = (hi σ h).bind (kSe d u) := rfl
@[simp] theorem kSe_ap {u v : Option Int} : kSe d u v h = match slD d u v with
  | some d' => .ok d' h
  | none => .stuck := rfl
theorem lLc_ap {is : IS} {gd : GD} {el : ES} {own : List Nat} : lLc is gd c el own σ h = (is σ h).bind fun p h1 => if p.1.length ≤ 16777216 then lcD p.2 gd c el p.1 (wipeV σ own) h1 else .stuck := rfl
@[simp] theorem cYes_ap : cYes σ h = .ok true h := rfl
@[simp] theorem wipeV_nil : wipeV σ [] = σ := rfl
@[simp] theorem wipeV_cons {vs : List Nat} : wipeV σ (i :: vs) = (wipeV σ vs).set i none := rfl
@[simp] theorem cmP {sem : List D → Hv → R D} : Cm.f .P sem = callP sem := rfl
@[simp] theorem cmB {sem : List D → Hv → R D} : Cm.f .B sem = callB sem := rfl
@[simp] theorem cmM {sem : List D → Hv → R D} : Cm.f .M sem = sem := rfl
@[simp] theorem oAdd_int {a b : Int} : oAdd (.int a) (.int b) h = .ok (.int (a + b)) h := rfl
theorem oAdd_str {a b : Str} : oAdd (.str a) (.str b) h = if a.length + b.length ≤ 16777216 then .ok (.str (a ++ b)) h else .stuck := rfl
@[simp] theorem oSub_int {a b : Int} : oSub (.int a) (.int b) h = .ok (.int (a - b)) h := rfl
theorem oMul_int {a b : Int} : oMul (.int a) (.int b) h = if mulOk a b then .ok (.int (a * b)) h else .stuck := rfl
@[simp] theorem oMod_int {a b : Int} : oMod (.int a) (.int b) h = if 0 < b then .ok (.int (a % b)) h else .stuck := rfl
theorem oFdiv_int {a b : Int} : oFdiv (.int a) (.int b) h = if divOk b then .ok (.int (a / b)) h else .stuck := rfl
@[simp] theorem oPow_int {a b : Int} : oPow (.int a) (.int b) h = if powOk a b then .ok (.int (a ^ b.toNat)) h else .stuck := rfl
@[simp] theorem uNeg_int {a : Int} : uNeg (.int a) h = .ok (.int (-a)) h := rfl
@[simp] theorem oLt_int {a b : Int} : oLt (.int a) (.int b) h = .ok (.bl (decide (a < b))) h := rfl
@[simp] theorem oGt_int {a b : Int} : oGt (.int a) (.int b) h = .ok (.bl (decide (b < a))) h := rfl
@[simp] theorem oLe_int {a b : Int} : oLe (.int a) (.int b) h = .ok (.bl (decide (a ≤ b))) h := rfl
@[simp] theorem oGe_int {a b : Int} : oGe (.int a) (.int b) h = .ok (.bl (decide (b ≤ a))) h := rfl
theorem oLt_str {a b : Str} : oLt (.str a) (.str b) h = .ok (.bl (decide (a.cps.toList < b.cps.toList))) h := rfl
@[simp] theorem toPy_int {n : Nat} {a : Int} : toPy h (n + 1) (.int a) = some (.int a) := rfl
@[simp] theorem toPy_bl {n : Nat} {a : Bool} : toPy h (n + 1) (.bl a) = some (.bool a) := rfl
@[simp] theorem toPy_str {n : Nat} {a : Str} : toPy h (n + 1) (.str a) = some (.str a) := rfl
@[simp] theorem toPy_non {n : Nat} : toPy h (n + 1) .non = some .none := rfl
@[simp] theorem toPy_lst {n : Nat} {xs : List D} : toPy h (n + 1) (.lst xs) = (optAll (toPy h n) xs).map .list := rfl
@[simp] theorem toPy_fz {n : Nat} {xs : List D} : toPy h (n + 1) (.fz xs) = (optAll (toPy h n) xs).map .list := rfl
@[simp] theorem toPy_tup {n : Nat} {xs : List D} : toPy h (n + 1) (.tup xs) = (optAll (toPy h n) xs).map .tuple := rfl
@[simp] theorem toPy_cell {n m : Nat} : toPy h (n + 1) (.cell m) = (match h[m]? with
    | some (.lst ds) => (optAll (toPy h n) ds).map .list
    | _ => none) := rfl
@[simp] theorem optAll_nil {β : Type} {g : β → Option α} : optAll g [] = some [] := rfl
@[simp] theorem optAll_cons {β : Type} {g : β → Option α} {x : β} {xs : List β} : optAll g (x :: xs) = (match g x with
    | some a => (match optAll g xs with
      | some as => some (a :: as)
      | none => none)
    | none => none) := rfl
theorem optAll_map {β γ : Type} {g : β → Option α} {e : γ → β} {e' : γ → α} : ∀ {xs : List γ}, (∀ x ∈ xs, g (e x) = some (e' x)) → optAll g (xs.map e) = some (xs.map e')
  | [], _ => rfl
  | x :: xs, q => by
    rw [List.map_cons, optAll_cons, q x List.mem_cons_self, optAll_map (xs := xs) fun y hy => q y (List.mem_cons_of_mem _ hy)]
    rfl
@[simp] theorem frz_int {n0 n : Nat} {a : Int} : frz n0 h (n + 1) (.int a) = some (.int a) := rfl
@[simp] theorem frz_bl {n0 n : Nat} {a : Bool} : frz n0 h (n + 1) (.bl a) = some (.bl a) := rfl
@[simp] theorem frz_str {n0 n : Nat} {a : Str} : frz n0 h (n + 1) (.str a) = some (.str a) := rfl
@[simp] theorem frz_non {n0 n : Nat} : frz n0 h (n + 1) .non = some .non := rfl
@[simp] theorem frz_lst {n0 n : Nat} {xs : List D} : frz n0 h (n + 1) (.lst xs) = (optAll (frz n0 h n) xs).map .lst := rfl
@[simp] theorem frz_fz {n0 n : Nat} {xs : List D} : frz n0 h (n + 1) (.fz xs) = (optAll (frz n0 h n) xs).map .fz := rfl
@[simp] theorem frz_tup {n0 n : Nat} {xs : List D} : frz n0 h (n + 1) (.tup xs) = (optAll (frz n0 h n) xs).map .tup := rfl
@[simp] theorem frz_cell {n0 n m : Nat} : frz n0 h (n + 1) (.cell m) = (if m < n0 then some (.cell m) else match h[m]? with
    | some (.lst ds) => (optAll (frz n0 h n) ds).map .lst
    | some (.dF kvs) => (optAll (frz n0 h n) (kvs.map (·.2))).map (.dct (kvs.map (·.1)))
    | some (.ins c fs) => (optAll (frz n0 h n) (fs.map (·.2))).map (.obj c (fs.map (·.1)))
    | _ => none) := rfl
@[simp] theorem frz_dct {n0 n : Nat} {ks : List Key} {xs : List D} : frz n0 h (n + 1) (.dct ks xs) = (optAll (frz n0 h n) xs).map (.dct ks) := rfl
@[simp] theorem frz_obj {n0 n : Nat} {c : Str} {ks : List Str} {xs : List D} : frz n0 h (n + 1) (.obj c ks xs) = (optAll (frz n0 h n) xs).map (.obj c ks) := rfl
@[simp] theorem eqD_int {a b : Int} : eqD h (.int a) (.int b) = some (decide (a = b)) := by
  show some (PyData.eqv (.int a) (.int b)) = _
  simp only [PyData.eqv]
  exact congrArg some (by rw [Bool.beq_eq_decide_eq])
@[simp] theorem eqD_str {a b : Str} : eqD h (.str a) (.str b) = some (decide (a = b)) := by
  show some (PyData.eqv (.str a) (.str b)) = _
  simp only [PyData.eqv]
  exact congrArg some (by rw [Bool.eq_iff_iff, beq_iff_eq, decide_eq_true_eq])
@[simp] theorem eqD_bl {a b : Bool} : eqD h (.bl a) (.bl b) = some (decide (a = b)) := by
  show some (PyData.eqv (.bool a) (.bool b)) = _
  simp only [PyData.eqv]
  exact congrArg some (by cases a <;> cases b <;> rfl)
@[simp] theorem oEq_ap {x y : D} : oEq x y h = (match eqD h x y with
  | some b => .ok (.bl b) h
  | none => .stuck) := rfl
@[simp] theorem oNe_ap {x y : D} : oNe x y h = (match eqD h x y with
  | some b => .ok (.bl (!b)) h
  | none => .stuck) := rfl
@[simp] theorem oIs_ap {x y : D} : oIs x y h = (match isD x y with
  | some b => .ok (.bl b) h
  | none => .stuck) := rfl
@[simp] theorem oIsNot_ap {x y : D} : oIsNot x y h = (match isD x y with
  | some b => .ok (.bl (!b)) h
  | none => .stuck) := rfl
@[simp] theorem isD_nn : isD .non .non = some true := rfl
@[simp] theorem isD_in {a : Int} : isD (.int a) .non = some false := rfl
@[simp] theorem isD_sn {a : Str} : isD (.str a) .non = some false := rfl
@[simp] theorem isD_bn {a : Bool} : isD (.bl a) .non = some false := rfl
@[simp] theorem isD_ln {a : List D} : isD (.lst a) .non = some false := rfl
@[simp] theorem isD_tn {a : List D} : isD (.tup a) .non = some false := rfl
@[simp] theorem isD_cn {n : Nat} : isD (.cell n) .non = some false := rfl
@[simp] theorem isD_bb {a b : Bool} : isD (.bl a) (.bl b) = some (decide (a = b)) := rfl
@[simp] theorem lOf_lst {xs : List D} : lOf h (.lst xs) = some xs := rfl
@[simp] theorem lOf_fz {xs : List D} : lOf h (.fz xs) = some xs := rfl
@[simp] theorem lOf_tup {xs : List D} : lOf h (.tup xs) = none := rfl
@[simp] theorem lOf_str {x : Str} : lOf h (.str x) = none := rfl
@[simp] theorem lOf_cell {n : Nat} : lOf h (.cell n) = (match h[n]? with
    | some (.lst xs) => some xs
    | _ => none) := rfl
@[simp] theorem kOf_lst {xs : List D} : kOf h (.lst xs) = some xs := rfl
@[simp] theorem kOf_cell {n : Nat} : kOf h (.cell n) = (match h[n]? with
    | some (.lst xs) => some xs
    | _ => none) := rfl
@[simp] theorem tOf_tup {xs : List D} : tOf (.tup xs) = some xs := rfl
@[simp] theorem sqOf_ap {x : D} : sqOf h x = (match lOf h x with
  | some xs => some xs
  | none => tOf x) := rfl
@[simp] theorem oIx_ap {x : D} {a : Int} : oIx x (.int a) h = (match ixD h x a with
    | some d => .ok d h
    | none => .stuck) := rfl
@[simp] theorem ixD_lst {xs : List D} {a : Int} : ixD h (.lst xs) a = atI xs a := rfl
@[simp] theorem ixD_fz {xs : List D} {a : Int} : ixD h (.fz xs) a = atI xs a := rfl
@[simp] theorem ixD_tup {xs : List D} {a : Int} : ixD h (.tup xs) a = atI xs a := rfl
theorem ixD_str {x : Str} {a : Int} : ixD h (.str x) a = if x.length ≤ 16777216 then (match atI x.cps.toList a with
    | some c => some (.str ⟨#[c]⟩)
    | none => none) else none := rfl
@[simp] theorem ixD_cell {n : Nat} {a : Int} : ixD h (.cell n) a = (match h[n]? with
    | some (.lst xs) => atI xs a
    | _ => none) := by
  show (match sqOf h (.cell n) with
    | some ds => atI ds a
    | none => none) = _
  simp only [sqOf_ap, lOf_cell]
  cases q : h[n]? with
  | none => rfl
  | some c => cases c <;> rfl
@[simp] theorem bLen_one {x : D} : bLen [x] h = (match lenD h x with
    | some n => .ok (.int n) h
    | none => .stuck) := rfl
@[simp] theorem lenD_lst {xs : List D} : lenD h (.lst xs) = some (xs.length : Int) := rfl
@[simp] theorem lenD_fz {xs : List D} : lenD h (.fz xs) = some (xs.length : Int) := rfl
@[simp] theorem lenD_tup {xs : List D} : lenD h (.tup xs) = some (xs.length : Int) := rfl
theorem lenD_str {x : Str} : lenD h (.str x) = if x.length ≤ 16777216 then some (x.length : Int) else none := rfl
@[simp] theorem lenD_cell {n : Nat} : lenD h (.cell n) = (match h[n]? with
    | some (.lst xs) => some (xs.length : Int)
    | _ => none) := by
  show (sqOf h (.cell n)).map (fun xs : List D => (xs.length : Int)) = _
  simp only [sqOf_ap, lOf_cell]
  cases q : h[n]? with
  | none => rfl
  | some c => cases c <;> rfl
@[simp] theorem bAbs_int {a : Int} : bAbs [.int a] h = .ok (.int (if a < 0 then -a else a)) h := rfl
@[simp] theorem bMax2_int {a b : Int} : bMax2 [.int a, .int b] h = .ok (.int (if b > a then b else a)) h := rfl
@[simp] theorem bMin2_int {a b : Int} : bMin2 [.int a, .int b] h = .ok (.int (if b < a then b else a)) h := rfl
@[simp] theorem bList_one {x : D} : bList [x] h = (match sqOf h x with
    | some xs => .ok xs h
    | none => .stuck) := rfl
theorem toI_map (ns : List Int) : optAll toI (ns.map .int) = some ns := by
  have := optAll_map (g := toI) (e := D.int) (e' := id) (xs := ns) fun _ _ => rfl
  rw [List.map_id] at this
  exact this
theorem toBl_map (ns : List Bool) : optAll toBl (ns.map .bl) = some ns := by
  have := optAll_map (g := toBl) (e := D.bl) (e' := id) (xs := ns) fun _ _ => rfl
  rw [List.map_id] at this
  exact this
@[simp] theorem tyName_non : tyName h .non = some "NoneType" := rfl
@[simp] theorem tyName_bl {b : Bool} : tyName h (.bl b) = some "bool" := rfl
@[simp] theorem tyName_int {b : Int} : tyName h (.int b) = some "int" := rfl
@[simp] theorem tyName_str {b : Str} : tyName h (.str b) = some "str" := rfl
@[simp] theorem tyName_lst {b : List D} : tyName h (.lst b) = some "list" := rfl
@[simp] theorem tyName_tup {b : List D} : tyName h (.tup b) = some "tuple" := rfl
end
section
variable {σ : VS} {h : Hv} {f g k : ES} {l : LS} {c : CS} {s1 s2 : SS} {i : Nat}
@[simp] theorem sNext_ap : sNext σ h = .next σ h := rfl
theorem sSeq_ap : sSeq s1 s2 σ h = (match s1 σ h with
  | .next σ' h' => s2 σ' h'
  | r => r) := rfl
@[simp] theorem sDrop_ap : sDrop f σ h = (f σ h).then σ fun _ h' => .next σ h' := rfl
@[simp] theorem sRet_ap : sRet f σ h = (f σ h).then σ fun d h' => .ret d h' := rfl
@[simp] theorem sSet_ap : sSet i f σ h = (f σ h).then σ fun d h' => .next (σ.set i (some d)) h' := rfl
@[simp] theorem sPar_ap {j : Nat} : sPar i j l σ h = (l σ h).then σ fun ds h' => (match ds with
  | [x, y] => .next ((σ.set i (some x)).set j (some y)) h'
  | _ => .stuck) := rfl
@[simp] theorem sAsg_ap {gd : GD} : sAsg f gd σ h = (f σ h).then σ fun d h' => (match gd d σ with
  | some σ' => .next σ' h'
  | none => .stuck) := rfl
theorem sFor_ap {is : IS} {gd : GD} : sFor is gd s1 σ h = (is σ h).then σ fun p h1 => forD p.2 gd s1 p.1 σ h1 := rfl
def kSI3 (d x i : D) (σ : VS) (h : Hv) : RS := match x, i with
  | .cell n, .int k => (match h[n]? with
    | some (.lst xs) => (match ixN xs.length k with
      | some j => .next σ (h.set n (.lst (xs.set j d)))
      | none => .stuck)
    | _ => .stuck)
  | _, _ => .stuck
def kSI2 (k : ES) (σ : VS) (d x : D) (h : Hv) : RS := (k σ h).then σ fun i h3 => kSI3 d x i σ h3
def kSI1 (g k : ES) (σ : VS) (d : D) (h : Hv) : RS := (g σ h).then σ (kSI2 k σ d)
@[simp] theorem sSetIx_ap : sSetIx f g k σ h = (f σ h).then σ (kSI1 g k σ) := rfl
@[simp] theorem kSI1_ap {d : D} : kSI1 g k σ d h = (g σ h).then σ (kSI2 k σ d) := rfl
@[simp] theorem kSI2_ap {d x : D} : kSI2 k σ d x h = (k σ h).then σ fun i h3 => kSI3 d x i σ h3 := rfl
@[simp] theorem kSI3_ap {d : D} {n : Nat} {i : Int} : kSI3 d (.cell n) (.int i) σ h = (match h[n]? with
    | some (.lst xs) => (match ixN xs.length i with
      | some j => .next σ (h.set n (.lst (xs.set j d)))
      | none => .stuck)
    | _ => .stuck) := rfl
@[simp] theorem sRaise_ap {C : Str} : sRaise C σ h = .exc ⟨C, none⟩ σ h := rfl
@[simp] theorem gN_ap {d : D} : gN i d σ = some (σ.set i (some d)) := rfl
@[simp] theorem gsNil_ap : gsNil [] σ = some σ := rfl
@[simp] theorem gsCons_ap {gd : GD} {gs : GDs} {d : D} {r : List D} : gsCons gd gs (d :: r) σ = (match gd d σ with
    | some σ' => gs r σ'
    | none => none) := rfl
@[simp] theorem gT_ap {n : Nat} {gs : GDs} {ds : List D} : gT n gs (.tup ds) σ = if ds.length = n then gs ds σ else none := rfl
@[simp] theorem iL_ap : iL f σ h = (f σ h).bind fun d h1 => (match d with
  | .lst ds => .ok (ds, always) h1
  | .fz ds => .ok (ds, always) h1
  | _ => .stuck) := rfl
@[simp] theorem iC_ap : iC f σ h = (f σ h).bind fun d h1 => (match d with
  | .cell n => (match h1[n]? with
    | some (.lst ds) => .ok (ds, isCell n ds) h1
    | _ => .stuck)
  | _ => .stuck) := rfl
@[simp] theorem iT_ap : iT f σ h = (f σ h).bind fun d h1 => (match d with
  | .tup ds => .ok (ds, always) h1
  | _ => .stuck) := rfl
@[simp] theorem iS_ap : iS f σ h = (f σ h).bind fun d h1 => (match d with
  | .str x => .ok (signsD x, always) h1
  | _ => .stuck) := rfl
def kR1 (ds : List D) (h1 : Hv) : R (List D × (Hv → Bool)) := match ds with
  | [.int n] => @ite _ (-(2 ^ 62) ≤ n ∧ n < 2 ^ 62) (Classical.propDecidable _) (.ok (rgD 0 n.toNat, always) h1) .stuck
  | _ => .stuck
def kR2 (ds : List D) (h1 : Hv) : R (List D × (Hv → Bool)) := match ds with
  | [.int m, .int n] => @ite _ ((-(2 ^ 62) ≤ m ∧ m < 2 ^ 62) ∧ (-(2 ^ 62) ≤ n ∧ n < 2 ^ 62)) (Classical.propDecidable _) (.ok (rgD m (n - m).toNat, always) h1) .stuck
  | _ => .stuck
@[simp] theorem iR1_ap : iR1 l σ h = (l σ h).bind kR1 := rfl
@[simp] theorem iR2_ap : iR2 l σ h = (l σ h).bind kR2 := rfl
@[simp] theorem kR1_ap {n : Int} (h0 : -4000000000000000000 ≤ n) (h1 : n ≤ 4000000000000000000) : kR1 [.int n] h = .ok (rgD 0 n.toNat, always) h := if_pos ⟨Int.le_trans (by decide) h0, Int.lt_of_le_of_lt h1 (by decide)⟩
@[simp] theorem kR2_ap {m n : Int} (h0 : -4000000000000000000 ≤ m) (h1 : m ≤ 4000000000000000000) (h2 : -4000000000000000000 ≤ n) (h3 : n ≤ 4000000000000000000) : kR2 [.int m, .int n] h = .ok (rgD m (n - m).toNat, always) h := if_pos ⟨⟨Int.le_trans (by decide) h0, Int.lt_of_le_of_lt h1 (by decide)⟩, ⟨Int.le_trans (by decide) h2, Int.lt_of_le_of_lt h3 (by decide)⟩⟩
def kRg (d : D) (h1 : Hv) : R (List D) := match d with
  | .int n => @ite _ ((-(2 ^ 62) ≤ n ∧ n < 2 ^ 62) ∧ n.toNat ≤ 2 ^ 24) (Classical.propDecidable _) (.ok (rgD 0 n.toNat) h1) .stuck
  | _ => .stuck
@[simp] theorem lRg1_ap : lRg1 f σ h = (f σ h).bind kRg := rfl
@[simp] theorem kRg_ap {n : Int} (h0 : -16000000 ≤ n) (h1 : n ≤ 16000000) : kRg (.int n) h = .ok (rgD 0 n.toNat) h := if_pos ⟨⟨Int.le_trans (by decide) h0, Int.lt_of_le_of_lt h1 (by decide)⟩, by omega⟩
@[simp] theorem iZ_ap : iZ l σ h = (l σ h).bind fun ds h1 => (match ds with
  | [x, y] => (match lsOf x, lsOf y with
    | some xs, some ys => if xs.length = ys.length then .ok (zipD xs ys, always) h1 else .stuck
    | _, _ => .stuck)
  | _ => .stuck) := rfl
@[simp] theorem lsOf_lst {xs : List D} : lsOf (.lst xs) = some xs := rfl
@[simp] theorem lsOf_fz {xs : List D} : lsOf (.fz xs) = some xs := rfl
@[simp] theorem always_ap : always h = true := rfl
@[simp] theorem forD_nil {chk : Hv → Bool} {gd : GD} : forD chk gd s1 [] σ h = if chk h then .next σ h else .stuck := rfl
theorem forD_cons {chk : Hv → Bool} {gd : GD} {d : D} {ds : List D} : forD chk gd s1 (d :: ds) σ h = if chk h then (match gd d σ with
    | some σ1 => (match s1 σ1 h with
      | .next σ2 h2 => forD chk gd s1 ds σ2 h2
      | .cont σ2 h2 => forD chk gd s1 ds σ2 h2
      | .brk σ2 h2 => .next σ2 h2
      | r => r)
    | none => .stuck) else .stuck := rfl
end
theorem callP_ok {sem : List D → Hv → R D} {ds ds' : List D} {h : Hv} {d : D} (hp : pureD ds = some ds') (e : sem ds' [] = .ok d []) : callP sem ds h = .ok d h := by
  unfold callP
  rw [hp]
  simp only [e]
theorem callP_exc {sem : List D → Hv → R D} {ds ds' : List D} {h : Hv} {x : Xn} (hp : pureD ds = some ds') (e : sem ds' [] = .exc x []) : callP sem ds h = .exc x h := by
  unfold callP
  rw [hp]
  simp only [e]
/-- a def without cells of others -/
theorem fnS_ret {np nl : Nat} {body : SS} {ds : List D} {d d' : D} {h' : Hv} (hl : ds.length = np) (hb : body (ds.map some ++ List.replicate nl none) [] = .ret d h') (hf : frz 0 h' 12 d = some d') : fnS np nl body ds [] = .ok d' [] := by
  unfold fnS
  rw [if_pos hl, hb]
  show exitD 0 d h' = _
  unfold exitD
  rw [hf, List.take_zero]
  simp only [optAll_nil, Nat.zero_le, if_true]
theorem fnS_next {np nl : Nat} {body : SS} {ds : List D} {σ : VS} {h' : Hv} (hl : ds.length = np) (hb : body (ds.map some ++ List.replicate nl none) [] = .next σ h') : fnS np nl body ds [] = .ok .non [] := by
  unfold fnS
  rw [if_pos hl, hb]
  show exitD 0 .non h' = _
  unfold exitD
  rw [frz_non, List.take_zero]
  simp only [optAll_nil, Nat.zero_le, if_true]
theorem fnS_exc {np nl : Nat} {body : SS} {ds : List D} {σ : VS} {h' : Hv} {C : Str} (hl : ds.length = np) (hb : body (ds.map some ++ List.replicate nl none) [] = .exc ⟨C, none⟩ σ h') : fnS np nl body ds [] = .exc ⟨C, none⟩ [] := by
  unfold fnS
  rw [if_pos hl, hb]
  show exitX 0 ⟨C, none⟩ h' = _
  unfold exitX
  rw [List.take_zero]
  simp only [optAll_nil, Nat.zero_le, if_true]
theorem fnS_excP {np nl : Nat} {body : SS} {ds : List D} {σ : VS} {h' : Hv} {C f : Str} {d d' : D} (hl : ds.length = np) (hb : body (ds.map some ++ List.replicate nl none) [] = .exc ⟨C, some (f, d)⟩ σ h') (hf : frz 0 h' 12 d = some d') : fnS np nl body ds [] = .exc ⟨C, some (f, d')⟩ [] := by
  unfold fnS
  rw [if_pos hl, hb]
  show exitX 0 ⟨C, some (f, d)⟩ h' = _
  unfold exitX
  dsimp only
  rw [hf, List.take_zero]
  simp only [optAll_nil, List.length_nil, Nat.zero_le, if_true]
theorem lcD_filter {α : Type} {chk : Hv → Bool} {gd : GD} {c : CS} {el : ES} {σ : VS} {h : Hv} (enc : α → D) (p : α → Bool) (f : α → D) (hc : chk h = true) : ∀ (xs : List α),
    (∀ a ∈ xs, ∃ σ1, gd (enc a) σ = some σ1 ∧ c σ1 h = .ok (p a) h ∧ (p a = true → el σ1 h = .ok (f a) h)) → lcD chk gd c el (xs.map enc) σ h = .ok ((xs.filter p).map f) h
  | [], _ => by
    rw [List.map_nil]
    simp only [lcD, hc, if_true, List.filter_nil, List.map_nil]
  | a :: xs, q => by
    obtain ⟨σ1, e1, e2, e3⟩ := q a List.mem_cons_self
    have ih := lcD_filter enc p f hc xs fun b hb => q b (List.mem_cons_of_mem _ hb)
    rw [List.map_cons]
    simp only [lcD, hc, if_true, e1, e2, R.calm_ok, R.bind_ok]
    cases pa : p a with
    | true =>
      simp only [if_true, e3 pa, R.calm_ok, R.bind_ok, ih, List.filter_cons, pa, List.map_cons]
    | false =>
      simp only [Bool.false_eq_true, if_false, ih, List.filter_cons, pa]
theorem lcD_map {α : Type} {chk : Hv → Bool} {gd : GD} {el : ES} {σ : VS} {h : Hv} (enc : α → D) (f : α → D) (hc : chk h = true) (xs : List α) (q : ∀ a ∈ xs, ∃ σ1, gd (enc a) σ = some σ1 ∧ el σ1 h = .ok (f a) h) : lcD chk gd cYes el (xs.map enc) σ h = .ok (xs.map f) h := by
  have := lcD_filter (c := cYes) enc (fun _ => true) f hc xs fun a ha => let ⟨σ1, e1, e2⟩ := q a ha; ⟨σ1, e1, rfl, fun _ => e2⟩
  rw [this, List.filter_eq_self.mpr (fun _ _ => rfl)]
class En (α : Type) [DecidableEq α] [PySem.W.Datum α] where
  enc : α → D
  py : ∀ (h : Hv) (f : Nat) (a : α), PySem.W.Datum.depth α < f → toPy h f (enc a) = some (PySem.W.Datum.toD a)
  fr : ∀ (n0 : Nat) (h : Hv) (f : Nat) (a : α), PySem.W.Datum.depth α < f → frz n0 h f (enc a) = some (enc a)
instance : En Int := ⟨.int, fun h f a hf => by cases f; exact absurd hf (Nat.not_lt_zero _); rfl, fun n0 h f a hf => by cases f; exact absurd hf (Nat.not_lt_zero _); rfl⟩
instance : En Bool := ⟨.bl, fun h f a hf => by cases f; exact absurd hf (Nat.not_lt_zero _); rfl, fun n0 h f a hf => by cases f; exact absurd hf (Nat.not_lt_zero _); rfl⟩
instance : En Str := ⟨.str, fun h f a hf => by cases f; exact absurd hf (Nat.not_lt_zero _); rfl, fun n0 h f a hf => by cases f; exact absurd hf (Nat.not_lt_zero _); rfl⟩
section
variable {α β γ δ : Type} [DecidableEq α] [PySem.W.Datum α] [En α] [DecidableEq β] [PySem.W.Datum β] [En β] [DecidableEq γ] [PySem.W.Datum γ] [En γ] [DecidableEq δ] [PySem.W.Datum δ] [En δ]
open PySem.W (Datum T3 T4 Tup)
theorem toPy_all {h : Hv} {f : Nat} (hf : Datum.depth α < f) (xs : List α) : optAll (toPy h f) (xs.map En.enc) = some (xs.map Datum.toD) := optAll_map fun x _ => En.py h f x hf
theorem frz_all {n0 : Nat} {h : Hv} {f : Nat} (hf : Datum.depth α < f) (xs : List α) : optAll (frz n0 h f) (xs.map En.enc) = some (xs.map En.enc) := optAll_map fun x _ => En.fr n0 h f x hf
instance : En (List α) where
  enc xs := .lst (xs.map En.enc)
  py h f xs hf := by
    cases f with
    | zero => exact absurd hf (Nat.not_lt_zero _)
    | succ f =>
      have hf' : Datum.depth α + 1 < f + 1 := hf
      rw [toPy_lst, toPy_all (by omega)]
      rfl
  fr n0 h f xs hf := by
    cases f with
    | zero => exact absurd hf (Nat.not_lt_zero _)
    | succ f =>
      have hf' : Datum.depth α + 1 < f + 1 := hf
      rw [frz_lst, frz_all (by omega)]
      rfl
instance : En (α × β) where
  enc p := .tup [En.enc p.1, En.enc p.2]
  py h f p hf := by
    cases f with
    | zero => exact absurd hf (Nat.not_lt_zero _)
    | succ f =>
      have hf' : max (Datum.depth α) (Datum.depth β) + 1 < f + 1 := hf
      rw [toPy_tup, optAll_cons, optAll_cons, En.py h f p.1 (by omega), En.py h f p.2 (by omega)]
      rfl
  fr n0 h f p hf := by
    cases f with
    | zero => exact absurd hf (Nat.not_lt_zero _)
    | succ f =>
      have hf' : max (Datum.depth α) (Datum.depth β) + 1 < f + 1 := hf
      rw [frz_tup, optAll_cons, optAll_cons, En.fr n0 h f p.1 (by omega), En.fr n0 h f p.2 (by omega)]
      rfl
instance : En (T3 α β γ) where
  enc p := .tup [En.enc p.a, En.enc p.b, En.enc p.c]
  py h f p hf := by
    cases f with
    | zero => exact absurd hf (Nat.not_lt_zero _)
    | succ f =>
      have hf' : max (max (Datum.depth α) (Datum.depth β)) (Datum.depth γ) + 1 < f + 1 := hf
      rw [toPy_tup, optAll_cons, optAll_cons, optAll_cons, En.py h f p.a (by omega), En.py h f p.b (by omega), En.py h f p.c (by omega)]
      rfl
  fr n0 h f p hf := by
    cases f with
    | zero => exact absurd hf (Nat.not_lt_zero _)
    | succ f =>
      have hf' : max (max (Datum.depth α) (Datum.depth β)) (Datum.depth γ) + 1 < f + 1 := hf
      rw [frz_tup, optAll_cons, optAll_cons, optAll_cons, En.fr n0 h f p.a (by omega), En.fr n0 h f p.b (by omega), En.fr n0 h f p.c (by omega)]
      rfl
instance : En (T4 α β γ δ) where
  enc p := .tup [En.enc p.a, En.enc p.b, En.enc p.c, En.enc p.d]
  py h f p hf := by
    cases f with
    | zero => exact absurd hf (Nat.not_lt_zero _)
    | succ f =>
      have hf' : max (max (max (Datum.depth α) (Datum.depth β)) (Datum.depth γ)) (Datum.depth δ) + 1 < f + 1 := hf
      rw [toPy_tup, optAll_cons, optAll_cons, optAll_cons, optAll_cons, En.py h f p.a (by omega), En.py h f p.b (by omega), En.py h f p.c (by omega), En.py h f p.d (by omega)]
      rfl
  fr n0 h f p hf := by
    cases f with
    | zero => exact absurd hf (Nat.not_lt_zero _)
    | succ f =>
      have hf' : max (max (max (Datum.depth α) (Datum.depth β)) (Datum.depth γ)) (Datum.depth δ) + 1 < f + 1 := hf
      rw [frz_tup, optAll_cons, optAll_cons, optAll_cons, optAll_cons, En.fr n0 h f p.a (by omega), En.fr n0 h f p.b (by omega), En.fr n0 h f p.c (by omega), En.fr n0 h f p.d (by omega)]
      rfl
theorem eqD_en (h : Hv) (a b : α) (hd : Datum.depth α < 12 := by decide) : eqD h (En.enc a) (En.enc b) = some (decide (a = b)) := by
  unfold eqD
  rw [En.py h 12 a hd, En.py h 12 b hd]
  exact congrArg some (Datum.eqv a b)
@[simp] theorem eFrz_ap {f : ES} {σ : VS} {h : Hv} : eFrz f σ h = frzR h.length (f σ h) := rfl
@[simp] theorem frzR_ok {n0 : Nat} {d : D} {h : Hv} : frzR n0 (.ok d h) = exitD n0 d h := rfl
end
@[simp] theorem enc_int (i : Int) : (En.enc i : D) = .int i := rfl
@[simp] theorem enc_bl (i : Bool) : (En.enc i : D) = .bl i := rfl
@[simp] theorem enc_str (i : Str) : (En.enc i : D) = .str i := rfl
theorem ixN_nat {n : Nat} {k : Int} (h0 : 0 ≤ k) (h1 : k < n) : ixN n k = some k.toNat := by
  unfold ixN
  rw [if_pos h0, if_pos h1]
theorem ixN_some {n : Nat} {k : Int} {j : Nat} (e : k = j) (h1 : j < n) : ixN n k = some j := by
  subst e
  rw [ixN_nat (by omega) (by omega)]
  rfl
theorem atI_at {α : Type} {xs : List α} {k : Int} {j : Nat} {a : α} (e : k = j) (h : xs[j]? = some a) : atI xs k = some a := by
  unfold atI
  rw [ixN_some e (List.getElem?_eq_some_iff.mp h).1]
  exact h
theorem atI_map {α β : Type} {xs : List α} {e : α → β} {k : Int} {a : α} (h : atI xs k = some a) : atI (xs.map e) k = some (e a) := by
  unfold atI at h ⊢
  rw [List.length_map]
  cases q : ixN xs.length k with
  | none => rw [q] at h; cases h
  | some j =>
    rw [q] at h
    have h' : xs[j]? = some a := h
    show (xs.map e)[j]? = some (e a)
    rw [List.getElem?_map, h']
    rfl
theorem atI_get {α : Type} {xs : List α} {k : Int} (h0 : 0 ≤ k) (h1 : k < xs.length) : ∃ a, a ∈ xs ∧ xs[k.toNat]? = some a ∧ atI xs k = some a := by
  have h2 : k.toNat < xs.length := by omega
  exact ⟨xs[k.toNat], List.getElem_mem h2, List.getElem?_eq_getElem h2, atI_at (by omega) (List.getElem?_eq_getElem h2)⟩
theorem atI_getD {xs : List Int} {k : Int} (h0 : 0 ≤ k) (h1 : k < xs.length) : atI xs k = some (xs.getD k.toNat 0) := by
  obtain ⟨a, _, h2, h3⟩ := atI_get h0 h1
  rw [h3, List.getD_eq_getElem?_getD, h2]
  rfl
theorem mulOk_of {i j : Int} {a b : Nat} (ha : i.natAbs < 2 ^ a) (hb : j.natAbs < 2 ^ b) (h0 : 0 < a) (h1 : 0 < b) (h : a + b ≤ 1000000) : mulOk i j = true := decide_eq_true (wide_mul ha hb h0 h1 h)
theorem lt_2_256 {i : Int} (h1 : -(10 ^ 77) < i) (h2 : i < 10 ^ 77) : i.natAbs < 2 ^ 256 := by
  have e : (10 : Int) ^ 77 = 100000000000000000000000000000000000000000000000000000000000000000000000000000 := by decide
  have e2 : (2 : Nat) ^ 256 = 115792089237316195423570985008687907853269984665640564039457584007913129639936 := by decide
  rw [e] at h1 h2
  rw [e2]
  omega
/-- a product of numbers of at most 77 figures -/
theorem mulOk77 {i j : Int} (h1 : -(10 ^ 77) < i) (h2 : i < 10 ^ 77) (h3 : -(10 ^ 77) < j) (h4 : j < 10 ^ 77) : mulOk i j = true := mulOk_of (lt_2_256 h1 h2) (lt_2_256 h3 h4) (by decide) (by decide) (by decide)
theorem divOk77 {j : Int} (h1 : 0 < j) (h2 : j < 10 ^ 77) : divOk j = true := decide_eq_true (wide_div (i := 0) h1 (lt_2_256 (by omega) h2) (by decide) (by decide))
@[simp] theorem oMul77 {i j : Int} {h : Hv} (h1 : -(10 ^ 77) < i) (h2 : i < 10 ^ 77) (h3 : -(10 ^ 77) < j) (h4 : j < 10 ^ 77) : oMul (.int i) (.int j) h = .ok (.int (i * j)) h := by rw [oMul_int, if_pos (mulOk77 h1 h2 h3 h4)]
@[simp] theorem oFdiv77 {i j : Int} {h : Hv} (h1 : 0 < j) (h2 : j < 10 ^ 77) : oFdiv (.int i) (.int j) h = .ok (.int (i / j)) h := by rw [oFdiv_int, if_pos (divOk77 h1 h2)]
section
variable {σ : VS} {h : Hv} {f g k : ES} {d : D}
@[simp] theorem keyOf_int {i : Int} : keyOf (.int i) = some (.inl i) := rfl
@[simp] theorem keyOf_str {x : Str} : keyOf (.str x) = some (.inr x) := rfl
@[simp] theorem kvOf_cell {n : Nat} : kvOf h (.cell n) = (match h[n]? with
    | some (.dK kvs) => some kvs
    | some (.dF kvs) => some kvs
    | _ => none) := rfl
@[simp] theorem kvOf_dct {ks : List Key} {ds : List D} : kvOf h (.dct ks ds) = if ks.length = ds.length then some (ks.zip ds) else none := rfl
@[simp] theorem oDget_ap {x y : D} : oDget x y h = (match kvOf h x, keyOf y with
  | some kd, some k => (match getD kd k with
    | some d => .ok d h
    | none => .stuck)
  | _, _ => .stuck) := rfl
@[simp] theorem oDin_ap {x y : D} : oDin y x h = (match kvOf h x, keyOf y with
  | some kd, some k => .ok (.bl (getD kd k).isSome) h
  | _, _ => .stuck) := rfl
@[simp] theorem oDnin_ap {x y : D} : oDnin y x h = (match kvOf h x, keyOf y with
  | some kd, some k => .ok (.bl (!(getD kd k).isSome)) h
  | _, _ => .stuck) := rfl
def kDp3 (d x y : D) (σ : VS) (h : Hv) : RS := match x, keyOf y with
  | .cell n, some k => (match h[n]? with
    | some (.dK kd) => if kd.length < 16777216 then .next σ (h.set n (.dK (putD kd k d))) else .stuck
    | _ => .stuck)
  | _, _ => .stuck
def kDp2 (k : ES) (σ : VS) (d x : D) (h : Hv) : RS := (k σ h).then σ fun y h3 => kDp3 d x y σ h3
def kDp1 (g k : ES) (σ : VS) (d : D) (h : Hv) : RS := (g σ h).then σ (kDp2 k σ d)
@[simp] theorem sDput_ap : sDput f g k σ h = (f σ h).then σ (kDp1 g k σ) := rfl
@[simp] theorem kDp1_ap : kDp1 g k σ d h = (g σ h).then σ (kDp2 k σ d) := rfl
@[simp] theorem kDp2_ap {x : D} : kDp2 k σ d x h = (k σ h).then σ fun y h3 => kDp3 d x y σ h3 := rfl
@[simp] theorem kDp3_ap {n : Nat} {y : D} : kDp3 d (.cell n) y σ h = (match keyOf y with
  | some k => (match h[n]? with
    | some (.dK kd) => if kd.length < 16777216 then .next σ (h.set n (.dK (putD kd k d))) else .stuck
    | _ => .stuck)
  | none => .stuck) := by
  show (match D.cell n, keyOf y with
  | .cell n, some k => (match h[n]? with
    | some (.dK kd) => if kd.length < 16777216 then RS.next σ (h.set n (.dK (putD kd k d))) else .stuck
    | _ => .stuck)
  | _, _ => .stuck) = _
  cases keyOf y <;> rfl
@[simp] theorem eDnew_ap : eDnew σ h = .ok (.cell h.length) (h ++ [.dK []]) := rfl
@[simp] theorem eLock_ap : eLock f σ h = (f σ h).bind fun d h1 => (match d with
  | .cell n => (match h1[n]? with
    | some (.dK kd) => .ok (.cell n) (h1.set n (.dF kd))
    | _ => .stuck)
  | _ => .stuck) := rfl
@[simp] theorem iD_ap : iD f σ h = (f σ h).bind fun d h1 => (match d with
  | .dct ks ds => .ok (ks.map keyD, always) h1
  | _ => .stuck) := rfl
@[simp] theorem pNil_ap : pNil σ h = .ok [] h := rfl
def kPc2 (gp : PSd) (σ : VS) (k v : D) (h : Hv) : R (List (D × D)) := (gp σ h).bind fun r h3 => .ok ((k, v) :: r) h3
def kPc1 (g : ES) (gp : PSd) (σ : VS) (k : D) (h : Hv) : R (List (D × D)) := (g σ h).bind (kPc2 gp σ k)
@[simp] theorem pCons_ap {gp : PSd} : pCons f g gp σ h = (f σ h).bind (kPc1 g gp σ) := rfl
@[simp] theorem kPc1_ap {gp : PSd} {x : D} : kPc1 g gp σ x h = (g σ h).bind (kPc2 gp σ x) := rfl
@[simp] theorem kPc2_ap {gp : PSd} {x y : D} : kPc2 gp σ x y h = (gp σ h).bind fun r h3 => .ok ((x, y) :: r) h3 := rfl
@[simp] theorem keyP_ap {p : D × D} : keyP p = (keyOf p.1).map fun k => (k, p.2) := rfl
@[simp] theorem eDisp_ap {gp : PSd} : eDisp gp σ h = (gp σ h).bind fun ps h1 => (match optAll keyP ps with
  | some kd => if kd.length ≤ 15 then .ok (.cell h1.length) (h1 ++ [.dK (mergeD [] kd)]) else .stuck
  | none => .stuck) := rfl
@[simp] theorem eDispF_ap {gp : PSd} : eDispF gp σ h = (gp σ h).bind fun ps h1 => (match optAll keyP ps with
  | some kd => if kd.length ≤ 15 then .ok (.dct ((mergeD [] kd).map (·.1)) ((mergeD [] kd).map (·.2))) h1 else .stuck
  | none => .stuck) := rfl
def kDpop2 (x y : D) (h2 : Hv) : R D := match x, keyOf y with
    | .cell n, some k => (match h2[n]? with
      | some (.dK kd) => (match getD kd k with
        | some d => .ok d (h2.set n (.dK (dropD kd k)))
        | none => .stuck)
      | _ => .stuck)
    | _, _ => .stuck
def kDpop1 (g : ES) (σ : VS) (x : D) (h1 : Hv) : R D := match kvOf h1 x with
  | some _ => (g σ h1).bind (kDpop2 x)
  | none => .stuck
@[simp] theorem eDpop_ap : eDpop f g σ h = (f σ h).bind (kDpop1 g σ) := rfl
@[simp] theorem kDpop1_ap {x : D} : kDpop1 g σ x h = (match kvOf h x with
  | some _ => (g σ h).bind (kDpop2 x)
  | none => .stuck) := rfl
@[simp] theorem kDpop2_int {n : Nat} {i : Int} : kDpop2 (.cell n) (.int i) h = (match h[n]? with
      | some (.dK kd) => (match getD kd (.inl i) with
        | some d => .ok d (h.set n (.dK (dropD kd (.inl i))))
        | none => .stuck)
      | _ => .stuck) := rfl
@[simp] theorem getD_nil {k : Key} : getD [] k = none := rfl
end
end
end VD
set_option Elab.async false
set_option linter.all false
set_option maxRecDepth 100000
set_option maxHeartbeats 4000000
namespace VD
open PySem PySem.Spec PyProof.Rows L2
noncomputable section
structure Wp (Q : RS → Prop) (r : RS) : Prop where
  run : Q r
theorem Wp.eq (Q : RS → Prop) (r : RS) : Wp Q r = Q r := propext ⟨Wp.run, Wp.mk⟩
def Sq (Q : RS → Prop) (b : SS) (r : RS) : Prop := match r with
  | .next σ h => Wp Q (b σ h)
  | r => Wp Q r
def Br (Q : RS → Prop) (a b : SS) (σ : VS) (r : R Bool) : Prop := Wp Q (r.then σ fun k h => if k then a σ h else b σ h)
section
variable {Q : RS → Prop} {a b : SS} {σ : VS} {h : Hv} {d : D} {c : CS} {x : Xn} {p : Prop} [Decidable p] {r1 r2 : R Bool} {s1 s2 : RS} {k k2 : Bool}
@[simp] theorem Wp_seq : Wp Q (sSeq a b σ h) = Wp (Sq Q b) (a σ h) := by
  rw [sSeq_ap]
  cases a σ h <;> (rw [Wp.eq (Sq Q b)]; rfl)
@[simp] theorem Wp_sq_next : Wp (Sq Q b) (.next σ h) = Wp Q (b σ h) := Wp.eq _ _
@[simp] theorem Wp_sq_ret : Wp (Sq Q b) (.ret d h) = Wp Q (.ret d h) := Wp.eq _ _
@[simp] theorem Wp_sq_brk : Wp (Sq Q b) (.brk σ h) = Wp Q (.brk σ h) := Wp.eq _ _
@[simp] theorem Wp_sq_cont : Wp (Sq Q b) (.cont σ h) = Wp Q (.cont σ h) := Wp.eq _ _
@[simp] theorem Wp_sq_exc : Wp (Sq Q b) (.exc x σ h) = Wp Q (.exc x σ h) := Wp.eq _ _
@[simp] theorem Wp_sq_stuck : Wp (Sq Q b) .stuck = Wp Q .stuck := Wp.eq _ _
@[simp] theorem Wp_if : Wp Q (sIf c a b σ h) = Br Q a b σ (c σ h) := rfl
@[simp] theorem Br_t : Br Q a b σ (.ok true h) = Wp Q (a σ h) := rfl
@[simp] theorem Br_f : Br Q a b σ (.ok false h) = Wp Q (b σ h) := rfl
@[simp] theorem Br_exc : Br Q a b σ (.exc x h) = Wp Q (.exc x σ h) := rfl
@[simp] theorem Br_stuck : Br Q a b σ .stuck = Wp Q .stuck := rfl
@[simp] theorem Br_dec : Br Q a b σ (.ok (decide p) h) = if p then Wp Q (a σ h) else Wp Q (b σ h) := by
  by_cases q : p
  · rw [if_pos q, decide_eq_true q]; rfl
  · rw [if_neg q, decide_eq_false q]; rfl
@[simp] theorem Br_not : Br Q a b σ (.ok (!k) h) = Br Q b a σ (.ok k h) := by cases k <;> rfl
@[simp] theorem Br_ite : Br Q a b σ (if p then r1 else r2) = if p then Br Q a b σ r1 else Br Q a b σ r2 := by
  by_cases q : p
  · rw [if_pos q, if_pos q]
  · rw [if_neg q, if_neg q]
@[simp] theorem Wp_ite : Wp Q (if p then s1 else s2) = if p then Wp Q s1 else Wp Q s2 := by
  by_cases q : p
  · rw [if_pos q, if_pos q]
  · rw [if_neg q, if_neg q]
end
def Wy (Q : RS → Prop) (i : Nat) (r : RS) : Prop := match r with
  | .next σ h => Wp Q (.next (σ.set i none) h)
  | .brk σ h => Wp Q (.brk (σ.set i none) h)
  | .cont σ h => Wp Q (.cont (σ.set i none) h)
  | .ret d h => Wp Q (.ret d h)
  | _ => Wp Q .stuck
/-- what an except clause makes of an error -/
def tryR (tb : Str → Str → Option Bool) (y : Str) (i : Nat) (suite : Xn → Addr → Addr → SS) (x : Xn) (σ : VS) (h : Hv) : RS := match tb x.cls y with
  | some true => tryA i x.pay (suite x) σ h
  | some false => .exc x σ h
  | none => .stuck
def Ty (Q : RS → Prop) (tb : Str → Str → Option Bool) (y : Str) (i : Nat) (suite : Xn → Addr → Addr → SS) (r : RS) : Prop := match r with
  | .exc x σ h => Wp Q (tryR tb y i suite x σ h)
  | r => Wp Q r
def Is (r : RS) : RS → Prop := fun z => z = r
def tryOR (tb : Str → Str → Option Bool) (y : Str) (suite : SS) (x : Xn) (σ : VS) (h : Hv) : RS := match tb x.cls y with
  | some true => (match suite σ h with
    | .exc _ _ _ => .stuck
    | r => r)
  | some false => .exc x σ h
  | none => .stuck
def To (Q : RS → Prop) (tb : Str → Str → Option Bool) (y : Str) (suite : SS) (r : RS) : Prop := match r with
  | .exc x σ h => Wp Q (tryOR tb y suite x σ h)
  | r => Wp Q r
def Tn (Q : RS → Prop) (r : RS) : Prop := match r with
  | .exc _ _ _ => Wp Q .stuck
  | r => Wp Q r
section
variable {Q : RS → Prop} {tb : Str → Str → Option Bool} {y : Str} {i : Nat} {suite : Xn → Addr → Addr → SS} {su body : SS} {σ : VS} {h : Hv} {x : Xn} {d : D} {r : RS}
@[simp] theorem Wp_wipe : Wp Q (wipeR i r) = Wp (Wy Q i) r := by
  cases r <;> (rw [Wp.eq (Wy Q i)]; rfl)
@[simp] theorem Wp_wy_next : Wp (Wy Q i) (.next σ h) = Wp Q (.next (σ.set i none) h) := Wp.eq _ _
@[simp] theorem Wp_wy_brk : Wp (Wy Q i) (.brk σ h) = Wp Q (.brk (σ.set i none) h) := Wp.eq _ _
@[simp] theorem Wp_wy_cont : Wp (Wy Q i) (.cont σ h) = Wp Q (.cont (σ.set i none) h) := Wp.eq _ _
@[simp] theorem Wp_wy_ret : Wp (Wy Q i) (.ret d h) = Wp Q (.ret d h) := Wp.eq _ _
@[simp] theorem Wp_try : Wp Q (sTryAs tb y i suite body σ h) = Wp (Ty Q tb y i suite) (body σ h) := by
  unfold sTryAs
  cases body σ h <;> (rw [Wp.eq (Ty Q tb y i suite)]; rfl)
@[simp] theorem Wp_ty_next : Wp (Ty Q tb y i suite) (.next σ h) = Wp Q (.next σ h) := Wp.eq _ _
@[simp] theorem Wp_ty_ret : Wp (Ty Q tb y i suite) (.ret d h) = Wp Q (.ret d h) := Wp.eq _ _
@[simp] theorem Wp_ty_brk : Wp (Ty Q tb y i suite) (.brk σ h) = Wp Q (.brk σ h) := Wp.eq _ _
@[simp] theorem Wp_ty_cont : Wp (Ty Q tb y i suite) (.cont σ h) = Wp Q (.cont σ h) := Wp.eq _ _
@[simp] theorem Wp_ty_stuck : Wp (Ty Q tb y i suite) .stuck = Wp Q .stuck := Wp.eq _ _
@[simp] theorem Wp_ty_exc : Wp (Ty Q tb y i suite) (.exc x σ h) = Wp Q (tryR tb y i suite x σ h) := Wp.eq _ _
@[simp] theorem Wp_is_next {r : RS} : Wp (Is r) (.next σ h) = (RS.next σ h = r) := Wp.eq _ _
@[simp] theorem Wp_is_ret {r : RS} : Wp (Is r) (.ret d h) = (RS.ret d h = r) := Wp.eq _ _
@[simp] theorem Wp_is_brk {r : RS} : Wp (Is r) (.brk σ h) = (RS.brk σ h = r) := Wp.eq _ _
@[simp] theorem Wp_is_cont {r : RS} : Wp (Is r) (.cont σ h) = (RS.cont σ h = r) := Wp.eq _ _
@[simp] theorem exM_none {a dd : Addr} : exM a dd none = some (.raw (.ref a)) := rfl
@[simp] theorem exM_some {a dd : Addr} {f : Str} : exM a dd (some (f, d)) = some (.exv a dd f d) := rfl
@[simp] theorem exD_none {a dd : Addr} : exD a dd none = .raw (.ref a) := rfl
@[simp] theorem exD_some {a dd : Addr} {f : Str} : exD a dd (some (f, d)) = .exv a dd f d := rfl
@[simp] theorem isEx_none {a dd : Addr} : isEx a dd none (.raw (.ref a)) = true := decide_eq_true rfl
@[simp] theorem isEx_some {a dd : Addr} {p : Str × D} {f : Str} : isEx a dd (some p) (.exv a dd f d) = true := by
  show (decide _ && decide _) = true
  rw [decide_eq_true rfl, decide_eq_true rfl]; rfl
@[simp] theorem Wp_tryO : Wp Q (sTryO tb y su body σ h) = Wp (To Q tb y su) (body σ h) := by
  unfold sTryO
  cases body σ h <;> (rw [Wp.eq (To Q tb y su)]; rfl)
@[simp] theorem Wp_to_next : Wp (To Q tb y su) (.next σ h) = Wp Q (.next σ h) := Wp.eq _ _
@[simp] theorem Wp_to_ret : Wp (To Q tb y su) (.ret d h) = Wp Q (.ret d h) := Wp.eq _ _
@[simp] theorem Wp_to_brk : Wp (To Q tb y su) (.brk σ h) = Wp Q (.brk σ h) := Wp.eq _ _
@[simp] theorem Wp_to_cont : Wp (To Q tb y su) (.cont σ h) = Wp Q (.cont σ h) := Wp.eq _ _
@[simp] theorem Wp_to_stuck : Wp (To Q tb y su) .stuck = Wp Q .stuck := Wp.eq _ _
@[simp] theorem Wp_to_exc : Wp (To Q tb y su) (.exc x σ h) = Wp Q (tryOR tb y su x σ h) := Wp.eq _ _
@[simp] theorem Wp_tn_next : Wp (Tn Q) (.next σ h) = Wp Q (.next σ h) := Wp.eq _ _
@[simp] theorem Wp_tn_ret : Wp (Tn Q) (.ret d h) = Wp Q (.ret d h) := Wp.eq _ _
@[simp] theorem Wp_tn_brk : Wp (Tn Q) (.brk σ h) = Wp Q (.brk σ h) := Wp.eq _ _
@[simp] theorem Wp_tn_cont : Wp (Tn Q) (.cont σ h) = Wp Q (.cont σ h) := Wp.eq _ _
end
@[simp] theorem eIsO_ap {i : Nat} {x : Xn} {a dd : Addr} {o : Option Bool} {σ : VS} {h : Hv} : eIsO i x a dd o σ h = (eVar i σ h).bind fun d h1 => if isEx a dd x.pay d = true then (match o with
    | some r => .ok (.bl r) h1
    | none => .stuck) else .stuck := rfl
@[simp] theorem sRaiseP_ap {C f : Str} {fe : ES} {σ : VS} {h : Hv} : sRaiseP C f fe σ h = (fe σ h).then σ fun d h' => .exc ⟨C, some (f, d)⟩ σ h' := rfl
/-- the end of a def that stands alone -/
def Rt (P : R D → Prop) (r : RS) : Prop := match r with
  | .ret d h => ∃ d', frz 0 h 12 d = some d' ∧ P (.ok d' [])
  | .next _ _ => P (.ok .non [])
  | .exc x _ h => match x.pay with
    | none => P (.exc ⟨x.cls, none⟩ [])
    | some (f, d) => ∃ d', frz 0 h 12 d = some d' ∧ P (.exc ⟨x.cls, some (f, d')⟩ [])
  | _ => False
section
variable {P : R D → Prop} {σ : VS} {h : Hv} {d : D} {C f : Str}
@[simp] theorem Wp_rt_ret : Wp (Rt P) (.ret d h) = ∃ d', frz 0 h 12 d = some d' ∧ P (.ok d' []) := Wp.eq _ _
@[simp] theorem Wp_rt_next : Wp (Rt P) (.next σ h) = P (.ok .non []) := Wp.eq _ _
@[simp] theorem Wp_rt_exc : Wp (Rt P) (.exc ⟨C, none⟩ σ h) = P (.exc ⟨C, none⟩ []) := by
  rw [Wp.eq, Rt]
@[simp] theorem Wp_rt_excP : Wp (Rt P) (.exc ⟨C, some (f, d)⟩ σ h) = ∃ d', frz 0 h 12 d = some d' ∧ P (.exc ⟨C, some (f, d')⟩ []) := by
  rw [Wp.eq, Rt]
@[simp] theorem Wp_rt_stuck : Wp (Rt P) .stuck = False := Wp.eq _ _
end
theorem fnS_of {P : R D → Prop} {np nl : Nat} {body : SS} {ds : List D} (hl : ds.length = np) (hw : Wp (Rt P) (body (ds.map some ++ List.replicate nl none) [])) : P (fnS np nl body ds []) := by
  replace hw := hw.run
  unfold Rt at hw
  split at hw
  · next d h e =>
    obtain ⟨d', e1, e2⟩ := hw
    rw [fnS_ret hl e e1]
    exact e2
  · next e => rw [fnS_next hl e]; exact hw
  · next x _ _ e =>
    cases x with
    | mk c p =>
      cases p with
      | none =>
        rw [fnS_exc hl e]
        exact hw
      | some q =>
        obtain ⟨d', e1, e2⟩ := hw
        rw [fnS_excP hl e e1]
        exact e2
  · exact hw.elim
/-- the end of a def that hands its objects on -/
def Ru (P : R D → Prop) (r : RS) : Prop := match r with
  | .ret d h => P (.ok d h)
  | .exc x _ _ => x.pay = none ∧ P (.exc ⟨x.cls, none⟩ [])
  | _ => False
section
variable {P : R D → Prop} {σ : VS} {h : Hv} {d : D} {C : Str}
@[simp] theorem Wp_ru_ret : Wp (Ru P) (.ret d h) = P (.ok d h) := Wp.eq _ _
@[simp] theorem Wp_ru_exc : Wp (Ru P) (.exc ⟨C, none⟩ σ h) = P (.exc ⟨C, none⟩ []) := by
  rw [Wp.eq, Ru]
  simp
@[simp] theorem Wp_ru_stuck : Wp (Ru P) .stuck = False := Wp.eq _ _
end
def Lp (Q : RS → Prop) (I : VS → Hv → Prop) (r : RS) : Prop := match r with
  | .next σ h => I σ h
  | .cont σ h => I σ h
  | .brk σ h => Wp Q (.next σ h)
  | .stuck => False
  | r => Wp Q r
section
variable {Q : RS → Prop} {I : VS → Hv → Prop} {σ : VS} {h : Hv} {d : D} {x : Xn}
@[simp] theorem Wp_lp_next : Wp (Lp Q I) (.next σ h) = I σ h := Wp.eq _ _
@[simp] theorem Wp_lp_cont : Wp (Lp Q I) (.cont σ h) = I σ h := Wp.eq _ _
@[simp] theorem Wp_lp_brk : Wp (Lp Q I) (.brk σ h) = Wp Q (.next σ h) := Wp.eq _ _
@[simp] theorem Wp_lp_ret : Wp (Lp Q I) (.ret d h) = Wp Q (.ret d h) := Wp.eq _ _
@[simp] theorem Wp_lp_exc : Wp (Lp Q I) (.exc x σ h) = Wp Q (.exc x σ h) := Wp.eq _ _
@[simp] theorem Wp_lp_stuck : Wp (Lp Q I) .stuck = False := Wp.eq _ _
end
theorem forD_wp {α : Type} {Q : RS → Prop} {chk : Hv → Bool} {gd : GD} {body : SS} (enc : α → D) (xs : List α) (I : Nat → VS → Hv → Prop)
    (hc : ∀ i σ h, I i σ h → chk h = true)
    (step : ∀ i a σ h, xs[i]? = some a → I i σ h → ∃ σ1, gd (enc a) σ = some σ1 ∧ Wp (Lp Q (I (i + 1))) (body σ1 h))
    (fin : ∀ σ h, I xs.length σ h → Wp Q (.next σ h)) {σ : VS} {h : Hv} (i0 : I 0 σ h) : Wp Q (forD chk gd body (xs.map enc) σ h) := by
  have key : ∀ (n : Nat) (i : Nat) σ h, xs.length - i = n → i ≤ xs.length → I i σ h → Wp Q (forD chk gd body ((xs.drop i).map enc) σ h) := by
    intro n
    induction n with
    | zero =>
      intro i σ h hn hi q
      have e : i = xs.length := by omega
      subst e
      rw [List.drop_length, List.map_nil, forD_nil, hc _ _ _ q, if_pos rfl]
      exact fin _ _ q
    | succ n ih =>
      intro i σ h hn hi q
      have hlt : i < xs.length := by omega
      obtain ⟨σ1, e1, e2⟩ := step i xs[i] σ h (List.getElem?_eq_getElem hlt) q
      rw [List.drop_eq_getElem_cons hlt, List.map_cons, forD_cons, hc _ _ _ q, if_pos rfl, e1]
      cases eb : body σ1 h with
      | next σ2 h2 => rw [eb, Wp_lp_next] at e2; simp only [eb]; exact ih (i + 1) σ2 h2 (by omega) (by omega) e2
      | cont σ2 h2 => rw [eb, Wp_lp_cont] at e2; simp only [eb]; exact ih (i + 1) σ2 h2 (by omega) (by omega) e2
      | brk σ2 h2 => rw [eb, Wp_lp_brk] at e2; simp only [eb]; exact e2
      | ret d h2 => rw [eb, Wp_lp_ret] at e2; simp only [eb]; exact e2
      | exc x σ2 h2 => rw [eb, Wp_lp_exc] at e2; simp only [eb]; exact e2
      | stuck => rw [eb, Wp_lp_stuck] at e2; exact e2.elim
  have z := key xs.length 0 σ h (by omega) (by omega) i0
  rw [List.drop_zero] at z
  exact z
theorem Wp.loop {α : Type} {Q : RS → Prop} {is : IS} {gd : GD} {body : SS} {σ : VS} {h : Hv} (enc : α → D) (xs : List α) (I : Nat → VS → Hv → Prop) {chk : Hv → Bool} {h0 : Hv}
    (his : is σ h = .ok (xs.map enc, chk) h0) (i0 : I 0 σ h0)
    (hc : ∀ i σ h, I i σ h → chk h = true)
    (step : ∀ i a σ h, xs[i]? = some a → I i σ h → ∃ σ1, gd (enc a) σ = some σ1 ∧ Wp (Lp Q (I (i + 1))) (body σ1 h))
    (fin : ∀ σ h, I xs.length σ h → Wp Q (.next σ h)) : Wp Q (sFor is gd body σ h) := by
  rw [sFor_ap, his]
  exact forD_wp enc xs I hc step fin i0
/-- a loop that doesn't look at a changing list -/
theorem Wp.loopA {α : Type} {Q : RS → Prop} {is : IS} {gd : GD} {body : SS} {σ : VS} {h : Hv} (enc : α → D) (xs : List α) (I : Nat → VS → Hv → Prop) {h0 : Hv}
    (his : is σ h = .ok (xs.map enc, always) h0) (i0 : I 0 σ h0)
    (step : ∀ i a σ h, xs[i]? = some a → I i σ h → ∃ σ1, gd (enc a) σ = some σ1 ∧ Wp (Lp Q (I (i + 1))) (body σ1 h))
    (fin : ∀ σ h, I xs.length σ h → Wp Q (.next σ h)) : Wp Q (sFor is gd body σ h) := Wp.loop enc xs I his i0 (fun _ _ _ _ => rfl) step fin
theorem Wp.range {Q : RS → Prop} {is : IS} {gd : GD} {body : SS} {σ : VS} {h : Hv} (lo : Int) (n : Nat) (I : Nat → VS → Hv → Prop) {h0 : Hv}
    (his : is σ h = .ok (rgD lo n, always) h0) (i0 : I 0 σ h0)
    (step : ∀ i σ h, i < n → I i σ h → ∃ σ1, gd (.int (lo + i)) σ = some σ1 ∧ Wp (Lp Q (I (i + 1))) (body σ1 h))
    (fin : ∀ σ h, I n σ h → Wp Q (.next σ h)) : Wp Q (sFor is gd body σ h) := by
  refine Wp.loopA (fun i : Nat => D.int (lo + i)) (List.range n) I (his.trans rfl) i0 (fun i a σ h ha hi => ?_) (by rw [List.length_range]; exact fin)
  obtain ⟨hlt, rfl⟩ := List.getElem?_eq_some_iff.mp ha
  rw [List.length_range] at hlt
  rw [List.getElem_range]
  exact step i σ h hlt hi
theorem Wp.while {Q : RS → Prop} {c : CS} {body : SS} (I : VS → Hv → Prop) (μ : VS → Hv → Nat)
    (step : ∀ σ h, I σ h → ∃ b, c σ h = .ok b h ∧ if b = true then Wp (Lp Q fun σ' h' => I σ' h' ∧ μ σ' h' < μ σ h) (body σ h) else Wp Q (.next σ h)) {σ : VS} {h : Hv} (i0 : I σ h) : Wp Q (sLoop c body σ h) := by
  have key : ∀ (m : Nat) σ h, μ σ h < m → I σ h → ∃ n, whileD c body n σ h ≠ .stuck ∧ Wp Q (whileD c body n σ h) := by
    intro m
    induction m with
    | zero => intro σ h hm; exact absurd hm (Nat.not_lt_zero _)
    | succ m ih =>
      intro σ h hm i
      obtain ⟨b, e1, e2⟩ := step σ h i
      cases b with
      | false =>
        refine ⟨1, ?_, ?_⟩
        · simp only [whileD, e1, R.then_ok]
          intro z; cases z
        · simp only [whileD, e1, R.then_ok]
          exact e2
      | true =>
        rw [if_pos rfl] at e2
        cases eb : body σ h with
        | next σ2 h2 =>
          rw [eb, Wp_lp_next] at e2
          obtain ⟨n, n1, n2⟩ := ih σ2 h2 (by omega) e2.1
          refine ⟨n + 1, ?_, ?_⟩
          · simp only [whileD, e1, R.then_ok, if_true, eb]; exact n1
          · simp only [whileD, e1, R.then_ok, if_true, eb]; exact n2
        | cont σ2 h2 =>
          rw [eb, Wp_lp_cont] at e2
          obtain ⟨n, n1, n2⟩ := ih σ2 h2 (by omega) e2.1
          refine ⟨n + 1, ?_, ?_⟩
          · simp only [whileD, e1, R.then_ok, if_true, eb]; exact n1
          · simp only [whileD, e1, R.then_ok, if_true, eb]; exact n2
        | brk σ2 h2 =>
          rw [eb, Wp_lp_brk] at e2
          refine ⟨1, ?_, ?_⟩
          · simp only [whileD, e1, R.then_ok, if_true, eb]
            intro z; cases z
          · simp only [whileD, e1, R.then_ok, if_true, eb]
            exact e2
        | ret d h2 =>
          rw [eb, Wp_lp_ret] at e2
          refine ⟨1, ?_, ?_⟩
          · simp only [whileD, e1, R.then_ok, if_true, eb]
            intro z; cases z
          · simp only [whileD, e1, R.then_ok, if_true, eb]
            exact e2
        | exc x σ2 h2 =>
          rw [eb, Wp_lp_exc] at e2
          refine ⟨1, ?_, ?_⟩
          · simp only [whileD, e1, R.then_ok, if_true, eb]
            intro z; cases z
          · simp only [whileD, e1, R.then_ok, if_true, eb]
            exact e2
        | stuck => rw [eb, Wp_lp_stuck] at e2; exact e2.elim
  obtain ⟨n, n1, n2⟩ := key (μ σ h + 1) σ h (by omega) i0
  rw [sLoop_at n1]
  exact n2
/-- the whole number in a slot -/
def slN (σ : VS) (j : Nat) : Nat := match σ[j]? with
  | some (some (.int y)) => y.toNat
  | _ => 0
theorem lLc_map {α : Type} {is : IS} {gd : GD} {el : ES} {own : List Nat} {σ : VS} {h h0 : Hv} {chk : Hv → Bool} (enc : α → D) (f : α → D) (xs : List α) (his : is σ h = .ok (xs.map enc, chk) h0) (hc : chk h0 = true) (hl : xs.length ≤ 16777216)
    (q : ∀ a ∈ xs, ∃ σ1, gd (enc a) (wipeV σ own) = some σ1 ∧ el σ1 h0 = .ok (f a) h0) : lLc is gd cYes el own σ h = .ok (xs.map f) h0 := by
  rw [lLc_ap, his, R.bind_ok, List.length_map, if_pos hl]
  exact lcD_map enc f hc xs q
abbrev scr (ns : List Int) : D := .fz (ns.map .int)
@[simp] theorem pureD_ap {ds : List D} : pureD ds = optAll (frz 0 [] 12) ds := rfl
/-- a call's outcome, from the def's on data without cells -/
theorem cP {sem : List D → Hv → R D} {ds : List D} {d : D} (e : sem ds [] = .ok d []) (hp : pureD ds = some ds := by simp) (h : Hv) : callP sem ds h = .ok d h := callP_ok hp e
theorem cX {sem : List D → Hv → R D} {ds : List D} {x : Xn} (e : sem ds [] = .exc x []) (hp : pureD ds = some ds := by simp) (h : Hv) : callP sem ds h = .exc x h := callP_exc hp e
@[simp] theorem frz_ints {n0 f : Nat} {h : Hv} {xs : List Int} : optAll (frz n0 h (f + 1)) (xs.map D.int) = some (xs.map D.int) := optAll_map fun _ _ => rfl
@[simp] theorem frz_bls {n0 f : Nat} {h : Hv} {xs : List Bool} : optAll (frz n0 h (f + 1)) (xs.map D.bl) = some (xs.map D.bl) := optAll_map fun _ _ => rfl
@[simp] theorem frz_strs {n0 f : Nat} {h : Hv} {xs : List Str} : optAll (frz n0 h (f + 1)) (xs.map D.str) = some (xs.map D.str) := optAll_map fun _ _ => rfl
section
open PySem.W (Datum T3 T4 Tup)
@[simp] theorem enc_i3 (a : T3 Int Int Int) : (En.enc a : D) = .tup [.int a.a, .int a.b, .int a.c] := rfl
@[simp] theorem enc_i4 (a : T4 Int Int Int Int) : (En.enc a : D) = .tup [.int a.a, .int a.b, .int a.c, .int a.d] := rfl
@[simp] theorem enc_i2 (a : Int × Int) : (En.enc a : D) = .tup [.int a.1, .int a.2] := rfl
@[simp] theorem frz_i3 {n0 f : Nat} {h : Hv} {xs : List (T3 Int Int Int)} : optAll (frz n0 h (f + 2)) (xs.map En.enc) = some (xs.map En.enc) := optAll_map fun _ _ => rfl
@[simp] theorem frz_i4 {n0 f : Nat} {h : Hv} {xs : List (T4 Int Int Int Int)} : optAll (frz n0 h (f + 2)) (xs.map En.enc) = some (xs.map En.enc) := optAll_map fun _ _ => rfl
@[simp] theorem frz_i2 {n0 f : Nat} {h : Hv} {xs : List (Int × Int)} : optAll (frz n0 h (f + 2)) (xs.map En.enc) = some (xs.map En.enc) := optAll_map fun _ _ => rfl
end
theorem bInts_lst {f : List Int → Option D} {ns : List Int} {h : Hv} : bInts f [.lst (ns.map .int)] h = match f ns with
  | some z => .ok z h
  | none => .stuck := by
  show (match (some (ns.map D.int)).bind (optAll toI) with | some ns => (match f ns with | some z => R.ok z h | none => .stuck) | none => .stuck) = _
  rw [Option.bind_some, toI_map]
@[simp] theorem bSum_lst {ns : List Int} {h : Hv} : bSum [.lst (ns.map .int)] h = .ok (.int ns.sum) h := bInts_lst
theorem bInts_cell {f : List Int → Option D} {n : Nat} {h : Hv} {ns : List Int} (e : h[n]? = some (.lst (ns.map .int))) : bInts f [.cell n] h = match f ns with
  | some z => .ok z h
  | none => .stuck := by
  show (match (lOf h (.cell n)).bind (optAll toI) with | some ns => (match f ns with | some z => R.ok z h | none => .stuck) | none => .stuck) = _
  rw [lOf_cell, e]
  simp only [Option.bind_some, toI_map]
@[simp] theorem bSum_c0 {h : Hv} {ns : List Int} : bSum [.cell 0] (.lst (ns.map .int) :: h) = .ok (.int ns.sum) (.lst (ns.map .int) :: h) := bInts_cell rfl
@[simp] theorem bSum_c1 {h : Hv} {c : Cell} {ns : List Int} : bSum [.cell 1] (c :: .lst (ns.map .int) :: h) = .ok (.int ns.sum) (c :: .lst (ns.map .int) :: h) := bInts_cell rfl
@[simp] theorem toPy_ints {n : Nat} {h : Hv} {xs : List Int} : optAll (toPy h (n + 1)) (xs.map D.int) = some (xs.map PyData.int) := optAll_map fun _ _ => rfl
@[simp] theorem toPy_strs {n : Nat} {h : Hv} {xs : List Str} : optAll (toPy h (n + 1)) (xs.map D.str) = some (xs.map PyData.str) := optAll_map fun _ _ => rfl
@[simp] theorem shL_ints {n : Nat} {xs : List Int} : shL n (xs.map D.int) = xs.map D.int := by
  rw [shL_eq, List.map_map]; rfl
theorem bBools_lst {f : List Bool → Bool} {ns : List Bool} {h : Hv} : bBools f [.lst (ns.map .bl)] h = .ok (.bl (f ns)) h := by
  show (match (some (ns.map D.bl)).bind (optAll toBl) with | some ns => R.ok (D.bl (f ns)) h | none => .stuck) = _
  rw [Option.bind_some, toBl_map]
@[simp] theorem bAll_lst {ns : List Bool} {h : Hv} : bAll [.lst (ns.map .bl)] h = .ok (.bl (ns.all id)) h := bBools_lst
@[simp] theorem bAny_lst {ns : List Bool} {h : Hv} : bAny [.lst (ns.map .bl)] h = .ok (.bl (ns.any id)) h := bBools_lst
@[simp] theorem mAppend_ap {n : Nat} {d : D} {h : Hv} : mAppend (.cell n) [d] h = (match h[n]? with
    | some (.lst xs) => if xs.length < 16777216 then .ok .non (h.set n (.lst (xs ++ [d]))) else .stuck
    | _ => .stuck) := rfl
@[simp] theorem mReverse_ap {n : Nat} {h : Hv} : mReverse (.cell n) [] h = (match h[n]? with
    | some (.lst xs) => .ok .non (h.set n (.lst xs.reverse))
    | _ => .stuck) := rfl
@[simp] theorem oCat_ap {x y : D} {h : Hv} : oCat x y h = (match kOf h x, kOf h y with
  | some xs, some ys => if xs.length + ys.length ≤ 16777216 then .ok (xs ++ ys) h else .stuck
  | _, _ => .stuck) := rfl
@[simp] theorem oRep_one {x : D} {k : Int} {h : Hv} (h0 : 0 ≤ k) (h1 : k ≤ 16777216) : oRep (.lst [x]) (.int k) h = .ok (List.replicate k.toNat x) h := by
  show (@ite _ ([x].length * k.toNat ≤ 16777216 ∧ -(2 ^ 63) ≤ k ∧ k < 2 ^ 63) (Classical.propDecidable _) (R.ok (List.replicate k.toNat [x]).flatten h) .stuck) = _
  rw [if_pos ⟨by rw [List.length_singleton]; omega, by omega, by omega⟩, ]
  congr 1
  generalize k.toNat = m
  induction m with
  | zero => rfl
  | succ m ih => rw [List.replicate_succ, List.flatten_cons, ih]; rfl
section
variable {h : Hv} {ds : List D} {d : D} {c c1 : Cell}
theorem eqD_cellL {n : Nat} (e : h[n]? = some (.lst ds)) : eqD h (.cell n) d = eqD h (.lst ds) d := by
  have e2 : toPy h 12 (.cell n) = toPy h 12 (.lst ds) := by rw [toPy_cell, e, toPy_lst]
  unfold eqD
  rw [e2]
theorem eqD_cellR {n : Nat} (e : h[n]? = some (.lst ds)) : eqD h d (.cell n) = eqD h d (.lst ds) := by
  have e2 : toPy h 12 (.cell n) = toPy h 12 (.lst ds) := by rw [toPy_cell, e, toPy_lst]
  unfold eqD
  rw [e2]
@[simp] theorem eqD_cL0 : eqD (.lst ds :: h) (.cell 0) d = eqD (.lst ds :: h) (.lst ds) d := eqD_cellL rfl
@[simp] theorem eqD_cR0 : eqD (.lst ds :: h) d (.cell 0) = eqD (.lst ds :: h) d (.lst ds) := eqD_cellR rfl
@[simp] theorem eqD_cL1 : eqD (c :: .lst ds :: h) (.cell 1) d = eqD (c :: .lst ds :: h) (.lst ds) d := eqD_cellL rfl
@[simp] theorem eqD_cR1 : eqD (c :: .lst ds :: h) d (.cell 1) = eqD (c :: .lst ds :: h) d (.lst ds) := eqD_cellR rfl
@[simp] theorem eqD_ints {xs ys : List Int} : eqD h (.lst (xs.map .int)) (.lst (ys.map .int)) = some (decide (xs = ys)) := eqD_en h xs ys
end
def gI (xs : List Int) (k : Int) : Int := xs[k.toNat]?.getD 0
theorem ix_ints {xs : List Int} {j : Int} (h0 : 0 ≤ j) (h1 : j < xs.length) : atI (xs.map D.int) j = some (.int (gI xs j)) := by
  rw [atI_map (atI_getD h0 h1), List.getD_eq_getElem?_getD]
  rfl
def sI (xs : List Int) (k v : Int) : List Int := xs.set k.toNat v
@[simp] theorem sI_len {xs : List Int} {k v : Int} : (sI xs k v).length = xs.length := List.length_set
section
variable {α : Type} {a b c d e f : α} {l : List α}
@[simp] theorem atI_0 : atI (a :: l) 0 = some a := atI_at (j := 0) (by rfl) (by rfl)
@[simp] theorem atI_1 : atI (a :: b :: l) 1 = some b := atI_at (j := 1) (by rfl) (by rfl)
@[simp] theorem atI_2 : atI (a :: b :: c :: l) 2 = some c := atI_at (j := 2) (by rfl) (by rfl)
@[simp] theorem atI_3 : atI (a :: b :: c :: d :: l) 3 = some d := atI_at (j := 3) (by rfl) (by rfl)
@[simp] theorem atI_4 : atI (a :: b :: c :: d :: e :: l) 4 = some e := atI_at (j := 4) (by rfl) (by rfl)
end
end
end VD
set_option Elab.async false
set_option linter.all false
set_option maxRecDepth 100000
set_option maxHeartbeats 4000000
namespace VD
open PySem PySem.Spec PyProof.Rows L2
noncomputable section
def sealO (n0 : Nat) (h : Hv) (o : Option D) : Option D := o.bind (frz n0 h 12)
def sSeal (n0 : Nat) (s : SS) : SS := fun σ h => match optAll (frzC n0 h) (h.take n0) with
  | some h' => if n0 ≤ h.length then s (σ.map (sealO n0 h)) h' else .stuck
  | none => .stuck
def sBlk (f : Nat → SS) : SS := fun σ h => f h.length σ h
@[simp] theorem sBlk_ap {f : Nat → SS} {σ : VS} {h : Hv} : sBlk f σ h = f h.length σ h := rfl
@[simp] theorem sSeal_ap {n : Nat} {s : SS} {σ : VS} {h : Hv} : sSeal n s σ h = match optAll (frzC n h) (h.take n) with
  | some h' => if n ≤ h.length then s (σ.map (sealO n h)) h' else .stuck
  | none => .stuck := rfl
@[simp] theorem sSeal_0 {s : SS} {σ : VS} {h : Hv} : sSeal 0 s σ h = s (σ.map (sealO 0 h)) [] := by
  rw [sSeal_ap, List.take_zero]
  simp
@[simp] theorem sealO_none {n : Nat} {h : Hv} : sealO n h none = none := rfl
@[simp] theorem sealO_some {n : Nat} {h : Hv} {d : D} : sealO n h (some d) = frz n h 12 d := rfl
def OwnOk (K : PySem.W.Frag) (φ ψ : List Addr) (S : Hp) (h : Hv) (cs : List Cell) (ns : List Nat) : Prop := cs.length = ns.length ∧ ∀ (i n : Nat), ns[i]? = some n → ∃ c c' : Cell, h[n]? = some c ∧ cs[i]? = some c' ∧ ∀ o, RpC K φ S c o → RpC K ψ S c' o
section
variable {K : PySem.W.Frag} {φ ψ : List Addr} {S H : Hp} {h : Hv}
theorem OwnOk.append {cs cs' : List Cell} {ns ns' : List Nat} (a : OwnOk K φ ψ S h cs ns) (b : OwnOk K φ ψ S h cs' ns') : OwnOk K φ ψ S h (cs ++ cs') (ns ++ ns') := by
  refine ⟨by rw [List.length_append, List.length_append, a.1, b.1], fun i n hi => ?_⟩
  by_cases q : i < ns.length
  · rw [List.getElem?_append_left q] at hi
    obtain ⟨c, c', h1, h2, h3⟩ := a.2 i n hi
    exact ⟨c, c', h1, by rw [List.getElem?_append_left (by rw [a.1]; exact q)]; exact h2, h3⟩
  · rw [List.getElem?_append_right (by omega)] at hi
    obtain ⟨c, c', h1, h2, h3⟩ := b.2 _ n hi
    exact ⟨c, c', h1, by rw [List.getElem?_append_right (by rw [a.1]; omega), a.1]; exact h2, h3⟩
end
/-- the end of a def that hands its objects on, with errors that bear values -/
def Rv (P : R D → Prop) (r : RS) : Prop := match r with
  | .ret d h => P (.ok d h)
  | .exc x _ h => (match x.pay with
    | none => P (.exc ⟨x.cls, none⟩ [])
    | some (f, d) => ∃ d', frz 0 h 12 d = some d' ∧ P (.exc ⟨x.cls, some (f, d')⟩ []))
  | _ => False
section
variable {P : R D → Prop} {σ : VS} {h : Hv} {d : D} {C f : Str}
@[simp] theorem Wp_rv_ret : Wp (Rv P) (.ret d h) = P (.ok d h) := Wp.eq _ _
@[simp] theorem Wp_rv_exc : Wp (Rv P) (.exc ⟨C, none⟩ σ h) = P (.exc ⟨C, none⟩ []) := by
  rw [Wp.eq, Rv]
@[simp] theorem Wp_rv_excP : Wp (Rv P) (.exc ⟨C, some (f, d)⟩ σ h) = ∃ d', frz 0 h 12 d = some d' ∧ P (.exc ⟨C, some (f, d')⟩ []) := by
  rw [Wp.eq, Rv]
@[simp] theorem Wp_rv_stuck : Wp (Rv P) .stuck = False := Wp.eq _ _
end
end
end VD
set_option Elab.async false
set_option linter.all false
set_option maxRecDepth 100000
set_option maxHeartbeats 4000000
namespace VD
open PySem PySem.Spec PyProof.Rows L2 RT
noncomputable section
def lRev (f : ES) : LS := fun σ h => (f σ h).bind fun d h1 => match lOf h1 d with
  | some xs => .ok xs.reverse h1
  | none => .stuck
@[simp] theorem lRev_ap {f : ES} {σ : VS} {h : Hv} : lRev f σ h = (f σ h).bind fun d h1 => match lOf h1 d with
  | some xs => .ok xs.reverse h1
  | none => .stuck := rfl
end
end VD
set_option Elab.async false
set_option linter.all false
set_option maxRecDepth 100000
set_option maxHeartbeats 4000000
namespace VD
open PySem PySem.Spec PyProof.Rows L2
noncomputable section
def putS (f : Str) (v : D) : List (Str × D) → List (Str × D)
  | [] => [(f, v)]
  | (g, x) :: r => if g = f then (g, v) :: r else (g, x) :: putS f v r
/-- an object's fields -/
def fldsOf (h : Hv) (C : Str) : D → Option (List (Str × D))
  | .cell n => (match h[n]? with
    | some (.ins c fs) => if c = C then some fs else none
    | _ => none)
  | .obj c ks ds => if c = C then some (ks.zip ds) else none
  | _ => none
theorem RpA.zip {K : PySem.W.Frag} {φ : List Addr} {S : Hp} : ∀ {fv : List (Str × V)} {ks : List Str} {ds : List D}, fv.map (·.1) = ks → RpA K φ S (fv.map (·.2)) ds → fv.map (·.1) = (ks.zip ds).map (·.1) ∧ RpA K φ S (fv.map (·.2)) ((ks.zip ds).map (·.2))
  | [], ks, ds, ek, ra => by
    cases ek
    cases ra
    exact ⟨rfl, .nil⟩
  | (g, v) :: fv, ks, ds, ek, ra => by
    rw [List.map_cons] at ek ra
    cases ek
    cases ra with
    | cons r t =>
      obtain ⟨h1, h2⟩ := RpA.zip (fv := fv) rfl t
      exact ⟨congrArg (List.cons g) h1, .cons r h2⟩
section
variable {X : Cx} {W : WX} {e : Expr} {fa fv : ES} {f C : Str} {pos pos' : Pos}
def eFld (C f : Str) (fa : ES) : ES := fun σ h => (fa σ h).bind fun d h1 => match (fldsOf h1 C d).bind fun fs => fs.lookup f with
  | some x => .ok x h1
  | none => .stuck
/-- e.f = value -/
def sSetFld (C f : Str) (fa fv : ES) : SS := fun σ h => (fv σ h).then σ fun y h1 => (fa σ h1).then σ fun d h2 => match d with
  | .cell n => (match h2[n]? with
    | some (.ins c fs) => if c = C ∧ fs.length < 1000 then .next σ (h2.set n (.ins c (putS f y fs))) else .stuck
    | _ => .stuck)
  | _ => .stuck
end
def eMeth (C m : Str) (sem' : List D → Hv → R D) (fa : ES) (la : LS) : ES := fun σ h => (fa σ h).bind fun d h1 => match fldsOf h1 C d with
  | some fs => if (fs.lookup m).isNone then ((la σ h1).bind fun ds h2 => sem' (d :: ds) h2) else .stuck
  | none => .stuck
end
end VD
set_option Elab.async false
set_option linter.all false
set_option maxRecDepth 100000
set_option maxHeartbeats 4000000
namespace VD
open PySem PySem.Spec PyProof.Rows L2
noncomputable section
mutual
def noC : D → Bool
  | .non => true
  | .bl _ => true
  | .int _ => true
  | .str _ => true
  | .raw _ => true
  | .lst ds => noCL ds
  | .fz ds => noCL ds
  | .tup ds => noCL ds
  | .dct _ ds => noCL ds
  | .obj _ _ ds => noCL ds
  | .cell _ => false
  | .exv _ _ _ _ => false
def noCL : List D → Bool
  | [] => true
  | d :: ds => noC d && noCL ds
end
section
variable {K : PySem.W.Frag} {φ : List Addr} {S : Hp}
mutual
theorem noC_rp : ∀ {v : V} {d : D}, noC d = true → Rp K φ S v d → Rp K [] S v d
  | _, _, _, .non => .non
  | _, _, _, .bl b => .bl b
  | _, _, _, .int i => .int i
  | _, _, _, .str x => .str x
  | _, .lst ds, e, .lst h r => .lst h (noCL_rp (by rw [noC] at e; exact e) r)
  | _, .fz ds, e, .fz h r => .fz h (noCL_rp (by rw [noC] at e; exact e) r)
  | _, .tup ds, e, .tup h r => .tup h (noCL_rp (by rw [noC] at e; exact e) r)
  | _, _, e, .cell _ => by rw [noC] at e; cases e
  | _, _, _, .raw v => .raw v
  | _, .dct ks ds, e, .dct h k r => .dct h k (noCL_rp (by rw [noC] at e; exact e) r)
  | _, .obj c ks ds, e, .obj h k r => .obj h k (noCL_rp (by rw [noC] at e; exact e) r)
  | _, _, e, .exv _ _ => by rw [noC] at e; cases e
theorem noCL_rp : ∀ {vs : List V} {ds : List D}, noCL ds = true → RpA K φ S vs ds → RpA K [] S vs ds
  | _, _, _, .nil => .nil
  | _, d :: ds, e, .cons r t => by
    rw [noCL, Bool.and_eq_true] at e
    exact .cons (noC_rp e.1 r) (noCL_rp e.2 t)
end
end
theorem noCL_all {ds : List D} : noCL ds = ds.all noC := by
  induction ds with
  | nil => rfl
  | cons d ds ih => rw [noCL, ih, List.all_cons]
def frzQ (n0 : Nat) (h : Hv) (d : D) : Option D := if noC d = true then some d else frz n0 h 12 d
theorem frzQ_ok {K : PySem.W.Frag} {φ : List Addr} {S H : Hp} {h : Hv} {n0 : Nat} {v : V} {d d' : D} (rl : Rel K φ S H h) (rp : Rp K φ S v d) (e : frzQ n0 h d = some d') : Rp K (φ.take n0) (still φ n0 S H) v d' := by
  unfold frzQ at e
  split at e
  · next q =>
    cases e
    exact Rp.mono ⟨φ.take n0, rfl⟩ (still_ex rl) (noC_rp q rp)
  · exact frz_ok rl _ _ _ _ rp e
def exitQ (n0 : Nat) (d : D) (h : Hv) : R D := match frzQ n0 h d, optAll (frzC n0 h) (h.take n0) with
  | some d', some h' => if n0 ≤ h.length then .ok d' h' else .stuck
  | _, _ => .stuck
def fnQ (np nl : Nat) (body : SS) : List D → Hv → R D := fun ds h => if ds.length = np then (match body (ds.map some ++ List.replicate nl none) h with
  | .ret d h' => exitQ h.length d h'
  | .next _ h' => exitQ h.length .non h'
  | .exc x _ h' => exitX h.length x h'
  | _ => .stuck) else .stuck
theorem fnQ_len {np nl : Nat} {body : SS} {ds : List D} {h : Hv} (e : fnQ np nl body ds h ≠ .stuck) : ds.length = np := by
  unfold fnQ at e
  split at e
  · next q => exact q
  · exact absurd rfl e
section
variable {P : Program} {w : World} {K : PySem.W.Frag} {mg : Str → Option Value} {base : Heap}
theorem fnQ_ok {x qual : Str} {st : Stmt} {f : Addr} {fd : FuncData} {N ps : List Str} {k np nl : Nat} {body : SS} (F : Fun K x qual st f fd) (Sc : FnScope N ps (defScope st)) (hps : ps.length = np) (hN : N.length = np + nl)
    (hbody : ∀ (cdv : Value) (A : Around) (outer : List Env) (s : Shared) (H : Hp) (E : XK), Room k (A.deeper (envOfC qual (defScope st) s.heap.objs.size f cdv)) →
      QB (cxOf (L2.CX P w) P w K mg base N qual (defScope st) f cdv A outer s H E) (fun cls d _ H' => E cls d H') (defBody st) body) : FnOk P w K mg base (L2.CX P w) (k + 1) f fd ps (spOf K (fnQ np nl body)) := by
  refine F.okX Sc (fun vs H Q E h => ?_) (fun cdv A outer s H vs Q E hr h => ?_)
  · obtain ⟨φ, S, h, ds, rl, ra, post⟩ := h
    rw [ra.length, hps]
    refine fnQ_len (nl := nl) (body := body) (h := h) fun z => ?_
    rw [z] at post
    exact post.elim
  · obtain ⟨φ, S, h, ds, rl, ra, post⟩ := h
    obtain ⟨t, h1, h2⟩ := hbody cdv A outer s H E hr
    refine ⟨t, h1, h2.run rl (relS_start ra nl N (by
      have hl : ds.length = np := fnQ_len (nl := nl) (body := body) (h := h) fun z => by
        rw [z] at post
        exact post.elim
      rw [hl]
      exact hN)) ?_⟩
    unfold fnQ at post
    have hl : ds.length = np := by
      refine Classical.byContradiction fun z => ?_
      rw [if_neg z] at post
      exact post.elim
    rw [if_pos hl] at post
    have en : h.length = φ.length := rl.len.symm
    have out : ∀ {φ' S' H' h' d v}, Rel K φ' S' H' h' → Step φ S H φ' S' H' → Rp K φ' S' v d → Post K (repV K) φ S H (exitQ h.length d h') Q E → Q v H' := fun {φ' S' H' h' d v} r2 st rv post => by
      unfold exitQ at post
      split at post
      · next d' h'' q1 q2 =>
        split at post
        · next hn =>
          rw [en] at q1 q2 hn
          obtain ⟨s2, _⟩ := exit_step st r2
          exact post v _ _ H' (exit_rel r2 hn q2) s2 (frzQ_ok r2 rv q1)
        · exact post.elim
      · exact post.elim
    cases hb : body (ds.map some ++ List.replicate nl none) h with
    | next σ' h' =>
      rw [hb] at post
      exact fun σ1 φ' S' H' r2 _ st => out r2 st .non post
    | ret d h' =>
      rw [hb] at post
      exact fun v φ' S' H' r2 st rv => out r2 st rv post
    | brk σ' h' => rw [hb] at post; exact post.elim
    | cont σ' h' => rw [hb] at post; exact post.elim
    | stuck => rw [hb] at post; exact post.elim
    | exc x σ' h' =>
      rw [hb] at post
      intro σ1 cls dd φ' S' H' r2 _ st rx
      simp only [exitX] at post
      obtain ⟨s2, _⟩ := exit_step st r2
      obtain ⟨e1, rx⟩ := rx
      cases hp : x.pay with
      | none =>
        simp only [hp] at post rx
        split at post
        · next h'' q2 =>
          split at post
          · next hn =>
            rw [en] at q2 hn
            exact post cls dd _ _ H' (exit_rel r2 hn q2) s2 ⟨e1, by rw [hp]; exact rx⟩
          · exact post.elim
        · exact post.elim
      | some p =>
        obtain ⟨fl, d⟩ := p
        simp only [hp] at post rx
        obtain ⟨dx, v, e2, e3, rv⟩ := rx
        split at post
        · next d' h'' q1 q2 =>
          split at post
          · next hn =>
            rw [en] at q1 q2 hn
            exact post cls dd _ _ H' (exit_rel r2 hn q2) s2 ⟨e1, dx, v, e2, still_ex r2 _ _ e3, frz_ok r2 _ _ _ _ rv q1⟩
          · exact post.elim
        · exact post.elim
theorem okQ_mk {x : Str} {st : Stmt} {fd : FuncData} {N ps : List Str} {k np nl : Nat} {body : SS} (F : Fun K x x st (He.ga K x) fd) (Sc : FnScope N ps (defScope st)) (hps : ps.length = np) (hN : N.length = np + nl) (g : mg x = some (.ref (He.ga K x))) (b : Binds K fd ps [])
    (hbody : ∀ (cdv : Value) (A : Around) (outer : List Env) (s : Shared) (H : Hp) (E : XK), Room k (A.deeper (envOfC x (defScope st) s.heap.objs.size (He.ga K x) cdv)) →
      QB (cxOf (L2.CX P w) P w K mg base N x (defScope st) (He.ga K x) cdv A outer s H E) (fun cls d _ H' => E cls d H') (defBody st) body) : OkF P w K mg base (k + 1) x ps (fnQ np nl body) := ⟨fd, let ⟨oc, od, _, _, _, _, _, _, osl, _, lk, _⟩ := F.ex; ⟨oc, od, osl, lk⟩, fnQ_ok F Sc hps hN hbody, b, g, F.kp⟩
end
/-- a call of plain things, of any depth -/
def callQ (sem : List D → Hv → R D) (ds : List D) (h : Hv) : R D := if noCL ds = true then (match sem ds [] with
    | .ok d [] => .ok d h
    | .exc x [] => .exc x h
    | _ => .stuck) else .stuck
theorem spOf_Q {K : PySem.W.Frag} {sem : List D → Hv → R D} {φ : List Addr} {S H : Hp} {h : Hv} {ds : List D} {vs : List V} {Q : VK} {E : XK} (rl : Rel K φ S H h) (ra : RpA K φ S vs ds) (post : Post K (repV K) φ S H (callQ sem ds h) Q E) : spOf K sem vs H Q E := by
  unfold callQ at post
  split at post
  · next q =>
    refine ⟨[], S, [], ds, Rel.bare rl.sub, noCL_rp q ra, ?_⟩
    split at post
    · next d hs =>
      rw [hs]
      intro v φ' S' H' r2 st rv
      obtain ⟨rfl, r3, s3⟩ := rl.frame r2 st
      exact post v φ S' H' r3 s3 (Rp.mono ⟨φ, rfl⟩ (Ex.refl _) rv)
    · next x hs =>
      rw [hs]
      intro cls dd φ' S' H' r2 st rx
      obtain ⟨rfl, r3, s3⟩ := rl.frame r2 st
      refine post cls dd φ S' H' r3 s3 ⟨rx.1, ?_⟩
      have rx2 := rx.2
      cases hp : x.pay with
      | none => rw [hp] at rx2; exact rx2
      | some p =>
        rw [hp] at rx2
        obtain ⟨dx, v, e2, e3, rv⟩ := rx2
        exact ⟨dx, v, e2, e3, Rp.mono ⟨φ, rfl⟩ (Ex.refl _) rv⟩
    · exact post.elim
  · exact post.elim
theorem se_fnQ {X : Cx} {W : WX} {k : Nat} {ps : List Str} {sem : List D → Hv → R D} {x : Str} {p pos : Pos} {e : Expr} {es : List Expr} {la : LS}
    (o : OkF X.prog X.w X.K X.mg X.base k x ps sem) (hr : Room k X.A) (tk : Takes X W) (ha : SA X W (e :: es) la)
    (hg : Gl X x := by rfl) (hdb : (x == ("__debug__" : Str)) = false := by decide) (he : starEach (e :: es) X.env = (false, eval e X.env) :: starEach es X.env := by rfl) (hpl : (backTo pos (starEach es X.env)).any (·.1) = false := by rfl) :
    SE X W (.Call (.Name x p) (e :: es) [] pos) (eCa (callQ sem) la) := by
  obtain ⟨fd, _, F, b, g, kp⟩ := o
  exact se_call spOf_Q F hr tk g kp b ha hg hdb he hpl
def Rq (P : R D → Prop) (r : RS) : Prop := match r with
  | .ret d h => ∃ d', frzQ 0 h d = some d' ∧ P (.ok d' [])
  | .next _ _ => P (.ok .non [])
  | .exc x _ h => match x.pay with
    | none => P (.exc ⟨x.cls, none⟩ [])
    | some (f, d) => ∃ d', frz 0 h 12 d = some d' ∧ P (.exc ⟨x.cls, some (f, d')⟩ [])
  | _ => False
section
variable {P : R D → Prop} {σ : VS} {h : Hv} {d : D} {C f : Str} {n0 : Nat}
@[simp] theorem Wp_rq_ret : Wp (Rq P) (.ret d h) = ∃ d', frzQ 0 h d = some d' ∧ P (.ok d' []) := Wp.eq _ _
@[simp] theorem Wp_rq_next : Wp (Rq P) (.next σ h) = P (.ok .non []) := Wp.eq _ _
@[simp] theorem Wp_rq_exc : Wp (Rq P) (.exc ⟨C, none⟩ σ h) = P (.exc ⟨C, none⟩ []) := by
  rw [Wp.eq, Rq]
@[simp] theorem Wp_rq_excP : Wp (Rq P) (.exc ⟨C, some (f, d)⟩ σ h) = ∃ d', frz 0 h 12 d = some d' ∧ P (.exc ⟨C, some (f, d')⟩ []) := by
  rw [Wp.eq, Rq]
@[simp] theorem Wp_rq_stuck : Wp (Rq P) .stuck = False := Wp.eq _ _
theorem frzQ_y (e : noC d = true) : frzQ n0 h d = some d := by unfold frzQ; rw [if_pos e]
@[simp] theorem frzQ_non : frzQ n0 h .non = some .non := rfl
@[simp] theorem frzQ_bl {b : Bool} : frzQ n0 h (.bl b) = some (.bl b) := rfl
@[simp] theorem frzQ_int {i : Int} : frzQ n0 h (.int i) = some (.int i) := rfl
@[simp] theorem frzQ_str {x : Str} : frzQ n0 h (.str x) = some (.str x) := rfl
@[simp] theorem frzQ_cell {n : Nat} : frzQ n0 h (.cell n) = frz n0 h 12 (.cell n) := rfl
end
theorem fnQ_of {P : R D → Prop} {np nl : Nat} {body : SS} {ds : List D} (hl : ds.length = np) (hw : Wp (Rq P) (body (ds.map some ++ List.replicate nl none) [])) : P (fnQ np nl body ds []) := by
  replace hw := hw.run
  unfold fnQ
  rw [if_pos hl]
  generalize body (ds.map some ++ List.replicate nl none) [] = r at hw ⊢
  cases r with
  | ret d h =>
    obtain ⟨d', e1, e2⟩ := hw
    show P (exitQ 0 d h)
    unfold exitQ
    rw [List.take_zero]
    simp only [e1, optAll_nil, Nat.zero_le, if_true]
    exact e2
  | next σ h =>
    show P (exitQ 0 .non h)
    unfold exitQ
    rw [List.take_zero]
    simp only [frzQ_non, optAll_nil, Nat.zero_le, if_true]
    exact hw
  | exc x σ h =>
    cases x with
    | mk c p =>
      cases p with
      | none =>
        show P (exitX 0 ⟨c, none⟩ h)
        unfold exitX
        rw [List.take_zero]
        simp only [optAll_nil, Nat.zero_le, if_true]
        exact hw
      | some q =>
        obtain ⟨f, d⟩ := q
        obtain ⟨d', e1, e2⟩ := hw
        show P (exitX 0 ⟨c, some (f, d)⟩ h)
        unfold exitX
        rw [List.take_zero]
        simp only [e1, optAll_nil, Nat.zero_le, if_true]
        exact e2
  | brk σ h => exact hw.elim
  | cont σ h => exact hw.elim
  | stuck => exact hw.elim
theorem cQ {sem : List D → Hv → R D} {ds : List D} {d : D} (e : sem ds [] = .ok d []) (hp : noCL ds = true) (h : Hv) : callQ sem ds h = .ok d h := by
  unfold callQ
  rw [if_pos hp, e]
theorem cQX {sem : List D → Hv → R D} {ds : List D} {x : Xn} (e : sem ds [] = .exc x []) (hp : noCL ds = true) (h : Hv) : callQ sem ds h = .exc x h := by
  unfold callQ
  rw [if_pos hp, e]
end
end VD
set_option Elab.async false
set_option linter.all false
set_option maxRecDepth 100000
set_option maxHeartbeats 4000000
namespace VD
open PySem PySem.Spec PyProof.Rows L2
noncomputable section
/-- what the clauses make of an error -/
def hdsR (tb : Str → Str → Option Bool) (i : Nat) : List (Str × (Xn → Addr → Addr → SS)) → Xn → VS → Hv → RS
  | [], x, σ, h => .exc x σ h
  | (y, den) :: r, x, σ, h => match tb x.cls y with
    | some true => tryA i x.pay (den x) σ h
    | some false => hdsR tb i r x σ h
    | none => .stuck
def sTryMs (tb : Str → Str → Option Bool) (i : Nat) (l : List (Str × (Xn → Addr → Addr → SS))) (body : SS) : SS := fun σ h => match body σ h with
  | .exc x σ' h' => hdsR tb i l x σ' h'
  | r => r
def Tm (Q : RS → Prop) (tb : Str → Str → Option Bool) (i : Nat) (l : List (Str × (Xn → Addr → Addr → SS))) (r : RS) : Prop := match r with
  | .exc x σ h => Wp Q (hdsR tb i l x σ h)
  | r => Wp Q r
section
variable {Q : RS → Prop} {tb : Str → Str → Option Bool} {y : Str} {i : Nat} {l : List (Str × (Xn → Addr → Addr → SS))} {suite : Xn → Addr → Addr → SS} {body : SS} {σ : VS} {h : Hv} {x : Xn} {d : D} {r : RS}
@[simp] theorem Wp_tryms : Wp Q (sTryMs tb i l body σ h) = Wp (Tm Q tb i l) (body σ h) := by
  unfold sTryMs
  cases body σ h <;> (rw [Wp.eq (Tm Q tb i l)]; rfl)
@[simp] theorem Wp_tm_next : Wp (Tm Q tb i l) (.next σ h) = Wp Q (.next σ h) := Wp.eq _ _
@[simp] theorem Wp_tm_ret : Wp (Tm Q tb i l) (.ret d h) = Wp Q (.ret d h) := Wp.eq _ _
@[simp] theorem Wp_tm_brk : Wp (Tm Q tb i l) (.brk σ h) = Wp Q (.brk σ h) := Wp.eq _ _
@[simp] theorem Wp_tm_cont : Wp (Tm Q tb i l) (.cont σ h) = Wp Q (.cont σ h) := Wp.eq _ _
@[simp] theorem Wp_tm_stuck : Wp (Tm Q tb i l) .stuck = Wp Q .stuck := Wp.eq _ _
@[simp] theorem Wp_tm_exc : Wp (Tm Q tb i l) (.exc x σ h) = Wp Q (hdsR tb i l x σ h) := Wp.eq _ _
@[simp] theorem hdsR_nil {x : Xn} : hdsR tb i [] x σ h = .exc x σ h := rfl
end
end
end VD
set_option Elab.async false
set_option linter.all false
set_option maxRecDepth 100000
set_option maxHeartbeats 4000000
namespace VD
open PySem PySem.Spec PyProof.Rows L2
noncomputable section
section
variable {prog : Program} {w : World} {A : Around} {E : Value → Shared → Prop} {s : Shared}
abbrev o0 (z : Bool) : Obj := { cls := .type "set", dict := none, data := .set #[] 0 (.fresh 0 0 z) }
end
end
end VD
set_option Elab.async false
set_option linter.all false
set_option maxRecDepth 100000
set_option maxHeartbeats 4000000
namespace VD
open PySem PySem.Spec PyProof.Rows L2
end VD
set_option Elab.async false
set_option linter.all false
set_option maxRecDepth 100000
set_option maxHeartbeats 4000000
namespace VD
open PySem PySem.Spec PyProof.Rows L2
noncomputable section
def mPop : D → List D → Hv → R D := fun x ds h => match x, ds with
  | .cell n, [] => (match h[n]? with
    | some (.lst xs) => (match xs[xs.length - 1]? with
      | some y => .ok y (h.set n (.lst xs.dropLast))
      | none => .stuck)
    | _ => .stuck)
  | _, _ => .stuck
theorem RpA.last {K : PySem.W.Frag} {φ : List Addr} {S : Hp} {vs : List V} {ds : List D} (r : RpA K φ S vs ds) : RpA K φ S vs.dropLast ds.dropLast := by
  rw [List.dropLast_eq_take, List.dropLast_eq_take, r.length]
  exact r.take _
theorem ms_pop {K : PySem.W.Frag} : MtS K rPop mPop := by
  intro φ S H h x v ds vs Q E rl rx ra post
  unfold mPop at post
  split at post
  · next n =>
    split at post
    · next xs hx =>
      split at post
      · next y hy =>
        obtain ⟨a, ws, rfl, hn, ho, rw_⟩ := rl.cell rx hx
        cases ra
        obtain ⟨u, h1, h2⟩ := rw_.at hy
        obtain ⟨r2, s2⟩ := rl.put hn (c := .lst xs.dropLast) (o := .lst ws.dropLast) ⟨_, rfl, rw_.last⟩ ho
        exact ⟨a, ws, u, rfl, rfl, ho, by rw [rw_.length]; exact h1, post _ φ S _ r2 s2 h2⟩
      · exact post.elim
    · exact post.elim
  · exact post.elim
def mClear : D → List D → Hv → R D := fun x ds h => match x, ds with
  | .cell n, [] => (match h[n]? with
    | some (.lst xs) => .ok .non (h.set n (.lst []))
    | _ => .stuck)
  | _, _ => .stuck
@[simp] theorem mPop_ap {n : Nat} {h : Hv} : mPop (.cell n) [] h = (match h[n]? with
  | some (.lst xs) => (match xs[xs.length - 1]? with
    | some y => .ok y (h.set n (.lst xs.dropLast))
    | none => .stuck)
  | _ => .stuck) := rfl
@[simp] theorem mClear_ap {n : Nat} {h : Hv} : mClear (.cell n) [] h = (match h[n]? with
  | some (.lst xs) => .ok .non (h.set n (.lst []))
  | _ => .stuck) := rfl
def Ri (P : R D → Prop) (n0 : Nat) (r : RS) : Prop := match r with
  | .ret d h => P (.ok d h)
  | .next _ h => P (.ok .non h)
  | .exc x _ h => P (exitX n0 x h)
  | _ => False
def Rm (P : R D → Prop) (n0 : Nat) (r : RS) : Prop := match r with
  | .ret d h => P (.ok d h)
  | .exc x _ h => P (exitX n0 x h)
  | _ => False
section
variable {P : R D → Prop} {n0 : Nat} {σ : VS} {h : Hv} {d : D} {x : Xn}
@[simp] theorem Wp_ri_ret : Wp (Ri P n0) (.ret d h) = P (.ok d h) := Wp.eq _ _
@[simp] theorem Wp_ri_next : Wp (Ri P n0) (.next σ h) = P (.ok .non h) := Wp.eq _ _
@[simp] theorem Wp_ri_exc : Wp (Ri P n0) (.exc x σ h) = P (exitX n0 x h) := Wp.eq _ _
@[simp] theorem Wp_ri_stuck : Wp (Ri P n0) .stuck = False := Wp.eq _ _
@[simp] theorem Wp_rm_ret : Wp (Rm P n0) (.ret d h) = P (.ok d h) := Wp.eq _ _
@[simp] theorem Wp_rm_exc : Wp (Rm P n0) (.exc x σ h) = P (exitX n0 x h) := Wp.eq _ _
@[simp] theorem Wp_rm_stuck : Wp (Rm P n0) .stuck = False := Wp.eq _ _
end
@[simp] theorem callM_ap {sem : List D → Hv → R D} {ds : List D} {h : Hv} : callM sem ds h = sem ds h := rfl
@[simp] theorem eMeth_ap {C m : Str} {sem' : List D → Hv → R D} {fa : ES} {la : LS} {σ : VS} {h : Hv} : eMeth C m sem' fa la σ h = (fa σ h).bind fun d h1 => (match fldsOf h1 C d with
  | some fs => if (fs.lookup m).isNone then ((la σ h1).bind fun ds h2 => sem' (d :: ds) h2) else .stuck
  | none => .stuck) := rfl
@[simp] theorem eFld_ap {C f : Str} {fa : ES} {σ : VS} {h : Hv} : eFld C f fa σ h = (fa σ h).bind fun d h1 => (match (fldsOf h1 C d).bind fun fs => fs.lookup f with
  | some x => .ok x h1
  | none => .stuck) := rfl
def kSF (C f : Str) (fa : ES) (σ : VS) (y : D) (h1 : Hv) : RS := (fa σ h1).then σ fun d h2 => (match d with
  | .cell n => (match h2[n]? with
    | some (.ins c fs) => if c = C ∧ fs.length < 1000 then .next σ (h2.set n (.ins c (putS f y fs))) else .stuck
    | _ => .stuck)
  | _ => .stuck)
@[simp] theorem sSetFld_ap {C f : Str} {fa fv : ES} {σ : VS} {h : Hv} : sSetFld C f fa fv σ h = (fv σ h).then σ (kSF C f fa σ) := rfl
@[simp] theorem kSF_ap {C f : Str} {fa : ES} {σ : VS} {y : D} {h1 : Hv} : kSF C f fa σ y h1 = (fa σ h1).then σ fun d h2 => (match d with
  | .cell n => (match h2[n]? with
    | some (.ins c fs) => if c = C ∧ fs.length < 1000 then RS.next σ (h2.set n (.ins c (putS f y fs))) else .stuck
    | _ => .stuck)
  | _ => .stuck) := rfl
@[simp] theorem fldsOf_cell {h : Hv} {C : Str} {n : Nat} : fldsOf h C (.cell n) = (match h[n]? with
  | some (.ins c fs) => if c = C then some fs else none
  | _ => none) := rfl
end
end VD
set_option Elab.async false
set_option linter.all false
set_option maxRecDepth 100000
set_option maxHeartbeats 4000000
namespace VD
open PySem PySem.Spec PyProof.Rows L2
end VD
set_option Elab.async false
set_option linter.all false
set_option maxRecDepth 100000
set_option maxHeartbeats 4000000
namespace VD
open PySem PySem.Spec PyProof.Rows L2
noncomputable section
def iZT (g : LS) : IS := fun σ h => (g σ h).bind fun ds h1 => match ds with
  | [.tup xs, .tup ys] => .ok (zipD xs ys, always) h1
  | _ => .stuck
@[simp] theorem iZT_ap {g : LS} {σ : VS} {h : Hv} : iZT g σ h = (g σ h).bind fun ds h1 => (match ds with
  | [.tup xs, .tup ys] => VD.R.ok (zipD xs ys, always) h1
  | _ => .stuck) := rfl
end
end VD
set_option Elab.async false
set_option linter.all false
set_option maxRecDepth 100000
set_option maxHeartbeats 4000000
namespace VD
open PySem PySem.Spec PyProof.Rows L2
noncomputable section
section
variable {K : PySem.W.Frag}
def bMin3 : List D → Hv → R D := fun ds h => match ds with
  | [.int i, .int j, .int k] => .ok (.int (if k < (if j < i then j else i) then k else (if j < i then j else i))) h
  | _ => .stuck
def bMax3 : List D → Hv → R D := fun ds h => match ds with
  | [.int i, .int j, .int k] => .ok (.int (if (if i < j then j else i) < k then k else (if i < j then j else i))) h
  | _ => .stuck
@[simp] theorem bMin3_int {i j k : Int} {h : Hv} : bMin3 [.int i, .int j, .int k] h = .ok (.int (if k < (if j < i then j else i) then k else (if j < i then j else i))) h := rfl
@[simp] theorem bMax3_int {i j k : Int} {h : Hv} : bMax3 [.int i, .int j, .int k] h = .ok (.int (if (if i < j then j else i) < k then k else (if i < j then j else i))) h := rfl
end
def insU (x : Int) : List Int → List Int
  | [] => [x]
  | y :: l => if x < y then x :: y :: l else if x = y then y :: l else y :: insU x l
def setI : List Int → List Int
  | [] => []
  | x :: l => insU x (setI l)
section
variable {X : Cx} {K : PySem.W.Frag}
def bSortSet : List D → Hv → R (List D) := fun ds h => match ds with
  | [d] => (match (lOf h d).bind (optAll toI) with
    | some ns => if ns.length < 4000 then .ok ((setI ns).map .int) h else .stuck
    | none => .stuck)
  | _ => .stuck
end
@[simp] theorem bSortSet_ints {ns : List Int} {h : Hv} (hl : ns.length < 4000) : bSortSet [.lst (ns.map .int)] h = .ok ((setI ns).map .int) h := by
  show (match (lOf h (.lst (ns.map .int))).bind (optAll toI) with
    | some ns => if ns.length < 4000 then R.ok ((setI ns).map D.int) h else .stuck
    | none => .stuck) = _
  simp [toI_map, hl]
def zsOf (h : Hv) : D → Option (List D × (Hv → Bool))
  | .lst xs => some (xs, always)
  | .fz xs => some (xs, always)
  | .cell n => match h[n]? with
    | some (.lst xs) => some (xs, isCell n xs)
    | _ => none
  | _ => none
@[simp] theorem zsOf_lst {h : Hv} {xs : List D} : zsOf h (.lst xs) = some (xs, always) := rfl
@[simp] theorem zsOf_fz {h : Hv} {xs : List D} : zsOf h (.fz xs) = some (xs, always) := rfl
@[simp] theorem zsOf_cell {h : Hv} {n : Nat} : zsOf h (.cell n) = (match h[n]? with
    | some (.lst xs) => some (xs, isCell n xs)
    | _ => none) := rfl
def iZG (g : LS) : IS := fun σ h => (g σ h).bind fun ds h1 => match ds with
  | [x, y] => (match zsOf h1 x, zsOf h1 y with
    | some (xs, c1), some (ys, c2) => if xs.length = ys.length then .ok (zipD xs ys, fun h => c1 h && c2 h) h1 else .stuck
    | _, _ => .stuck)
  | _ => .stuck
@[simp] theorem iZG_ap {l : LS} {σ : VS} {h : Hv} : iZG l σ h = (l σ h).bind fun ds h1 => (match ds with
  | [x, y] => (match zsOf h1 x, zsOf h1 y with
    | some (xs, c1), some (ys, c2) => if xs.length = ys.length then .ok (zipD xs ys, fun h => c1 h && c2 h) h1 else .stuck
    | _, _ => .stuck)
  | _ => .stuck) := rfl
end
end VD
set_option Elab.async false
set_option linter.all false
set_option maxRecDepth 100000
set_option maxHeartbeats 4000000
namespace VD
open PySem PySem.Spec PyProof.Rows L2
noncomputable section
/-- the world that the hashes of texts are of -/
class Wd where
  w : World
def nkOf : Nat → D → Option NestedKey
  | 0, _ => none
  | _ + 1, .non => some .none
  | _ + 1, .int i => some (.num i)
  | _ + 1, .str x => some (.text x)
  | n + 1, .tup ds => (optAll (nkOf n) ds).map .tup
  | _ + 1, _ => none
def tkOf : D → Option NestedKey
  | .tup ds => nkOf 8 (.tup ds)
  | _ => none
/-- the tuple at b is the key k -/
def NK (K : PySem.W.Frag) (H : Hp) (b : Addr) (k : NestedKey) : Prop := ∃ S, Ex S H ∧ Rp K [] S (.ref b) (nkD k)
theorem NK.up {K : PySem.W.Frag} {H H' : Hp} {b : Addr} {k : NestedKey} (n : NK K H b k) (e : Ex H H') : NK K H' b k := let ⟨S, a, r⟩ := n; ⟨S, a.trans e, r⟩
section
variable {X : Cx} {pins : List (Addr × Obj)} {σ : L2.St} {H S : Hp} {s : Shared}
mutual
theorem nk_is (I : Inv X pins σ H s) (ex : Ex S H) : ∀ (k : NestedKey) (v : V) (u : Value), Rp X.K [] S v (nkD k) → RelV v u → NestedIs s.heap k u
  | .none, v, u, r, q => by
    have r : Rp X.K [] S v .non := r
    cases r
    cases q
    exact .none
  | .num i, v, u, r, q => by
    have r : Rp X.K [] S v (.int i) := r
    cases r
    obtain ⟨t, rfl⟩ := q
    exact .int i t
  | .text x, v, u, r, q => by
    have r : Rp X.K [] S v (.str x) := r
    cases r
    obtain ⟨t, rfl⟩ := q
    exact .text x t
  | .tup ks, v, u, r, q => by
    have r : Rp X.K [] S v (.tup (nkDs ks)) := r
    cases r with
    | @tup a vs _ h1 h2 =>
      obtain ⟨its, r1, ⟨o, ho, hc, n, hd⟩, _⟩ := I.tuple (ex.sqt h1)
      cases (show u = Value.ref a from q)
      exact .tup ho hc hd (nks_is I ex ks vs its h2 r1)
theorem nks_is (I : Inv X pins σ H s) (ex : Ex S H) : ∀ (ks : List NestedKey) (vs : List V) (us : List Value), RpA X.K [] S vs (nkDs ks) → Vals vs us → NestedAll s.heap ks us
  | [], vs, us, r, q => by
    have r : RpA X.K [] S vs [] := r
    cases r
    cases q
    exact .nil
  | k :: ks, vs, us, r, q => by
    have r : RpA X.K [] S vs (nkD k :: nkDs ks) := r
    cases r with
    | cons r t =>
      cases q with
      | cons q1 q2 => exact .cons (nk_is I ex k _ _ r q1) (nks_is I ex ks _ _ t q2)
end
theorem NK.is (I : Inv X pins σ H s) {b : Addr} {k : NestedKey} (n : NK X.K H b k) (hd : k.depth ≤ 8) : (nestedKind X.prog X.w).is s.heap k b :=
  let ⟨_, ex, r⟩ := n; ⟨nk_is I ex k _ _ r rfl, hd⟩
end
abbrev Nx := List (NestedKey × Addr × V)
abbrev Pn : Nx → List (NestedKey × Addr × Value) → Prop := Paired fun p q => p.1 = q.1 ∧ p.2.1 = q.2.1 ∧ RelV p.2.2 q.2.2
def getX (xs : Nx) (k : NestedKey) : Option V := (xs.find? fun x => decide (x.1 = k)).map (·.2.2)
def repX (xs : Nx) (k : NestedKey) (v : V) : Nx := xs.map fun x => if x.1 = k then (x.1, x.2.1, v) else x
def putX (xs : Nx) (k : NestedKey) (b : Addr) (v : V) : Nx := if (getX xs k).isSome then repX xs k v else xs ++ [(k, b, v)]
def dropX (xs : Nx) (k : NestedKey) : Nx := xs.filter fun x => decide (x.1 ≠ k)
theorem getX_cons {x : NestedKey × Addr × V} {xs : Nx} {k : NestedKey} : getX (x :: xs) k = if x.1 = k then some x.2.2 else getX xs k := by
  unfold getX
  by_cases q : x.1 = k
  · rw [List.find?_cons_of_pos (by exact decide_eq_true q), if_pos q]; rfl
  · rw [List.find?_cons_of_neg (by exact fun z => q (of_decide_eq_true z)), if_neg q]
theorem Pn.get {xs : Nx} {ys : List (NestedKey × Addr × Value)} (r : Pn xs ys) (k : NestedKey) : RelO (getX xs k) ((atKey ys k).map (·.2)) := by
  induction r with
  | nil => exact trivial
  | @cons p q ps qs h t ih =>
    obtain ⟨h1, h2, h3⟩ := h
    rw [getX_cons]
    unfold atKey at ih ⊢
    by_cases e : p.1 = k
    · rw [if_pos e, List.find?_cons_of_pos (by exact decide_eq_true (h1 ▸ e))]
      exact h3
    · rw [if_neg e, List.find?_cons_of_neg (by exact fun z => e (h1.trans (of_decide_eq_true z)))]
      exact ih
theorem Pn.some {xs : Nx} {ys : List (NestedKey × Addr × Value)} (r : Pn xs ys) (k : NestedKey) : (getX xs k).isSome = (atKey ys k).isSome := by
  have := (r.get k).isSome_eq
  rw [Option.isSome_map] at this
  exact this
theorem Pn.len {xs : Nx} {ys : List (NestedKey × Addr × Value)} (r : Pn xs ys) : xs.length = ys.length := Paired.length r
theorem Pn.snoc {xs : Nx} {ys : List (NestedKey × Addr × Value)} (r : Pn xs ys) {k : NestedKey} {b : Addr} {v : V} {u : Value} (h : RelV v u) : Pn (xs ++ [(k, b, v)]) (ys ++ [(k, b, u)]) := by
  induction r with
  | nil => exact .cons ⟨rfl, rfl, h⟩ .nil
  | cons h0 _ ih => exact .cons h0 ih
theorem Pn.rep {xs : Nx} {ys : List (NestedKey × Addr × Value)} (r : Pn xs ys) (k : NestedKey) {v : V} {u : Value} (h : RelV v u) : Pn (repX xs k v) (ys.map (putAt k u)) := by
  induction r with
  | nil => exact .nil
  | @cons p q ps qs h0 _ ih =>
    obtain ⟨h1, h2, h3⟩ := h0
    unfold repX at ih ⊢
    rw [List.map_cons, List.map_cons]
    refine .cons ?_ ih
    unfold putAt
    by_cases e : p.1 = k
    · rw [if_pos e, if_pos (h1 ▸ e)]
      exact ⟨h1, h2, h⟩
    · rw [if_neg e, if_neg (fun z => e (h1.trans z))]
      exact ⟨h1, h2, h3⟩
theorem Pn.put {xs : Nx} {ys : List (NestedKey × Addr × Value)} (r : Pn xs ys) (k : NestedKey) {b : Addr} {v : V} {u : Value} (h : RelV v u) : Pn (putX xs k b v) (storedH ys k b u) := by
  unfold putX storedH
  rw [r.some k]
  split
  · exact r.rep k h
  · exact r.snoc h
theorem Pn.drop {xs : Nx} {ys : List (NestedKey × Addr × Value)} (r : Pn xs ys) (k : NestedKey) : Pn (dropX xs k) (withoutH ys k) := by
  unfold dropX withoutH
  induction r with
  | nil => exact .nil
  | @cons p q ps qs h0 _ ih =>
    obtain ⟨h1, h2, h3⟩ := h0
    by_cases e : p.1 = k
    · rw [List.filter_cons_of_neg (by simp [e]), List.filter_cons_of_neg (by simp [← h1, e])]
      exact ih
    · rw [List.filter_cons_of_pos (by simp [e]), List.filter_cons_of_pos (by simp [← h1, e])]
      exact .cons ⟨h1, h2, h3⟩ ih
abbrev Nd := List (NestedKey × D)
def getN (kd : Nd) (k : NestedKey) : Option D := (kd.find? fun p => decide (p.1 = k)).map (·.2)
def putN (kd : Nd) (k : NestedKey) (d : D) : Nd := if (getN kd k).isSome then kd.map (fun p => if p.1 = k then (p.1, d) else p) else kd ++ [(k, d)]
def dropN (kd : Nd) (k : NestedKey) : Nd := kd.filter fun p => decide (p.1 ≠ k)
@[simp] theorem getN_nil {k : NestedKey} : getN [] k = none := rfl
theorem getN_cons {j k : NestedKey} {d : D} {kd : Nd} : getN ((j, d) :: kd) k = if j = k then some d else getN kd k := by
  unfold getN
  by_cases q : j = k
  · rw [List.find?_cons_of_pos (by exact decide_eq_true q), if_pos q]; rfl
  · rw [List.find?_cons_of_neg (by exact fun z => q (of_decide_eq_true z)), if_neg q]
inductive RpN (K : PySem.W.Frag) (φ : List Addr) (S : Hp) : Nx → Nd → Prop where
  | nil : RpN K φ S [] []
  | cons {k : NestedKey} {b : Addr} {v : V} {d : D} {xs : Nx} {kd : Nd} : Rp K [] S (.ref b) (nkD k) → Rp K φ S v d → RpN K φ S xs kd → RpN K φ S ((k, b, v) :: xs) ((k, d) :: kd)
section
variable {K : PySem.W.Frag} {φ : List Addr} {S H : Hp} {h : Hv} {xs : Nx} {kd : Nd}
theorem RpN.of : ∀ {xs : Nx} {kd : Nd}, xs.map (·.1) = kd.map (·.1) → (∀ x ∈ xs, Rp K [] S (.ref x.2.1) (nkD x.1)) → RpA K φ S (xs.map (·.2.2)) (kd.map (·.2)) → RpN K φ S xs kd
  | [], [], _, _, _ => .nil
  | [], _ :: _, e, _, _ => nomatch e
  | _ :: _, [], e, _, _ => nomatch e
  | (k, b, v) :: xs, (j, d) :: kd, e, ks, r => by
    rw [List.map_cons, List.map_cons] at e r
    injection e with e1 e2
    have e1 : k = j := e1
    subst e1
    cases r with
    | cons r t => exact .cons (ks _ List.mem_cons_self) r (RpN.of e2 (fun x hx => ks x (List.mem_cons_of_mem _ hx)) t)
theorem RpN.to (r : RpN K φ S xs kd) : xs.map (·.1) = kd.map (·.1) ∧ (∀ x ∈ xs, Rp K [] S (.ref x.2.1) (nkD x.1)) ∧ RpA K φ S (xs.map (·.2.2)) (kd.map (·.2)) := by
  induction r with
  | nil => exact ⟨rfl, (fun x hx => by cases hx), .nil⟩
  | cons r0 r _ ih =>
    obtain ⟨a1, a2, a3⟩ := ih
    refine ⟨by rw [List.map_cons, List.map_cons, a1], fun x hx => ?_, .cons r a3⟩
    rcases List.mem_cons.mp hx with rfl | hx
    · exact r0
    · exact a2 x hx
theorem RpN.len (r : RpN K φ S xs kd) : xs.length = kd.length := by
  have := congrArg List.length r.to.1
  rw [List.length_map, List.length_map] at this
  exact this
theorem RpN.get (r : RpN K φ S xs kd) (k : NestedKey) : (getN kd k = none ∧ getX xs k = none) ∨ ∃ d v, getN kd k = some d ∧ getX xs k = some v ∧ Rp K φ S v d := by
  induction r with
  | nil => exact .inl ⟨rfl, rfl⟩
  | @cons j b v d xs kd r0 r _ ih =>
    rw [getN_cons, getX_cons]
    by_cases q : j = k
    · rw [if_pos q, if_pos q]
      exact .inr ⟨d, v, rfl, rfl, r⟩
    · rw [if_neg q, if_neg q]
      exact ih
theorem RpN.is (r : RpN K φ S xs kd) (k : NestedKey) : (getX xs k).isSome = (getN kd k).isSome := by
  rcases r.get k with ⟨g1, g2⟩ | ⟨d, v, g1, g2, _⟩
  · rw [g1, g2]; rfl
  · rw [g1, g2]; rfl
theorem RpN.put (r : RpN K φ S xs kd) (k : NestedKey) {b : Addr} {v : V} {d : D} (r0 : Rp K [] S (.ref b) (nkD k)) (rv : Rp K φ S v d) : RpN K φ S (putX xs k b v) (putN kd k d) := by
  unfold putX putN
  rw [r.is k]
  by_cases z : (getN kd k).isSome = true
  · rw [if_pos z, if_pos z]
    clear r0 z
    unfold repX
    induction r with
    | nil => exact .nil
    | @cons j c w e xs kd r0 r _ ih =>
      rw [List.map_cons, List.map_cons]
      by_cases q : j = k
      · rw [if_pos q, if_pos q]
        exact .cons r0 rv ih
      · rw [if_neg q, if_neg q]
        exact .cons r0 r ih
  · rw [if_neg z, if_neg z]
    clear z
    induction r with
    | nil => exact .cons r0 rv .nil
    | cons r1 r _ ih => exact .cons r1 r ih
theorem RpN.drop (r : RpN K φ S xs kd) (k : NestedKey) : RpN K φ S (dropX xs k) (dropN kd k) := by
  unfold dropX dropN
  induction r with
  | nil => exact .nil
  | @cons j c w e xs kd r0 r _ ih =>
    by_cases q : j = k
    · rw [List.filter_cons_of_neg (by simp [q]), List.filter_cons_of_neg (by simp [q])]
      exact ih
    · rw [List.filter_cons_of_pos (by simp [q]), List.filter_cons_of_pos (by simp [q])]
      exact .cons r0 r ih
/-- a dict to be read -/
def kvN [Wd] (h : Hv) : D → Option Nd
  | .cell n => match h[n]? with
    | some (.dN w kd) => @ite _ (w = Wd.w) (Classical.propDecidable _) (some kd) none
    | _ => none
  | _ => none
def oNin [Wd] : D → D → Hv → R D := fun y x h => match kvN h x, tkOf y with
  | some kd, some k => .ok (.bl (getN kd k).isSome) h
  | _, _ => .stuck
def oNnin [Wd] : D → D → Hv → R D := fun y x h => match kvN h x, tkOf y with
  | some kd, some k => .ok (.bl (!(getN kd k).isSome)) h
  | _, _ => .stuck
end
section
variable {X : Cx} {W : WX} {o i value : Expr} {fo fi fv : ES} {pos pos' apos cpos : Pos}
/-- d[i] = v -/
def kNp3 [Wd] (d x y : D) (σ : VS) (h : Hv) : RS := match x, tkOf y with
  | .cell n, some k => (match h[n]? with
    | some (.dN w kd) => @ite _ (w = Wd.w ∧ kd.length < 16777216) (Classical.propDecidable _) (.next σ (h.set n (.dN w (putN kd k d)))) .stuck
    | _ => .stuck)
  | _, _ => .stuck
def kNp2 [Wd] (fi : ES) (σ : VS) (d x : D) (h : Hv) : RS := (fi σ h).then σ fun y h3 => kNp3 d x y σ h3
def kNp1 [Wd] (fo fi : ES) (σ : VS) (d : D) (h : Hv) : RS := (fo σ h).then σ (kNp2 fi σ d)
def sNput [Wd] (fv fo fi : ES) : SS := fun σ h => (fv σ h).then σ (kNp1 fo fi σ)
/-- {} -/
def eNnew [Wd] : ES := fun _ h => .ok (.cell h.length) (h ++ [.dN Wd.w []])
/-- {k: v} -/
def kNd2 [Wd] (y d : D) (h : Hv) : R D := match tkOf y with
  | some k => .ok (.cell h.length) (h ++ [.dN Wd.w [(k, d)]])
  | none => .stuck
def kNd1 [Wd] (fv : ES) (σ : VS) (y : D) (h : Hv) : R D := (fv σ h).bind (kNd2 y)
def eNdisp [Wd] (fi fv : ES) : ES := fun σ h => (fi σ h).bind (kNd1 fv σ)
def kNq2 [Wd] (x y : D) (h : Hv) : R D := match kvN h x, x, tkOf y with
  | some kd, .cell n, some k => (match getN kd k with
    | some d => .ok d (h.set n (.dN Wd.w (dropN kd k)))
    | none => .stuck)
  | _, _, _ => .stuck
def kNq1 [Wd] (fi : ES) (σ : VS) (x : D) (h : Hv) : R D := match kvN h x with
  | some _ => (fi σ h).bind (kNq2 x)
  | none => .stuck
def eNpop [Wd] (fo fi : ES) : ES := fun σ h => (fo σ h).bind (kNq1 fi σ)
end
section
variable [Wd] {σ : VS} {h : Hv} {f g k : ES} {d x y : D}
@[simp] theorem kvN_cell {n : Nat} : kvN h (.cell n) = (match h[n]? with
    | some (.dN w kd) => @ite _ (w = Wd.w) (Classical.propDecidable _) (some kd) none
    | _ => none) := rfl
@[simp] theorem oNin_ap : oNin y x h = (match kvN h x, tkOf y with
  | some kd, some k => .ok (.bl (getN kd k).isSome) h
  | _, _ => .stuck) := rfl
@[simp] theorem oNnin_ap : oNnin y x h = (match kvN h x, tkOf y with
  | some kd, some k => .ok (.bl (!(getN kd k).isSome)) h
  | _, _ => .stuck) := rfl
@[simp] theorem sNput_ap : sNput f g k σ h = (f σ h).then σ (kNp1 g k σ) := rfl
@[simp] theorem kNp1_ap : kNp1 g k σ d h = (g σ h).then σ (kNp2 k σ d) := rfl
@[simp] theorem kNp2_ap : kNp2 k σ d x h = (k σ h).then σ fun y h3 => kNp3 d x y σ h3 := rfl
@[simp] theorem kNp3_ap {n : Nat} : kNp3 d (.cell n) y σ h = (match tkOf y with
  | some k => (match h[n]? with
    | some (.dN w kd) => @ite _ (w = Wd.w ∧ kd.length < 16777216) (Classical.propDecidable _) (.next σ (h.set n (.dN w (putN kd k d)))) .stuck
    | _ => .stuck)
  | none => .stuck) := by
  unfold kNp3
  cases tkOf y <;> rfl
@[simp] theorem eNnew_ap : eNnew σ h = .ok (.cell h.length) (h ++ [.dN Wd.w []]) := rfl
@[simp] theorem eNdisp_ap : eNdisp f g σ h = (f σ h).bind (kNd1 g σ) := rfl
@[simp] theorem kNd1_ap : kNd1 g σ y h = (g σ h).bind (kNd2 y) := rfl
@[simp] theorem kNd2_ap : kNd2 y d h = (match tkOf y with
  | some k => .ok (.cell h.length) (h ++ [.dN Wd.w [(k, d)]])
  | none => .stuck) := rfl
@[simp] theorem eNpop_ap : eNpop f g σ h = (f σ h).bind (kNq1 g σ) := rfl
@[simp] theorem kNq1_ap : kNq1 g σ x h = (match kvN h x with
  | some _ => (g σ h).bind (kNq2 x)
  | none => .stuck) := rfl
end
end
end VD
set_option Elab.async false
set_option linter.all false
set_option maxRecDepth 100000
set_option maxHeartbeats 4000000
namespace VD
open PySem PySem.Spec PyProof.Rows L2
open PySem.SeqAt (RcLt EqAt firstLt firstLt_yes firstLt_no)
open PySem.W (KatTups KatLex kat_nil kat_cons kat_yes kat_no kat_lt kat_kind kas_kind)
noncomputable section
inductive At where
  | i (n : Int) | t (x : Str)
  deriving DecidableEq
/-- a place of a rank: (0, value), or (1, 0) for what lacks -/
abbrev RkE := Option At
inductive SK where
  | one (a : At) | rk (r : List RkE) | pr (r u : List RkE) | tp (e : RkE)
  deriving DecidableEq
abbrev It := Int ⊕ List Nat
def At.p : At → PyData
  | .i n => .int n
  | .t x => .str x
def rkeP : RkE → PyData
  | none => .tuple [.int 1, .int 0]
  | some a => .tuple [.int 0, a.p]
def rkP (r : List RkE) : PyData := .list (r.map rkeP)
def SK.p : SK → PyData
  | .one a => a.p
  | .rk r => rkP r
  | .pr r u => .tuple [rkP r, rkP u]
  | .tp e => rkeP e
def At.k : At → It
  | .i n => .inl n
  | .t x => .inr x.cps.toList
def rkeT : RkE → List It
  | none => [.inl 1]
  | some a => [.inl 0, a.k]
def rkT : List RkE → List It
  | [] => []
  | e :: r => rkeT e ++ rkT r
def SK.k : SK → List It
  | .one a => [a.k]
  | .rk r => rkT r
  | .pr r u => rkT r ++ .inl (-1) :: rkT u
  | .tp e => rkeT e
theorem At.plain (a : At) : a.p.plain = true := by cases a <;> rfl
theorem rke_plain (e : RkE) : (rkeP e).plain = true := by
  cases e with
  | none => rfl
  | some a => cases a <;> rfl
theorem rkes_plain : ∀ r : List RkE, PyData.plainAll (r.map rkeP) = true
  | [] => rfl
  | e :: r => by
    rw [List.map_cons]
    show ((rkeP e).plain && PyData.plainAll (r.map rkeP)) = true
    rw [rke_plain, rkes_plain r]; rfl
theorem rk_plain (r : List RkE) : (rkP r).plain = true := rkes_plain r
theorem SK.plain (k : SK) : k.p.plain = true := by
  cases k with
  | one a => exact a.plain
  | rk r => exact rk_plain r
  | pr r u =>
    show ((rkP r).plain && ((rkP u).plain && true)) = true
    rw [rk_plain, rk_plain]; rfl
  | tp e => exact rke_plain e
theorem rke_depth (e : RkE) : (rkeP e).depth ≤ 1 := by
  cases e with
  | none => decide
  | some a => cases a <;> (simp [rkeP, At.p, PyData.depth, PyData.depthAll])
theorem rkes_depth : ∀ r : List RkE, PyData.depthAll (r.map rkeP) ≤ 1
  | [] => Nat.zero_le _
  | e :: r => by
    rw [List.map_cons]
    show max (rkeP e).depth (PyData.depthAll (r.map rkeP)) ≤ 1
    have := rke_depth e
    have := rkes_depth r
    omega
theorem rk_depth (r : List RkE) : (rkP r).depth ≤ 2 := by
  show PyData.depthAll (r.map rkeP) + 1 ≤ 2
  have := rkes_depth r
  omega
theorem SK.depth (k : SK) : k.p.depth ≤ 3 := by
  cases k with
  | one a => cases a <;> exact Nat.zero_le _
  | rk r => exact Nat.le_trans (rk_depth r) (by decide)
  | pr r u =>
    show max (rkP r).depth (max (rkP u).depth 0) + 1 ≤ 3
    have := rk_depth r
    have := rk_depth u
    omega
  | tp e => exact Nat.le_trans (rke_depth e) (by decide)
section
variable {A : Around} {s : Shared}
theorem eq_plain {x y : PyData} {u v : Value} {as bs : List Addr} {r : Bool} (ra : Reads s.heap u x as) (rb : Reads s.heap v y bs) (px : x.plain = true) (py : y.plain = true) (hu : A.units + x.depth < cLine) (e : PyData.eqv x y = r) : EqAt A s u v r := by
  subst e
  exact PySem.SeqAt.eqAt_plain x y A s u v as bs ra rb px py (by have := Nat.min_le_left x.depth y.depth; omega)
variable {prog : Program} {w : World} {E : Value → Shared → Prop}
/-- the keys of some kinds, in a heap -/
def skKind (h : Heap) (ks : List SK) : PyProof.Rows.KeyKind where
  toKeyOrd := listOrd itemOrd
  keyOf v := open Classical in if q : ∃ k, k ∈ ks ∧ ∃ as, Reads h v k.p as then some q.choose.k else none
  dflt := ([] : List It)
end
end
end VD
set_option Elab.async false
set_option linter.all false
set_option maxRecDepth 100000
set_option maxHeartbeats 4000000
namespace VD
open PySem PySem.Spec PyProof.Rows L2
open PySem.W (EachIs KeepsBut keyH_end sortVals sortVals_each sortVals_length sortLe)
noncomputable section
def At.d : At → D
  | .i n => .int n
  | .t x => .str x
def rkeD : RkE → D
  | none => .tup [.int 1, .int 0]
  | some a => .tup [.int 0, a.d]
def rkD (r : List RkE) : D := .lst (r.map rkeD)
def SK.d : SK → D
  | .one a => a.d
  | .rk r => rkD r
  | .pr r u => .tup [rkD r, rkD u]
  | .tp e => rkeD e
def RK (K : PySem.W.Frag) (H : Hp) (x : V) (k : SK) : Prop := ∃ S, Ex S H ∧ Rp K [] S x k.d
theorem RK.up {K : PySem.W.Frag} {H H' : Hp} {x : V} {k : SK} (r : RK K H x k) (e : Ex H H') : RK K H' x k := let ⟨S, a, b⟩ := r; ⟨S, a.trans e, b⟩
section
variable {X : Cx} {pins : List (Addr × Obj)} {σ : L2.St} {H S : Hp} {s : Shared}
theorem at_reads {K : PySem.W.Frag} {a : At} {x : V} {u : Value} {h : Heap} (r : Rp K [] S x a.d) (q : RelV x u) : Reads h u a.p [] := by
  cases a with
  | i n =>
    have r : Rp K [] S x (.int n) := r
    cases r
    obtain ⟨t, rfl⟩ := q
    exact .int n t
  | t y =>
    have r : Rp K [] S x (.str y) := r
    cases r
    obtain ⟨t, rfl⟩ := q
    exact .str y t
theorem two_reads (I : Inv X pins σ H s) (ex : Ex S H) {d0 d1 : D} {p0 p1 : PyData} {x : V} {u : Value} (r : Rp X.K [] S x (.tup [d0, d1])) (q : RelV x u)
    (h0 : ∀ (x : V) (u : Value), Rp X.K [] S x d0 → RelV x u → ∃ as, Reads s.heap u p0 as) (h1 : ∀ (x : V) (u : Value), Rp X.K [] S x d1 → RelV x u → ∃ as, Reads s.heap u p1 as) : ∃ as, Reads s.heap u (.tuple [p0, p1]) as := by
  cases r with
  | @tup a vs _ g ra =>
    obtain ⟨its, rv, ⟨o, ho, hc, n, hd⟩, _⟩ := I.tuple (ex.sqt g)
    cases (show u = Value.ref a from q)
    cases ra with
    | cons r0 ra =>
      cases ra with
      | cons r1 ra =>
        cases ra
        cases rv with
        | cons v0 rv =>
          cases rv with
          | cons v1 rv =>
            cases rv
            obtain ⟨as, a0⟩ := h0 _ _ r0 v0
            obtain ⟨bs, a1⟩ := h1 _ _ r1 v1
            exact ⟨_, .tuple ho hc hd (.cons a0 (.cons a1 .nil))⟩
theorem rke_reads (I : Inv X pins σ H s) (ex : Ex S H) {e : RkE} {x : V} {u : Value} (r : Rp X.K [] S x (rkeD e)) (q : RelV x u) : ∃ as, Reads s.heap u (rkeP e) as := by
  cases e with
  | none => exact two_reads I ex r q (fun x u r q => ⟨_, at_reads (a := .i 1) r q⟩) (fun x u r q => ⟨_, at_reads (a := .i 0) r q⟩)
  | some a => exact two_reads I ex r q (fun x u r q => ⟨_, at_reads (a := .i 0) r q⟩) (fun x u r q => ⟨_, at_reads r q⟩)
theorem rkes_reads (I : Inv X pins σ H s) (ex : Ex S H) : ∀ {r : List RkE} {xs : List V} {us : List Value}, RpA X.K [] S xs (r.map rkeD) → Vals xs us → ∃ as, ReadsAll s.heap us (r.map rkeP) as
  | [], xs, us, ra, q => by
    cases ra
    cases q
    exact ⟨_, .nil⟩
  | e :: r, xs, us, ra, q => by
    rw [List.map_cons] at ra
    cases ra with
    | cons r0 ra =>
      cases q with
      | cons q0 q =>
        obtain ⟨as, a0⟩ := rke_reads I ex r0 q0
        obtain ⟨bs, a1⟩ := rkes_reads I ex ra q
        exact ⟨_, .cons a0 a1⟩
theorem rk_reads (I : Inv X pins σ H s) (ex : Ex S H) {r : List RkE} {x : V} {u : Value} (ra : Rp X.K [] S x (rkD r)) (q : RelV x u) : ∃ as, Reads s.heap u (rkP r) as := by
  have ra : Rp X.K [] S x (.lst (r.map rkeD)) := ra
  cases ra with
  | @lst a vs _ g ra =>
    obtain ⟨_, its, n, rv, e⟩ := I.hok a _ (ex a _ g)
    cases (show u = Value.ref a from q)
    obtain ⟨as, h⟩ := rkes_reads I ex ra rv
    exact ⟨_, .list e rfl rfl h⟩
theorem RK.reads (I : Inv X pins σ H s) {x : V} {k : SK} {u : Value} (r : RK X.K H x k) (q : RelV x u) : ∃ as, Reads s.heap u k.p as := by
  obtain ⟨S, ex, r⟩ := r
  cases k with
  | one a => exact ⟨_, at_reads r q⟩
  | rk r' => exact rk_reads I ex r q
  | pr r' u' => exact two_reads I ex r q (fun x u r q => rk_reads I ex r q) (fun x u r q => rk_reads I ex r q)
  | tp e => exact rke_reads I ex r q
end
/-- the values in order, as the keys tell -/
def SkOut (b : Bool) (ks : List SK) (vs out : List Value) : Prop := ∃ h us, out = sortVals (skKind h ks) b us vs ∧ EachIs (fun v (k : SK) => ∃ as, Reads h v k.p as) us ks
theorem SkOut.len {b : Bool} {ks : List SK} {vs out : List Value} (o : SkOut b ks vs out) (hl : ks.length = vs.length) : out.length = vs.length := by
  obtain ⟨h, us, rfl, e⟩ := o
  exact sortVals_length b (e.length.trans hl)
end
end VD
set_option Elab.async false
set_option linter.all false
set_option maxRecDepth 100000
set_option maxHeartbeats 4000000
namespace VD
open PySem PySem.Spec PyProof.Rows L2
open PySem.W (EachIs KeepsBut)
end VD
set_option Elab.async false
set_option linter.all false
set_option maxRecDepth 100000
set_option maxHeartbeats 4000000
namespace VD
open PySem PySem.Spec PyProof.Rows L2
open PySem.W (EachIs KeepsBut sort_each)
noncomputable section
def lkH (g : VS → Hv → Option Nat) (σ : VS) (h : Hv) : Hv := match g σ h with
  | some n => (match h[n]? with
    | some (.dK kd) => h.set n (.dF kd)
    | _ => h)
  | none => h
def sLk (g : VS → Hv → Option Nat) (s : SS) : SS := fun σ h => s σ (lkH g σ h)
@[simp] theorem sLk_ap {g : VS → Hv → Option Nat} {s : SS} {σ : VS} {h : Hv} : sLk g s σ h = s σ (lkH g σ h) := rfl
end
end VD
set_option Elab.async false
set_option linter.all false
set_option maxRecDepth 100000
set_option maxHeartbeats 4000000
namespace VD
open PySem PySem.Spec PyProof.Rows L2
open PySem.W (minD maxD dataLt AlikeAll min_list_default max_list_default)
noncomputable section
inductive Ats where
  | ni (ns : List Int) | nt (xs : List Str)
def Ats.py : Ats → List PyData
  | .ni ns => ns.map .int
  | .nt xs => xs.map .str
def iOr (c : VS → Hv → Bool) (i1 i2 : IS) : IS := fun σ h => if c σ h = true then i1 σ h else i2 σ h
@[simp] theorem iOr_ap {c : VS → Hv → Bool} {i1 i2 : IS} {σ : VS} {h : Hv} : iOr c i1 i2 σ h = if c σ h = true then i1 σ h else i2 σ h := rfl
end
end VD
set_option Elab.async false
set_option linter.all false
set_option maxRecDepth 100000
set_option maxHeartbeats 4000000
namespace VD
open PySem PySem.Spec PyProof.Rows L2
end VD
set_option Elab.async false
set_option linter.all false
set_option maxRecDepth 100000
set_option maxHeartbeats 4000000
namespace VD
open PySem PySem.Spec PyProof.Rows L2
noncomputable section
section
variable {X : Cx} {W : WX} {e : Expr} {fe : ES} {st : Stmt} {s1 : SS}
def unlS (n : Nat) : RS → RS
  | .next σ h => (match h[n]? with
    | some (.dF kd) => .next σ (h.set n (.dK kd))
    | _ => .stuck)
  | .ret d h => (match h[n]? with
    | some (.dF kd) => .ret d (h.set n (.dK kd))
    | _ => .stuck)
  | .exc x σ h => .exc x σ h
  | _ => .stuck
/-- a statement behind a lock, that is taken off again -/
def sLkU (g : VS → Hv → Option Nat) (s : SS) : SS := fun σ h => match g σ h with
  | some n => (match h[n]? with
    | some (.dK kd) => unlS n (s σ (h.set n (.dF kd)))
    | _ => .stuck)
  | none => .stuck
end
@[simp] theorem sLkU_ap {g : VS → Hv → Option Nat} {s : SS} {σ : VS} {h : Hv} : sLkU g s σ h = match g σ h with
  | some n => (match h[n]? with
    | some (.dK kd) => unlS n (s σ (h.set n (.dF kd)))
    | _ => .stuck)
  | none => .stuck := rfl
end
end VD
set_option Elab.async false
set_option linter.all false
set_option maxRecDepth 100000
set_option maxHeartbeats 4000000
namespace VD
open PySem PySem.Spec PyProof.Rows L2
noncomputable section
section
variable {X : Cx} {W : WX} {o i j : Expr} {td ty tz : TE} {fo fi fj : ES} {apos cpos : Pos}
def kNr3 [Wd] (x y z : D) (h : Hv) : R D := match kvN h x, x, tkOf y with
  | some kd, .cell n, some k => (match getN kd k with
    | some d => .ok d (h.set n (.dN Wd.w (dropN kd k)))
    | none => .ok z h)
  | _, _, _ => .stuck
def kNr2 [Wd] (fj : ES) (σ : VS) (x y : D) (h : Hv) : R D := (fj σ h).bind (kNr3 x y)
def kNr1 [Wd] (fi fj : ES) (σ : VS) (x : D) (h : Hv) : R D := match kvN h x with
  | some _ => (fi σ h).bind (kNr2 fj σ x)
  | none => .stuck
def eNpopD [Wd] (fo fi fj : ES) : ES := fun σ h => (fo σ h).bind (kNr1 fi fj σ)
end
section
variable [Wd] {σ : VS} {h : Hv} {f g k : ES} {d x y : D}
@[simp] theorem eNpopD_ap : eNpopD f g k σ h = (f σ h).bind (kNr1 g k σ) := rfl
@[simp] theorem kNr1_ap : kNr1 g k σ x h = (match kvN h x with
  | some _ => (g σ h).bind (kNr2 k σ x)
  | none => .stuck) := rfl
@[simp] theorem kNr2_ap : kNr2 k σ x y h = (k σ h).bind (kNr3 x y) := rfl
end
end
end VD
set_option Elab.async false
set_option linter.all false
set_option maxRecDepth 100000
set_option maxHeartbeats 4000000
namespace VD
open PySem PySem.Spec PyProof.Rows L2
open PySem.W (EachIs)
noncomputable section
def kyOf : Value → Key
  | .int k _ => .inl k
  | .str x _ => .inr x
  | _ => .inl 0
def kyE (e : Int × Value) : Key := kyOf e.2
def GoodM (w : World) (e : Int × Value) : Prop := ∃ k, keyIs k e.2 = true ∧ e.1 = keyH w k
/-- the set of keys at a; its table rises and can be walked -/
def SetW (w : World) (h : Heap) (a : Addr) (ks : List Key) : Prop :=
  ∃ o es ep t, h.get? a = some o ∧ o.ExactSet ∧ o.data = .set es ep t ∧ (∀ e ∈ es.toList, GoodM w e) ∧ (es.toList.map kyE).Nodup ∧ (∀ k, k ∈ ks ↔ k ∈ es.toList.map kyE) ∧
    es.size < scanBound ∧ t.fits es.size = true ∧ es.size ≤ ks.length ∧ Ris t.place.toList ∧ (w.params.followText "set-order" = true ∨ t.led = true)
section
variable {P : Program} {w : World} {h h' : Heap} {a : Addr} {ks : List Key}
theorem SetW.at (R : SetW w h a ks) (k : ∀ o, h.get? a = some o → h'.get? a = some o) : SetW w h' a ks := by
  obtain ⟨o, es, ep, t, ho, r⟩ := R
  exact ⟨o, es, ep, t, k o ho, r⟩
end
end
end VD
set_option Elab.async false
set_option linter.all false
set_option maxRecDepth 100000
set_option maxHeartbeats 4000000
namespace VD
open PySem PySem.Spec PyProof.Rows L2
end VD
set_option Elab.async false
set_option linter.all false
set_option maxRecDepth 100000
set_option maxHeartbeats 4000000
namespace VD
open PySem PySem.Spec PyProof.Rows L2
noncomputable section
def bStrN : List D → Hv → R D := fun ds h => match ds with
  | [.non] => .ok (.str "None") h
  | ds => bStrA ds h
@[simp] theorem bStrN_non {h : Hv} : bStrN [.non] h = .ok (.str "None") h := rfl
@[simp] theorem bStrN_str {a : Str} {h : Hv} : bStrN [.str a] h = .ok (.str a) h := rfl
end
end VD
set_option Elab.async false
set_option linter.all false
set_option maxRecDepth 100000
set_option maxHeartbeats 4000000
namespace VD
open PySem PySem.Spec PyProof.Rows L2
open PySem.W (EachIs KeepsBut sort_each)
end VD
set_option Elab.async false
set_option linter.all false
set_option maxRecDepth 100000
set_option maxHeartbeats 4000000
namespace VD
open PySem PySem.Spec PyProof.Rows L2
end VD
set_option Elab.async false
set_option linter.all false
set_option maxRecDepth 100000
set_option maxHeartbeats 4000000
namespace VD
open PySem PySem.Spec PyProof.Rows L2
end VD
set_option Elab.async false
set_option linter.all false
set_option maxRecDepth 100000
set_option maxHeartbeats 4000000
namespace VD
open PySem PySem.Spec PyProof.Rows L2
end VD
set_option Elab.async false
set_option linter.all false
set_option maxRecDepth 100000
set_option maxHeartbeats 4000000
namespace VD
open PySem PySem.Spec PyProof.Rows L2
end VD
set_option Elab.async false
set_option linter.all false
set_option maxRecDepth 100000
set_option maxHeartbeats 4000000
namespace VD
open PySem PySem.Spec PyProof.Rows L2
noncomputable section
def dfnT (tn : List Str) : List He.Defn := tn.map fun x => (x, none)
def ndA : List Addr → Bool
  | [] => true
  | a :: l => !(l.any fun b => a == b) && ndA l
theorem ndA_ok : ∀ {l : List Addr}, ndA l = true → l.Nodup
  | [], _ => List.nodup_nil
  | a :: l, h => by
    have h' : (!(l.any fun b => a == b) && ndA l) = true := h
    rw [Bool.and_eq_true] at h'
    refine List.nodup_cons.mpr ⟨fun m => ?_, ndA_ok h'.2⟩
    have : (l.any fun b => a == b) = true := List.any_eq_true.mpr ⟨a, m, beq_self_eq_true a⟩
    rw [this] at h'
    cases h'.1
/-- what is told of the tables -/
structure SaysL (tn : List Str) (h : Heap) (K : PySem.W.Frag) : Prop where
  hd : ∀ x ∈ tn, PySem.W.codeHdIn K (He.cT K (x, none)).1 (He.cT K (x, none)).2 = true
  out : ∀ x ∈ tn, K.lookup (He.cT K (x, none)).2 = none
  empty : ∀ x ∈ tn, h.get? (He.cT K (x, none)).2 = some { cls := .none, data := .fields #[] }
  nd : (tn.map (tabA K)).Nodup
def obsL (n : Nat) (fa : List He.Fa) (fn : List He.DefD) (ef : List Ef) (tn : List Str) (g : Addr → Option Obj) : He.AlD × Bool := (He.obsD fa fn (He.frT g (cStatics :: asF g n)), (ef.all fun f => f.ok (He.frT g (cStatics :: asF g n))) && (He.tabsB g (dfnT tn) (He.frT g (cStatics :: asF g n)) && ndA (tn.map (tabA (He.frT g (cStatics :: asF g n))))))
theorem saysL_of {tn : List Str} {h : Heap} {as : List Addr} (e : (He.tabsB h.get? (dfnT tn) (He.frT h.get? as) && ndA (tn.map (tabA (He.frT h.get? as)))) = true) : SaysL tn h (He.frT h.get? as) := by
  rw [Bool.and_eq_true] at e
  obtain ⟨e1, e2⟩ := e
  have key : ∀ x ∈ tn, PySem.W.codeHdIn (He.frT h.get? as) (He.cT (He.frT h.get? as) (x, none)).1 (He.cT (He.frT h.get? as) (x, none)).2 = true ∧ ∃ o, h.get? (He.cT (He.frT h.get? as) (x, none)).2 = some o ∧ He.emptyTab o = true := fun x hx => by
    have h0 := List.all_eq_true.mp e1 (x, none) (List.mem_map.mpr ⟨x, hx, rfl⟩)
    rw [Bool.and_eq_true] at h0
    obtain ⟨h3, h4⟩ := h0
    refine ⟨h3, ?_⟩
    cases q : h.get? (He.cT (He.frT h.get? as) (x, none)).2 with
    | none => rw [q] at h4; cases h4
    | some o => rw [q] at h4; exact ⟨o, rfl, h4⟩
  exact ⟨fun x hx => (key x hx).1, fun x hx => by
    obtain ⟨_, o, q, z⟩ := key x hx
    exact He.frT_none q z, fun x hx => by
    obtain ⟨_, o, q, z⟩ := key x hx
    rw [q, He.emptyTab_eq z], ndA_ok e2⟩
end
end VD
set_option Elab.async false
set_option linter.all false
set_option maxRecDepth 100000
set_option maxHeartbeats 4000000
namespace VD
open PySem PySem.Spec PyProof.Rows L2
noncomputable section
def iRv (f : ES) : IS := fun σ h => (f σ h).bind fun d h1 => match d with
  | .lst ds => .ok (ds.reverse, always) h1
  | .fz ds => .ok (ds.reverse, always) h1
  | _ => .stuck
section
variable {σ : VS} {h : Hv} {f : ES}
@[simp] theorem iRv_ap : iRv f σ h = (f σ h).bind fun d h1 => match d with
  | .lst ds => .ok (ds.reverse, always) h1
  | .fz ds => .ok (ds.reverse, always) h1
  | _ => .stuck := rfl
end
end
end VD
set_option Elab.async false
set_option linter.all false
set_option maxRecDepth 100000
set_option maxHeartbeats 4000000
namespace VD
open PySem PySem.Spec PyProof.Rows L2
open PySem.W (EachIs KeepsBut sort_each)
end VD
set_option Elab.async false
set_option linter.all false
set_option maxRecDepth 100000
set_option maxHeartbeats 4000000
namespace VD
open PySem PySem.Spec PyProof.Rows L2
open PySem.W (EachIs KeepsBut sort_each)
end VD
set_option Elab.async false
set_option linter.all false
set_option maxRecDepth 100000
set_option maxHeartbeats 4000000
namespace VD
open PySem PySem.Spec PyProof.Rows L2
noncomputable section
def firstP (d : PyData) : List PyData → Option Nat
  | [] => none
  | z :: zs => if PyData.eqv z d = true then some 0 else (firstP d zs).map (· + 1)
def mIndexP : D → List D → Hv → R D := fun x ds h => match ds with
  | [y] => (match toPy h 12 y, toPy h 12 x with
    | some d, some (.list zs) => (match firstP d zs with
      | some j => .ok (.int (j : Nat)) h
      | none => .stuck)
    | _, _ => .stuck)
  | _ => .stuck
@[simp] theorem mIndexP_ap {x y : D} {h : Hv} : mIndexP x [y] h = (match toPy h 12 y, toPy h 12 x with
    | some d, some (.list zs) => (match firstP d zs with
      | some j => .ok (.int (j : Nat)) h
      | none => .stuck)
    | _, _ => .stuck) := rfl
end
end VD
set_option Elab.async false
set_option linter.all false
set_option maxRecDepth 100000
set_option maxHeartbeats 4000000
namespace VD
open PySem PySem.Spec PyProof.Rows L2
end VD
set_option Elab.async false
set_option linter.all false
set_option maxRecDepth 100000
set_option maxHeartbeats 4000000
namespace VD
open PySem PySem.Spec PyProof.Rows L2
end VD
set_option Elab.async false
set_option linter.all false
set_option maxRecDepth 100000
set_option maxHeartbeats 4000000
namespace VD
open PySem PySem.Spec PyProof.Rows L2
end VD
set_option Elab.async false
set_option linter.all false
set_option maxRecDepth 100000
set_option maxHeartbeats 4000000
namespace VD
open PySem PySem.Spec PyProof.Rows L2
noncomputable section
structure TabT (K : PySem.W.Frag) (w : World) (mg : Str → Option Value) (x : Str) (kvs : List (Str × Str)) : Prop where
  g : mg x = some (.ref (He.ga K x))
  d : ∃ es n, KDict K w (He.ga K x) es n
  some_ : ∀ z v, kvs.lookup z = some v → ∃ t, PySem.W.nsIn K (He.ga K x) z = some (some (.str v t))
  none_ : ∀ z, kvs.lookup z = none → PySem.W.nsIn K (He.ga K x) z = some none
theorem isStr_str (k z : Str) (t : Tok) : (Value.str k t).isStr z = (k == z) := rfl
theorem lookup_mem' {α : Type} : ∀ {kvs : List (Str × α)} {z : Str} {v : α}, kvs.lookup z = some v → (z, v) ∈ kvs
  | [], _, _, h => by cases h
  | (k, u) :: l, z, v, h => by
    rw [List.lookup_cons] at h
    cases q : z == k with
    | true =>
      rw [q] at h
      have : z = k := eq_of_beq q
      subst this
      injection h with h
      subst h
      exact List.mem_cons_self
    | false =>
      rw [q] at h
      exact List.mem_cons_of_mem _ (lookup_mem' h)
theorem lookup_none' {α : Type} : ∀ {kvs : List (Str × α)} {z : Str}, kvs.lookup z = none → z ∉ kvs.map (·.1)
  | [], _, _ => by simp
  | (k, u) :: l, z, h => by
    rw [List.lookup_cons] at h
    cases q : z == k with
    | true => rw [q] at h; cases h
    | false =>
      rw [q] at h
      intro m
      rcases List.mem_cons.mp m with e | m
      · subst e; rw [beq_self_eq_true] at q; cases q
      · exact lookup_none' h m
theorem tabT_of {K : PySem.W.Frag} {w : World} {mg : Str → Option Value} {x : Str} {kvs : List (Str × Str)} (g : mg x = some (.ref (He.ga K x)))
    (e : He.dicW K (He.ga K x) = some (He.keysIn w.params (kvs.map (·.1)))) (v : He.valsB K (He.ga K x) (kvs.map fun q => (q.1, He.Dv.str q.2)) = true) : TabT K w mg x kvs := by
  obtain ⟨es, n, D⟩ := He.dicW_ok e
  refine ⟨g, ⟨es, n, D⟩, fun z u h => ?_, fun z h => ?_⟩
  · obtain ⟨u', h1, h2⟩ := He.valsB_ok v (List.mem_map.mpr ⟨(z, u), lookup_mem' h, rfl⟩)
    obtain ⟨t, rfl⟩ := (show RelV (.str u) u' from h2)
    exact ⟨t, h1⟩
  · have hm := lookup_none' h
    unfold He.dicW at e
    unfold PySem.W.nsIn
    rw [D.at_] at e ⊢
    have e2 : es.toList.map He.keyOf = He.keysIn w.params (kvs.map (·.1)) := by
      simp only at e
      split at e
      · exact Option.some.inj e
      · cases e
    have ks : ∀ d ∈ es.toList, ∃ k t, d.key = .str k t ∧ k ∈ kvs.map (·.1) := fun d hd => by
      have : He.keyOf d ∈ es.toList.map He.keyOf := List.mem_map.mpr ⟨d, hd, rfl⟩
      rw [e2] at this
      unfold He.keysIn at this
      obtain ⟨k, hk, q⟩ := List.mem_map.mp this
      unfold He.keyOf at q
      split at q
      · next y t hy =>
        injection q with q
        injection q with q1 q2
        exact ⟨y, t, hy, by rw [← q1]; exact hk⟩
      · cases q
    have f1 : es.toList.find? (·.key.isStr z) = none := List.find?_eq_none.mpr fun d hd => by
      obtain ⟨k, t, hk, km⟩ := ks d hd
      rw [hk, isStr_str]
      intro q
      have : k = z := eq_of_beq q
      subst this
      exact hm km
    have f2 : es.toList.any (·.refKey) = false := List.any_eq_false.mpr fun d hd => by
      obtain ⟨k, t, hk, km⟩ := ks d hd
      unfold DictEntry.refKey
      rw [hk]; exact Bool.false_ne_true
    simp only [f1, f2]
    rfl
section
variable {X : Cx} {W : WX} {x : Str} {kvs : List (Str × Str)} {a : Expr} {fa : ES} {p pos : Pos}
/-- is a text a key -/
def eInT (kvs : List (Str × Str)) (fa : ES) : ES := fun σ h => (fa σ h).bind fun d h1 => match d with
  | .str z => .ok (.bl (kvs.lookup z).isSome) h1
  | _ => .stuck
@[simp] theorem eInT_ap {σ : VS} {h : Hv} : eInT kvs fa σ h = (fa σ h).bind fun d h1 => (match d with
  | .str z => .ok (.bl (kvs.lookup z).isSome) h1
  | _ => .stuck) := rfl
/-- the text at a key -/
def eGetT (kvs : List (Str × Str)) (fa : ES) : ES := fun σ h => (fa σ h).bind fun d h1 => match d with
  | .str z => (match kvs.lookup z with
    | some v => .ok (.str v) h1
    | none => .stuck)
  | _ => .stuck
@[simp] theorem eGetT_ap {σ : VS} {h : Hv} : eGetT kvs fa σ h = (fa σ h).bind fun d h1 => (match d with
  | .str z => (match kvs.lookup z with
    | some v => .ok (.str v) h1
    | none => .stuck)
  | _ => .stuck) := rfl
theorem se_getTab (t : TabT X.K X.w X.mg x kvs) (ha : SE X W a fa) (hg : Gl X x := by rfl) (hdb : (x == ("__debug__" : Str)) = false := by decide) (hs : PlainIx a := by exact fun _ _ => rfl) : SE X W (.Subscript (.Name x p) a pos) (eGetT kvs fa) := by
  obtain ⟨ta, h1, h2⟩ := ha
  obtain ⟨es, n, hD⟩ := t.d
  refine ⟨_, pe_ix ix_kdict (pe_glob (v := .ref (He.ga X.K x)) hg t.g rfl hdb) h1 hs, ⟨fun rl rs post => ?_⟩⟩
  refine h2.bind rl rs post fun d h1 v φ1 S1 H1 rl1 rs1 st rp post => ?_
  cases d with
  | str z =>
    cases (show Rp _ _ _ _ _ from rp)
    have post : Post _ _ _ _ _ (match kvs.lookup z with
      | some v => R.ok (D.str v) h1
      | none => .stuck) _ _ := post
    cases q : kvs.lookup z with
    | some u =>
      rw [q] at post
      obtain ⟨tk, e⟩ := t.some_ z u q
      exact ⟨_, z, .str u, rfl, rfl, ⟨es, n, _, hD.at_, hD.lit, e, tk, rfl⟩, post _ φ1 S1 H1 rl1 (Step.refl _ _ _) (.str _)⟩
    | none => rw [q] at post; exact post.elim
  | _ => exact post.elim
end
end
end VD
set_option Elab.async false
set_option linter.all false
set_option maxRecDepth 100000
set_option maxHeartbeats 4000000
namespace VD
open PySem PySem.Spec PyProof.Rows L2
noncomputable section
def strOf : Value → Option Str
  | .str x _ => some x
  | _ => none
def tupB (K : PySem.W.Frag) (x : Str) (zs : List Str) : Bool := match K.lookup (He.ga K x) with
  | some ⟨.type c, none, .seq its _, _⟩ => decide (c = "tuple") && (decide (its.size ≤ sizeLine) && decide (its.toList.map strOf = zs.map some))
  | _ => false
structure TupT (K : PySem.W.Frag) (mg : Str → Option Value) (x : Str) (zs : List Str) : Prop where
  g : mg x = some (.ref (He.ga K x))
  t : ∃ (o : Obj) (its : Array Value) (n : Nat), K.lookup (He.ga K x) = some o ∧ o.cls = .type "tuple" ∧ o.data = .seq its n ∧ its.size ≤ sizeLine ∧ Vals (zs.map V.str) its.toList
  n : ∃ o : Obj, K.lookup (He.ga K x) = some o ∧ o.cls = .type "tuple" ∧ o.dict = none
theorem vals_strs : ∀ {us : List Value} {zs : List Str}, us.map strOf = zs.map some → Vals (zs.map V.str) us
  | [], [], _ => .nil
  | [], _ :: _, h => by cases h
  | _ :: _, [], h => by cases h
  | u :: us, z :: zs, h => by
    rw [List.map_cons, List.map_cons] at h
    injection h with h1 h2
    refine .cons ?_ (vals_strs h2)
    cases u with
    | str x t => injection h1 with h1; subst h1; exact ⟨t, rfl⟩
    | _ => cases h1
theorem tupT_of {K : PySem.W.Frag} {mg : Str → Option Value} {x : Str} {zs : List Str} (g : mg x = some (.ref (He.ga K x))) (e : tupB K x zs = true) : TupT K mg x zs := by
  unfold tupB at e
  split at e
  · next c its n sl hl =>
    rw [Bool.and_eq_true, Bool.and_eq_true] at e
    obtain ⟨e1, e2, e3⟩ := e
    have e1 := of_decide_eq_true e1
    subst e1
    exact ⟨g, ⟨_, its, n, hl, rfl, rfl, of_decide_eq_true e2, vals_strs (of_decide_eq_true e3)⟩, ⟨_, hl, rfl, rfl⟩⟩
  · cases e
def dicsE (ts : List (Str × List (Str × Str))) (K : PySem.W.Frag) : List (Option (List (Option (Str × Int)))) := ts.map fun t => He.dicW K (He.ga K t.1)
def dicsV (ts : List (Str × List (Str × Str))) (w : World) : List (Option (List (Option (Str × Int)))) := ts.map fun t => some (He.keysIn w.params (t.2.map (·.1)))
def tabsOk (ts : List (Str × List (Str × Str))) (tu : List (Str × List Str)) (K : PySem.W.Frag) : Bool := (ts.all fun t => He.valsB K (He.ga K t.1) (t.2.map fun q => (q.1, He.Dv.str q.2))) && tu.all fun t => tupB K t.1 t.2
abbrev AlM : Type := (He.AlD × Bool) × List (Option (List (Option (Str × Int))))
def obsM (n : Nat) (fa : List He.Fa) (fn : List He.DefD) (ef : List Ef) (tn : List Str) (ts : List (Str × List (Str × Str))) (tu : List (Str × List Str)) (g : Addr → Option Obj) : AlM :=
  (((obsL n fa fn ef tn g).1, (obsL n fa fn ef tn g).2 && tabsOk ts tu (He.frT g (cStatics :: asF g n))), dicsE ts (He.frT g (cStatics :: asF g n)))
structure SaysM (ts : List (Str × List (Str × Str))) (tu : List (Str × List Str)) (w : World) (K : PySem.W.Frag) : Prop where
  ok : tabsOk ts tu K = true
  d : dicsE ts K = dicsV ts w
def hookM (n : Nat) (fa : List He.Fa) (fn : List He.DefD) (ef : List Ef) (tn : List Str) (ts : List (Str × List (Str × Str))) (tu : List (Str × List Str)) : PySem.W.Hook where
  α := AlM
  obs := fun s => obsM n fa fn ef tn ts tu s.heap.get?
  val := fun w => ((He.valD fn, true), dicsV ts w)
  says := fun w h => ∃ K : PySem.W.Frag, K.In h ∧ He.SaysD fa fn K ∧ (ef.all fun f => f.ok K) = true ∧ SaysL tn h K ∧ SaysM ts tu w K
  of := fun w h e => by
    have e1 := congrArg (fun z : AlM => z.1.1) e
    have e2 := congrArg (fun z : AlM => z.1.2) e
    have e3 := congrArg (fun z : AlM => z.2) e
    have e2 : ((_ && _) && _) = true := e2
    rw [Bool.and_eq_true, Bool.and_eq_true] at e2
    exact ⟨_, He.frT_in, e1, e2.1.1, saysL_of e2.1.2, ⟨e2.2, e3⟩⟩
  keeps := fun _ _ _ z k => by
    obtain ⟨K, hK, c, d, t, m⟩ := z
    exact ⟨K, PySem.W.Frag.In.keeps hK k, c, d, ⟨t.hd, t.out, fun x hx => k _ _ (t.empty x hx), t.nd⟩, m⟩
theorem obsM_eq {n : Nat} {fa : List He.Fa} {fn : List He.DefD} {ef : List Ef} {tn : List Str} {ts : List (Str × List (Str × Str))} {tu : List (Str × List Str)} {g : Addr → Option Obj} {s : Shared} (h : ∀ a, g a = s.heap.get? a) : obsM n fa fn ef tn ts tu g = (hookM n fa fn ef tn ts tu).obs s := by
  have e : g = s.heap.get? := funext h
  rw [e] <;> rfl
theorem SaysM.tab {ts : List (Str × List (Str × Str))} {tu : List (Str × List Str)} {w : World} {K : PySem.W.Frag} {mg : Str → Option Value} (m : SaysM ts tu w K) {i : Nat} {x : Str} {kvs : List (Str × Str)} (g : mg x = some (.ref (He.ga K x))) (h : ts[i]? = some (x, kvs) := by rfl) : TabT K w mg x kvs := by
  have ok := m.ok
  unfold tabsOk at ok
  rw [Bool.and_eq_true] at ok
  have v := List.all_eq_true.mp ok.1 _ (List.mem_of_getElem? h)
  have d : (dicsE ts K)[i]? = (dicsV ts w)[i]? := by rw [m.d]
  unfold dicsE dicsV at d
  rw [List.getElem?_map, List.getElem?_map, h] at d
  exact tabT_of g (Option.some.inj d) v
theorem SaysM.tup {ts : List (Str × List (Str × Str))} {tu : List (Str × List Str)} {w : World} {K : PySem.W.Frag} {mg : Str → Option Value} (m : SaysM ts tu w K) {i : Nat} {x : Str} {zs : List Str} (g : mg x = some (.ref (He.ga K x))) (h : tu[i]? = some (x, zs) := by rfl) : TupT K mg x zs := by
  have ok := m.ok
  unfold tabsOk at ok
  rw [Bool.and_eq_true] at ok
  exact tupT_of g (List.all_eq_true.mp ok.2 _ (List.mem_of_getElem? h))
end
end VD
set_option Elab.async false
set_option linter.all false
set_option maxRecDepth 100000
set_option maxHeartbeats 4000000
namespace VD
open PySem PySem.Spec PyProof.Rows L2
noncomputable section
def frM (s : PySem.W.SharedT) : PySem.W.Frag := He.frT (HandSHeadRun.getT s) (cStatics :: asF (HandSHeadRun.getT s) 4)
abbrev RunB (r : PySem.W.OpenRow) (f : PySem.W.Frag → Bool) (M : Nat) (w : World) : Prop := RunO r (fun s => f (frM s)) (fun _ => true) M w
def factsP (fa : List He.Fa) (K : PySem.W.Frag) : Bool := fa.all fun f => f.ok K
def defsP (fn : List He.DefD) (K : PySem.W.Frag) : Bool := fn.all fun d => d.ok K
def restP (ef : List Ef) (ts : List (Str × List (Str × Str))) (tu : List (Str × List Str)) (K : PySem.W.Frag) : Bool := (ef.all fun f => f.ok K) && tabsOk ts tu K
def tabsP (tn : List Str) (s : PySem.W.SharedT) : Bool := He.tabsB (HandSHeadRun.getT s) (dfnT tn) (frM s) && ndA (tn.map (tabA (frM s)))
def fnsP (fn : List He.DefD) (s : PySem.W.SharedT) : List He.FnW := fn.map fun d => He.fnW (frM s) d.at_
theorem runO_parts {r : PySem.W.OpenRow} {M : Nat} {w : World} {fa : List He.Fa} {fn : List He.DefD} {ef : List Ef} {tn : List Str} {ts : List (Str × List (Str × Str))} {tu : List (Str × List Str)} {n1 : Nat}
    (ha : RunO r (fun s => ((factsP fa (frM s) && (restP ef ts tu (frM s) && tabsP tn s)), dicsE ts (frM s))) (fun w => (true, dicsV ts w)) M w)
    (hb1 : RunB r (defsP (fn.take n1)) M w) (hb2 : RunB r (defsP (fn.drop n1)) M w) (hc : RunO r (fnsP fn) (fun _ => fn.map He.DefD.val) M w) :
    RunO r (fun s => obsM 4 fa fn ef tn ts tu (HandSHeadRun.getT s)) (hookM 4 fa fn ef tn ts tu).val M w := by
  intro os
  have ha := ha os
  have hb1 := hb1 os
  have hb2 := hb2 os
  have hc := hc os
  cases q : HandSHeadRun.endF (HandSHeadRun.stepQ (HandSHeadRun.denQ HandSHeadRun.tabQ) r.prog w) M r.prog w os with
  | none => rw [q] at ha; cases ha
  | some s =>
    rw [q] at ha hb1 hb2 hc
    have ha : ((factsP fa (frM s) && (restP ef ts tu (frM s) && tabsP tn s)), dicsE ts (frM s)) = (true, dicsV ts w) := Option.some.inj ha
    have hb1 : defsP (fn.take n1) (frM s) = true := Option.some.inj hb1
    have hb2 : defsP (fn.drop n1) (frM s) = true := Option.some.inj hb2
    have hc : fnsP fn s = fn.map He.DefD.val := Option.some.inj hc
    obtain ⟨h1, he⟩ := Prod.mk.inj ha
    rw [Bool.and_eq_true, Bool.and_eq_true] at h1
    obtain ⟨ha, hd, hn⟩ := h1
    have hb : defsP fn (frM s) = true := by
      unfold defsP at hb1 hb2 ⊢
      rw [← List.take_append_drop n1 fn, List.all_append, hb1, hb2]; rfl
    unfold restP at hd
    rw [Bool.and_eq_true] at hd
    show some (((((fa.all fun f => f.ok (frM s)) && fn.all fun d => d.ok (frM s)), fn.map fun d => He.fnW (frM s) d.at_), (((ef.all fun f => f.ok (frM s)) && (He.tabsB (HandSHeadRun.getT s) (dfnT tn) (frM s) && ndA (tn.map (tabA (frM s))))) && tabsOk ts tu (frM s))), dicsE ts (frM s)) = some (((true, fn.map He.DefD.val), true), dicsV ts w)
    have e1 : (fa.all fun f => f.ok (frM s)) = true := ha
    have e2 : (fn.all fun d => d.ok (frM s)) = true := hb
    have e3 : (fn.map fun d => He.fnW (frM s) d.at_) = fn.map He.DefD.val := hc
    have e4 : (He.tabsB (HandSHeadRun.getT s) (dfnT tn) (frM s) && ndA (tn.map (tabA (frM s)))) = true := hn
    rw [e1, e2, e3, hd.1, hd.2, e4, he]
    rfl
end
end VD
set_option Elab.async false
set_option linter.all false
set_option maxRecDepth 100000
set_option maxHeartbeats 4000000
namespace Lk09
open PySem PySem.Spec PyProof.Rows L2 VD
noncomputable section
def topS (i : Nat) : Stmt := PySem.Challenge.pw_crosshall_k09_sieve_texts.main.body.getD i (.Pass ⟨0, 0, 0, 0⟩)
def tb_SIGNS : List (Str × Str) := [("is", "="), ("under", "<"), ("over", ">")]
abbrev s_written : Stmt := topS 15
abbrev s_shown_sieve : Stmt := topS 29
abbrev s_made_of : Stmt := topS 10
abbrev s_is_name : Stmt := topS 11
abbrev s_is_word : Stmt := topS 12
abbrev s_is_number_text : Stmt := topS 16
abbrev s_read_value : Stmt := topS 17
abbrev s_run_of : Stmt := topS 30
abbrev s_plain_at : Stmt := topS 31
abbrev s_sieve_at : Stmt := topS 32
abbrev s_sieves_in : Stmt := topS 33
abbrev s_field_at : Stmt := topS 19
abbrev s_is_whole : Stmt := topS 13
abbrev s_is_value : Stmt := topS 14
abbrev s_asked_sieve : Stmt := topS 21
abbrev s_by_kinds : Stmt := topS 34
abbrev s_read_sieve : Stmt := topS 35
abbrev s__law_cell_at : Stmt := topS 37
abbrev s__law_mix : Stmt := topS 38
abbrev s__law_heads : Stmt := topS 39
abbrev s__law_world : Stmt := topS 40
abbrev s__law_sure_value : Stmt := topS 41
abbrev s__law_plain : Stmt := topS 42
abbrev s__law_closed : Stmt := topS 43
abbrev s__law_grown : Stmt := topS 44
abbrev s__law_written : Stmt := topS 45
abbrev s__law_text : Stmt := topS 46
abbrev s_law : Stmt := topS 47
abbrev i_NoField : Stmt := clsS (topS 3) 0
abbrev i_NoKind : Stmt := clsS (topS 4) 0
def efs : List Ef := [.exc "NoSieve", .exc "NoField", .exc "NoKind", .oex "NoField", .oex "NoKind", .nof "NoField" "name", .nof "NoKind" "name", .bi "CrossError"]
def dfs : List He.DefD := [⟨("written", none), "written", "written", defArgs s_written, defBody s_written, defScope s_written, [], []⟩, ⟨("shown_sieve", none), "shown_sieve", "shown_sieve", defArgs s_shown_sieve, defBody s_shown_sieve, defScope s_shown_sieve, [], []⟩, ⟨("made_of", none), "made_of", "made_of", defArgs s_made_of, defBody s_made_of, defScope s_made_of, [], []⟩, ⟨("is_name", none), "is_name", "is_name", defArgs s_is_name, defBody s_is_name, defScope s_is_name, [], []⟩, ⟨("is_word", none), "is_word", "is_word", defArgs s_is_word, defBody s_is_word, defScope s_is_word, [], []⟩, ⟨("is_number_text", none), "is_number_text", "is_number_text", defArgs s_is_number_text, defBody s_is_number_text, defScope s_is_number_text, [], []⟩, ⟨("read_value", none), "read_value", "read_value", defArgs s_read_value, defBody s_read_value, defScope s_read_value, [], []⟩, ⟨("run_of", none), "run_of", "run_of", defArgs s_run_of, defBody s_run_of, defScope s_run_of, [], []⟩, ⟨("plain_at", none), "plain_at", "plain_at", defArgs s_plain_at, defBody s_plain_at, defScope s_plain_at, [], []⟩, ⟨("sieve_at", none), "sieve_at", "sieve_at", defArgs s_sieve_at, defBody s_sieve_at, defScope s_sieve_at, [], []⟩, ⟨("sieves_in", none), "sieves_in", "sieves_in", defArgs s_sieves_in, defBody s_sieves_in, defScope s_sieves_in, [], []⟩, ⟨("field_at", none), "field_at", "field_at", defArgs s_field_at, defBody s_field_at, defScope s_field_at, [], []⟩, ⟨("is_whole", none), "is_whole", "is_whole", defArgs s_is_whole, defBody s_is_whole, defScope s_is_whole, [], []⟩, ⟨("is_value", none), "is_value", "is_value", defArgs s_is_value, defBody s_is_value, defScope s_is_value, [], []⟩, ⟨("asked_sieve", none), "asked_sieve", "asked_sieve", defArgs s_asked_sieve, defBody s_asked_sieve, defScope s_asked_sieve, [], []⟩, ⟨("by_kinds", none), "by_kinds", "by_kinds", defArgs s_by_kinds, defBody s_by_kinds, defScope s_by_kinds, [], []⟩, ⟨("read_sieve", none), "read_sieve", "read_sieve", defArgs s_read_sieve, defBody s_read_sieve, defScope s_read_sieve, [], []⟩, ⟨("_law_cell_at", none), "_law_cell_at", "_law_cell_at", defArgs s__law_cell_at, defBody s__law_cell_at, defScope s__law_cell_at, [], []⟩, ⟨("_law_mix", none), "_law_mix", "_law_mix", defArgs s__law_mix, defBody s__law_mix, defScope s__law_mix, [], []⟩, ⟨("_law_heads", none), "_law_heads", "_law_heads", defArgs s__law_heads, defBody s__law_heads, defScope s__law_heads, [], []⟩, ⟨("_law_world", none), "_law_world", "_law_world", defArgs s__law_world, defBody s__law_world, defScope s__law_world, [], []⟩, ⟨("_law_sure_value", none), "_law_sure_value", "_law_sure_value", defArgs s__law_sure_value, defBody s__law_sure_value, defScope s__law_sure_value, [], []⟩, ⟨("_law_plain", none), "_law_plain", "_law_plain", defArgs s__law_plain, defBody s__law_plain, defScope s__law_plain, [], []⟩, ⟨("_law_closed", none), "_law_closed", "_law_closed", defArgs s__law_closed, defBody s__law_closed, defScope s__law_closed, [], []⟩, ⟨("_law_grown", none), "_law_grown", "_law_grown", defArgs s__law_grown, defBody s__law_grown, defScope s__law_grown, [], []⟩, ⟨("_law_written", none), "_law_written", "_law_written", defArgs s__law_written, defBody s__law_written, defScope s__law_written, [], []⟩, ⟨("_law_text", none), "_law_text", "_law_text", defArgs s__law_text, defBody s__law_text, defScope s__law_text, [], []⟩, ⟨("law", none), "law", "law", defArgs s_law, defBody s_law, defScope s_law, [], []⟩, ⟨("NoField", some "__init__"), "__init__", "NoField.__init__", defArgs i_NoField, defBody i_NoField, defScope i_NoField, [], []⟩, ⟨("NoKind", some "__init__"), "__init__", "NoKind.__init__", defArgs i_NoKind, defBody i_NoKind, defScope i_NoKind, [], []⟩]
def fas : List He.Fa := [.glo "written", .glo "shown_sieve", .glo "made_of", .glo "is_name", .glo "is_word", .glo "is_number_text", .glo "read_value", .glo "run_of", .glo "plain_at", .glo "sieve_at", .glo "sieves_in", .glo "field_at", .glo "is_whole", .glo "is_value", .glo "asked_sieve", .glo "by_kinds", .glo "read_sieve", .glo "_law_cell_at", .glo "_law_mix", .glo "_law_heads", .glo "_law_world", .glo "_law_sure_value", .glo "_law_plain", .glo "_law_closed", .glo "_law_grown", .glo "_law_written", .glo "_law_text", .glo "law", .free "str", .free "isinstance", .free "len", .free "int", .free "tuple", .free "sum", .free "range", .free "bool", .free "abs", .free "list", .int "MOST_SIGNS_values" 12, .str "SMALL" "abcdefghijklmnopqrstuvwxyz", .str "FIGURES" "0123456789", .int "MOST_FIGURES" 60, .str "LETTERS" "abcdefghijklmnopqrstuvwxyz", .str "IN_VALUES" "abcdefghijklmnopqrstuvwxyz0123456789-", .int "MOST_SIGNS_sieve_texts" 61, .int "MOST_LEVELS" 12, .int "MOST_SIEVES" 60, .glo "SIGNS", .glo "NoSieve", .exc "NoSieve", .glo "NoField", .glo "CrossError", .glo "NoKind", .meth "NoField" "__init__", .meth "NoKind" "__init__"]
def mts : List (Str × List (Str × Str)) := [("SIGNS", tb_SIGNS)]
def mtu : List (Str × List Str) := []
def tbs : List Str := []
abbrev R0 : PySem.W.OpenRow := PySem.W.OpenLaw.row PySem.Challenge.rw_crosshall_k09_sieve_texts
abbrev hk : PySem.W.Hook := VD.hookM 4 fas dfs efs tbs mts mtu
def ob (s : PySem.W.SharedT) : VD.AlM := VD.obsM 4 fas dfs efs tbs mts mtu (HandSHeadRun.getT s)
theorem ob_eq (s : PySem.W.SharedT) : ob s = hk.obs s.abs := VD.obsM_eq (HandSHeadRun.getT_eq s)
def loose : List Str := (["CrossError", "NoSieve", "NoField", "NoKind", "SMALL", "FIGURES", "MOST_SIGNS_values", "MOST_FIGURES", "made_of", "is_name", "is_word", "is_whole", "is_value", "written", "is_number_text", "read_value", "field_at", "asked_sieve", "SIGNS", "IN_VALUES", "LETTERS", "MOST_SIGNS_sieve_texts", "MOST_LEVELS", "MOST_SIEVES", "shown_sieve", "run_of", "plain_at", "sieve_at", "sieves_in", "by_kinds"] : List Str) ++ (["read_sieve", "_law_cell_at", "_law_mix", "_law_heads", "_law_world", "_law_sure_value", "_law_plain", "_law_closed", "_law_grown", "_law_written", "_law_text"] : List Str)
set_option maxHeartbeats 0 in
theorem runL_false (w : World) : VD.RunL R0 (PySem.W.view R0.prog [47]) 8000 loose (w.withFollow "special-get-raises" false) := by
  intro os
  kernel_rfl
set_option maxHeartbeats 0 in
theorem runL_true (w : World) : VD.RunL R0 (PySem.W.view R0.prog [47]) 8000 loose (w.withFollow "special-get-raises" true) := by
  intro os
  kernel_rfl
set_option maxHeartbeats 0 in
theorem runA_false (w : World) : VD.RunO R0 (fun s => ((VD.factsP fas (VD.frM s) && (VD.restP efs mts mtu (VD.frM s) && VD.tabsP tbs s)), VD.dicsE mts (VD.frM s))) (fun w => (true, VD.dicsV mts w)) 8000 (w.withFollow "special-get-raises" false) := by
  intro os
  kernel_rfl
set_option maxHeartbeats 0 in
theorem runA_true (w : World) : VD.RunO R0 (fun s => ((VD.factsP fas (VD.frM s) && (VD.restP efs mts mtu (VD.frM s) && VD.tabsP tbs s)), VD.dicsE mts (VD.frM s))) (fun w => (true, VD.dicsV mts w)) 8000 (w.withFollow "special-get-raises" true) := by
  intro os
  kernel_rfl
set_option maxHeartbeats 0 in
theorem runB_false (w : World) : VD.RunB R0 (VD.defsP (dfs.take 14)) 8000 (w.withFollow "special-get-raises" false) := by
  intro os
  kernel_rfl
set_option maxHeartbeats 0 in
theorem runB_true (w : World) : VD.RunB R0 (VD.defsP (dfs.take 14)) 8000 (w.withFollow "special-get-raises" true) := by
  intro os
  kernel_rfl
set_option maxHeartbeats 0 in
theorem runC_false (w : World) : VD.RunB R0 (VD.defsP (dfs.drop 14)) 8000 (w.withFollow "special-get-raises" false) := by
  intro os
  kernel_rfl
set_option maxHeartbeats 0 in
theorem runC_true (w : World) : VD.RunB R0 (VD.defsP (dfs.drop 14)) 8000 (w.withFollow "special-get-raises" true) := by
  intro os
  kernel_rfl
set_option maxHeartbeats 0 in
theorem runD_false (w : World) : VD.RunO R0 (VD.fnsP dfs) (fun _ => dfs.map He.DefD.val) 8000 (w.withFollow "special-get-raises" false) := by
  intro os
  kernel_rfl
set_option maxHeartbeats 0 in
theorem runD_true (w : World) : VD.RunO R0 (VD.fnsP dfs) (fun _ => dfs.map He.DefD.val) 8000 (w.withFollow "special-get-raises" true) := by
  intro os
  kernel_rfl
theorem runL (w : World) : VD.RunL R0 (PySem.W.view R0.prog [47]) 8000 loose w := by
  have e := PySem.World.withFollow_self w "special-get-raises"
  cases q : w.params.followText "special-get-raises"
  · rw [q] at e
    rw [← e]
    exact runL_false w
  · rw [q] at e
    rw [← e]
    exact runL_true w
theorem runO (w : World) : VD.RunO R0 ob hk.val 8000 w := by
  have e := PySem.World.withFollow_self w "special-get-raises"
  cases q : w.params.followText "special-get-raises"
  · rw [q] at e
    rw [← e]
    exact VD.runO_parts (runA_false w) (runB_false w) (runC_false w) (runD_false w)
  · rw [q] at e
    rw [← e]
    exact VD.runO_parts (runA_true w) (runB_true w) (runC_true w) (runD_true w)
theorem run (w : World) : HandSHeadRun.RunEq R0 (PySem.W.view R0.prog [47]) hk ob 8000 loose w := VD.run_of (runL w) (runO w)
end
end Lk09
set_option Elab.async false
set_option linter.all false
set_option maxRecDepth 100000
set_option maxHeartbeats 4000000
namespace VD
open PySem PySem.Spec PyProof.Rows L2
noncomputable section
def eqQ (h : Hv) (x y : D) : Option Bool := match toPy h 60 x, toPy h 60 y with
  | some d, some e => some (PyData.eqv d e)
  | _, _ => none
def oEqQ : D → D → Hv → R D := fun x y h => match eqQ h x y with
  | some b => .ok (.bl b) h
  | none => .stuck
def oNeQ : D → D → Hv → R D := fun x y h => match eqQ h x y with
  | some b => .ok (.bl (!b)) h
  | none => .stuck
@[simp] theorem oEqQ_ap {x y : D} {h : Hv} : oEqQ x y h = (match eqQ h x y with
  | some b => R.ok (.bl b) h
  | none => .stuck) := rfl
@[simp] theorem oNeQ_ap {x y : D} {h : Hv} : oNeQ x y h = (match eqQ h x y with
  | some b => R.ok (.bl (!b)) h
  | none => .stuck) := rfl
section
variable {K : PySem.W.Frag}
theorem eqQ_ok {φ : List Addr} {S H : Hp} {h : Hv} {x y : D} {v u : V} {b : Bool} (rl : Rel K φ S H h) (rx : Rp K φ S v x) (ry : Rp K φ S u y) (e : eqQ h x y = some b) :
    ∃ d e, Dp K H v d ∧ Dp K H u e ∧ (d.plain = true ∧ e.plain = true ∧ d.depth ≤ 63) ∧ PyData.eqv d e = b := by
  unfold eqQ at e
  cases e1 : toPy h 60 x with
  | none => simp only [e1] at e; cases e
  | some d =>
    cases e2 : toPy h 60 y with
    | none => simp only [e1, e2] at e; cases e
    | some d2 =>
      simp only [e1, e2] at e
      obtain ⟨p1, q1⟩ := toPy_plain _ _ _ e1
      obtain ⟨p2, q2⟩ := toPy_plain _ _ _ e2
      exact ⟨d, d2, dp_of rl _ _ _ _ rx e1, dp_of rl _ _ _ _ ry e2, ⟨p1, p2, by omega⟩, Option.some.inj e⟩
theorem os_eqQ : OpS K (rEqP K) oEqQ := by
  intro φ S H h x y v u Q E rl rx ry post
  simp only [oEqQ] at post
  cases e : eqQ h x y with
  | none => simp only [e] at post; exact post.elim
  | some b =>
    simp only [e] at post
    obtain ⟨d, d2, h1, h2, h3, h5⟩ := eqQ_ok rl rx ry e
    exact ⟨d, d2, h1, h2, h3, by rw [h5]; exact post _ φ S H rl (Step.refl _ _ _) (.bl _)⟩
theorem os_neQ : OpS K (rNeP K) oNeQ := by
  intro φ S H h x y v u Q E rl rx ry post
  simp only [oNeQ] at post
  cases e : eqQ h x y with
  | none => simp only [e] at post; exact post.elim
  | some b =>
    simp only [e] at post
    obtain ⟨d, d2, h1, h2, h3, h5⟩ := eqQ_ok rl rx ry e
    exact ⟨d, d2, h1, h2, h3, by rw [h5]; exact post _ φ S H rl (Step.refl _ _ _) (.bl _)⟩
end
theorem eqQ_same {h : Hv} {x y : D} {p : PyData} (hx : toPy h 60 x = some p) (hy : toPy h 60 y = some p) : eqQ h x y = some true := by
  unfold eqQ
  rw [hx, hy]
  exact congrArg some (PySem.SeqAt.eqv_refl_plain p (toPy_plain _ _ _ hx).1)
def fnW (np nl : Nat) (body : SS) : List D → Hv → R D := fun ds h => if ds.length = np then (match body (ds.map some ++ List.replicate nl none) h with
  | .ret d h' => .ok d h'
  | .next _ h' => .ok .non h'
  | _ => .stuck) else .stuck
theorem fnW_len {np nl : Nat} {body : SS} {ds : List D} {h : Hv} (e : fnW np nl body ds h ≠ .stuck) : ds.length = np := by
  unfold fnW at e
  split at e
  · next q => exact q
  · exact absurd rfl e
section
variable {P : Program} {w : World} {K : PySem.W.Frag} {mg : Str → Option Value} {base : Heap}
theorem fnW_ok {x qual : Str} {st : Stmt} {f : Addr} {fd : FuncData} {N ps : List Str} {k np nl : Nat} {body : SS} (F : Fun K x qual st f fd) (Sc : FnScope N ps (defScope st)) (hps : ps.length = np) (hN : N.length = np + nl)
    (hbody : ∀ (cdv : Value) (A : Around) (outer : List Env) (s : Shared) (H : Hp) (E : XK), Room k (A.deeper (envOfC qual (defScope st) s.heap.objs.size f cdv)) →
      QB (cxOf (L2.CX P w) P w K mg base N qual (defScope st) f cdv A outer s H E) (fun cls d _ H' => E cls d H') (defBody st) body) : FnOk P w K mg base (L2.CX P w) (k + 1) f fd ps (spOf K (fnW np nl body)) := by
  refine F.okX Sc (fun vs H Q E h => ?_) (fun cdv A outer s H vs Q E hr h => ?_)
  · obtain ⟨φ, S, h, ds, rl, ra, post⟩ := h
    rw [ra.length, hps]
    refine fnW_len (nl := nl) (body := body) (h := h) fun z => ?_
    rw [z] at post
    exact post.elim
  · obtain ⟨φ, S, h, ds, rl, ra, post⟩ := h
    obtain ⟨t, h1, h2⟩ := hbody cdv A outer s H E hr
    have hl : ds.length = np := fnW_len (nl := nl) (body := body) (h := h) fun z => by
      rw [z] at post
      exact post.elim
    refine ⟨t, h1, h2.run rl (relS_start ra nl N (by rw [hl]; exact hN)) ?_⟩
    unfold fnW at post
    rw [if_pos hl] at post
    cases hb : body (ds.map some ++ List.replicate nl none) h with
    | next σ' h' =>
      rw [hb] at post
      exact fun σ1 φ' S' H' r2 _ st => post .non φ' S' H' r2 st .non
    | ret d h' =>
      rw [hb] at post
      exact fun v φ' S' H' r2 st rv => post v φ' S' H' r2 st rv
    | brk σ' h' => rw [hb] at post; exact post.elim
    | cont σ' h' => rw [hb] at post; exact post.elim
    | stuck => rw [hb] at post; exact post.elim
    | exc x σ' h' => rw [hb] at post; exact post.elim
theorem okW_mk {x : Str} {st : Stmt} {fd : FuncData} {N ps : List Str} {k np nl : Nat} {body : SS} (F : Fun K x x st (He.ga K x) fd) (Sc : FnScope N ps (defScope st)) (hps : ps.length = np) (hN : N.length = np + nl) (g : mg x = some (.ref (He.ga K x))) (b : Binds K fd ps [])
    (hbody : ∀ (cdv : Value) (A : Around) (outer : List Env) (s : Shared) (H : Hp) (E : XK), Room k (A.deeper (envOfC x (defScope st) s.heap.objs.size (He.ga K x) cdv)) →
      QB (cxOf (L2.CX P w) P w K mg base N x (defScope st) (He.ga K x) cdv A outer s H E) (fun cls d _ H' => E cls d H') (defBody st) body) : OkF P w K mg base (k + 1) x ps (fnW np nl body) := ⟨fd, let ⟨oc, od, _, _, _, _, _, _, osl, _, lk, _⟩ := F.ex; ⟨oc, od, osl, lk⟩, fnW_ok F Sc hps hN hbody, b, g, F.kp⟩
end
/-- the end of such a def -/
def RW (P : R D → Prop) (r : RS) : Prop := match r with
  | .ret d h => P (.ok d h)
  | .next _ h => P (.ok .non h)
  | _ => False
section
variable {P : R D → Prop} {σ : VS} {h : Hv} {d : D} {x : Xn}
@[simp] theorem Wp_rw_ret : Wp (RW P) (.ret d h) = P (.ok d h) := Wp.eq _ _
@[simp] theorem Wp_rw_next : Wp (RW P) (.next σ h) = P (.ok .non h) := Wp.eq _ _
@[simp] theorem Wp_rw_exc : Wp (RW P) (.exc x σ h) = False := Wp.eq _ _
@[simp] theorem Wp_rw_stuck : Wp (RW P) .stuck = False := Wp.eq _ _
end
theorem fnW_of {P : R D → Prop} {np nl : Nat} {body : SS} {ds : List D} {h : Hv} (hl : ds.length = np) (hw : Wp (RW P) (body (ds.map some ++ List.replicate nl none) h)) : P (fnW np nl body ds h) := by
  replace hw := hw.run
  unfold fnW
  rw [if_pos hl]
  generalize body (ds.map some ++ List.replicate nl none) h = r at hw ⊢
  cases r with
  | ret d h => exact hw
  | next σ h => exact hw
  | _ => exact hw.elim
end
end VD
set_option Elab.async false
set_option linter.all false
set_option maxRecDepth 100000
set_option maxHeartbeats 4000000
namespace VD
open PySem PySem.Spec PyProof.Rows L2
noncomputable section
abbrev sx (cs : List Nat) : Str := ⟨cs.toArray⟩
abbrev tx (cs : List Nat) : D := .str (sx cs)
theorem sx_len (cs : List Nat) : (sx cs).length = cs.length := by
  show (cs.toArray).size = _
  simp
theorem sx_inj {a b : List Nat} : sx a = sx b ↔ a = b := by
  constructor
  · intro e
    have := congrArg (fun z : Str => z.cps.toList) e
    simpa using this
  · intro e; rw [e]
theorem sx_app (a b : List Nat) : (sx a ++ sx b : Str) = sx (a ++ b) := by
  show Str.mk _ = Str.mk _
  simp
@[simp] theorem oAdd_tx {a b : List Nat} {h : Hv} (hl : a.length + b.length ≤ 16777216) : oAdd (tx a) (tx b) h = .ok (tx (a ++ b)) h := by
  rw [oAdd_str, sx_len, sx_len, if_pos hl, sx_app]
@[simp] theorem signsD_tx (cs : List Nat) : signsD (sx cs) = cs.map fun c => tx [c] := by
  unfold signsD
  simp
@[simp] theorem ixD_tx {cs : List Nat} {h : Hv} {k : Int} (hl : cs.length ≤ 16777216) (h0 : 0 ≤ k) (h1 : k < cs.length) : ixD h (tx cs) k = some (tx [cs[k.toNat]?.getD 0]) := by
  rw [ixD_str, sx_len, if_pos hl]
  have e : (sx cs).cps.toList = cs := by simp
  rw [e]
  obtain ⟨a, _, h3, h4⟩ := atI_get (xs := cs) h0 h1
  rw [h4, h3]
  rfl
theorem slD_tx_to {cs : List Nat} {n : Int} (hl : cs.length ≤ 16777216) (h0 : 0 ≤ n) : slD (tx cs) none (some n) = some (tx (cs.take n.toNat)) := by
  show (if (sx cs).length ≤ 16777216 then some (D.str (cutS (sx cs) none (some n))) else none) = _
  rw [sx_len, if_pos hl]
  have e : cutS (sx cs) none (some n) = sx (cs.take n.toNat) := by
    unfold cutS
    have e1 : HT.sIx (sx cs).length (sx cs).length (some n) = min n.toNat cs.length := by
      show (if n < 0 then _ else min n.toNat (sx cs).length) = _
      rw [if_neg (by omega), sx_len]
    rw [e1, HT.sIx_none]
    have e2 : (sx cs).cps.toList = cs := by simp
    rw [e2, List.drop_zero, Nat.sub_zero]
    show Str.mk _ = Str.mk _
    congr 2
    rw [List.take_eq_take_iff]
    omega
  rw [e]
theorem slD_tx_from {cs : List Nat} {n : Int} (hl : cs.length ≤ 16777216) (h0 : 0 ≤ n) : slD (tx cs) (some n) none = some (tx (cs.drop n.toNat)) := by
  show (if (sx cs).length ≤ 16777216 then some (D.str (cutS (sx cs) (some n) none)) else none) = _
  rw [sx_len, if_pos hl]
  have e : cutS (sx cs) (some n) none = sx (cs.drop n.toNat) := by
    unfold cutS
    have e1 : HT.sIx (sx cs).length 0 (some n) = min n.toNat cs.length := by
      show (if n < 0 then _ else min n.toNat (sx cs).length) = _
      rw [if_neg (by omega), sx_len]
    have e2 : (sx cs).cps.toList = cs := by simp
    rw [e1, HT.sIx_none, e2, sx_len]
    show Str.mk _ = Str.mk _
    congr 1
    rw [List.take_of_length_le (by rw [List.length_drop]; exact Nat.le_refl _)]
    by_cases q : n.toNat ≤ cs.length
    · rw [Nat.min_eq_left q]
    · rw [Nat.min_eq_right (by omega), List.drop_of_length_le (Nat.le_refl _), List.drop_of_length_le (by omega)]
  rw [e]
@[simp] theorem lenD_tx {cs : List Nat} {h : Hv} (hl : cs.length ≤ 16777216) : lenD h (tx cs) = some (cs.length : Int) := by rw [lenD_str, sx_len, if_pos hl]
@[simp] theorem oLt_tx {a b : List Nat} {h : Hv} : oLt (tx a) (tx b) h = .ok (.bl (decide (a < b))) h := by
  rw [oLt_str]
theorem eqD_tx {a b : List Nat} {h : Hv} : eqD h (tx a) (tx b) = some (decide (a = b)) := by
  rw [eqD_str]
  congr 1
  rw [decide_eq_decide, sx_inj]
def cellF (ns : List Int) (k : Int) : Int := if k < ns.length then gI ns k else 0
def cellB : SS := sSeq (sIf (toB (eOp oLt (eVar 1) (eCa bLen (aCons (eVar 0) (aNil))))) (sRet (eOp oIx (eVar 0) (eVar 1))) (sNext)) (sRet (eK (.int 0)))
def cellM : List D → Hv → R D := fnS 2 0 cellB
theorem cellM_eq {ns : List Int} {k : Int} (h0 : 0 ≤ k) : cellM [scr ns, .int k] [] = .ok (.int (cellF ns k)) [] := by
  refine fnS_of (P := fun r => r = .ok (.int (cellF ns k)) []) rfl ?_
  unfold cellB cellF
  by_cases q : k < ns.length
  · simp [q, ix_ints h0 q]
  · simp [q]
theorem callP_cell {ns : List Int} {k : Int} {h : Hv} (h0 : 0 ≤ k) : callP cellM [scr ns, .int k] h = .ok (.int (cellF ns k)) h := callP_ok (by simp) (cellM_eq h0)
def mixT (s k : Int) : Int := (s % 2147483647 * 48271 + k * 7919 + 11) % 2147483647
def mixF (s k : Int) : Int := mixT s k * mixT s k % 2147483629 * 69621 % 2147483647
theorem mixF_bd (s k : Int) : 0 ≤ mixF s k ∧ mixF s k < 2147483647 := ⟨Int.emod_nonneg _ (by decide), Int.emod_lt_of_pos _ (by decide)⟩
def mixB : SS := sSeq (sSet 2 (eOp oMod (eOp oAdd (eOp oAdd (eOp oMul (eOp oMod (eVar 0) (eK (.int 2147483647))) (eK (.int 48271))) (eOp oMul (eVar 1) (eK (.int 7919)))) (eK (.int 11))) (eK (.int 2147483647)))) (sRet (eOp oMod (eOp oMul (eOp oMod (eOp oMul (eVar 2) (eVar 2)) (eK (.int 2147483629))) (eK (.int 69621))) (eK (.int 2147483647))))
def mixM : List D → Hv → R D := fnS 2 1 mixB
theorem mixM_eq {s k : Int} (h0 : 0 ≤ k) (h1 : k < 10 ^ 30) : mixM [.int s, .int k] [] = .ok (.int (mixF s k)) [] := by
  refine fnS_of (P := fun r => r = .ok (.int (mixF s k)) []) rfl ?_
  unfold mixB
  have b1 : 0 ≤ s % 2147483647 := Int.emod_nonneg _ (by decide)
  have b2 : s % 2147483647 < 2147483647 := Int.emod_lt_of_pos _ (by decide)
  have b3 : 0 ≤ mixT s k := Int.emod_nonneg _ (by decide)
  have b4 : mixT s k < 2147483647 := Int.emod_lt_of_pos _ (by decide)
  have e1 : (s % 2147483647 * 48271 + k * 7919 + 11) % 2147483647 = mixT s k := rfl
  have b5 : 0 ≤ mixT s k * mixT s k % 2147483629 := Int.emod_nonneg _ (by decide)
  have b6 : mixT s k * mixT s k % 2147483629 < 2147483629 := Int.emod_lt_of_pos _ (by decide)
  simp (disch := omega) [e1, mixF]
theorem callP_mix {s k : Int} {h : Hv} (h0 : 0 ≤ k) (h1 : k < 10 ^ 30) : callP mixM [.int s, .int k] h = .ok (.int (mixF s k)) h := callP_ok (by simp) (mixM_eq h0 h1)
@[simp] theorem oIn_sign {c : Nat} {ss : List Nat} {h : Hv} : oIn (tx [c]) (tx ss) h = .ok (.bl (decide (c ∈ ss))) h := by
  show (match inD h (tx [c]) (tx ss) with | some b => R.ok (D.bl b) h | none => .stuck) = _
  have e : inD h (tx [c]) (tx ss) = some (decide (c ∈ (sx ss).cps.toList)) := rfl
  rw [e]
@[simp] theorem oNotIn_sign {c : Nat} {ss : List Nat} {h : Hv} : oNotIn (tx [c]) (tx ss) h = .ok (.bl (!decide (c ∈ ss))) h := by
  show (match inD h (tx [c]) (tx ss) with | some b => R.ok (D.bl (!b)) h | none => .stuck) = _
  have e : inD h (tx [c]) (tx ss) = some (decide (c ∈ (sx ss).cps.toList)) := rfl
  rw [e]
theorem join_sx (s : List Nat) (ps : List (List Nat)) : Txt.join (sx s) (ps.map sx) = sx (TL.joinL s ps) := by
  show Builtin.Str.glued _ _ = _
  rw [StrLaws.glued_eq_join]
  have e := TL.tl_join (sx s) (ps.map sx)
  rw [List.map_map] at e
  have e2 : (TL.tl ∘ sx) = fun p : List Nat => p := by funext p; show (sx p).cps.toList = p; simp
  rw [e2, List.map_id'] at e
  have e3 : TL.tl (sx s) = s := by show (sx s).cps.toList = s; simp
  rw [e3] at e
  show Str.join (sx s) (ps.map sx) = sx (TL.joinL s ps)
  have key : ∀ z : Str, z = sx (TL.tl z) := fun z => by
    cases z with
    | mk a => show Str.mk a = Str.mk (a.toList).toArray; simp
  rw [key (Str.join (sx s) (ps.map sx)), e]
theorem joinL_signs : ∀ cs : List Nat, TL.joinL [] (cs.map fun c => [c]) = cs
  | [] => rfl
  | [_] => rfl
  | c :: d :: r => by
    have ih := joinL_signs (d :: r)
    show [c] ++ ([] ++ TL.joinL [] ((d :: r).map fun c => [c])) = _
    rw [ih]; rfl
theorem toS_tx (ps : List (List Nat)) : optAll toS (ps.map tx) = some (ps.map sx) := by
  have := optAll_map (g := toS) (e := tx) (e' := sx) (xs := ps) fun _ _ => rfl
  exact this
theorem oJoin_ap {s : List Nat} {ps : List (List Nat)} {y : D} {h : Hv} (e : sqOf h y = some (ps.map tx)) (hl : (ps.map (·.length)).sum + ps.length * s.length ≤ 16777216) : oJoin (tx s) y h = .ok (tx (TL.joinL s ps)) h := by
  unfold oJoin
  rw [e]
  simp only [Option.bind_some, toS_tx]
  rw [if_pos, join_sx]
  have e2 : (ps.map sx).map (·.length) = ps.map (·.length) := by
    rw [List.map_map]
    exact List.map_congr_left fun p _ => sx_len p
  rw [e2, List.length_map, sx_len]
  exact hl
theorem frz_txs {n0 n : Nat} {h : Hv} {ps : List (List Nat)} : optAll (frz n0 h (n + 1)) (ps.map tx) = some (ps.map tx) := optAll_map fun _ _ => rfl
def smL : List Nat := [97, 98, 99, 100, 101, 102, 103, 104, 105, 106, 107, 108, 109, 110, 111, 112, 113, 114, 115, 116, 117, 118, 119, 120, 121, 122]
def fgL : List Nat := [48, 49, 50, 51, 52, 53, 54, 55, 56, 57]
theorem sm_eq : ("abcdefghijklmnopqrstuvwxyz" : Str) = sx smL := by decide +kernel
theorem fg_eq : ("0123456789" : Str) = sx fgL := by decide +kernel
theorem smfg_eq : ("abcdefghijklmnopqrstuvwxyz0123456789" : Str) = sx (smL ++ fgL) := by decide +kernel
theorem nil_eq : ("" : Str) = sx [] := by decide +kernel
@[simp] theorem lenD_tx0 {h : Hv} : lenD h (tx []) = some 0 := lenD_tx (cs := []) (by decide)
theorem nw_ne : ¬ (("number" : Str) = "word") := by decide
end
end VD
set_option Elab.async false
set_option linter.all false
set_option maxRecDepth 100000
set_option maxHeartbeats 4000000
namespace WT
open PySem PySem.Spec PyProof.Rows L2 VD
noncomputable section
abbrev Tx := List Nat
inductive Val where
  | no | wd (cs : Tx) | nm (i : Int)
deriving DecidableEq
def valD : Val → D
  | .no => .non
  | .wd cs => tx cs
  | .nm i => .int i
abbrev Fd := Tx × Bool
def kindS (b : Bool) : Str := if b = true then "word" else "number"
def fdD (f : Fd) : D := .tup [tx f.1, .str (kindS f.2)]
def fdsD (fs : List Fd) : D := .lst (fs.map fdD)
inductive Sv where
  | lacks (n : Tx) | is (n : Tx) (v : Val) | under (n : Tx) (v : Val) | over (n : Tx) (v : Val) | not (s : Sv) | all (l : List Sv) | some (l : List Sv)
mutual
def svD : Sv → D
  | .lacks n => .tup [.str "lacks", tx n]
  | .is n v => .tup [.str "is", tx n, valD v]
  | .under n v => .tup [.str "under", tx n, valD v]
  | .over n v => .tup [.str "over", tx n, valD v]
  | .not s => .tup [.str "not", svD s]
  | .all l => .tup [.str "all", .tup (svL l)]
  | .some l => .tup [.str "some", .tup (svL l)]
def svL : List Sv → List D
  | [] => []
  | s :: l => svD s :: svL l
end
theorem svL_map : ∀ l : List Sv, svL l = l.map svD
  | [] => rfl
  | s :: l => by rw [svL, svL_map l]; rfl
mutual
def dep : Sv → Nat
  | .not s => dep s + 1
  | .all l => depL l + 1
  | .some l => depL l + 1
  | _ => 0
def depL : List Sv → Nat
  | [] => 0
  | s :: l => max (dep s) (depL l)
end
theorem dep_mem : ∀ {l : List Sv} {s : Sv}, s ∈ l → dep s ≤ depL l
  | t :: l, s, h => by
    rw [depL]
    cases h with
    | head => omega
    | tail _ h => have := dep_mem h; omega
mutual
theorem noC_sv : ∀ s : Sv, noC (svD s) = true
  | .lacks n => rfl
  | .is n v => by cases v <;> rfl
  | .under n v => by cases v <;> rfl
  | .over n v => by cases v <;> rfl
  | .not s => by simp [svD, noC, noCL, noC_sv s]
  | .all l => by simp [svD, noC, noCL, noC_svL l]
  | .some l => by simp [svD, noC, noCL, noC_svL l]
theorem noC_svL : ∀ l : List Sv, noCL (svL l) = true
  | [] => rfl
  | s :: l => by rw [svL, noCL, noC_sv s, noC_svL l]; rfl
end
theorem noC_fds (fs : List Fd) : noC (fdsD fs) = true := by
  unfold fdsD
  rw [noC, noCL_all, List.all_map]
  exact List.all_eq_true.mpr fun v _ => rfl
theorem frz_val {n0 n : Nat} {h : Hv} (v : Val) : frz n0 h (n + 1) (valD v) = some (valD v) := by cases v <;> rfl
theorem frz_fd {n0 n : Nat} {h : Hv} (f : Fd) : frz n0 h (n + 2) (fdD f) = some (fdD f) := rfl
theorem frz_fds {n0 n : Nat} {h : Hv} (fs : List Fd) : frz n0 h (n + 3) (fdsD fs) = some (fdsD fs) := by
  show (optAll (frz n0 h (n + 2)) (fs.map fdD)).map D.lst = _
  rw [optAll_map (g := frz n0 h (n + 2)) (e := fdD) (e' := fdD) fun v _ => frz_fd v]; rfl
def okName (w : Tx) : Prop := 1 ≤ w.length ∧ w.length ≤ 12 ∧ ∀ c ∈ w, c ∈ smL
def okWord (w : Tx) : Prop := 1 ≤ w.length ∧ w.length ≤ 12 ∧ ∀ c ∈ w, c ∈ smL ++ fgL
theorem okName.word {w : Tx} (h : okName w) : okWord w := ⟨h.1, h.2.1, fun c hc => List.mem_append_left _ (h.2.2 c hc)⟩
def ValOk (b : Bool) : Val → Prop
  | .no => True
  | .wd cs => b = true ∧ okWord cs
  | .nm i => b = false ∧ -(10 ^ 60) < i ∧ i < 10 ^ 60
structure FdsOk (fs : List Fd) : Prop where
  lo : 1 ≤ fs.length
  hi : fs.length ≤ 8
  nd : (fs.map (·.1)).Nodup
  nm : ∀ f ∈ fs, okName f.1
structure RowOk (fs : List Fd) (r : List Val) : Prop where
  len : r.length = fs.length
  at_ : ∀ (i : Nat) (f : Fd) (v : Val), fs[i]? = some f → r[i]? = some v → ValOk f.2 v
theorem RowOk.get {fs : List Fd} {r : List Val} (h : RowOk fs r) {i : Nat} {f : Fd} (hi : fs[i]? = some f) : ∃ v, r[i]? = some v ∧ ValOk f.2 v := by
  have hl : i < r.length := by rw [h.len]; exact (List.getElem?_eq_some_iff.mp hi).1
  exact ⟨r[i], List.getElem?_eq_getElem hl, h.at_ i f _ hi (List.getElem?_eq_getElem hl)⟩
/-- the place of a name -/
def plN (fs : List Fd) (n : Tx) : Option Nat := match fs with
  | [] => none
  | f :: r => if f.1 = n then some 0 else (plN r n).map (· + 1)
theorem plN_some {n : Tx} : ∀ {fs : List Fd} {i : Nat}, plN fs n = some i → ∃ b, fs[i]? = some (n, b)
  | [], i, h => by cases h
  | f :: r, i, h => by
    unfold plN at h
    split at h
    · next q => cases h; exact ⟨f.2, by rw [List.getElem?_cons_zero, ← q]⟩
    · obtain ⟨j, hj, rfl⟩ := Option.map_eq_some_iff.mp h
      obtain ⟨b, hb⟩ := plN_some hj
      exact ⟨b, by rw [List.getElem?_cons_succ]; exact hb⟩
theorem plN_first {n : Tx} : ∀ {fs : List Fd} {i : Nat}, plN fs n = some i → ∀ (j : Nat) (f : Fd), j < i → fs[j]? = some f → f.1 ≠ n
  | [], i, h => by cases h
  | f :: r, i, h => by
    unfold plN at h
    split at h
    · next q => cases h; intro j g hj; omega
    · next q =>
      obtain ⟨k, hk, rfl⟩ := Option.map_eq_some_iff.mp h
      intro j g hj hg
      cases j with
      | zero => rw [List.getElem?_cons_zero] at hg; cases hg; exact q
      | succ j => rw [List.getElem?_cons_succ] at hg; exact plN_first hk j g (by omega) hg
theorem plN_none {n : Tx} : ∀ {fs : List Fd}, plN fs n = none ↔ ∀ f ∈ fs, f.1 ≠ n
  | [] => ⟨fun _ f h => (by cases h), fun _ => rfl⟩
  | f :: r => by
    unfold plN
    split
    · next q => exact ⟨fun h => (by cases h), fun h => absurd q (h f List.mem_cons_self)⟩
    · next q =>
      rw [Option.map_eq_none_iff, plN_none]
      constructor
      · intro h g hg
        cases hg with
        | head => exact q
        | tail _ hg => exact h g hg
      · exact fun h g hg => h g (List.mem_cons_of_mem _ hg)
theorem plN_at {fs : List Fd} (nd : (fs.map (·.1)).Nodup) {i : Nat} {f : Fd} (h : fs[i]? = some f) : plN fs f.1 = some i := by
  cases q : plN fs f.1 with
  | none => exact absurd rfl (plN_none.mp q f (List.mem_of_getElem? h))
  | some j =>
    obtain ⟨b, hb⟩ := plN_some q
    have e1 : (fs.map (·.1))[i]? = some f.1 := by rw [List.getElem?_map, h]; rfl
    have e2 : (fs.map (·.1))[j]? = some f.1 := by rw [List.getElem?_map, hb]; rfl
    have := (List.getElem?_inj (List.getElem?_eq_some_iff.mp e1).1 nd).mp (e1.trans e2.symm)
    rw [this]
def letV : Sv → Val → Bool
  | .lacks _, v => decide (v = .no)
  | .is _ u, v => decide (v ≠ .no ∧ v = u)
  | .under _ u, v => match v, u with
    | .nm a, .nm b => decide (a < b)
    | .wd a, .wd b => decide (a < b)
    | _, _ => false
  | .over _ u, v => match v, u with
    | .nm a, .nm b => decide (b < a)
    | .wd a, .wd b => decide (b < a)
    | _, _ => false
  | _, _ => false
mutual
def SvOk (fs : List Fd) : Sv → Prop
  | .lacks n => ∃ (i : Nat) (b : Bool), fs[i]? = some (n, b)
  | .is n v => ∃ (i : Nat) (b : Bool), fs[i]? = some (n, b) ∧ v ≠ .no ∧ ValOk b v
  | .under n v => ∃ (i : Nat) (j : Int), fs[i]? = some (n, false) ∧ v = .nm j ∧ ValOk false v
  | .over n v => ∃ (i : Nat) (j : Int), fs[i]? = some (n, false) ∧ v = .nm j ∧ ValOk false v
  | .not s => SvOk fs s
  | .all l => SvOkL fs l
  | .some l => SvOkL fs l
def SvOkL (fs : List Fd) : List Sv → Prop
  | [] => True
  | s :: l => SvOk fs s ∧ SvOkL fs l
end
mutual
/-- no more than so many parts in any of it -/
def wid (k : Nat) : Sv → Prop
  | .not s => wid k s
  | .all l => l.length ≤ k ∧ widL k l
  | .some l => l.length ≤ k ∧ widL k l
  | _ => True
def widL (k : Nat) : List Sv → Prop
  | [] => True
  | s :: l => wid k s ∧ widL k l
end
theorem SvOkL_mem {fs : List Fd} : ∀ {l : List Sv}, SvOkL fs l ↔ ∀ s ∈ l, SvOk fs s
  | [] => ⟨fun _ s h => (by cases h), fun _ => by simp only [SvOkL]⟩
  | s :: l => by
    rw [SvOkL, SvOkL_mem]
    constructor
    · rintro ⟨h1, h2⟩ t ht
      cases ht with
      | head => exact h1
      | tail _ ht => exact h2 t ht
    · exact fun h => ⟨h s List.mem_cons_self, fun t ht => h t (List.mem_cons_of_mem _ ht)⟩
theorem widL_mem {k : Nat} : ∀ {l : List Sv}, widL k l ↔ ∀ s ∈ l, wid k s
  | [] => ⟨fun _ s h => (by cases h), fun _ => by simp only [widL]⟩
  | s :: l => by
    rw [widL, widL_mem]
    constructor
    · rintro ⟨h1, h2⟩ t ht
      cases ht with
      | head => exact h1
      | tail _ ht => exact h2 t ht
    · exact fun h => ⟨h s List.mem_cons_self, fun t ht => h t (List.mem_cons_of_mem _ ht)⟩
theorem cutD_tk {xs : List D} {c : Int} (h0 : 0 ≤ c) : VD.cutD xs none (some c) = xs.take c.toNat := by
  unfold VD.cutD
  have e : HT.sIx xs.length xs.length (some c) = min c.toNat xs.length := by
    show (if c < 0 then _ else min c.toNat xs.length) = _
    rw [if_neg (by omega)]
  rw [e, HT.sIx_none, List.drop_zero, Nat.sub_zero, ← List.take_eq_take_min]
@[simp] theorem bTuple_lst {xs : List D} {h : Hv} : bTuple [.lst xs] h = .ok (.tup xs) h := rfl
@[simp] theorem bTuple_fz {xs : List D} {h : Hv} : bTuple [.fz xs] h = .ok (.tup xs) h := rfl
@[simp] theorem bTuple_tup {xs : List D} {h : Hv} : bTuple [.tup xs] h = .ok (.tup xs) h := rfl
theorem bTuple_cell {xs : List D} {n : Nat} {h : Hv} (e : h[n]? = some (.lst xs)) : bTuple [.cell n] h = .ok (.tup xs) h := by
  show (match lOf h (.cell n) with
    | some xs => VD.R.ok (D.tup xs) h
    | none => (match tOf (.cell n) with
      | some xs => .ok (.tup xs) h
      | none => .stuck)) = _
  rw [lOf_cell, e]
end
end WT
set_option Elab.async false
set_option linter.all false
set_option maxRecDepth 100000
set_option maxHeartbeats 4000000
namespace PS
open PySem PySem.Spec PyProof.Rows L2 VD
noncomputable section
def l_field_at_1 : SS := sFor (iR1 (aCons (eCa bLen (aCons (eVar 0) (aNil))) (aNil))) (gN 2) (sIf (toB (eOp oEq (eOp oIx (eOp oIx (eVar 0) (eVar 2)) (eK (.int 0))) (eVar 1))) (sRet (eVar 2)) (sNext))
def b_field_at : SS := sSeq (l_field_at_1) (sRaiseP "NoField" "name" (eVar 1))
def m_field_at : List D → Hv → R D := fnS 2 1 b_field_at
def b_lets_value_by : SS := sSeq (sIf (cOr (toB (eOp oEq (eOp oIx (eVar 0) (eK (.int 0))) (eK (.str "lacks")))) (toB (eOp oIs (eVar 1) (eK .non)))) (sRet (eAndV (eOp oEq (eOp oIx (eVar 0) (eK (.int 0))) (eK (.str "lacks"))) (eOp oIs (eVar 1) (eK .non)))) (sNext)) (sSeq (sIf (toB (eOp oEq (eOp oIx (eVar 0) (eK (.int 0))) (eK (.str "is")))) (sRet (eOp oEq (eVar 1) (eOp oIx (eVar 0) (eK (.int 2))))) (sNext)) (sSeq (sIf (toB (eOp oEq (eOp oIx (eVar 0) (eK (.int 0))) (eK (.str "under")))) (sRet (eOp oLt (eVar 1) (eOp oIx (eVar 0) (eK (.int 2))))) (sNext)) (sRet (eOp oGt (eVar 1) (eOp oIx (eVar 0) (eK (.int 2)))))))
def m_lets_value_by : List D → Hv → R D := fnQ 2 0 b_lets_value_by
open WT
theorem field_eq {fs : List Fd} {n : Tx} (hl : fs.length ≤ 100) : (∀ i, plN fs n = some i → m_field_at [fdsD fs, tx n] [] = .ok (.int (i : Nat)) []) ∧ (plN fs n = none → m_field_at [fdsD fs, tx n] [] = .exc ⟨"NoField", some ("name", tx n)⟩ []) := by
  have key : ∀ Q : VD.R D → Prop, (∀ i, plN fs n = some i → Q (.ok (.int (i : Nat)) [])) → (plN fs n = none → Q (.exc ⟨"NoField", some ("name", tx n)⟩ [])) → Q (m_field_at [fdsD fs, tx n] []) := by
    intro Q h1 h2
    refine fnS_of (P := Q) rfl ?_
    unfold b_field_at
    simp only [Wp_seq]
    unfold l_field_at_1
    have lf : ∀ h, lenD h (fdsD fs) = some (fs.length : Int) := fun h => by unfold fdsD; rw [lenD_lst, List.length_map]
    obtain ⟨I, hI⟩ : ∃ I : Nat → VS → Hv → Prop, I = fun i σ h => ∃ x2 : Option D, σ = [some (fdsD fs), some (tx n), x2] ∧ h = [] ∧ ∀ (j : Nat) f, j < i → fs[j]? = some f → f.1 ≠ n := ⟨_, rfl⟩
    refine Wp.range 0 fs.length I (h0 := []) (by simp (disch := omega) [lf]) (by rw [hI]; exact ⟨_, rfl, rfl, fun j f hj => by omega⟩) ?_ ?_
    · intro i σ h hi hh
      rw [hI] at hh
      obtain ⟨x2, rfl, rfl, al⟩ := hh
      refine ⟨_, rfl, ?_⟩
      have e1 : ixD [] (fdsD fs) (i : Int) = some (fdD fs[i]) := atI_map (atI_at rfl (List.getElem?_eq_getElem hi))
      have e2 : ∀ h, ixD h (fdD fs[i]) 0 = some (tx fs[i].1) := fun _ => rfl
      by_cases q : fs[i].1 = n
      · have e3 : plN fs n = some i := by
          cases z : plN fs n with
          | none => exact absurd q (plN_none.mp z _ (List.getElem_mem hi))
          | some j =>
            obtain ⟨b, hb⟩ := plN_some z
            by_cases q1 : j < i
            · exact absurd rfl (al j _ q1 hb)
            · by_cases q2 : i < j
              · exact absurd q (plN_first z i _ q2 (List.getElem?_eq_getElem hi))
              · rw [show j = i by omega]
        simp [e1, e2, eqD_tx, q]
        exact h1 i e3
      · simp [e1, e2, eqD_tx, q]
        rw [hI]
        refine ⟨_, rfl, rfl, fun j f hj hf => ?_⟩
        by_cases q1 : j = i
        · subst q1
          rw [List.getElem?_eq_getElem hi] at hf
          cases hf; exact q
        · exact al j f (by omega) hf
    · intro σ h hh
      rw [hI] at hh
      obtain ⟨x2, rfl, rfl, al⟩ := hh
      simp
      refine h2 (plN_none.mpr fun f hf => ?_)
      obtain ⟨j, hj⟩ := List.getElem?_of_mem hf
      exact al j f (List.getElem?_eq_some_iff.mp hj).1 hj
  refine ⟨fun i e => key (fun x => x = .ok (.int (i : Nat)) []) (fun j e2 => ?_) (fun e2 => ?_), fun e => key (fun x => x = .exc ⟨"NoField", some ("name", tx n)⟩ []) (fun j e2 => ?_) (fun _ => rfl)⟩
  · rw [e] at e2; cases e2; rfl
  · rw [e] at e2; cases e2
  · rw [e] at e2; cases e2
theorem frz_tx {n0 n : Nat} {h : Hv} {cs : Tx} : frz n0 h (n + 1) (tx cs) = some (tx cs) := rfl
theorem field_call {fs : List Fd} {n : Tx} {i : Nat} (hl : fs.length ≤ 100) (e : plN fs n = some i) (h : Hv) : callP m_field_at [fdsD fs, tx n] h = .ok (.int (i : Nat)) h := cP ((field_eq hl).1 i e) (by simp [frz_fds]) h
theorem eqD_val {h : Hv} (a b : Val) : eqD h (valD a) (valD b) = some (decide (a = b)) := by
  cases a with
  | no => cases b <;> rfl
  | wd x =>
    cases b with
    | no => rfl
    | wd y => show eqD h (tx x) (tx y) = _; rw [eqD_tx]; congr 1; rw [decide_eq_decide]; exact ⟨fun e => by rw [e], fun e => by cases e; rfl⟩
    | nm j => rfl
  | nm i =>
    cases b with
    | no => rfl
    | wd y => rfl
    | nm j => show eqD h (.int i) (.int j) = _; simp
theorem isD_val {v : Val} : isD (valD v) .non = some (decide (v = .no)) := by cases v <;> rfl
theorem s_il : ¬ (("is" : Str) = "lacks") := by decide
theorem s_ul : ¬ (("under" : Str) = "lacks") := by decide
theorem s_ol : ¬ (("over" : Str) = "lacks") := by decide
theorem s_ui : ¬ (("under" : Str) = "is") := by decide
theorem s_oi : ¬ (("over" : Str) = "is") := by decide
theorem s_ou : ¬ (("over" : Str) = "under") := by decide
/-- a plain sieve fits a value -/
def fits (s : Sv) (v : Val) : Prop := match s with
  | .lacks _ => True
  | .is _ _ => True
  | .under _ u => (v = .no ∨ ∃ i, v = .nm i) ∧ ∃ j, u = .nm j
  | .over _ u => (v = .no ∨ ∃ i, v = .nm i) ∧ ∃ j, u = .nm j
  | _ => False
theorem value_eq {s : Sv} {v : Val} (f : fits s v) : m_lets_value_by [svD s, valD v] [] = .ok (.bl (letV s v)) [] := by
  refine fnQ_of (P := fun x => x = .ok (.bl (letV s v)) []) rfl ?_
  unfold b_lets_value_by
  cases s with
  | lacks n =>
    simp [svD, isD_val, letV]
  | is n u =>
    by_cases q : v = .no
    · subst q
      simp [svD, isD_val, letV, s_il]
    · simp [svD, isD_val, letV, s_il, q, eqD_val]
  | under n u =>
    obtain ⟨f1, j, rfl⟩ := f
    rcases f1 with rfl | ⟨i, rfl⟩
    · simp [svD, isD_val, letV, s_ul]
    · simp [svD, isD_val, letV, s_ul, s_ui, valD]
  | over n u =>
    obtain ⟨f1, j, rfl⟩ := f
    rcases f1 with rfl | ⟨i, rfl⟩
    · simp [svD, isD_val, letV, s_ol]
    · simp [svD, isD_val, letV, s_ol, s_oi, s_ou, valD]
  | not s => exact f.elim
  | all l => exact f.elim
  | some l => exact f.elim
theorem s_an : ¬ (("all" : Str) = "not") := by decide
theorem s_sn : ¬ (("some" : Str) = "not") := by decide
theorem s_sa : ¬ (("some" : Str) = "all") := by decide
theorem s_ln : ¬ (("lacks" : Str) = "not") := by decide
theorem s_la : ¬ (("lacks" : Str) = "all") := by decide
theorem s_ls : ¬ (("lacks" : Str) = "some") := by decide
theorem s_in : ¬ (("is" : Str) = "not") := by decide
theorem s_ia : ¬ (("is" : Str) = "all") := by decide
theorem s_is : ¬ (("is" : Str) = "some") := by decide
theorem s_un : ¬ (("under" : Str) = "not") := by decide
theorem s_ua : ¬ (("under" : Str) = "all") := by decide
theorem s_us : ¬ (("under" : Str) = "some") := by decide
theorem s_on : ¬ (("over" : Str) = "not") := by decide
theorem s_oa : ¬ (("over" : Str) = "all") := by decide
theorem s_os : ¬ (("over" : Str) = "some") := by decide
end
end PS
set_option Elab.async false
set_option linter.all false
set_option maxRecDepth 100000
set_option maxHeartbeats 4000000
namespace WD
open PySem PySem.Spec PyProof.Rows L2 VD
noncomputable section
def c__law_heads_1 : LS := lLc (iR1 (aCons (eVar 3) (aNil))) (gN 8) (cYes) (eOp oIx (eVar 1) (eOp oMod (eOp oAdd (eOp oFdiv (eVar 0) (eK (.int 1664))) (eOp oMul (eOp oMul (eK (.int 5)) (eVar 8)) (eVar 8))) (eCa bLen (aCons (eVar 1) (aNil))))) [8]
def c__law_heads_2 : LS := lLc (iR1 (aCons (eVar 2) (aNil))) (gN 8) (cYes) (eSl (eVar 9) (pNo) (pAt (eOp oAdd (eVar 8) (eK (.int 1))))) [8]
def l__law_heads_1 : SS := sFor (iR1 (aCons (eVar 2) (aNil))) (gN 8) (sSeq (sSet 10 (eOp oIx (eVar 1) (eOp oMod (eOp oAdd (eOp oFdiv (eVar 0) (eK (.int 1664))) (eOp oMul (eK (.int 5)) (eVar 8))) (eCa bLen (aCons (eVar 1) (aNil)))))) (sDrop (eBM mAppend (eVar 7) (aCons (eOp oAdd (eOp oAdd (eOp oMulS (eVar 6) (eVar 5)) (eVar 10)) (eOp oMulS (eVar 6) (eOp oSub (eOp oSub (eVar 4) (eVar 5)) (eK (.int 1))))) (aNil)))))
def b__law_heads : SS := sSeq (sIf (cAnd (toB (eOp oEq (eOp oMod (eOp oFdiv (eVar 0) (eK (.int 43264))) (eK (.int 4))) (eK (.int 3)))) (toB (eOp oLe (eVar 2) (eVar 3)))) (sSeq (sSet 9 (eStr1 oJoin (eK (.str "")) (eV (c__law_heads_1)))) (sRet (eV (c__law_heads_2)))) (sNext)) (sSeq (sSet 4 (eOp oAdd (eK (.int 1)) (eOp oMod (eVar 0) (eVar 3)))) (sSeq (sSet 5 (eOp oMod (eOp oFdiv (eVar 0) (eK (.int 12))) (eVar 4))) (sSeq (sSet 6 (eOp oIx (eVar 1) (eOp oMod (eOp oFdiv (eVar 0) (eK (.int 64))) (eCa bLen (aCons (eVar 1) (aNil)))))) (sSeq (sSet 7 (eC (lLst (aNil)))) (sSeq (l__law_heads_1) (sRet (eVar 7)))))))
def m__law_heads : List D → Hv → R D := fnS 4 7 b__law_heads
def c__law_world_1 : LS := lLc (iR1 (aCons (eVar 2) (aNil))) (gN 7) (cYes) (eTup (aCons (eOp oIx (eVar 3) (eVar 7)) (aCons (eOp oIx (eV (lLst (aCons (eK (.str "word")) (aCons (eK (.str "number")) (aNil))))) (eOp oMod (eCa (Cm.f .P mixM) (aCons (eVar 1) (aCons (eOp oAdd (eVar 7) (eK (.int 30))) (aNil)))) (eK (.int 2)))) (aNil)))) [7]
def b__law_world : SS := sSeq (sSet 1 (eCa (Cm.f .P mixM) (aCons (eCa (Cm.f .P cellM) (aCons (eVar 0) (aCons (eK (.int 0)) (aNil)))) (aCons (eK (.int 1)) (aNil))))) (sSeq (sSet 2 (eOp oAdd (eK (.int 1)) (eOp oMod (eVar 1) (eK (.int 8))))) (sSeq (sSet 3 (eCa (Cm.f .P m__law_heads) (aCons (eCa (Cm.f .P mixM) (aCons (eVar 1) (aCons (eK (.int 2)) (aNil)))) (aCons (eK (.str "abcdefghijklmnopqrstuvwxyz")) (aCons (eVar 2) (aCons (eK (.int 12)) (aNil))))))) (sSeq (sSet 4 (eV (c__law_world_1))) (sSeq (sSet 5 (eCa (Cm.f .P m__law_heads) (aCons (eCa (Cm.f .P mixM) (aCons (eVar 1) (aCons (eK (.int 3)) (aNil)))) (aCons (eK (.str "abcdefghijklmnopqrstuvwxyz0123456789")) (aCons (eK (.int 4)) (aCons (eK (.int 12)) (aNil))))))) (sSeq (sIf (toB (eOp oEq (eOp oMod (eOp oFdiv (eVar 1) (eK (.int 8))) (eK (.int 3))) (eK (.int 1)))) (sSet 5 (eV (eOp oCat (eV (lSl (eVar 3) (pNo) (pAt (eK (.int 3))))) (eV (lSl (eVar 5) (pNo) (pAt (eK (.int 1)))))))) (sNext)) (sSeq (sSet 6 (eOp oIx (eV (lLst (aCons (eK (.int 0)) (aCons (eOp oMul (eK (.int 9)) (eOp oPow (eK (.int 10)) (eK (.int 59)))) (aCons (eOp oSub (eK (.int 0)) (eOp oMul (eK (.int 9)) (eOp oPow (eK (.int 10)) (eK (.int 59))))) (aCons (eK (.int 98)) (aNil))))))) (eOp oMod (eOp oFdiv (eVar 1) (eK (.int 24))) (eK (.int 4))))) (sRet (eDispF (pCons (eK (.str "fields")) (eVar 4) (pCons (eK (.str "words")) (eVar 5) (pCons (eK (.str "base")) (eVar 6) (pNil))))))))))))
def m__law_world : List D → Hv → R D := fnS 1 7 b__law_world
def b__law_sure_value : SS := sSeq (sIf (toB (eOp oEq (eVar 1) (eK (.str "word")))) (sRet (eOp oIx (eOp oDget (eVar 2) (eK (.str "words"))) (eOp oMod (eVar 0) (eCa bLen (aCons (eOp oDget (eVar 2) (eK (.str "words"))) (aNil)))))) (sNext)) (sRet (eOp oSub (eOp oAdd (eOp oDget (eVar 2) (eK (.str "base"))) (eOp oMod (eVar 0) (eK (.int 6)))) (eK (.int 2))))
def m__law_sure_value : List D → Hv → R D := fnS 3 0 b__law_sure_value
def b__law_plain : SS := sSeq (sAsg (eOp oIx (eOp oDget (eVar 1) (eK (.str "fields"))) (eOp oMod (eVar 0) (eCa bLen (aCons (eOp oDget (eVar 1) (eK (.str "fields"))) (aNil))))) (gT 2 (gsCons (gN 3) (gsCons (gN 4) (gsNil))))) (sSeq (sSet 2 (eOp oMod (eOp oFdiv (eVar 0) (eK (.int 8))) (eK (.int 4)))) (sSeq (sIf (toB (eOp oEq (eVar 2) (eK (.int 0)))) (sRet (eTup (aCons (eK (.str "lacks")) (aCons (eVar 3) (aNil))))) (sNext)) (sSeq (sIf (cOr (toB (eOp oEq (eVar 2) (eK (.int 1)))) (toB (eOp oEq (eVar 4) (eK (.str "word"))))) (sRet (eTup (aCons (eK (.str "is")) (aCons (eVar 3) (aCons (eCa (Cm.f .P m__law_sure_value) (aCons (eOp oFdiv (eVar 0) (eK (.int 32))) (aCons (eVar 4) (aCons (eVar 1) (aNil))))) (aNil)))))) (sNext)) (sRet (eTup (aCons (eOp oIx (eV (lLst (aCons (eK (.str "under")) (aCons (eK (.str "over")) (aNil))))) (eOp oSub (eVar 2) (eK (.int 2)))) (aCons (eVar 3) (aCons (eCa (Cm.f .P m__law_sure_value) (aCons (eOp oFdiv (eVar 0) (eK (.int 32))) (aCons (eVar 4) (aCons (eVar 1) (aNil))))) (aNil)))))))))
def m__law_plain : List D → Hv → R D := fnQ 2 3 b__law_plain
open WT PS
theorem rep_sx {c : Nat} {n : Int} : repS (sx [c]) n = sx (List.replicate n.toNat c) := by
  unfold repS
  have e : (sx [c]).cps.toList = [c] := by simp
  rw [e]
  show Str.mk _ = Str.mk _
  congr 2
  induction n.toNat with
  | zero => rfl
  | succ m ih => rw [List.replicate_succ, List.flatten_cons, ih]; rfl
def sg (ss : List Nat) (k : Int) : Nat := ss[k.toNat]?.getD 0
theorem sg_mem {ss : List Nat} {k : Int} (h0 : 0 ≤ k) (h1 : k < ss.length) : sg ss k ∈ ss := by
  have h2 : k.toNat < ss.length := by omega
  unfold sg
  rw [List.getElem?_eq_getElem h2]
  exact List.getElem_mem h2
theorem sg_inj {ss : List Nat} (nd : ss.Nodup) {i j : Int} (h0 : 0 ≤ i) (h1 : i < ss.length) (k0 : 0 ≤ j) (k1 : j < ss.length) (h : sg ss i = sg ss j) : i = j := by
  have h2 : i.toNat < ss.length := by omega
  have k2 : j.toNat < ss.length := by omega
  unfold sg at h
  rw [List.getElem?_eq_getElem h2, List.getElem?_eq_getElem k2] at h
  have := (List.getElem_inj nd).mp h
  omega
theorem ix_sg {ss : List Nat} {k : Int} {h : Hv} (hl : ss.length ≤ 100) (h0 : 0 ≤ k) (h1 : k < ss.length) : ixD h (tx ss) k = some (tx [sg ss k]) := ixD_tx (by omega) h0 h1
structure Heads (ss : List Nat) (many most : Nat) (ws : List Tx) : Prop where
  len : ws.length = many
  nd : ws.Nodup
  ok : ∀ w ∈ ws, 1 ≤ w.length ∧ w.length ≤ most ∧ ∀ c ∈ w, c ∈ ss
def headW (ss : List Nat) (seed : Int) (most : Nat) : Tx := (List.range most).map fun k : Nat => sg ss ((seed / 1664 + 5 * (k : Int) * (k : Int)) % ss.length)
def headV (ss : List Nat) (seed few at_ : Int) (k : Nat) : Tx := List.replicate at_.toNat (sg ss (seed / 64 % ss.length)) ++ [sg ss ((seed / 1664 + 5 * (k : Int)) % ss.length)] ++ List.replicate (few - at_ - 1).toNat (sg ss (seed / 64 % ss.length))
theorem joinS {ws : List Nat} {h : Hv} (hl : ws.length ≤ 1000) : oJoin (tx []) (.lst (ws.map fun c => tx [c])) h = .ok (tx ws) h := by
  have e := oJoin_ap (s := []) (ps := ws.map fun c => [c]) (y := .lst (ws.map fun c => tx [c])) (h := h) (by rw [List.map_map]; rfl) (by
    rw [List.map_map]
    have : ((ws.map ((fun x => x.length) ∘ fun c => [c]))).sum = ws.length := by
      clear hl
      induction ws with
      | nil => rfl
      | cons a ws ih => rw [List.map_cons, List.sum_cons, ih]; simp; omega
    rw [this]; simp; omega)
  rw [e, joinL_signs]
theorem mid {a b n : Nat} {c : List Nat} : (List.replicate n a ++ [b] ++ c)[n]? = some b := by
  rw [List.append_assoc, List.getElem?_append_right (by simp)]
  simp
theorem heads_eq {ss : List Nat} {seed : Int} {many most : Nat} (nd : ss.Nodup) (l1 : 1 ≤ ss.length) (l2 : ss.length ≤ 100) (s0 : 0 ≤ seed) (s1 : seed < 10 ^ 20) (hm : many ≤ 10) (h1 : 1 ≤ most) (h2 : most ≤ 12)
    (h5 : ∀ a i j : Int, 0 ≤ i → i < 10 → 0 ≤ j → j < 10 → (a + 5 * i) % ss.length = (a + 5 * j) % ss.length → i = j) :
    ∃ ws, m__law_heads [.int seed, tx ss, .int many, .int most] [] = .ok (.lst (ws.map tx)) [] ∧ Heads ss many most ws := by
  refine fnS_of (P := fun x => ∃ ws, x = .ok (.lst (ws.map tx)) [] ∧ Heads ss many most ws) rfl ?_
  unfold b__law_heads
  have hL : (0 : Int) < (ss.length : Int) := by omega
  have lss : ∀ h, lenD h (tx ss) = some (ss.length : Int) := fun h => lenD_tx (by omega)
  have md : ∀ x : Int, 0 ≤ x % (ss.length : Int) ∧ x % (ss.length : Int) < ss.length := fun x => ⟨Int.emod_nonneg _ (by omega), Int.emod_lt_of_pos _ hL⟩
  have big : (10 : Int) ^ 20 < 10 ^ 77 := by decide
  have second : Wp (Rt fun x => ∃ ws, x = .ok (.lst (ws.map tx)) [] ∧ Heads ss many most ws) ((sSeq (sSet 4 (eOp oAdd (eK (.int 1)) (eOp oMod (eVar 0) (eVar 3)))) (sSeq (sSet 5 (eOp oMod (eOp oFdiv (eVar 0) (eK (.int 12))) (eVar 4))) (sSeq (sSet 6 (eOp oIx (eVar 1) (eOp oMod (eOp oFdiv (eVar 0) (eK (.int 64))) (eCa bLen (aCons (eVar 1) (aNil)))))) (sSeq (sSet 7 (eC (lLst (aNil)))) (sSeq (l__law_heads_1) (sRet (eVar 7))))))) [some (.int seed), some (tx ss), some (.int (many : Int)), some (.int (most : Int)), none, none, none, none, none, none, none] []) := by
    have hp : (0 : Int) < (most : Int) := by omega
    have m1 := Int.emod_nonneg seed (show (most : Int) ≠ 0 by omega)
    have m2 := Int.emod_lt_of_pos seed hp
    obtain ⟨few, hf⟩ : ∃ few : Int, 1 + seed % (most : Int) = few := ⟨_, rfl⟩
    have fp : (0 : Int) < few := by omega
    have a1 := Int.emod_nonneg (seed / 12) (show few ≠ 0 by omega)
    have a2 := Int.emod_lt_of_pos (seed / 12) fp
    obtain ⟨at_, ha⟩ : ∃ at_ : Int, seed / 12 % few = at_ := ⟨_, rfl⟩
    rw [ha] at a1 a2
    have r1 := fun h => ix_sg (h := h) l2 (md (seed / 64)).1 (md (seed / 64)).2
    obtain ⟨rest, hr⟩ : ∃ rest, sg ss (seed / 64 % ss.length) = rest := ⟨_, rfl⟩
    simp (disch := omega) [hf, ha, lss, r1, hr, if_pos]
    unfold l__law_heads_1
    obtain ⟨I, hI⟩ : ∃ I : Nat → VS → Hv → Prop, I = fun i σ h => ∃ (x8 x10 : Option D), σ = [some (.int seed), some (tx ss), some (.int (many : Int)), some (.int (most : Int)), some (.int few), some (.int at_), some (tx [rest]), some (.cell 0), x8, none, x10] ∧ h = [.lst (((List.range i).map (headV ss seed few at_)).map tx)] := ⟨_, rfl⟩
    refine Wp.range 0 many I (h0 := [.lst []]) (by simp (disch := omega)) (by rw [hI]; exact ⟨_, _, rfl, rfl⟩) ?_ ?_
    · intro i σ h hi hh
      rw [hI] at hh
      obtain ⟨x8, x10, rfl, rfl⟩ := hh
      refine ⟨_, rfl, ?_⟩
      have r2 := fun h => ix_sg (h := h) l2 (md (seed / 1664 + 5 * (i : Int))).1 (md (seed / 1664 + 5 * (i : Int))).2
      have m3 : ∀ h, oMulS (tx [rest]) (.int at_) h = .ok (tx (List.replicate at_.toNat rest)) h := fun h => by rw [oMulS_ap (by omega) (by omega) (by rw [sx_len]; simp), rep_sx]
      obtain ⟨n2, hn2⟩ : ∃ n2 : Nat, (few - at_ - 1).toNat = n2 := ⟨_, rfl⟩
      have m4 : ∀ h, oMulS (tx [rest]) (.int (few - at_ - 1)) h = .ok (tx (List.replicate n2 rest)) h := fun h => by rw [oMulS_ap (by omega) (by omega) (by rw [sx_len]; simp), rep_sx, hn2]
      have m5 := fun h => oAdd_tx (a := List.replicate at_.toNat rest) (b := [sg ss ((seed / 1664 + 5 * (i : Int)) % ss.length)]) (h := h) (by simp; omega)
      have m6 := fun h => oAdd_tx (a := List.replicate at_.toNat rest ++ [sg ss ((seed / 1664 + 5 * (i : Int)) % ss.length)]) (b := List.replicate n2 rest) (h := h) (by simp; omega)
      have hv : headV ss seed few at_ i = List.replicate at_.toNat rest ++ [sg ss ((seed / 1664 + 5 * (i : Int)) % ss.length)] ++ List.replicate n2 rest := by unfold headV; rw [hr, hn2]
      have lv : (headV ss seed few at_ i).length ≤ 100 := by rw [hv]; simp; omega
      have ek : ((List.range i).map (headV ss seed few at_)).map tx ++ [tx (headV ss seed few at_ i)] = ((List.range (i + 1)).map (headV ss seed few at_)).map tx := by rw [List.range_succ, List.map_append, List.map_append]; rfl
      simp (disch := omega) [lss, r2, m3, m4, m5, m6, if_pos, ← hv, ek, -List.map_append, -List.map_map, -List.append_assoc]
      rw [hI]
      exact ⟨_, _, rfl, rfl⟩
    · intro σ h hh
      rw [hI] at hh
      obtain ⟨x8, x10, rfl, rfl⟩ := hh
      simp [frz_txs, -List.map_map]
      refine ⟨_, rfl, by simp, ?_, fun w hw => ?_⟩
      · rw [List.nodup_iff_pairwise_ne, List.pairwise_map]
        refine List.Pairwise.imp_of_mem (fun {i j} hi hj hne z => hne ?_) (List.nodup_iff_pairwise_ne.mp List.nodup_range)
        have hi := List.mem_range.mp hi
        have hj := List.mem_range.mp hj
        have z2 := congrArg (fun l => l[at_.toNat]?) z
        unfold headV at z2
        simp only [mid] at z2
        have z2 := Option.some.inj z2
        have := sg_inj nd (md _).1 (md _).2 (md _).1 (md _).2 z2
        have := h5 _ _ _ (by omega) (by omega) (by omega) (by omega) this
        omega
      · obtain ⟨k, _, rfl⟩ := List.mem_map.mp hw
        refine ⟨by unfold headV; simp; omega, by unfold headV; simp; omega, fun c hc => ?_⟩
        unfold headV at hc
        rcases List.mem_append.mp hc with hc | hc
        · rcases List.mem_append.mp hc with hc | hc
          · rw [(List.mem_replicate.mp hc).2]; exact sg_mem (md _).1 (md _).2
          · rw [List.mem_singleton.mp hc]; exact sg_mem (md _).1 (md _).2
        · rw [(List.mem_replicate.mp hc).2]; exact sg_mem (md _).1 (md _).2
  by_cases q : seed / 43264 % 4 = 3 ∧ many ≤ most
  · obtain ⟨q1, q2⟩ := q
    have q2' : (many : Int) ≤ (most : Int) := by omega
    have e1 : c__law_heads_1 [some (.int seed), some (tx ss), some (.int (many : Int)), some (.int (most : Int)), none, none, none, none, none, none, none] [] = .ok ((headW ss seed most).map fun c => tx [c]) [] := by
      unfold c__law_heads_1 headW
      rw [List.map_map]
      refine lLc_map (fun j : Nat => D.int (0 + (j : Int))) _ (List.range most) (chk := always) (h0 := []) (show iR1 _ _ _ = .ok (rgD 0 most, always) [] by simp (disch := omega)) rfl (by rw [List.length_range]; omega) fun j hj => ⟨_, rfl, ?_⟩
      have hj := List.mem_range.mp hj
      have r2 := fun h => ix_sg (h := h) l2 (md (seed / 1664 + 5 * (j : Int) * (j : Int))).1 (md (seed / 1664 + 5 * (j : Int) * (j : Int))).2
      have b5 : 0 ≤ 5 * (j : Int) * (j : Int) ∧ 5 * (j : Int) * (j : Int) ≤ 1000 := by
        refine ⟨Int.mul_nonneg (by omega) (by omega), ?_⟩
        have := Int.mul_le_mul (show 5 * (j : Int) ≤ 60 by omega) (show (j : Int) ≤ 12 by omega) (by omega) (by omega)
        omega
      simp (disch := omega) [lss, r2, if_pos]
    have lw : (headW ss seed most).length = most := by unfold headW; simp
    have e2 : c__law_heads_2 [some (.int seed), some (tx ss), some (.int (many : Int)), some (.int (most : Int)), none, none, none, none, none, some (tx (headW ss seed most)), none] [] = .ok (((List.range many).map fun k => (headW ss seed most).take (k + 1)).map tx) [] := by
      unfold c__law_heads_2
      rw [List.map_map]
      refine lLc_map (fun j : Nat => D.int (0 + (j : Int))) _ (List.range many) (chk := always) (h0 := []) (show iR1 _ _ _ = .ok (rgD 0 many, always) [] by simp (disch := omega)) rfl (by rw [List.length_range]; omega) fun j hj => ⟨_, rfl, ?_⟩
      have hj := List.mem_range.mp hj
      have sl := slD_tx_to (cs := headW ss seed most) (n := (j : Int) + 1) (by omega) (by omega)
      have t1 : ((j : Int) + 1).toNat = j + 1 := by omega
      rw [t1] at sl
      simp [sl]
    have js := fun h => joinS (ws := headW ss seed most) (h := h) (by omega)
    have n0 := nil_eq
    simp [q1, q2', e1, n0, js, e2, frz_txs, -List.map_map]
    refine ⟨_, rfl, by simp, ?_, fun w hw => ?_⟩
    · rw [List.nodup_iff_pairwise_ne, List.pairwise_map]
      refine List.Pairwise.imp_of_mem (fun {i j} hi hj hne z => hne ?_) (List.nodup_iff_pairwise_ne.mp List.nodup_range)
      have hi := List.mem_range.mp hi
      have hj := List.mem_range.mp hj
      have := congrArg List.length z
      rw [List.length_take, List.length_take, lw] at this
      omega
    · obtain ⟨k, hk, rfl⟩ := List.mem_map.mp hw
      have hk := List.mem_range.mp hk
      refine ⟨by rw [List.length_take, lw]; omega, by rw [List.length_take, lw]; omega, fun c hc => ?_⟩
      have hc := List.mem_of_mem_take hc
      unfold headW at hc
      obtain ⟨j, _, rfl⟩ := List.mem_map.mp hc
      exact sg_mem (md _).1 (md _).2
  · by_cases q1 : seed / 43264 % 4 = 3
    · have q2 : ¬ (many : Int) ≤ (most : Int) := fun z => q ⟨q1, by omega⟩
      simp only [Wp_seq]
      simp (disch := omega) only [Wp_if] at second ⊢
      simp [q1, q2]
      simpa using second
    · simp only [Wp_seq]
      simp [q1]
      simpa using second
def worldD (fs : List Fd) (ws : List Tx) (base : Int) : D := .dct [.inr "fields", .inr "words", .inr "base"] [fdsD fs, .lst (ws.map tx), .int base]
structure WorldOk (fs : List Fd) (ws : List Tx) (base : Int) : Prop where
  fs : FdsOk fs
  wlo : 1 ≤ ws.length
  whi : ws.length ≤ 4
  wok : ∀ w ∈ ws, okWord w
  blo : -(9 * 10 ^ 59) ≤ base
  bhi : base ≤ 9 * 10 ^ 59
def fldF (seed : Int) (ws : List Tx) (k : Nat) : Fd := (ws[k]?.getD [], decide (mixF seed ((k : Int) + 30) % 2 = 0))
theorem kind_pick {x : Int} : atI [D.str "word", D.str "number"] (x % 2) = some (.str (kindS (decide (x % 2 = 0)))) := by
  have h0 := Int.emod_nonneg x (show (2 : Int) ≠ 0 by decide)
  have h1 := Int.emod_lt_of_pos x (show (0 : Int) < 2 by decide)
  obtain q | q : x % 2 = 0 ∨ x % 2 = 1 := by omega
  · rw [q]; rfl
  · rw [q]; rfl
theorem world_merge {a b c : D} : mergeD [] [(.inr "fields", a), (.inr "words", b), (.inr "base", c)] = [(.inr "fields", a), (.inr "words", b), (.inr "base", c)] := rfl
theorem world_eq {ns : List Int} : ∃ fs ws base, m__law_world [scr ns] [] = .ok (worldD fs ws base) [] ∧ WorldOk fs ws base := by
  refine fnS_of (P := fun x => ∃ fs ws base, x = .ok (worldD fs ws base) [] ∧ WorldOk fs ws base) rfl ?_
  unfold b__law_world
  have c0 := fun h => callP_cell (ns := ns) (k := 0) (h := h) (by decide)
  have x0 := fun h => callP_mix (s := cellF ns 0) (k := 1) (h := h) (by decide) (by decide)
  have b0 := mixF_bd (cellF ns 0) 1
  obtain ⟨seed, hs⟩ : ∃ seed, mixF (cellF ns 0) 1 = seed := ⟨_, rfl⟩
  rw [hs] at b0 x0
  have x2 := fun h => callP_mix (s := seed) (k := 2) (h := h) (by decide) (by decide)
  have x3 := fun h => callP_mix (s := seed) (k := 3) (h := h) (by decide) (by decide)
  have b2 := mixF_bd seed 2
  have b3 := mixF_bd seed 3
  obtain ⟨many, hm⟩ : ∃ many : Nat, 1 + seed % 8 = many := ⟨(1 + seed % 8).toNat, by omega⟩
  obtain ⟨names, h1, n1⟩ := heads_eq (ss := smL) (seed := mixF seed 2) (many := many) (most := 12) (by decide) (by decide) (by decide) b2.1 (by omega) (by omega) (by decide) (by decide) (by intro a i j; simp only [smL, List.length_cons, List.length_nil]; omega)
  obtain ⟨words, h2, n2⟩ := heads_eq (ss := smL ++ fgL) (seed := mixF seed 3) (many := 4) (most := 12) (by decide) (by decide) (by decide) b3.1 (by omega) (by decide) (by decide) (by decide) (by intro a i j; simp only [smL, fgL, List.length_append, List.length_cons, List.length_nil]; omega)
  have h1 : ∀ h, callP m__law_heads [.int (mixF seed 2), tx smL, .int (many : Int), .int 12] h = .ok (.lst (names.map tx)) h := cP h1
  have h2 : ∀ h, callP m__law_heads [.int (mixF seed 3), tx (smL ++ fgL), .int 4, .int 12] h = .ok (.lst (words.map tx)) h := cP h2
  have p59 : powOk 10 59 = true := by decide
  have lm : many ≤ 8 := by omega
  have ln : names.length = many := n1.len
  have e1 : c__law_world_1 [some (scr ns), some (.int seed), some (.int (many : Int)), some (.lst (names.map tx)), none, none, none, none] [] = .ok (((List.range many).map (fldF seed names)).map fdD) [] := by
    unfold c__law_world_1
    rw [List.map_map]
    refine lLc_map (fun j : Nat => D.int (0 + (j : Int))) _ (List.range many) (chk := always) (h0 := []) (show iR1 _ _ _ = .ok (rgD 0 many, always) [] by simp (disch := omega)) rfl (by rw [List.length_range]; omega) fun j hj => ⟨_, rfl, ?_⟩
    have hj := List.mem_range.mp hj
    have hl : j < names.length := by omega
    have i1 : atI (names.map tx) (j : Int) = some (tx names[j]) := atI_map (atI_at rfl (List.getElem?_eq_getElem hl))
    simp (disch := omega) [callP_mix, i1, kind_pick]
    simp [fdD, fldF, hl]
  obtain ⟨fs, hfs⟩ : ∃ fs, (List.range many).map (fldF seed names) = fs := ⟨_, rfl⟩
  rw [hfs] at e1
  have efs : D.lst (fs.map fdD) = fdsD fs := rfl
  have fsn : fs.map (·.1) = names := by
    rw [← hfs, List.map_map]
    apply List.ext_getElem?
    intro i
    rw [List.getElem?_map]
    by_cases q : i < many
    · rw [List.getElem?_range q, List.getElem?_eq_getElem (show i < names.length by omega)]
      show some (names[i]?.getD []) = _
      rw [List.getElem?_eq_getElem (show i < names.length by omega)]; rfl
    · rw [List.getElem?_eq_none (by simp; omega), List.getElem?_eq_none (by omega)]; rfl
  have lfs : fs.length = many := by rw [← hfs]; simp
  have fo : FdsOk fs := ⟨by omega, by omega, by rw [fsn]; exact n1.nd, fun f hf => by
    have : f.1 ∈ names := by rw [← fsn]; exact List.mem_map.mpr ⟨f, hf, rfl⟩
    obtain ⟨a, b, c⟩ := n1.ok _ this
    exact ⟨a, b, c⟩⟩
  obtain ⟨base, hb, hb0, hb1⟩ : ∃ base : Int, atI [D.int 0, D.int 900000000000000000000000000000000000000000000000000000000000, D.int (-900000000000000000000000000000000000000000000000000000000000), D.int 98] (seed / 24 % 4) = some (.int base) ∧ -(9 * 10 ^ 59) ≤ base ∧ base ≤ 9 * 10 ^ 59 := by
    have h0 := Int.emod_nonneg (seed / 24) (show (4 : Int) ≠ 0 by decide)
    have h1 := Int.emod_lt_of_pos (seed / 24) (show (0 : Int) < 4 by decide)
    obtain q | q | q | q : seed / 24 % 4 = 0 ∨ seed / 24 % 4 = 1 ∨ seed / 24 % 4 = 2 ∨ seed / 24 % 4 = 3 := by omega
    · exact ⟨0, by rw [q]; rfl, by decide, by decide⟩
    · exact ⟨9 * 10 ^ 59, by rw [q]; rfl, by decide, by decide⟩
    · exact ⟨-(9 * 10 ^ 59), by rw [q]; rfl, by decide, by decide⟩
    · exact ⟨98, by rw [q]; rfl, by decide, by decide⟩
  have ct1 : VD.cutD (names.map tx) none (some 3) = (names.take 3).map tx := by rw [cutD_tk (by decide), List.map_take]; rfl
  have ct2 : VD.cutD (words.map tx) none (some 1) = (words.take 1).map tx := by rw [cutD_tk (by decide), List.map_take]; rfl
  have ct3 : (names.take 3).map tx ++ (words.take 1).map tx = (names.take 3 ++ words.take 1).map tx := List.map_append.symm
  have lw : words.length = 4 := n2.len
  have zz : (names.take 3).length + (words.take 1).length ≤ 16777216 := by rw [List.length_take, List.length_take]; omega
  have wok : ∀ w ∈ names.take 3 ++ words.take 1, okWord w := fun w hw => by
    rcases List.mem_append.mp hw with hw | hw
    · obtain ⟨a, b, c⟩ := n1.ok _ (List.mem_of_mem_take hw)
      exact (show okName w from ⟨a, b, c⟩).word
    · obtain ⟨a, b, c⟩ := n2.ok _ (List.mem_of_mem_take hw)
      exact ⟨a, b, c⟩
  by_cases q : seed / 8 % 3 = 1
  · simp (disch := omega) [c0, x0, x2, x3, hm, sm_eq, smfg_eq, h1, h2, e1, efs, q, ct1, ct2, ct3, zz, p59, hb, if_pos, world_merge, frz_fds, frz_txs, -List.map_append, -List.map_take, -List.length_take]
    exact ⟨fs, names.take 3 ++ words.take 1, base, rfl, fo, by simp; omega, by simp; omega, wok, hb0, hb1⟩
  · simp (disch := omega) [c0, x0, x2, x3, hm, sm_eq, smfg_eq, h1, h2, e1, efs, q, p59, hb, if_pos, world_merge, frz_fds, frz_txs]
    refine ⟨fs, words, base, rfl, fo, by omega, by omega, fun w hw => ?_, hb0, hb1⟩
    obtain ⟨a, b, c⟩ := n2.ok _ hw
    exact ⟨a, b, c⟩
section
variable {fs : List Fd} {ws : List Tx} {base : Int}
theorem dgk {h : Hv} : kvOf h (worldD fs ws base) = some [(.inr "fields", fdsD fs), (.inr "words", .lst (ws.map tx)), (.inr "base", .int base)] := rfl
theorem dg_f {a b c : D} : getD [(Sum.inr "fields", a), (.inr "words", b), (.inr "base", c)] (.inr "fields") = some a := rfl
theorem dg_w {a b c : D} : getD [(Sum.inr "fields", a), (.inr "words", b), (.inr "base", c)] (.inr "words") = some b := rfl
theorem dg_b {a b c : D} : getD [(Sum.inr "fields", a), (.inr "words", b), (.inr "base", c)] (.inr "base") = some c := rfl
theorem noC_world : noC (worldD fs ws base) = true := by
  unfold worldD
  simp [noC, noCL, noC_fds]
  rw [noCL_all, List.all_map]
  exact List.all_eq_true.mpr fun _ _ => rfl
theorem frz_world {n0 n : Nat} {h : Hv} : frz n0 h (n + 4) (worldD fs ws base) = some (worldD fs ws base) := by
  unfold worldD
  simp [frz_fds, frz_txs]
def sureF (ws : List Tx) (base : Int) (seed : Int) (b : Bool) : Val := if b = true then .wd (ws[(seed % ws.length).toNat]?.getD []) else .nm (base + seed % 6 - 2)
theorem kind_n : (("number" : Str) = "word") = False := eq_false nw_ne
theorem sure_ok (w : WorldOk fs ws base) {seed : Int} {b : Bool} : ValOk b (sureF ws base seed b) ∧ sureF ws base seed b ≠ .no := by
  cases b with
  | true =>
    have hp : (0 : Int) < ws.length := by have := w.wlo; omega
    have m1 := Int.emod_nonneg seed (show (ws.length : Int) ≠ 0 by omega)
    have m2 := Int.emod_lt_of_pos seed hp
    have hl : (seed % ws.length).toNat < ws.length := by omega
    refine ⟨⟨rfl, ?_⟩, fun z => by cases z⟩
    rw [List.getElem?_eq_getElem hl]
    exact w.wok _ (List.getElem_mem hl)
  | false =>
    have m1 := Int.emod_nonneg seed (show (6 : Int) ≠ 0 by decide)
    have m2 := Int.emod_lt_of_pos seed (show (0 : Int) < 6 by decide)
    have b1 := w.blo
    have b2 := w.bhi
    have e : (10 : Int) ^ 60 = 10 * 10 ^ 59 := by decide
    have p : (10 : Int) ^ 59 > 1000 := by decide
    refine ⟨⟨rfl, ?_, ?_⟩, fun z => by cases z⟩
    · omega
    · omega
theorem sure_eq (w : WorldOk fs ws base) {seed : Int} {b : Bool} : m__law_sure_value [.int seed, .str (kindS b), worldD fs ws base] [] = .ok (valD (sureF ws base seed b)) [] := by
  refine fnS_of (P := fun x => x = .ok (valD (sureF ws base seed b)) []) rfl ?_
  unfold b__law_sure_value
  cases b with
  | true =>
    have hp : (0 : Int) < ws.length := by have := w.wlo; omega
    have m1 := Int.emod_nonneg seed (show (ws.length : Int) ≠ 0 by omega)
    have m2 := Int.emod_lt_of_pos seed hp
    have hl : (seed % ws.length).toNat < ws.length := by omega
    obtain ⟨a, _, q1, q2⟩ := atI_get (xs := ws) m1 m2
    have q3 : atI (ws.map tx) (seed % ws.length) = some (tx a) := atI_map q2
    have q4 : sureF ws base seed true = .wd a := by unfold sureF; rw [if_pos rfl]; rw [show ws[(seed % ws.length).toNat]? = some a from q1]; rfl
    simp (disch := omega) [kindS, dgk, dg_w, q3, q4, valD, if_pos]
  | false =>
    simp [kindS, kind_n, dgk, dg_b, sureF, valD]
def plainF (fs : List Fd) (ws : List Tx) (base : Int) (seed : Int) : Sv :=
  let f := fs[(seed % fs.length).toNat]?.getD ([], true)
  if seed / 8 % 4 = 0 then .lacks f.1
  else if seed / 8 % 4 = 1 ∨ f.2 = true then .is f.1 (sureF ws base (seed / 32) f.2)
  else if seed / 8 % 4 = 2 then .under f.1 (sureF ws base (seed / 32) f.2)
  else .over f.1 (sureF ws base (seed / 32) f.2)
theorem fd_pick (w : WorldOk fs ws base) (seed : Int) : ∃ f, fs[(seed % fs.length).toNat]? = some f ∧ fs[(seed % fs.length).toNat]?.getD ([], true) = f ∧ (∀ h, ixD h (fdsD fs) (seed % fs.length) = some (fdD f)) := by
  have hp : (0 : Int) < fs.length := by have := w.fs.lo; omega
  have m1 := Int.emod_nonneg seed (show (fs.length : Int) ≠ 0 by omega)
  have m2 := Int.emod_lt_of_pos seed hp
  obtain ⟨a, _, q1, q2⟩ := atI_get (xs := fs) m1 m2
  exact ⟨a, q1, by rw [q1]; rfl, fun h => atI_map q2⟩
theorem plain_ok (w : WorldOk fs ws base) (seed : Int) : SvOk fs (plainF fs ws base seed) ∧ dep (plainF fs ws base seed) = 0 ∧ ∀ k, wid k (plainF fs ws base seed) := by
  obtain ⟨f, q1, q2, _⟩ := fd_pick w seed
  obtain ⟨n, b⟩ := f
  unfold plainF
  rw [q2]
  simp only
  split
  · exact ⟨by rw [SvOk]; exact ⟨_, b, q1⟩, by simp [dep], fun k => by simp [wid]⟩
  · split
    · obtain ⟨a1, a2⟩ := sure_ok w (seed := seed / 32) (b := b)
      exact ⟨by rw [SvOk]; exact ⟨_, b, q1, a2, a1⟩, by simp [dep], fun k => by simp [wid]⟩
    · next hb =>
      have hb : b = false := by
        cases b with
        | false => rfl
        | true => exact absurd (.inr rfl) hb
      subst hb
      obtain ⟨a1, a2⟩ := sure_ok w (seed := seed / 32) (b := false)
      have a3 : sureF ws base (seed / 32) false = .nm (base + seed / 32 % 6 - 2) := rfl
      split
      · exact ⟨by rw [SvOk]; exact ⟨_, _, q1, a3, a1⟩, by simp [dep], fun k => by simp [wid]⟩
      · exact ⟨by rw [SvOk]; exact ⟨_, _, q1, a3, a1⟩, by simp [dep], fun k => by simp [wid]⟩
theorem plain_eq (w : WorldOk fs ws base) {seed : Int} : m__law_plain [.int seed, worldD fs ws base] [] = .ok (svD (plainF fs ws base seed)) [] := by
  obtain ⟨PP, hPP⟩ : ∃ PP : VD.R D → Prop, PP = fun x => x = .ok (svD (plainF fs ws base seed)) [] := ⟨_, rfl⟩
  have fin : PP (m__law_plain [.int seed, worldD fs ws base] []) := by
    refine fnQ_of (P := PP) rfl ?_
    unfold b__law_plain
    obtain ⟨f, q1, q2, q3⟩ := fd_pick w seed
    obtain ⟨n, b⟩ := f
    have hp : (0 : Int) < fs.length := by have := w.fs.lo; omega
    have lf : ∀ h, lenD h (fdsD fs) = some (fs.length : Int) := fun h => by unfold fdsD; rw [lenD_lst, List.length_map]
    have e := cP (sure_eq w (seed := seed / 32) (b := b)) (by simp [frz_world])
    have out : ∀ s : Sv, s = plainF fs ws base seed → Wp (Rq PP) (.ret (svD s) []) := fun s hs => by
      rw [Wp_rq_ret]
      exact ⟨_, frzQ_y (noC_sv s), by rw [hPP, hs]⟩
    have w0 := Int.emod_nonneg (seed / 8) (show (4 : Int) ≠ 0 by decide)
    have w1 := Int.emod_lt_of_pos (seed / 8) (show (0 : Int) < 4 by decide)
    have fd : fdD (n, b) = .tup [tx n, .str (kindS b)] := rfl
    simp (disch := omega) [dgk, dg_f, lf, q3, fd, if_pos]
    by_cases z0 : seed / 8 % 4 = 0
    · have o := out (.lacks n) (by unfold plainF; rw [q2]; simp [z0])
      rw [svD] at o
      simp [z0]
      simpa using o
    · by_cases z1 : seed / 8 % 4 = 1 ∨ b = true
      · have o := out (.is n (sureF ws base (seed / 32) b)) (by unfold plainF; rw [q2]; simp only; rw [if_neg z0, if_pos z1])
        rw [svD] at o
        rcases z1 with z1 | rfl
        · simp [z0, z1, e]
          simpa using o
        · by_cases z2 : seed / 8 % 4 = 1
          · simp [z0, z2, e]
            simpa using o
          · simp [z0, z2, kindS]
            simp [kindS] at e
            simp [e]
            simpa using o
      · have z1a : ¬ seed / 8 % 4 = 1 := fun z => z1 (.inl z)
        have hb : b = false := by
          cases b with
          | false => rfl
          | true => exact absurd (.inr rfl) z1
        subst hb
        simp [kindS] at e
        by_cases z2 : seed / 8 % 4 = 2
        · have o := out (.under n (sureF ws base (seed / 32) false)) (by unfold plainF; rw [q2]; simp [z0, z1a, z2])
          rw [svD] at o
          simp [z0, z1a, z2, kindS, kind_n, e]
          simpa using o
        · have z3 : seed / 8 % 4 = 3 := by omega
          have o := out (.over n (sureF ws base (seed / 32) false)) (by unfold plainF; rw [q2]; simp [z0, z1a, z2])
          rw [svD] at o
          simp [z0, z1a, z2, z3, kindS, kind_n, e]
          simpa using o
  rw [hPP] at fin
  exact fin
end
end
end WD
set_option Elab.async false
set_option linter.all false
set_option maxRecDepth 100000
set_option maxHeartbeats 4000000
namespace PV
open PySem PySem.Spec PyProof.Rows L2 VD
noncomputable section
def l_made_of_1 : SS := sFor (iS (eVar 0)) (gN 3) (sIf (toB (eOp oNotIn (eVar 3) (eVar 1))) (sRet (eK (.bl false))) (sNext))
def b_made_of : SS := sSeq (sIf (cOr (cNot (toB (eIsi "str" (eVar 0)))) (cOr (toB (eOp oLt (eCa bLen (aCons (eVar 0) (aNil))) (eK (.int 1)))) (toB (eOp oGt (eCa bLen (aCons (eVar 0) (aNil))) (eVar 2))))) (sRet (eK (.bl false))) (sNext)) (sSeq (l_made_of_1) (sRet (eK (.bl true))))
def m_made_of : List D → Hv → R D := fnS 3 1 b_made_of
def b_is_word : SS := sRet (eCa (Cm.f .P m_made_of) (aCons (eVar 0) (aCons (eOp oAdd (eK (.str "abcdefghijklmnopqrstuvwxyz")) (eK (.str "0123456789"))) (aCons (eK (.int 12)) (aNil)))))
def m_is_word : List D → Hv → R D := fnS 1 0 b_is_word
def b_written : SS := sSeq (sIf (toB (eOp oIs (eVar 0) (eK .non))) (sRet (eK (.str "-"))) (sNext)) (sRet (eCa bStrA (aCons (eVar 0) (aNil))))
def m_written : List D → Hv → R D := fnS 1 0 b_written
def b_is_number_text : SS := sSeq (sSet 1 (eVar 0)) (sSeq (sIf (toB (eOp oEq (eSl (eVar 0) (pNo) (pAt (eK (.int 1)))) (eK (.str "-")))) (sSet 1 (eSl (eVar 0) (pAt (eK (.int 1))) (pNo))) (sNext)) (sSeq (sIf (cNot (toB (eCa (Cm.f .P m_made_of) (aCons (eVar 1) (aCons (eK (.str "0123456789")) (aCons (eK (.int 60)) (aNil))))))) (sRet (eK (.bl false))) (sNext)) (sRet (eOrV (eOp oNe (eOp oIx (eVar 1) (eK (.int 0))) (eK (.str "0"))) (eOp oEq (eVar 0) (eK (.str "0")))))))
def m_is_number_text : List D → Hv → R D := fnS 1 1 b_is_number_text
def b_read_value : SS := sSeq (sIf (toB (eOp oEq (eVar 0) (eK (.str "word")))) (sSeq (sIf (toB (eCa (Cm.f .P m_is_word) (aCons (eVar 1) (aNil)))) (sRet (eVar 1)) (sNext)) (sRet (eK .non))) (sNext)) (sSeq (sIf (toB (eCa (Cm.f .P m_is_number_text) (aCons (eVar 1) (aNil)))) (sRet (eCa bIntA (aCons (eVar 1) (aNil)))) (sNext)) (sRet (eK .non)))
def m_read_value : List D → Hv → R D := fnS 2 0 b_read_value
def b_is_name : SS := sRet (eCa (Cm.f .P m_made_of) (aCons (eVar 0) (aCons (eK (.str "abcdefghijklmnopqrstuvwxyz")) (aCons (eK (.int 12)) (aNil)))))
def m_is_name : List D → Hv → R D := fnS 1 0 b_is_name
def b_is_whole : SS := sSeq (sIf (cOr (cNot (toB (eIsi "int" (eVar 0)))) (toB (eIsi "bool" (eVar 0)))) (sRet (eK (.bl false))) (sNext)) (sRet (eOp oLt (eCa bAbs (aCons (eVar 0) (aNil))) (eOp oPow (eK (.int 10)) (eK (.int 60)))))
def m_is_whole : List D → Hv → R D := fnS 1 0 b_is_whole
def b_is_value : SS := sSeq (sIf (toB (eOp oIs (eVar 1) (eK .non))) (sRet (eK (.bl true))) (sNext)) (sSeq (sIf (toB (eOp oEq (eVar 0) (eK (.str "word")))) (sRet (eCa (Cm.f .P m_is_word) (aCons (eVar 1) (aNil)))) (sNext)) (sRet (eCa (Cm.f .P m_is_whole) (aCons (eVar 1) (aNil)))))
def m_is_value : List D → Hv → R D := fnS 2 0 b_is_value
def okW (cs ss : List Nat) (most : Int) : Bool := decide (1 ≤ cs.length ∧ (cs.length : Int) ≤ most) && cs.all fun c => decide (c ∈ ss)
theorem kss : kitB "str" "str" = some true := by decide +kernel
theorem made_eq {cs ss : List Nat} {most : Int} (hl : cs.length ≤ 1000) : m_made_of [tx cs, tx ss, .int most] [] = .ok (.bl (okW cs ss most)) [] := by
  refine fnS_of (P := fun x => x = .ok (.bl (okW cs ss most)) []) rfl ?_
  unfold b_made_of
  by_cases q1 : cs.length < 1
  · have : okW cs ss most = false := by unfold okW; rw [decide_eq_false (by omega)]; rfl
    have q1' : (cs.length : Int) < 1 := by omega
    have q1'' : cs = [] := List.length_eq_zero_iff.mp (by omega)
    rw [q1''] at this
    simp (disch := omega) [kss, this, q1'']
  by_cases q2 : most < (cs.length : Int)
  · have : okW cs ss most = false := by unfold okW; rw [decide_eq_false (by omega)]; rfl
    have q1' : ¬ (cs.length : Int) < 1 := by omega
    simp (disch := omega) [kss, q1', q2, this]
  have q1' : ¬ (cs.length : Int) < 1 := by omega
  simp (disch := omega) [kss, q1', q2]
  obtain ⟨I, hI⟩ : ∃ I : Nat → VS → Hv → Prop, I = fun i σ h => ∃ (x3 : Option D), σ = [some (tx cs), some (tx ss), some (.int most), x3] ∧ h = [] ∧ ∀ c ∈ cs.take i, c ∈ ss := ⟨_, rfl⟩
  refine Wp.loopA (fun c => tx [c]) cs I (h0 := []) (by simp) (by rw [hI]; exact ⟨_, rfl, rfl, fun c hc => by simp at hc⟩) ?_ ?_
  · intro i c σ h hp hh
    rw [hI] at hh
    obtain ⟨x3, rfl, rfl, al⟩ := hh
    refine ⟨_, rfl, ?_⟩
    by_cases q : c ∈ ss
    · simp [q]
      rw [hI]
      refine ⟨_, rfl, rfl, fun b hb => ?_⟩
      rw [List.take_add_one, hp] at hb
      rcases List.mem_append.mp hb with hb | hb
      · exact al b hb
      · cases List.mem_singleton.mp hb; exact q
    · have : okW cs ss most = false := by
        unfold okW
        rw [Bool.and_eq_false_iff]
        refine .inr (Bool.eq_false_iff.mpr fun z => q ?_)
        exact of_decide_eq_true (List.all_eq_true.mp z c (List.mem_of_getElem? hp))
      simp [q, this]
  · intro σ h hh
    rw [hI] at hh
    obtain ⟨x3, rfl, rfl, al⟩ := hh
    rw [List.take_length] at al
    have : okW cs ss most = true := by
      unfold okW
      rw [decide_eq_true (by omega), Bool.true_and, List.all_eq_true]
      exact fun c hc => decide_eq_true (al c hc)
    simp [this]
/-- a thing that is no text -/
structure NoStr (d : D) : Prop where
  pure : frz 0 [] 12 d = some d
  ty : ∃ t, tyName [] d = some t ∧ kitB t "str" = some false
theorem made_no {d : D} {s : Str} {most : Int} (n : NoStr d) : m_made_of [d, .str s, .int most] [] = .ok (.bl false) [] := by
  refine fnS_of (P := fun x => x = .ok (.bl false) []) rfl ?_
  unfold b_made_of
  obtain ⟨t, h1, h2⟩ := n.ty
  simp [h1, h2]
theorem name_eq {cs : List Nat} (hl : cs.length ≤ 1000) : m_is_name [tx cs] [] = .ok (.bl (okW cs smL 12)) [] := by
  refine fnS_of (P := fun x => x = .ok (.bl (okW cs smL 12)) []) rfl ?_
  unfold b_is_name
  have e := cP (made_eq (ss := smL) (most := 12) hl)
  simp [e, sm_eq]
theorem word_eq {cs : List Nat} (hl : cs.length ≤ 1000) : m_is_word [tx cs] [] = .ok (.bl (okW cs (smL ++ fgL) 12)) [] := by
  refine fnS_of (P := fun x => x = .ok (.bl (okW cs (smL ++ fgL) 12)) []) rfl ?_
  unfold b_is_word
  have e := cP (made_eq (ss := smL ++ fgL) (most := 12) hl)
  have ea : ∀ h, oAdd (tx smL) (tx fgL) h = .ok (tx (smL ++ fgL)) h := fun h => oAdd_tx (by decide)
  simp [e, sm_eq, fg_eq, ea, -oAdd_tx]
theorem name_no {d : D} (n : NoStr d) : m_is_name [d] [] = .ok (.bl false) [] := by
  refine fnS_of (P := fun x => x = .ok (.bl false) []) rfl ?_
  unfold b_is_name
  have hp := n.pure
  have e := cP (made_no (s := sx smL) (most := 12) n) (by simp [hp])
  simp [e, sm_eq]
theorem word_no {d : D} (n : NoStr d) : m_is_word [d] [] = .ok (.bl false) [] := by
  refine fnS_of (P := fun x => x = .ok (.bl false) []) rfl ?_
  unfold b_is_word
  have hp := n.pure
  have e := cP (made_no (s := sx (smL ++ fgL)) (most := 12) n) (by simp [hp])
  have ea : ∀ h, oAdd (tx smL) (tx fgL) h = .ok (tx (smL ++ fgL)) h := fun h => oAdd_tx (by decide)
  simp [e, sm_eq, fg_eq, ea, -oAdd_tx]
theorem kii : kitB "int" "int" = some true := by decide +kernel
theorem kib : kitB "int" "bool" = some false := by decide +kernel
def okN (i : Int) : Bool := decide ((if i < 0 then -i else i) < 10 ^ 60)
theorem whole_int {i : Int} : m_is_whole [.int i] [] = .ok (.bl (okN i)) [] := by
  refine fnS_of (P := fun x => x = .ok (.bl (okN i)) []) rfl ?_
  unfold b_is_whole
  have p : powOk 10 60 = true := by decide
  have e : (10 : Int) ^ (60 : Int).toNat = 10 ^ 60 := rfl
  simp [kii, kib, p, okN]
/-- a thing that is no whole number -/
def NoInt (d : D) : Prop := frz 0 [] 12 d = some d ∧ ∃ t, tyName [] d = some t ∧ (kitB t "int" = some false ∨ (kitB t "int" = some true ∧ kitB t "bool" = some true))
theorem whole_no {d : D} (n : NoInt d) : m_is_whole [d] [] = .ok (.bl false) [] := by
  refine fnS_of (P := fun x => x = .ok (.bl false) []) rfl ?_
  unfold b_is_whole
  obtain ⟨_, t, h1, h2⟩ := n
  rcases h2 with h2 | ⟨h2, h3⟩
  · simp [h1, h2]
  · simp [h1, h2, h3]
/-- a thing and what the three ask -/
structure Th (d : D) (a b c : Bool) : Prop where
  pure : frz 0 [] 12 d = some d
  nn : isD d .non = some false
  nm : m_is_name [d] [] = .ok (.bl a) []
  wd : m_is_word [d] [] = .ok (.bl b) []
  wh : m_is_whole [d] [] = .ok (.bl c) []
theorem value_eq {d : D} {a b c : Bool} (t : Th d a b c) : m_is_value [.str "word", d] [] = .ok (.bl b) [] ∧ m_is_value [.str "number", d] [] = .ok (.bl c) [] := by
  have hp := t.pure
  have hn := t.nn
  have e1 := cP t.wd (by simp [hp])
  have e2 := cP t.wh (by simp [hp])
  constructor
  · refine fnS_of (P := fun x => x = .ok (.bl b) []) rfl ?_
    unfold b_is_value
    simp [hn, e1]
  · refine fnS_of (P := fun x => x = .ok (.bl c) []) rfl ?_
    unfold b_is_value
    simp [hn, e2, nw_ne]
theorem ksi : kitB "str" "int" = some false := by decide +kernel
theorem th_text {cs : List Nat} (hl : cs.length ≤ 1000) : Th (tx cs) (okW cs smL 12) (okW cs (smL ++ fgL) 12) false := ⟨rfl, rfl, name_eq hl, word_eq hl, whole_no ⟨rfl, "str", rfl, .inl ksi⟩⟩
theorem th_int {i : Int} : Th (.int i) false false (okN i) := by
  have n : NoStr (.int i) := ⟨rfl, "int", rfl, by decide +kernel⟩
  exact ⟨rfl, rfl, name_no n, word_no n, whole_int⟩
def numT (n : Int) : List Nat := if n < 0 then 45 :: TL.numL n.natAbs else TL.numL n.natAbs
theorem of_tl (z : Str) : z = sx (TL.tl z) := by
  cases z with
  | mk a => show Str.mk a = Str.mk (a.toList).toArray; simp
theorem str_int (n : Int) : (Str.ofString (toString n)) = sx (numT n) := by
  unfold numT
  by_cases q : n < 0
  · rw [if_pos q]
    obtain ⟨m, rfl⟩ : ∃ m : Nat, n = Int.negSucc m := by
      cases n with
      | ofNat k => exact absurd q (by simp)
      | negSucc m => exact ⟨m, rfl⟩
    have e : toString (Int.negSucc m) = "-" ++ toString ((m + 1 : Nat) : Int) := rfl
    have e2 := TL.tl_num (m + 1)
    rw [e, Str.ofString_eq_toList]
    rw [Str.ofString_eq_toList] at e2
    have e2 : ((toString ((m + 1 : Nat) : Int)).toList.map Char.toNat) = TL.numL (m + 1) := by simpa using e2
    have e3 : ("-" ++ toString ((m + 1 : Nat) : Int)).toList = '-' :: (toString ((m + 1 : Nat) : Int)).toList := by
      rw [String.toList_append]; rfl
    rw [e3, List.map_cons, e2]
    rfl
  · rw [if_neg q]
    obtain ⟨m, rfl⟩ : ∃ m : Nat, n = m := ⟨n.toNat, by omega⟩
    have e2 := TL.tl_num m
    rw [of_tl (Str.ofString (toString (m : Int))), e2]
    rfl
theorem numT_len {n : Int} (h1 : -(10 ^ 60) < n) (h2 : n < 10 ^ 60) : (numT n).length ≤ 61 ∧ (TL.numL n.natAbs).length ≤ 60 := by
  have l : (TL.numL n.natAbs).length ≤ 60 := TL.numL_len (by decide) (by
    have : (n.natAbs : Int) < ((10 ^ 60 : Nat) : Int) := by
      have e : ((10 ^ 60 : Nat) : Int) = 10 ^ 60 := by decide
      rw [e]; omega
    omega)
  unfold numT
  split
  · rw [List.length_cons]; exact ⟨by omega, l⟩
  · exact ⟨by omega, l⟩
/-- a value's text -/
theorem written_int {n : Int} (h1 : -(10 ^ 77) < n) (h2 : n < 10 ^ 77) : m_written [.int n] [] = .ok (tx (numT n)) [] := by
  refine fnS_of (P := fun x => x = .ok (tx (numT n)) []) rfl ?_
  unfold b_written
  have e : ∀ h, bStrA [.int n] h = .ok (tx (numT n)) h := fun h => by rw [bStrA_int h1 h2, str_int]
  simp [e]
theorem written_str {s : Str} : m_written [.str s] [] = .ok (.str s) [] := by
  refine fnS_of (P := fun x => x = .ok (.str s) []) rfl ?_
  unfold b_written
  simp
def figs (cs : List Nat) : List Nat := if cs.take 1 = [45] then cs.drop 1 else cs
def isNum (cs : List Nat) : Bool := okW (figs cs) fgL 60 && (decide ((figs cs)[0]?.getD 0 ≠ 48) || decide (cs = [48]))
def valN (cs : List Nat) : Int := if cs.take 1 = [45] then -((NumText.digitsVal (cs.drop 1) : Nat) : Int) else ((NumText.digitsVal cs : Nat) : Int)
theorem min_eq : ("-" : Str) = sx [45] := by decide +kernel
theorem zero_eq : ("0" : Str) = sx [48] := by decide +kernel
theorem eqD_txs {a b : List Nat} {h : Hv} : eqD h (tx a) (tx b) = some (decide (a = b)) := eqD_tx
theorem number_text_eq {cs : List Nat} (hl : cs.length ≤ 1000) : m_is_number_text [tx cs] [] = .ok (.bl (isNum cs)) [] := by
  refine fnS_of (P := fun x => x = .ok (.bl (isNum cs)) []) rfl ?_
  unfold b_is_number_text
  have fl : (figs cs).length ≤ 1000 := by
    unfold figs
    split
    · rw [List.length_drop]; omega
    · omega
  have e1 := cP (made_eq (cs := figs cs) (ss := fgL) (most := 60) fl)
  have s1 : ∀ h : Hv, slD (tx cs) none (some 1) = some (tx (cs.take 1)) := fun _ => slD_tx_to (by omega) (by decide)
  have s2 : ∀ h : Hv, slD (tx cs) (some 1) none = some (tx (cs.drop 1)) := fun _ => slD_tx_from (by omega) (by decide)
  have s1 := s1 []
  have s2 := s2 []
  have go : ∀ x : List Nat, x = figs cs → Wp (Rt fun x => x = .ok (.bl (isNum cs)) []) (sSeq (sIf (cNot (toB (eCa (Cm.f .P m_made_of) (aCons (eVar 1) (aCons (eK (.str "0123456789")) (aCons (eK (.int 60)) (aNil))))))) (sRet (eK (.bl false))) (sNext)) (sRet (eOrV (eOp oNe (eOp oIx (eVar 1) (eK (.int 0))) (eK (.str "0"))) (eOp oEq (eVar 0) (eK (.str "0"))))) [some (tx cs), some (tx x)] []) := by
    rintro _ rfl
    by_cases q : okW (figs cs) fgL 60 = true
    · have pos : 0 < (figs cs).length := by
        unfold okW at q
        rw [Bool.and_eq_true, decide_eq_true_eq] at q
        omega
      have ix := ixD_tx (cs := figs cs) (h := []) (k := 0) (by omega) (by decide) (by omega)
      have e0 : (0 : Int).toNat = 0 := rfl
      rw [e0] at ix
      have e2 : ([(figs cs)[0]?.getD 0] = [48]) = ((figs cs)[0]?.getD 0 = 48) := by simp
      by_cases q2 : (figs cs)[0]?.getD 0 = 48
      · have : isNum cs = decide (cs = [48]) := by unfold isNum; rw [q, decide_eq_false (by simp [q2])]; rfl
        rw [this]
        simp [fg_eq, e1, q, ix, zero_eq, eqD_txs, q2, -eqD_str, -ixD_tx]
      · have : isNum cs = true := by unfold isNum; rw [q, decide_eq_true q2]; rfl
        rw [this]
        simp [fg_eq, e1, q, ix, zero_eq, eqD_txs, q2, -eqD_str, -ixD_tx]
    · have q : okW (figs cs) fgL 60 = false := by simpa using q
      have : isNum cs = false := by unfold isNum; rw [q]; rfl
      simp [fg_eq, e1, q, this]
  by_cases q0 : cs.take 1 = [45]
  · have ef : figs cs = cs.drop 1 := if_pos q0
    have := go (cs.drop 1) ef.symm
    simp only [Wp_seq, Wp_if, sSet_ap, eVar_ap, at0, List.map_cons, List.map_nil, List.cons_append, List.nil_append, List.replicate, R.then_ok, Wp_sq_next, List.set_cons_succ, List.set_cons_zero] at this ⊢
    simp [s1, s2, min_eq, eqD_txs, q0, -eqD_str]
    simpa using this
  · have ef : figs cs = cs := if_neg q0
    have := go cs ef.symm
    simp [s1, s2, min_eq, eqD_txs, q0, -eqD_str]
    simpa using this
theorem fgL_dig {cs : List Nat} {most : Int} (h : okW cs fgL most = true) : NumText.AllDigits cs ∧ cs ≠ [] ∧ (cs.length : Int) ≤ most := by
  unfold okW at h
  rw [Bool.and_eq_true, decide_eq_true_eq, List.all_eq_true] at h
  obtain ⟨⟨l0, l1⟩, al⟩ := h
  refine ⟨fun c hc => ?_, fun z => by rw [z] at l0; simp at l0, l1⟩
  have := of_decide_eq_true (al c hc)
  have key : ∀ c ∈ fgL, 48 ≤ c ∧ c ≤ 57 := by decide
  exact key c this
theorem int_text {cs : List Nat} (h : isNum cs = true) : PySem.intText? (sx cs) = some (valN cs) ∧ (sx cs).length ≤ 640 := by
  unfold isNum at h
  rw [Bool.and_eq_true] at h
  obtain ⟨dg, ne, le⟩ := fgL_dig h.1
  have ex : (sx cs).cps.toList = cs := by simp
  unfold figs at dg ne le
  unfold valN
  by_cases q : cs.take 1 = [45]
  · rw [if_pos q] at dg ne le ⊢
    obtain ⟨d, rfl⟩ : ∃ d, cs = 45 :: d := by
      cases cs with
      | nil => simp at q
      | cons c d => simp at q; exact ⟨d, by rw [q]⟩
    simp at dg ne le ⊢
    have hl : (sx (45 :: d)).length ≤ 4300 := by rw [sx_len]; simp; omega
    exact ⟨intText_neg ex dg ne hl, by rw [sx_len]; simp; omega⟩
  · rw [if_neg q] at dg ne le ⊢
    have hl : (sx cs).length ≤ 4300 := by rw [sx_len]; omega
    refine ⟨?_, by rw [sx_len]; omega⟩
    have := intText_digits (x := sx cs) (by rw [ex]; exact dg) (by rw [ex]; exact ne) hl
    rw [this, ex]
theorem read_word {cs : List Nat} (hl : cs.length ≤ 1000) : m_read_value [.str "word", tx cs] [] = .ok (if okW cs (smL ++ fgL) 12 = true then tx cs else .non) [] := by
  refine fnS_of (P := fun x => x = .ok (if okW cs (smL ++ fgL) 12 = true then tx cs else .non) []) rfl ?_
  unfold b_read_value
  have e := cP (word_eq hl)
  by_cases q : okW cs (smL ++ fgL) 12 = true
  · simp [e, q]
  · have q' : okW cs (smL ++ fgL) 12 = false := by simpa using q
    simp [e, q']
def readN (cs : List Nat) : D := if isNum cs = true then .int (valN cs) else .non
theorem read_number {cs : List Nat} (hl : cs.length ≤ 1000) : m_read_value [.str "number", tx cs] [] = .ok (readN cs) [] := by
  refine fnS_of (P := fun x => x = .ok (readN cs) []) rfl ?_
  unfold b_read_value readN
  have e := cP (number_text_eq hl)
  by_cases q : isNum cs = true
  · obtain ⟨t1, t2⟩ := int_text q
    have e2 := fun h => bIntA_str (h := h) t1 t2
    simp [e, q, nw_ne, e2]
  · have q' : isNum cs = false := by simpa using q
    simp [e, q', nw_ne]
theorem numL_head : ∀ (n : Nat), 0 < n → (TL.numL n)[0]?.getD 0 ≠ 48 := by
  intro n
  induction n using Nat.strongRecOn with
  | ind n ih =>
    intro h
    by_cases q : n < 10
    · rw [TL.numL_lt q]; simp; omega
    · rw [TL.numL_step (by omega)]
      have := ih (n / 10) (Nat.div_lt_self (by omega) (by decide)) (Nat.div_pos (by omega) (by decide))
      have ne := TL.numL_ne (n / 10)
      have hp : 0 < (TL.numL (n / 10)).length := List.length_pos_iff.mpr ne
      rw [List.getElem?_append_left hp]
      exact this
theorem numL_zero : TL.numL 0 = [48] := by rw [TL.numL_lt (by decide)]
theorem numL_not45 (n : Nat) : (TL.numL n).take 1 ≠ [45] := by
  intro z
  have : 45 ∈ TL.numL n := List.mem_of_mem_take (i := 1) (by rw [z]; exact List.mem_cons_self)
  exact TL.numL_free (by omega) this
theorem okW_numL {n : Nat} (h : (TL.numL n).length ≤ 60) : okW (TL.numL n) fgL 60 = true := by
  unfold okW
  have ne : 0 < (TL.numL n).length := List.length_pos_iff.mpr (TL.numL_ne n)
  rw [Bool.and_eq_true, decide_eq_true_eq, List.all_eq_true]
  refine ⟨⟨by omega, by omega⟩, fun c hc => decide_eq_true ?_⟩
  have := TL.numL_digits n c hc
  have key : ∀ c : Nat, 48 ≤ c ∧ c ≤ 57 → c ∈ fgL := by
    intro c hc
    obtain rfl | rfl | rfl | rfl | rfl | rfl | rfl | rfl | rfl | rfl : c = 48 ∨ c = 49 ∨ c = 50 ∨ c = 51 ∨ c = 52 ∨ c = 53 ∨ c = 54 ∨ c = 55 ∨ c = 56 ∨ c = 57 := by omega
    all_goals decide
  exact key c this
theorem figs_numT (n : Int) : figs (numT n) = TL.numL n.natAbs := by
  unfold figs numT
  by_cases q : n < 0
  · rw [if_pos q]; rfl
  · rw [if_neg q, if_neg (numL_not45 _)]
theorem isNum_numT {n : Int} (h1 : -(10 ^ 60) < n) (h2 : n < 10 ^ 60) : isNum (numT n) = true := by
  unfold isNum
  rw [figs_numT, okW_numL (numT_len h1 h2).2, Bool.true_and, Bool.or_eq_true]
  by_cases q : n = 0
  · subst q
    exact .inr (by unfold numT; rw [if_neg (by omega)]; exact decide_eq_true numL_zero)
  · exact .inl (decide_eq_true (numL_head _ (by omega)))
theorem valN_numT (n : Int) : valN (numT n) = n := by
  unfold valN numT
  by_cases q : n < 0
  · rw [if_pos q, if_pos (show List.take 1 (45 :: TL.numL n.natAbs) = [45] from rfl)]
    have := TL.numL_val n.natAbs
    show -((NumText.digitsVal (TL.numL n.natAbs) : Nat) : Int) = n
    rw [this]; omega
  · rw [if_neg q, if_neg (numL_not45 _), TL.numL_val]; omega
theorem digits_lt : ∀ (cs : List Nat), (∀ c ∈ cs, c ≤ 57) → NumText.digitsVal cs < 10 ^ cs.length := by
  intro cs h
  have key : ∀ (cs : List Nat) (acc k : Nat), (∀ c ∈ cs, c ≤ 57) → acc < 10 ^ k → cs.foldl (fun acc c => acc * 10 + (c - 48)) acc < 10 ^ (k + cs.length) := by
    intro cs
    induction cs with
    | nil => intro acc k _ h; exact h
    | cons c cs ih =>
      intro acc k hc ha
      rw [List.foldl_cons, List.length_cons]
      have := ih (acc * 10 + (c - 48)) (k + 1) (fun d hd => hc d (List.mem_cons_of_mem _ hd)) (by
        have := hc c List.mem_cons_self
        rw [Nat.pow_succ]; omega)
      rw [show k + (cs.length + 1) = k + 1 + cs.length by omega]
      exact this
  have := key cs 0 0 h (by decide)
  rw [Nat.zero_add] at this
  exact this
end
end PV
set_option Elab.async false
set_option linter.all false
set_option maxRecDepth 100000
set_option maxHeartbeats 4000000
namespace PT
open PySem PySem.Spec PyProof.Rows L2 VD
noncomputable section
def l_asked_sieve_1 (rc : List D → Hv → R D) : SS := sFor (iT (eOp oIx (eVar 1) (eK (.int 1)))) (gN 3) (sDrop (eCa (callQ rc) (aCons (eVar 0) (aCons (eVar 3) (aNil)))))
def b_asked_sieve (rc : List D → Hv → R D) : SS := sSeq (sIf (toB (eOp oEq (eOp oIx (eVar 1) (eK (.int 0))) (eK (.str "not")))) (sRet (eCa (callQ rc) (aCons (eVar 0) (aCons (eOp oIx (eVar 1) (eK (.int 1))) (aNil))))) (sNext)) (sSeq (sIf (cOr (toB (eOp oEq (eOp oIx (eVar 1) (eK (.int 0))) (eK (.str "all")))) (toB (eOp oEq (eOp oIx (eVar 1) (eK (.int 0))) (eK (.str "some"))))) (sSeq ((l_asked_sieve_1 rc)) (sRet (eK (.bl true)))) (sNext)) (sSeq (sSet 2 (eOp oIx (eOp oIx (eVar 0) (eCa (Cm.f .P PS.m_field_at) (aCons (eVar 0) (aCons (eOp oIx (eVar 1) (eK (.int 1))) (aNil))))) (eK (.int 1)))) (sSeq (sIf (cAnd (cOr (toB (eOp oEq (eOp oIx (eVar 1) (eK (.int 0))) (eK (.str "under")))) (toB (eOp oEq (eOp oIx (eVar 1) (eK (.int 0))) (eK (.str "over"))))) (toB (eOp oEq (eVar 2) (eK (.str "word"))))) (sRaiseP "NoKind" "name" (eOp oIx (eVar 1) (eK (.int 1)))) (sNext)) (sSeq (sIf (cAnd (toB (eOp oEq (eOp oIx (eVar 1) (eK (.int 0))) (eK (.str "is")))) (cNot (toB (eCa (Cm.f .P PV.m_is_value) (aCons (eVar 2) (aCons (eOp oIx (eVar 1) (eK (.int 2))) (aNil))))))) (sRaiseP "NoKind" "name" (eOp oIx (eVar 1) (eK (.int 1)))) (sNext)) (sRet (eK (.bl true)))))))
def m_asked_sieve : Nat → List D → Hv → R D
  | 0 => fnQ 2 2 sNever
  | n + 1 => fnQ 2 2 (b_asked_sieve (m_asked_sieve n))
open WT PS
inductive Due where
  | right | field (n : Tx) | kind (n : Tx)
deriving DecidableEq
def isWd : Val → Bool
  | .wd _ => true
  | _ => false
def dueP (fs : List Fd) (n : Tx) (bad : Bool → Bool) : Due := match (plN fs n).bind fun i => fs[i]? with
  | none => .field n
  | some f => if bad f.2 = true then .kind n else .right
mutual
def due (fs : List Fd) : Sv → Due
  | .not s => due fs s
  | .all l => dueL fs l
  | .some l => dueL fs l
  | .lacks n => dueP fs n fun _ => false
  | .is n v => dueP fs n fun b => isWd v != b
  | .under n _ => dueP fs n id
  | .over n _ => dueP fs n id
def dueL (fs : List Fd) : List Sv → Due
  | [] => .right
  | s :: l => match due fs s with
    | .right => dueL fs l
    | e => e
end
theorem dueL_at {fs : List Fd} : ∀ {l : List Sv} {i : Nat} {t : Sv}, (∀ (j : Nat) s, j < i → l[j]? = some s → due fs s = .right) → l[i]? = some t → due fs t ≠ .right → dueL fs l = due fs t
  | [], i, t, _, h, _ => by cases h
  | s :: l, 0, t, _, h, n => by
    cases h
    rw [dueL]
    revert n
    cases due fs s <;> intro n
    · exact absurd rfl n
    · rfl
    · rfl
  | s :: l, i + 1, t, al, h, n => by
    have e := al 0 s (by omega) rfl
    rw [dueL, e]
    exact dueL_at (i := i) (fun j s hj hs => al (j + 1) s (by omega) hs) h n
theorem dueL_right {fs : List Fd} : ∀ {l : List Sv}, (∀ s ∈ l, due fs s = .right) → dueL fs l = .right
  | [], _ => rfl
  | s :: l, h => by
    rw [dueL, h s List.mem_cons_self]
    exact dueL_right fun t ht => h t (List.mem_cons_of_mem _ ht)
/-- a value of one of the two kinds -/
def ValB : Val → Prop
  | .no => False
  | .wd cs => okWord cs
  | .nm i => -(10 ^ 60) < i ∧ i < 10 ^ 60
mutual
/-- a sieve of names that may be none, and of values of either kind -/
def SvB : Sv → Prop
  | .not s => SvB s
  | .all l => SvBL l
  | .some l => SvBL l
  | .lacks n => n.length ≤ 1000
  | .is n v => n.length ≤ 1000 ∧ ValB v
  | .under n v => n.length ≤ 1000 ∧ ValB v
  | .over n v => n.length ≤ 1000 ∧ ValB v
def SvBL : List Sv → Prop
  | [] => True
  | s :: l => SvB s ∧ SvBL l
end
theorem SvBL_mem : ∀ {l : List Sv}, SvBL l ↔ ∀ s ∈ l, SvB s
  | [] => ⟨fun _ s h => (by cases h), fun _ => by simp only [SvBL]⟩
  | s :: l => by
    rw [SvBL, SvBL_mem]
    constructor
    · rintro ⟨h1, h2⟩ t ht
      cases ht with
      | head => exact h1
      | tail _ ht => exact h2 t ht
    · exact fun h => ⟨h s List.mem_cons_self, fun t ht => h t (List.mem_cons_of_mem _ ht)⟩
theorem okW_word {cs : Tx} (h : okWord cs) : PV.okW cs (smL ++ fgL) 12 = true := by
  obtain ⟨h1, h2, h3⟩ := h
  unfold PV.okW
  rw [decide_eq_true ⟨h1, by omega⟩, Bool.true_and]
  exact List.all_eq_true.mpr fun c hc => decide_eq_true (h3 c hc)
/-- whether a value is of a field's kind -/
theorem value_call {v : Val} {b : Bool} (h : ValB v) (hv : Hv) : callP PV.m_is_value [.str (kindS b), valD v] hv = .ok (.bl (isWd v == b)) hv := by
  refine cP ?_ (by simp [frz_val]) hv
  cases v with
  | no => exact h.elim
  | wd cs =>
    have e := PV.value_eq (PV.th_text (cs := cs) (by have := h.2.1; omega))
    rw [okW_word h] at e
    cases b
    · exact e.2
    · exact e.1
  | nm i =>
    have e := PV.value_eq (PV.th_int (i := i))
    have k : PV.okN i = true := by unfold PV.okN; exact decide_eq_true (by have := h.1; have := h.2; split <;> omega)
    rw [k] at e
    cases b
    · exact e.2
    · exact e.1
def dueR : Due → VD.R D
  | .right => .ok (.bl true) []
  | .field n => .exc ⟨"NoField", some ("name", tx n)⟩ []
  | .kind n => .exc ⟨"NoKind", some ("name", tx n)⟩ []
def dueX (h : Hv) : Due → VD.R D
  | .right => .ok (.bl true) h
  | .field n => .exc ⟨"NoField", some ("name", tx n)⟩ h
  | .kind n => .exc ⟨"NoKind", some ("name", tx n)⟩ h
theorem cQdue {sem : List D → Hv → VD.R D} {ds : List D} {u : Due} (e : sem ds [] = dueR u) (hp : noCL ds = true) (h : Hv) : callQ sem ds h = dueX h u := by
  cases u with
  | right => exact cQ e hp h
  | field n => exact cQX e hp h
  | kind n => exact cQX e hp h
theorem s_lu : ¬ (("lacks" : Str) = "under") := by decide
theorem s_lo : ¬ (("lacks" : Str) = "over") := by decide
theorem s_li : ¬ (("lacks" : Str) = "is") := by decide
theorem s_iu : ¬ (("is" : Str) = "under") := by decide
theorem s_io : ¬ (("is" : Str) = "over") := by decide
theorem fd_ix {fs : List Fd} {i : Nat} {f : Fd} {h : Hv} (e : fs[i]? = some f) : ixD h (fdsD fs) (i : Int) = some (fdD f) := atI_map (atI_at rfl e)
theorem plD {fs : List Fd} {n : Tx} : (plN fs n = none ∧ ∀ bad, dueP fs n bad = .field n) ∨ ∃ i b, plN fs n = some i ∧ fs[i]? = some (n, b) ∧ ∀ bad, dueP fs n bad = if bad b = true then .kind n else .right := by
  cases q : plN fs n with
  | none => exact .inl ⟨rfl, fun bad => by unfold dueP; rw [q]; rfl⟩
  | some i =>
    obtain ⟨b, hb⟩ := plN_some q
    exact .inr ⟨i, b, rfl, hb, fun bad => by unfold dueP; rw [q, Option.bind_some, hb]⟩
theorem kw_true : (kindS true = ("word" : Str)) = True := eq_true rfl
theorem kw_false : (kindS false = ("word" : Str)) = False := eq_false (by decide)
theorem fx (i : Int) (f : Fd) (h : Hv) : ixD h (fdD f) 1 = some (.str (kindS f.2)) := rfl
theorem asked_eq {fs : List Fd} (hl : fs.length ≤ 100) : ∀ (k : Nat) (s : Sv), dep s < k → SvB s → wid 1000 s → m_asked_sieve k [fdsD fs, svD s] [] = dueR (due fs s) := by
  intro k
  induction k with
  | zero => intro s h; exact absurd h (Nat.not_lt_zero _)
  | succ k ih =>
    intro s hd ok hw
    obtain ⟨PP, hPP⟩ : ∃ PP : VD.R D → Prop, PP = fun x => x = dueR (due fs s) := ⟨_, rfl⟩
    have fin : PP (m_asked_sieve (k + 1) [fdsD fs, svD s] []) := by
      refine fnQ_of (P := PP) rfl ?_
      unfold b_asked_sieve
      have nc : ∀ t : Sv, noCL [fdsD fs, svD t] = true := fun t => by simp [noCL, noC_fds, noC_sv]
      have lst : ∀ l : List Sv, (∀ s ∈ l, dep s < k) → (∀ s ∈ l, SvB s) → (∀ s ∈ l, wid 1000 s) → due fs s = dueL fs l → ∀ (x : Str) (s2 : SS),
          Wp (Sq (Sq (Rq PP) s2) (sRet (eK (.bl true)))) (l_asked_sieve_1 (m_asked_sieve k) [some (fdsD fs), some (.tup [.str x, .tup (svL l)]), none, none] []) := by
        intro l h1 h2 h3 h4 x s2
        unfold l_asked_sieve_1
        obtain ⟨I, hI⟩ : ∃ I : Nat → VS → Hv → Prop, I = fun i σ h => ∃ (x3 : Option D), σ = [some (fdsD fs), some (.tup [.str x, .tup (svL l)]), none, x3] ∧ h = [] ∧ ∀ (j : Nat) s, j < i → l[j]? = some s → due fs s = .right := ⟨_, rfl⟩
        refine Wp.loopA svD l I (h0 := []) (by simp [svL_map]) (by rw [hI]; exact ⟨_, rfl, rfl, fun j s hj => by omega⟩) ?_ ?_
        · intro i t σ h hi hh
          rw [hI] at hh
          obtain ⟨x3, rfl, rfl, al⟩ := hh
          refine ⟨_, rfl, ?_⟩
          have mt := List.mem_of_getElem? hi
          have e := cQdue (ih t (h1 t mt) (h2 t mt) (h3 t mt)) (nc t)
          cases q : due fs t with
          | right =>
            rw [q] at e
            simp [e, dueX]
            rw [hI]
            refine ⟨_, rfl, rfl, fun j s hj hs => ?_⟩
            by_cases q1 : j = i
            · subst q1
              rw [hi] at hs
              cases hs; exact q
            · exact al j s (by omega) hs
          | field n =>
            have d := dueL_at al hi (by rw [q]; exact fun z => by cases z)
            rw [q] at e
            simp [e, dueX, frz_tx]
            rw [hPP, h4, d, q]; rfl
          | kind n =>
            have d := dueL_at al hi (by rw [q]; exact fun z => by cases z)
            rw [q] at e
            simp [e, dueX, frz_tx]
            rw [hPP, h4, d, q]; rfl
        · intro σ h hh
          rw [hI] at hh
          obtain ⟨x3, rfl, rfl, al⟩ := hh
          have d : dueL fs l = .right := dueL_right fun s hs => by
            obtain ⟨j, hj⟩ := List.getElem?_of_mem hs
            exact al j s (List.getElem?_eq_some_iff.mp hj).1 hj
          simp
          rw [hPP, h4, d]; rfl
      cases s with
      | not s =>
        rw [dep] at hd
        rw [SvB] at ok
        rw [wid] at hw
        have e := cQdue (ih s (by omega) ok hw) (nc s)
        have e0 : due fs (.not s) = due fs s := by rw [due]
        rw [e0] at hPP
        cases q : due fs s with
        | right => rw [q] at e; simp [svD, e, dueX]; rw [hPP, q]; rfl
        | field n => rw [q] at e; simp [svD, e, dueX, frz_tx]; rw [hPP, q]; rfl
        | kind n => rw [q] at e; simp [svD, e, dueX, frz_tx]; rw [hPP, q]; rfl
      | all l =>
        rw [dep] at hd
        rw [SvB, SvBL_mem] at ok
        rw [wid, widL_mem] at hw
        have o := lst l (fun t ht => by have := dep_mem ht; omega) ok hw.2 (by rw [due]) "all"
        simp [svD, s_an]
        simpa using o _
      | some l =>
        rw [dep] at hd
        rw [SvB, SvBL_mem] at ok
        rw [wid, widL_mem] at hw
        have o := lst l (fun t ht => by have := dep_mem ht; omega) ok hw.2 (by rw [due]) "some"
        simp [svD, s_sn, s_sa]
        simpa using o _
      | lacks n =>
        rcases plD (fs := fs) (n := n) with ⟨p1, p2⟩ | ⟨i, b, p1, p2, p3⟩
        · have fc := cX ((field_eq hl).2 p1) (by simp [frz_fds])
          simp [svD, s_ln, s_la, s_ls, s_lu, s_lo, s_li, fc]
          rw [hPP, due, p2]; rfl
        · have fc := field_call hl p1
          have ix := fun h => fd_ix (h := h) p2
          simp [svD, s_ln, s_la, s_ls, s_lu, s_lo, s_li, fc, ix, fx]
          rw [hPP, due, p3]; rfl
      | is n v =>
        rcases plD (fs := fs) (n := n) with ⟨p1, p2⟩ | ⟨i, b, p1, p2, p3⟩
        · have fc := cX ((field_eq hl).2 p1) (by simp [frz_fds])
          simp [svD, s_in, s_ia, s_is, s_iu, s_io, fc]
          rw [hPP, due, p2]; rfl
        · have fc := field_call hl p1
          have ix := fun h => fd_ix (h := h) p2
          have vc := fun h => value_call (b := b) ok.2 h
          have p3 := p3 fun b => isWd v != b
          cases q : isWd v == b with
          | true =>
            have q2 : (isWd v != b) = false := by rw [bne, q]; rfl
            simp only [q2] at p3
            rw [q] at vc
            simp [svD, s_in, s_ia, s_is, s_iu, s_io, fc, ix, fx, vc]
            rw [hPP, due, p3]; rfl
          | false =>
            have q2 : (isWd v != b) = true := by rw [bne, q]; rfl
            simp only [q2] at p3
            rw [q] at vc
            simp [svD, s_in, s_ia, s_is, s_iu, s_io, fc, ix, fx, vc]
            rw [hPP, due, p3]; rfl
      | under n v =>
        rcases plD (fs := fs) (n := n) with ⟨p1, p2⟩ | ⟨i, b, p1, p2, p3⟩
        · have fc := cX ((field_eq hl).2 p1) (by simp [frz_fds])
          simp [svD, s_un, s_ua, s_us, s_ui, fc]
          rw [hPP, due, p2]; rfl
        · have fc := field_call hl p1
          have ix := fun h => fd_ix (h := h) p2
          have p3 := p3 id
          cases b with
          | true =>
            simp [svD, s_un, s_ua, s_us, s_ui, fc, ix, fx, kw_true]
            rw [hPP, due, p3]; rfl
          | false =>
            simp [svD, s_un, s_ua, s_us, s_ui, fc, ix, fx, kw_false]
            rw [hPP, due, p3]; rfl
      | over n v =>
        rcases plD (fs := fs) (n := n) with ⟨p1, p2⟩ | ⟨i, b, p1, p2, p3⟩
        · have fc := cX ((field_eq hl).2 p1) (by simp [frz_fds])
          simp [svD, s_on, s_oa, s_os, s_ou, s_oi, fc]
          rw [hPP, due, p2]; rfl
        · have fc := field_call hl p1
          have ix := fun h => fd_ix (h := h) p2
          have p3 := p3 id
          cases b with
          | true =>
            simp [svD, s_on, s_oa, s_os, s_ou, s_oi, fc, ix, fx, kw_true]
            rw [hPP, due, p3]; rfl
          | false =>
            simp [svD, s_on, s_oa, s_os, s_ou, s_oi, fc, ix, fx, kw_false]
            rw [hPP, due, p3]; rfl
    rw [hPP] at fin
    exact fin
end
end PT
set_option Elab.async false
set_option linter.all false
set_option maxRecDepth 100000
set_option maxHeartbeats 4000000
namespace RS
open PySem PySem.Spec PyProof.Rows L2 VD WT PS PT
noncomputable section
def vlL : List Nat := smL ++ fgL ++ [45]
def runL (S : List Nat) (r : Tx) : Tx := r.takeWhile fun c => decide (c ∈ S)
def plainK (nm : Tx) (c : Nat) (v : Tx) : Option (Sv × Nat) :=
  if PV.okW nm smL 12 = true then
    if c = 63 then some (.lacks nm, nm.length + 1)
    else if c = 61 ∨ c = 60 ∨ c = 62 then
      if 1 ≤ v.length ∧ v.length ≤ 61 then
        if c = 61 then some (.is nm (.wd v), nm.length + 1 + v.length)
        else if PV.isNum v = true then some (if c = 60 then .under nm (.nm (PV.valN v)) else .over nm (.nm (PV.valN v)), nm.length + 1 + v.length)
        else none
      else none
    else none
  else none
def plainP (r : Tx) : Option (Sv × Nat) := match r.drop (runL smL r).length with
  | [] => none
  | c :: q => plainK (runL smL r) c (runL vlL q)
def partsP (f : Tx → Option (Sv × Nat)) (c : Nat) : Nat → Bool → Tx → Option (List Sv × Nat)
  | 0, _, _ => none
  | m + 1, fst, r =>
    if r.head? = some 41 then some ([], 0)
    else if fst = true then (f r).bind fun x => (partsP f c m false (r.drop x.2)).map fun y => (x.1 :: y.1, x.2 + y.2)
    else if r.head? = some c then (f (r.drop 1)).bind fun x => (partsP f c m false (r.drop (x.2 + 1))).map fun y => (x.1 :: y.1, x.2 + 1 + y.2)
    else none
def atP : Nat → Tx → Option (Sv × Nat)
  | 0, _ => none
  | k + 1, r =>
    if r.head? = some 33 then (atP k (r.drop 1)).map fun x => (.not x.1, x.2 + 1)
    else if r.head? = some 40 then
      if (r.drop 1).head? = some 38 then (partsP (atP k) 38 (r.length + 1) true (r.drop 2)).map fun y => (.all y.1, y.2 + 3)
      else if (r.drop 1).head? = some 124 then (partsP (atP k) 124 (r.length + 1) true (r.drop 2)).map fun y => (.some y.1, y.2 + 3)
      else none
    else plainP r
mutual
def lv : Sv → Nat
  | .not s => lv s + 1
  | .all l => lvL l + 1
  | .some l => lvL l + 1
  | _ => 1
def lvL : List Sv → Nat
  | [] => 0
  | s :: l => max (lv s) (lvL l)
end
mutual
def cnt : Sv → Nat
  | .not s => cnt s + 1
  | .all l => cntL l + 1
  | .some l => cntL l + 1
  | _ => 1
def cntL : List Sv → Nat
  | [] => 0
  | s :: l => cnt s + cntL l
end
mutual
theorem dep_lv : ∀ s : Sv, dep s ≤ lv s
  | .not s => by rw [dep, lv]; have := dep_lv s; omega
  | .all l => by rw [dep, lv]; have := dep_lvL l; omega
  | .some l => by rw [dep, lv]; have := dep_lvL l; omega
  | .lacks _ => Nat.zero_le _
  | .is _ _ => Nat.zero_le _
  | .under _ _ => Nat.zero_le _
  | .over _ _ => Nat.zero_le _
theorem dep_lvL : ∀ l : List Sv, depL l ≤ lvL l
  | [] => Nat.zero_le _
  | s :: l => by rw [depL, lvL]; have := dep_lv s; have := dep_lvL l; omega
end
theorem lv_mem : ∀ {l : List Sv} {s : Sv}, s ∈ l → lv s ≤ lvL l
  | t :: l, s, h => by
    rw [lvL]
    cases h with
    | head => omega
    | tail _ h => have := lv_mem h; omega
theorem cntL_sum : ∀ l : List Sv, cntL l = (l.map cnt).sum
  | [] => rfl
  | s :: l => by rw [cntL, cntL_sum l]; rfl
theorem cnt_pos : ∀ s : Sv, 1 ≤ cnt s
  | .not s => by rw [cnt]; omega
  | .all l => by rw [cnt]; omega
  | .some l => by rw [cnt]; omega
  | .lacks _ => Nat.le_refl _
  | .is _ _ => Nat.le_refl _
  | .under _ _ => Nat.le_refl _
  | .over _ _ => Nat.le_refl _
theorem lv_pos : ∀ s : Sv, 1 ≤ lv s
  | .not s => by rw [lv]; omega
  | .all l => by rw [lv]; omega
  | .some l => by rw [lv]; omega
  | .lacks _ => Nat.le_refl _
  | .is _ _ => Nat.le_refl _
  | .under _ _ => Nat.le_refl _
  | .over _ _ => Nat.le_refl _
theorem len_cntL : ∀ l : List Sv, l.length ≤ cntL l
  | [] => Nat.zero_le _
  | s :: l => by rw [cntL]; have := cnt_pos s; have := len_cntL l; rw [List.length_cons]; omega
mutual
def RwB : Sv → Prop
  | .not s => RwB s
  | .all l => RwBL l
  | .some l => RwBL l
  | .lacks n => okName n
  | .is n v => okName n ∧ ∃ cs, v = .wd cs ∧ cs.length ≤ 61
  | .under n v => okName n ∧ ∃ i, v = .nm i ∧ -(10 ^ 60) < i ∧ i < 10 ^ 60
  | .over n v => okName n ∧ ∃ i, v = .nm i ∧ -(10 ^ 60) < i ∧ i < 10 ^ 60
def RwBL : List Sv → Prop
  | [] => True
  | s :: l => RwB s ∧ RwBL l
end
theorem RwBL_mem : ∀ {l : List Sv}, RwBL l ↔ ∀ s ∈ l, RwB s
  | [] => ⟨fun _ s h => (by cases h), fun _ => by simp only [RwBL]⟩
  | s :: l => by
    rw [RwBL, RwBL_mem]
    constructor
    · rintro ⟨h1, h2⟩ t ht
      cases ht with
      | head => exact h1
      | tail _ ht => exact h2 t ht
    · exact fun h => ⟨h s List.mem_cons_self, fun t ht => h t (List.mem_cons_of_mem _ ht)⟩
theorem runL_len (S : List Nat) (r : Tx) : (runL S r).length ≤ r.length := (List.takeWhile_prefix _).length_le
theorem runL_drop (S : List Nat) (r : Tx) : r.take (runL S r).length = runL S r := by
  have h : runL S r <+: r := List.takeWhile_prefix _
  exact (List.prefix_iff_eq_take.mp h).symm
theorem okW_name {n : Tx} (h : PV.okW n smL 12 = true) : okName n := by
  unfold PV.okW at h
  rw [Bool.and_eq_true] at h
  obtain ⟨h1, h2⟩ := h
  have h1 := of_decide_eq_true h1
  exact ⟨h1.1, by omega, fun c hc => by simpa using List.all_eq_true.mp h2 c hc⟩
theorem name_okW {n : Tx} (h : okName n) : PV.okW n smL 12 = true := by
  unfold PV.okW
  rw [decide_eq_true ⟨h.1, by have := h.2.1; omega⟩, Bool.true_and]
  exact List.all_eq_true.mpr fun c hc => decide_eq_true (h.2.2 c hc)
theorem isNum_bd {v : Tx} (h : PV.isNum v = true) : -(10 ^ 60) < PV.valN v ∧ PV.valN v < 10 ^ 60 := by
  unfold PV.isNum at h
  rw [Bool.and_eq_true] at h
  obtain ⟨h1, h2, h3⟩ := PV.fgL_dig h.1
  have lt : ∀ cs : Tx, NumText.AllDigits cs → (cs.length : Int) ≤ 60 → ((NumText.digitsVal cs : Nat) : Int) < 10 ^ 60 := fun cs ad hl => by
    have e := PV.digits_lt cs fun c hc => (by
      have := ad c hc
      omega)
    have : (NumText.digitsVal cs) < 10 ^ 60 := Nat.lt_of_lt_of_le e (Nat.pow_le_pow_right (by decide) (by omega))
    exact_mod_cast this
  unfold PV.valN
  unfold PV.figs at h1 h3
  by_cases q : v.take 1 = [45]
  · rw [if_pos q] at h1 h3 ⊢
    have := lt _ h1 h3
    omega
  · rw [if_neg q] at h1 h3 ⊢
    have := lt _ h1 h3
    omega
theorem plain_ok {r : Tx} {s : Sv} {n : Nat} (h : plainP r = some (s, n)) : 1 ≤ n ∧ n ≤ r.length ∧ lv s = 1 ∧ RwB s ∧ (∀ k, wid k s) := by
  unfold plainP at h
  have l1 := runL_len smL r
  split at h
  · cases h
  · next c q e =>
    have el : r.length - (runL smL r).length = q.length + 1 := by
      have := congrArg List.length e
      rwa [List.length_drop, List.length_cons] at this
    have l2 := runL_len vlL q
    unfold plainK at h
    by_cases h1 : PV.okW (runL smL r) smL 12 = true
    · rw [if_pos h1] at h
      have nm := okW_name h1
      by_cases h2 : c = 63
      · rw [if_pos h2] at h
        cases h
        exact ⟨by omega, by omega, rfl, nm, fun _ => trivial⟩
      · rw [if_neg h2] at h
        by_cases h3 : c = 61 ∨ c = 60 ∨ c = 62
        · rw [if_pos h3] at h
          by_cases h4 : 1 ≤ (runL vlL q).length ∧ (runL vlL q).length ≤ 61
          · rw [if_pos h4] at h
            by_cases h5 : c = 61
            · rw [if_pos h5] at h
              cases h
              exact ⟨by omega, by omega, rfl, ⟨nm, _, rfl, h4.2⟩, fun _ => trivial⟩
            · rw [if_neg h5] at h
              by_cases h6 : PV.isNum (runL vlL q) = true
              · rw [if_pos h6] at h
                have bd := isNum_bd h6
                cases h
                by_cases h7 : c = 60
                · rw [if_pos h7]
                  exact ⟨by omega, by omega, rfl, ⟨nm, _, rfl, bd⟩, fun _ => trivial⟩
                · rw [if_neg h7]
                  exact ⟨by omega, by omega, rfl, ⟨nm, _, rfl, bd⟩, fun _ => trivial⟩
              · rw [if_neg h6] at h; cases h
          · rw [if_neg h4] at h; cases h
        · rw [if_neg h3] at h; cases h
    · rw [if_neg h1] at h; cases h
theorem head_len {r : Tx} {c : Nat} (h : r.head? = some c) : 1 ≤ r.length := by
  cases r with
  | nil => cases h
  | cons a r => rw [List.length_cons]; omega
theorem wid_mono {a b : Nat} (h : a ≤ b) : ∀ s : Sv, wid a s → wid b s := by
  have key : ∀ n : Nat, ∀ s : Sv, dep s < n → wid a s → wid b s := by
    intro n
    induction n with
    | zero => intro s h; exact absurd h (Nat.not_lt_zero _)
    | succ n ih =>
      intro s hd hw
      cases s with
      | not s => rw [dep] at hd; rw [wid] at hw ⊢; exact ih s (by omega) hw
      | all l => rw [dep] at hd; rw [wid, widL_mem] at hw ⊢; exact ⟨by omega, fun t ht => ih t (by have := dep_mem ht; omega) (hw.2 t ht)⟩
      | some l => rw [dep] at hd; rw [wid, widL_mem] at hw ⊢; exact ⟨by omega, fun t ht => ih t (by have := dep_mem ht; omega) (hw.2 t ht)⟩
      | _ => trivial
  exact fun s => key (dep s + 1) s (by omega)
/-- what is read: so long, so deep, so wide -/
def AtOk (k : Nat) (r : Tx) (s : Sv) (n : Nat) : Prop := 1 ≤ n ∧ n ≤ r.length ∧ lv s ≤ k ∧ RwB s ∧ wid r.length s
theorem parts_ok {f : Tx → Option (Sv × Nat)} {k c : Nat} (hf : ∀ r s n, f r = some (s, n) → AtOk k r s n) :
    ∀ (m : Nat) (fst : Bool) (r : Tx) (l : List Sv) (n : Nat), partsP f c m fst r = some (l, n) → n + 1 ≤ r.length ∧ (∀ s ∈ l, lv s ≤ k ∧ RwB s ∧ wid r.length s) ∧ l.length ≤ n ∧ (r.drop n).head? = some 41
  | 0, _, _, _, _, h => by cases h
  | m + 1, fst, r, l, n, h => by
    rw [partsP] at h
    by_cases h1 : r.head? = some 41
    · rw [if_pos h1] at h
      cases h
      exact ⟨head_len h1, (fun s hs => nomatch hs), Nat.le_refl _, h1⟩
    · rw [if_neg h1] at h
      by_cases h2 : fst = true
      · rw [if_pos h2] at h
        obtain ⟨x, hx, h⟩ := Option.bind_eq_some_iff.mp h
        obtain ⟨y, hy, h⟩ := Option.map_eq_some_iff.mp h
        cases h
        obtain ⟨a1, a2, a3, a4, a5⟩ := hf r x.1 x.2 hx
        obtain ⟨b1, b2, b3, b4⟩ := parts_ok hf m false _ y.1 y.2 hy
        rw [List.length_drop] at b1 b2
        refine ⟨by omega, fun s hs => ?_, by rw [List.length_cons]; omega, by rw [← List.drop_drop]; exact b4⟩
        cases hs with
        | head => exact ⟨a3, a4, a5⟩
        | tail _ hs => exact ⟨(b2 s hs).1, (b2 s hs).2.1, wid_mono (by omega) _ (b2 s hs).2.2⟩
      · rw [if_neg h2] at h
        by_cases h3 : r.head? = some c
        · rw [if_pos h3] at h
          obtain ⟨x, hx, h⟩ := Option.bind_eq_some_iff.mp h
          obtain ⟨y, hy, h⟩ := Option.map_eq_some_iff.mp h
          cases h
          obtain ⟨a1, a2, a3, a4, a5⟩ := hf _ x.1 x.2 hx
          obtain ⟨b1, b2, b3, b4⟩ := parts_ok hf m false _ y.1 y.2 hy
          rw [List.length_drop] at a2 a5 b1 b2
          refine ⟨by omega, fun s hs => ?_, by rw [List.length_cons]; omega, by rw [← List.drop_drop]; exact b4⟩
          cases hs with
          | head => exact ⟨a3, a4, wid_mono (by omega) _ a5⟩
          | tail _ hs => exact ⟨(b2 s hs).1, (b2 s hs).2.1, wid_mono (by omega) _ (b2 s hs).2.2⟩
        · rw [if_neg h3] at h; cases h
theorem lvL_le {l : List Sv} {k : Nat} (h : ∀ s ∈ l, lv s ≤ k) : lvL l ≤ k := by
  induction l with
  | nil => exact Nat.zero_le _
  | cons s l ih =>
    rw [lvL]
    have := h s List.mem_cons_self
    have := ih fun t ht => h t (List.mem_cons_of_mem _ ht)
    omega
theorem at_ok : ∀ (k : Nat) (r : Tx) (s : Sv) (n : Nat), atP k r = some (s, n) → AtOk k r s n
  | 0, _, _, _, h => by cases h
  | k + 1, r, s, n, h => by
    rw [atP] at h
    by_cases h1 : r.head? = some 33
    · rw [if_pos h1] at h
      obtain ⟨x, hx, h⟩ := Option.map_eq_some_iff.mp h
      cases h
      obtain ⟨a1, a2, a3, a4, a5⟩ := at_ok k _ x.1 x.2 hx
      have := head_len h1
      rw [List.length_drop] at a2 a5
      exact ⟨by omega, by omega, by rw [lv]; omega, by rw [RwB]; exact a4, by rw [wid]; exact wid_mono (by omega) _ a5⟩
    · rw [if_neg h1] at h
      by_cases h2 : r.head? = some 40
      · rw [if_pos h2] at h
        have l1 := head_len h2
        by_cases h3 : (r.drop 1).head? = some 38
        · rw [if_pos h3] at h
          obtain ⟨y, hy, h⟩ := Option.map_eq_some_iff.mp h
          cases h
          obtain ⟨b1, b2, b3, b4⟩ := parts_ok (at_ok k) _ _ _ y.1 y.2 hy
          rw [List.length_drop] at b1 b2
          refine ⟨by omega, by omega, by rw [lv]; have := lvL_le fun s hs => (b2 s hs).1; omega, by rw [RwB, RwBL_mem]; exact fun s hs => (b2 s hs).2.1, ?_⟩
          rw [wid, widL_mem]
          exact ⟨by omega, fun s hs => wid_mono (by omega) _ (b2 s hs).2.2⟩
        · rw [if_neg h3] at h
          by_cases h4 : (r.drop 1).head? = some 124
          · rw [if_pos h4] at h
            obtain ⟨y, hy, h⟩ := Option.map_eq_some_iff.mp h
            cases h
            obtain ⟨b1, b2, b3, b4⟩ := parts_ok (at_ok k) _ _ _ y.1 y.2 hy
            rw [List.length_drop] at b1 b2
            refine ⟨by omega, by omega, by rw [lv]; have := lvL_le fun s hs => (b2 s hs).1; omega, by rw [RwB, RwBL_mem]; exact fun s hs => (b2 s hs).2.1, ?_⟩
            rw [wid, widL_mem]
            exact ⟨by omega, fun s hs => wid_mono (by omega) _ (b2 s hs).2.2⟩
          · rw [if_neg h4] at h; cases h
      · rw [if_neg h2] at h
        obtain ⟨a1, a2, a3, a4, a5⟩ := plain_ok h
        exact ⟨a1, a2, by omega, a4, a5 _⟩
inductive Rd where
  | no | right (s : Sv) | field (n : Tx) | kind (n : Tx)
def readK (b : Bool) (cs : Tx) : Option Val := if b = true then (if PV.okW cs (smL ++ fgL) 12 = true then some (.wd cs) else none) else if PV.isNum cs = true then some (.nm (PV.valN cs)) else none
def ofDue (s : Sv) : PT.Due → Rd
  | .right => .right s
  | .field n => .field n
  | .kind n => .kind n
def kdIs (fs : List Fd) (n : Tx) (cs : Tx) : Rd := match (plN fs n).bind fun i => fs[i]? with
  | none => .field n
  | some f => match readK f.2 cs with
    | some v => .right (.is n v)
    | none => .kind n
def wdOf : Val → Tx
  | .wd cs => cs
  | _ => []
mutual
def kd (fs : List Fd) : Sv → Rd
  | .not s => match kd fs s with
    | .right t => .right (.not t)
    | e => e
  | .all l => match kdL fs l with
    | .ok ts => .right (.all ts)
    | .error e => e
  | .some l => match kdL fs l with
    | .ok ts => .right (.some ts)
    | .error e => e
  | .is n v => kdIs fs n (wdOf v)
  | .lacks n => ofDue (.lacks n) (due fs (.lacks n))
  | .under n v => ofDue (.under n v) (due fs (.under n v))
  | .over n v => ofDue (.over n v) (due fs (.over n v))
def kdL (fs : List Fd) : List Sv → Except Rd (List Sv)
  | [] => .ok []
  | s :: l => match kd fs s with
    | .right t => (match kdL fs l with
      | .ok ts => .ok (t :: ts)
      | .error e => .error e)
    | e => .error e
end
def readF (fs : List Fd) (t : Tx) : Rd := match atP 12 t with
  | none => .no
  | some (s, n) => if n = t.length ∧ cnt s ≤ 60 then kd fs s else .no
def wrV : Val → Tx
  | .no => [45]
  | .wd cs => cs
  | .nm i => PV.numT i
mutual
def txS : Sv → Tx
  | .lacks n => n ++ [63]
  | .is n v => n ++ 61 :: wrV v
  | .under n v => n ++ 60 :: wrV v
  | .over n v => n ++ 62 :: wrV v
  | .not s => 33 :: txS s
  | .all l => 40 :: 38 :: (TL.joinL [38] (txL l) ++ [41])
  | .some l => 40 :: 124 :: (TL.joinL [124] (txL l) ++ [41])
def txL : List Sv → List Tx
  | [] => []
  | s :: l => txS s :: txL l
end
theorem txL_map : ∀ l : List Sv, txL l = l.map txS
  | [] => rfl
  | s :: l => by rw [txL, txL_map l]; rfl
mutual
def rawS : Sv → Sv
  | .is n v => .is n (.wd (wrV v))
  | .not s => .not (rawS s)
  | .all l => .all (rawL l)
  | .some l => .some (rawL l)
  | s => s
def rawL : List Sv → List Sv
  | [] => []
  | s :: l => rawS s :: rawL l
end
mutual
theorem cnt_raw : ∀ s : Sv, cnt (rawS s) = cnt s
  | .not s => by rw [rawS, cnt, cnt, cnt_raw s]
  | .all l => by rw [rawS, cnt, cnt, cntL_raw l]
  | .some l => by rw [rawS, cnt, cnt, cntL_raw l]
  | .lacks _ => by rw [rawS] <;> (intros; rename_i z; cases z)
  | .is _ _ => by rw [rawS]; rfl
  | .under _ _ => by rw [rawS] <;> (intros; rename_i z; cases z)
  | .over _ _ => by rw [rawS] <;> (intros; rename_i z; cases z)
theorem cntL_raw : ∀ l : List Sv, cntL (rawL l) = cntL l
  | [] => by rw [rawL]
  | s :: l => by rw [rawL, cntL, cntL, cnt_raw s, cntL_raw l]
end
theorem run_app {S : List Nat} {a rest : Tx} (ha : ∀ c ∈ a, c ∈ S) (hr : ∀ c, rest.head? = some c → c ∉ S) : runL S (a ++ rest) = a := by
  unfold runL
  rw [List.takeWhile_append_of_pos fun c hc => decide_eq_true (ha c hc)]
  cases rest with
  | nil => simp
  | cons c r => rw [List.takeWhile_cons_of_neg (by simpa using hr c rfl), List.append_nil]
theorem drop_app (a b : Tx) : (a ++ b).drop a.length = b := by simp
/-- a value as it is written stands in the run of a value's signs -/
def WrOk (v : Val) : Prop := 1 ≤ (wrV v).length ∧ (wrV v).length ≤ 61 ∧ ∀ c ∈ wrV v, c ∈ vlL
theorem numL_fg (n : Nat) : ∀ c ∈ TL.numL n, c ∈ fgL := fun c hc => by
  have h : ∀ c ∈ TL.numL n, 48 ≤ c ∧ c ≤ 57 := TL.numL_digits n
  obtain ⟨h1, h2⟩ := h c hc
  have : c = 48 ∨ c = 49 ∨ c = 50 ∨ c = 51 ∨ c = 52 ∨ c = 53 ∨ c = 54 ∨ c = 55 ∨ c = 56 ∨ c = 57 := by omega
  rcases this with rfl | rfl | rfl | rfl | rfl | rfl | rfl | rfl | rfl | rfl <;> decide
theorem wr_ok {b : Bool} {v : Val} (h : ValOk b v) (hn : v ≠ .no) : WrOk v := by
  cases v with
  | no => exact absurd rfl hn
  | wd cs => exact ⟨h.2.1, by have := h.2.2.1; show cs.length ≤ 61; omega, fun c hc => List.mem_append_left _ (h.2.2.2 c hc)⟩
  | nm i =>
    obtain ⟨l1, l2⟩ := PV.numT_len h.2.1 h.2.2
    have p := PV.okW_numL l2
    unfold PV.okW at p
    rw [Bool.and_eq_true] at p
    have p1 := (of_decide_eq_true p.1).1
    refine ⟨?_, l1, fun c hc => ?_⟩
    · show 1 ≤ (PV.numT i).length
      unfold PV.numT
      split
      · rw [List.length_cons]; omega
      · exact p1
    · have hc : c ∈ PV.numT i := hc
      unfold PV.numT at hc
      split at hc
      · cases hc with
        | head => exact List.mem_append_right _ (by simp)
        | tail _ hc => exact List.mem_append_left _ (List.mem_append_right _ (numL_fg _ c hc))
      · exact List.mem_append_left _ (List.mem_append_right _ (numL_fg _ c hc))
theorem sign_no {c : Nat} (h : c = 63 ∨ c = 61 ∨ c = 60 ∨ c = 62) : c ∉ smL := by
  rcases h with rfl | rfl | rfl | rfl <;> decide
theorem name_head {n : Tx} (h : okName n) (rest : Tx) : ∃ c, (n ++ rest).head? = some c ∧ c ∈ smL := by
  cases n with
  | nil => exact absurd h.1 (by decide)
  | cons c n => exact ⟨c, rfl, h.2.2 c List.mem_cons_self⟩
theorem plainP_app {n : Tx} {c : Nat} {q : Tx} (h : okName n) (hc : c = 63 ∨ c = 61 ∨ c = 60 ∨ c = 62) : plainP (n ++ c :: q) = plainK n c (runL vlL q) := by
  unfold plainP
  have e : runL smL (n ++ c :: q) = n := run_app h.2.2 fun d hd => by cases hd; exact sign_no hc
  rw [e, drop_app]
theorem atP_plain {k : Nat} {r : Tx} {c : Nat} (h : r.head? = some c) (hc : c ∈ smL) : atP (k + 1) r = plainP r := by
  rw [atP, h]
  have h1 : c ≠ 33 := fun z => by subst z; exact absurd hc (by decide)
  have h2 : c ≠ 40 := fun z => by subst z; exact absurd hc (by decide)
  rw [if_neg (fun z => h1 (Option.some.inj z)), if_neg (fun z => h2 (Option.some.inj z))]
theorem tx_head {fs : List Fd} (nm : ∀ f ∈ fs, okName f.1) : ∀ {s : Sv}, SvOk fs s → ∀ rest : Tx, ∃ c, (txS s ++ rest).head? = some c ∧ c ≠ 41 ∧ c ∉ vlL ∨ ∃ c, (txS s ++ rest).head? = some c ∧ c ∈ smL := by
  intro s h rest
  have nmk : ∀ {i : Nat} {n : Tx} {b : Bool}, fs[i]? = some (n, b) → okName n := fun h => nm _ (List.mem_of_getElem? h)
  cases s with
  | not s => rw [txS]; exact ⟨33, .inl ⟨rfl, by decide, by decide⟩⟩
  | all l => rw [txS]; exact ⟨40, .inl ⟨rfl, by decide, by decide⟩⟩
  | some l => rw [txS]; exact ⟨40, .inl ⟨rfl, by decide, by decide⟩⟩
  | lacks n => rw [SvOk] at h; obtain ⟨i, b, h⟩ := h; rw [txS, List.append_assoc]; obtain ⟨c, h1, h2⟩ := name_head (nmk h) ([63] ++ rest); exact ⟨c, .inr ⟨c, h1, h2⟩⟩
  | is n v => rw [SvOk] at h; obtain ⟨i, b, h, _⟩ := h; rw [txS, List.append_assoc]; obtain ⟨c, h1, h2⟩ := name_head (nmk h) (61 :: wrV v ++ rest); exact ⟨c, .inr ⟨c, h1, h2⟩⟩
  | under n v => rw [SvOk] at h; obtain ⟨i, j, h, _⟩ := h; rw [txS, List.append_assoc]; obtain ⟨c, h1, h2⟩ := name_head (nmk h) (60 :: wrV v ++ rest); exact ⟨c, .inr ⟨c, h1, h2⟩⟩
  | over n v => rw [SvOk] at h; obtain ⟨i, j, h, _⟩ := h; rw [txS, List.append_assoc]; obtain ⟨c, h1, h2⟩ := name_head (nmk h) (62 :: wrV v ++ rest); exact ⟨c, .inr ⟨c, h1, h2⟩⟩
theorem tx_not41 {fs : List Fd} (nm : ∀ f ∈ fs, okName f.1) {s : Sv} (h : SvOk fs s) (rest : Tx) : ¬ (txS s ++ rest).head? = some 41 := by
  obtain ⟨c, ⟨h1, h2, _⟩ | ⟨c, h1, h2⟩⟩ := tx_head nm h rest
  · rw [h1]; exact fun z => h2 (Option.some.inj z)
  · rw [h1]; intro z; injection z with z; subst z; exact absurd h2 (by decide)
theorem tx_len {fs : List Fd} (nm : ∀ f ∈ fs, okName f.1) {s : Sv} (h : SvOk fs s) : 1 ≤ (txS s).length := by
  obtain ⟨c, ⟨h1, _⟩ | ⟨c, h1, _⟩⟩ := tx_head nm h []
  · rw [List.append_nil] at h1; exact head_len h1
  · rw [List.append_nil] at h1; exact head_len h1
theorem joinL_two (S a : List Nat) (b : List Nat) (r : List (List Nat)) : TL.joinL S (a :: b :: r) = a ++ S ++ TL.joinL S (b :: r) := by
  rw [TL.joinL]; simp
/-- the parts behind the first, each with its sign ahead -/
def behindL (c : Nat) : List Tx → Tx
  | [] => []
  | t :: l => c :: t ++ behindL c l
theorem joinL_behind (c : Nat) : ∀ (t : Tx) (l : List Tx), TL.joinL [c] (t :: l) = t ++ behindL c l
  | t, [] => by rw [behindL, List.append_nil]; rfl
  | t, u :: l => by rw [joinL_two, joinL_behind c u l, behindL]; simp
theorem parts_txt {f : Tx → Option (Sv × Nat)} {c : Nat} {rest : Tx} (hc : c ≠ 41) (hv : c ∉ vlL) : ∀ (l : List (Sv × Tx)) (m : Nat), l.length < m →
    (∀ p ∈ l, ∀ q : Tx, (∀ d, q.head? = some d → d ∉ vlL) → f (p.2 ++ q) = some (p.1, p.2.length)) →
    partsP f c m false (behindL c (l.map (·.2)) ++ 41 :: rest) = some (l.map (·.1), (behindL c (l.map (·.2))).length)
  | [], m + 1, _, _ => by rw [partsP]; exact if_pos rfl
  | p :: l, m + 1, hm, hf => by
    have h41 : (41 : Nat) ∉ vlL := by decide
    have nx : ∀ d, (behindL c (l.map (·.2)) ++ 41 :: rest).head? = some d → d ∉ vlL := by
      intro d hd
      cases l with
      | nil => cases hd; exact h41
      | cons p2 l => cases hd; exact hv
    have e1 : behindL c ((p :: l).map (·.2)) ++ 41 :: rest = c :: (p.2 ++ (behindL c (l.map (·.2)) ++ 41 :: rest)) := by
      rw [List.map_cons, behindL]; simp
    rw [e1, partsP, if_neg (by show ¬ some c = some 41; exact fun z => hc (Option.some.inj z)), if_neg Bool.false_ne_true, if_pos (show (c :: (p.2 ++ (behindL c (l.map (·.2)) ++ 41 :: rest))).head? = some c from rfl)]
    have e2 := hf p List.mem_cons_self _ nx
    have ih := parts_txt (rest := rest) hc hv l m (by rw [List.length_cons] at hm; omega) fun p hp => hf p (List.mem_cons_of_mem _ hp)
    rw [show (c :: (p.2 ++ (behindL c (l.map (·.2)) ++ 41 :: rest))).drop 1 = p.2 ++ (behindL c (l.map (·.2)) ++ 41 :: rest) from rfl, e2]
    show ((partsP f c m false ((c :: (p.2 ++ (behindL c (l.map (·.2)) ++ 41 :: rest))).drop (p.2.length + 1))).map fun y => (p.1 :: y.1, p.2.length + 1 + y.2)) = _
    rw [List.drop_succ_cons, drop_app, ih]
    show some (p.1 :: l.map (·.1), p.2.length + 1 + (behindL c (l.map (·.2))).length) = _
    rw [List.map_cons, List.map_cons, behindL]
    congr 2
    simp; omega
theorem parts_all {fs : List Fd} (nm : ∀ f ∈ fs, okName f.1) {f : Tx → Option (Sv × Nat)} {c : Nat} {rest : Tx} (hc : c ≠ 41) (hv : c ∉ vlL) (l : List Sv) (ok : ∀ s ∈ l, SvOk fs s) (m : Nat) (hm : l.length < m)
    (hf : ∀ s ∈ l, ∀ q : Tx, (∀ d, q.head? = some d → d ∉ vlL) → f (txS s ++ q) = some (rawS s, (txS s).length)) :
    partsP f c m true (TL.joinL [c] (txL l) ++ 41 :: rest) = some (rawL l, (TL.joinL [c] (txL l)).length) := by
  cases m with
  | zero => omega
  | succ m =>
    cases l with
    | nil => rw [partsP]; exact if_pos rfl
    | cons s l =>
      rw [txL, joinL_behind, List.append_assoc, partsP, if_neg (tx_not41 nm (ok s List.mem_cons_self) _), if_pos rfl]
      have h41 : (41 : Nat) ∉ vlL := by decide
      have nx : ∀ d, (behindL c (txL l) ++ 41 :: rest).head? = some d → d ∉ vlL := by
        intro d hd
        cases l with
        | nil => cases hd; exact h41
        | cons p2 l => cases hd; exact hv
      rw [hf s List.mem_cons_self _ nx]
      have e := parts_txt (f := f) (rest := rest) hc hv (l.map fun s => (rawS s, txS s)) m (by rw [List.length_map]; rw [List.length_cons] at hm; omega) (fun p hp q hq => by
        obtain ⟨s, hs, rfl⟩ := List.mem_map.mp hp
        exact hf s (List.mem_cons_of_mem _ hs) q hq)
      rw [List.map_map, List.map_map] at e
      have t1 : l.map ((fun x : Sv × Tx => x.2) ∘ fun s => (rawS s, txS s)) = txL l := (txL_map l).symm
      have rl : ∀ l : List Sv, rawL l = l.map rawS := fun l => by
        induction l with
        | nil => rfl
        | cons s l ih => rw [rawL, ih]; rfl
      have t2 : l.map ((fun x : Sv × Tx => x.1) ∘ fun s => (rawS s, txS s)) = rawL l := (rl l).symm
      rw [t1, t2] at e
      show ((partsP f c m false ((txS s ++ (behindL c (txL l) ++ 41 :: rest)).drop (txS s).length)).map fun y => (rawS s :: y.1, (txS s).length + y.2)) = _
      rw [drop_app, e]
      show some (rawS s :: rawL l, (txS s).length + (behindL c (txL l)).length) = _
      rw [rawL, List.length_append]
theorem joinL_lenge {c : Nat} {fs : List Fd} (nm : ∀ f ∈ fs, okName f.1) : ∀ {l : List Sv}, (∀ s ∈ l, SvOk fs s) → l.length ≤ (TL.joinL [c] (txL l)).length
  | [], _ => Nat.zero_le _
  | s :: l, ok => by
    rw [txL, joinL_behind, List.length_append, List.length_cons]
    have h1 := tx_len nm (ok s List.mem_cons_self)
    have h2 : ∀ l : List Sv, l.length ≤ (behindL c (txL l)).length := fun l => by
      induction l with
      | nil => exact Nat.zero_le _
      | cons s l ih => rw [txL, behindL, List.length_append, List.length_cons, List.length_cons]; omega
    have := h2 l
    omega
/-- a sieve's text, read: the sieve, its values as texts -/
theorem at_txt {fs : List Fd} (nm : ∀ f ∈ fs, okName f.1) : ∀ (k : Nat) (s : Sv), lv s ≤ k → SvOk fs s → ∀ rest : Tx, (∀ d, rest.head? = some d → d ∉ vlL) → atP k (txS s ++ rest) = some (rawS s, (txS s).length) := by
  intro k
  induction k with
  | zero => intro s h; have := lv_pos s; omega
  | succ k ih =>
    intro s hl ok rest hr
    have nmk : ∀ {i : Nat} {n : Tx} {b : Bool}, fs[i]? = some (n, b) → okName n := fun h => nm _ (List.mem_of_getElem? h)
    have val : ∀ {n : Tx} {v : Val} {c : Nat}, okName n → WrOk v → (c = 61 ∨ c = 60 ∨ c = 62) → atP (k + 1) ((n ++ c :: wrV v) ++ rest) = plainK n c (wrV v) := by
      intro n v c hn hv hc
      rw [List.append_assoc]
      obtain ⟨d, h1, h2⟩ := name_head hn ((c :: wrV v) ++ rest)
      rw [atP_plain h1 h2, show (c :: wrV v) ++ rest = c :: (wrV v ++ rest) from rfl, plainP_app hn (.inr hc), run_app hv.2.2 hr]
    cases s with
    | lacks n =>
      rw [SvOk] at ok
      obtain ⟨i, b, h⟩ := ok
      have hn := nmk h
      have er : rawS (.lacks n) = .lacks n := by rw [rawS] <;> (intros; rename_i z; cases z)
      rw [txS, er, List.append_assoc]
      obtain ⟨d, h1, h2⟩ := name_head hn ([63] ++ rest)
      rw [atP_plain h1 h2, show [63] ++ rest = 63 :: rest from rfl, plainP_app hn (.inl rfl)]
      unfold plainK
      rw [if_pos (name_okW hn), if_pos rfl, List.length_append]; rfl
    | is n v =>
      rw [SvOk] at ok
      obtain ⟨i, b, h, h1, h2⟩ := ok
      have hn := nmk h
      have hv := wr_ok h2 h1
      rw [txS, rawS, val hn hv (.inl rfl)]
      unfold plainK
      rw [if_pos (name_okW hn), if_neg (by decide), if_pos (.inl rfl), if_pos ⟨hv.1, hv.2.1⟩, if_pos rfl, List.length_append, List.length_cons]
      congr 2; omega
    | under n v =>
      rw [SvOk] at ok
      obtain ⟨i, j, h, h1, h2⟩ := ok
      have hn := nmk h
      have hv := wr_ok h2 (by rw [h1]; exact fun z => by cases z)
      have nu : PV.isNum (wrV v) = true := by rw [h1] at h2 ⊢; exact PV.isNum_numT h2.2.1 h2.2.2
      have ev : Val.nm (PV.valN (wrV v)) = v := by rw [h1]; exact congrArg Val.nm (PV.valN_numT j)
      have er : rawS (.under n v) = .under n v := by rw [rawS] <;> (intros; rename_i z; cases z)
      rw [txS, er, val hn hv (.inr (.inl rfl))]
      unfold plainK
      rw [if_pos (name_okW hn), if_neg (by decide), if_pos (.inr (.inl rfl)), if_pos ⟨hv.1, hv.2.1⟩, if_neg (by decide), if_pos nu, if_pos rfl, ev, List.length_append, List.length_cons]
      congr 2; omega
    | over n v =>
      rw [SvOk] at ok
      obtain ⟨i, j, h, h1, h2⟩ := ok
      have hn := nmk h
      have hv := wr_ok h2 (by rw [h1]; exact fun z => by cases z)
      have nu : PV.isNum (wrV v) = true := by rw [h1] at h2 ⊢; exact PV.isNum_numT h2.2.1 h2.2.2
      have ev : Val.nm (PV.valN (wrV v)) = v := by rw [h1]; exact congrArg Val.nm (PV.valN_numT j)
      have er : rawS (.over n v) = .over n v := by rw [rawS] <;> (intros; rename_i z; cases z)
      rw [txS, er, val hn hv (.inr (.inr rfl))]
      unfold plainK
      rw [if_pos (name_okW hn), if_neg (by decide), if_pos (.inr (.inr rfl)), if_pos ⟨hv.1, hv.2.1⟩, if_neg (by decide), if_pos nu, if_neg (by decide), ev, List.length_append, List.length_cons]
      congr 2; omega
    | not s =>
      rw [lv] at hl
      rw [SvOk] at ok
      rw [txS, rawS]
      show atP (k + 1) (33 :: (txS s ++ rest)) = _
      rw [atP, if_pos (show (33 :: (txS s ++ rest)).head? = some 33 from rfl), show (33 :: (txS s ++ rest)).drop 1 = txS s ++ rest from rfl, ih s (by omega) ok rest hr]
      rfl
    | all l =>
      rw [lv] at hl
      rw [SvOk, SvOkL_mem] at ok
      rw [txS, rawS]
      have e0 : (40 :: 38 :: (TL.joinL [38] (txL l) ++ [41])) ++ rest = 40 :: 38 :: (TL.joinL [38] (txL l) ++ 41 :: rest) := by simp
      rw [e0, atP, if_neg (show ¬ (40 :: 38 :: (TL.joinL [38] (txL l) ++ 41 :: rest)).head? = some 33 from by simp), if_pos (show (40 :: 38 :: (TL.joinL [38] (txL l) ++ 41 :: rest)).head? = some 40 from rfl), if_pos (show ((40 :: 38 :: (TL.joinL [38] (txL l) ++ 41 :: rest)).drop 1).head? = some 38 from rfl)]
      have e := parts_all (f := atP k) (rest := rest) (c := 38) nm (by decide) (by decide) l ok ((40 :: 38 :: (TL.joinL [38] (txL l) ++ 41 :: rest)).length + 1)
        (by have := joinL_lenge (c := 38) nm ok; simp; omega) fun s hs q hq => ih s (by have := lv_mem hs; omega) (ok s hs) q hq
      rw [show (40 :: 38 :: (TL.joinL [38] (txL l) ++ 41 :: rest)).drop 2 = TL.joinL [38] (txL l) ++ 41 :: rest from rfl, e]
      simp
    | some l =>
      rw [lv] at hl
      rw [SvOk, SvOkL_mem] at ok
      rw [txS, rawS]
      have e0 : (40 :: 124 :: (TL.joinL [124] (txL l) ++ [41])) ++ rest = 40 :: 124 :: (TL.joinL [124] (txL l) ++ 41 :: rest) := by simp
      rw [e0, atP, if_neg (show ¬ (40 :: 124 :: (TL.joinL [124] (txL l) ++ 41 :: rest)).head? = some 33 from by simp), if_pos (show (40 :: 124 :: (TL.joinL [124] (txL l) ++ 41 :: rest)).head? = some 40 from rfl), if_neg (show ¬ ((40 :: 124 :: (TL.joinL [124] (txL l) ++ 41 :: rest)).drop 1).head? = some 38 from by simp), if_pos (show ((40 :: 124 :: (TL.joinL [124] (txL l) ++ 41 :: rest)).drop 1).head? = some 124 from rfl)]
      have e := parts_all (f := atP k) (rest := rest) (c := 124) nm (by decide) (by decide) l ok ((40 :: 124 :: (TL.joinL [124] (txL l) ++ 41 :: rest)).length + 1)
        (by have := joinL_lenge (c := 124) nm ok; simp; omega) fun s hs q hq => ih s (by have := lv_mem hs; omega) (ok s hs) q hq
      rw [show (40 :: 124 :: (TL.joinL [124] (txL l) ++ 41 :: rest)).drop 2 = TL.joinL [124] (txL l) ++ 41 :: rest from rfl, e]
      simp
theorem readK_ok {b : Bool} {v : Val} (h : ValOk b v) (hn : v ≠ .no) : readK b (wrV v) = some v := by
  cases v with
  | no => exact absurd rfl hn
  | wd cs =>
    obtain ⟨rfl, h⟩ := h
    unfold readK
    rw [if_pos rfl, show wrV (.wd cs) = cs from rfl, if_pos (okW_word h)]
  | nm i =>
    obtain ⟨rfl, h1, h2⟩ := h
    unfold readK
    rw [if_neg Bool.false_ne_true, show wrV (.nm i) = PV.numT i from rfl, if_pos (PV.isNum_numT h1 h2), PV.valN_numT]
theorem kd_raw {fs : List Fd} (nd : (fs.map (·.1)).Nodup) : ∀ (k : Nat) (s : Sv), dep s < k → SvOk fs s → kd fs (rawS s) = .right s := by
  intro k
  induction k with
  | zero => intro s h; exact absurd h (Nat.not_lt_zero _)
  | succ k ih =>
    intro s hd ok
    have lst : ∀ l : List Sv, (∀ s ∈ l, dep s < k) → (∀ s ∈ l, SvOk fs s) → kdL fs (rawL l) = .ok l := by
      intro l
      induction l with
      | nil => intro _ _; rw [rawL, kdL]
      | cons s l ihl =>
        intro h1 h2
        rw [rawL, kdL, ih s (h1 s List.mem_cons_self) (h2 s List.mem_cons_self)]
        show (match kdL fs (rawL l) with | .ok ts => Except.ok (s :: ts) | .error e => .error e) = _
        rw [ihl (fun t ht => h1 t (List.mem_cons_of_mem _ ht)) fun t ht => h2 t (List.mem_cons_of_mem _ ht)]
    have du : ∀ {n : Tx} {i : Nat} {b : Bool} (bad : Bool → Bool), fs[i]? = some (n, b) → bad b = false → dueP fs n bad = .right := by
      intro n i b bad h hb
      unfold dueP
      rw [plN_at nd h, Option.bind_some, h]
      show (if bad b = true then Due.kind n else .right) = _
      rw [hb]; rfl
    cases s with
    | not s =>
      rw [dep] at hd
      rw [SvOk] at ok
      rw [rawS, kd, ih s (by omega) ok]
    | all l =>
      rw [dep] at hd
      rw [SvOk, SvOkL_mem] at ok
      rw [rawS, kd, lst l (fun s hs => by have := dep_mem hs; omega) ok]
    | some l =>
      rw [dep] at hd
      rw [SvOk, SvOkL_mem] at ok
      rw [rawS, kd, lst l (fun s hs => by have := dep_mem hs; omega) ok]
    | is n v =>
      rw [SvOk] at ok
      obtain ⟨i, b, h, h1, h2⟩ := ok
      rw [rawS, kd, wdOf]
      unfold kdIs
      rw [plN_at nd h, Option.bind_some, h]
      show (match readK b (wrV v) with | some v => Rd.right (.is n v) | none => .kind n) = _
      rw [readK_ok h2 h1]
    | lacks n =>
      rw [SvOk] at ok
      obtain ⟨i, b, h⟩ := ok
      have er : rawS (.lacks n) = .lacks n := by rw [rawS] <;> (intros; rename_i z; cases z)
      rw [er, kd, due, du _ h rfl]; rfl
    | under n v =>
      rw [SvOk] at ok
      obtain ⟨i, j, h, _⟩ := ok
      have er : rawS (.under n v) = .under n v := by rw [rawS] <;> (intros; rename_i z; cases z)
      rw [er, kd, due, du _ h rfl]; rfl
    | over n v =>
      rw [SvOk] at ok
      obtain ⟨i, j, h, _⟩ := ok
      have er : rawS (.over n v) = .over n v := by rw [rawS] <;> (intros; rename_i z; cases z)
      rw [er, kd, due, du _ h rfl]; rfl
/-- a right sieve's text is read to it again -/
theorem read_txt {fs : List Fd} (fo : FdsOk fs) {s : Sv} (ok : SvOk fs s) (h1 : lv s ≤ 12) (h2 : cnt s ≤ 60) : readF fs (txS s) = .right s := by
  unfold readF
  have e := at_txt fo.nm 12 s h1 ok [] (fun d hd => by cases hd)
  rw [List.append_nil] at e
  rw [e]
  show (if (txS s).length = (txS s).length ∧ cnt (rawS s) ≤ 60 then kd fs (rawS s) else .no) = _
  rw [if_pos ⟨rfl, by rw [cnt_raw]; exact h2⟩]
  exact kd_raw fo.nd (dep s + 1) s (by omega) ok
end
end RS
set_option Elab.async false
set_option linter.all false
set_option maxRecDepth 100000
set_option maxHeartbeats 4000000
namespace RS
open PySem PySem.Spec PyProof.Rows L2 VD WT PS PT
noncomputable section
def tb_SIGNS : List (Str × Str) := [("is", "="), ("under", "<"), ("over", ">")]
def c_shown_sieve_1 (rc : List D → Hv → R D) : LS := lLc (iT (eOp oIx (eVar 0) (eK (.int 1)))) (gN 1) (cYes) (eCa (callQ rc) (aCons (eVar 1) (aNil))) [1]
def c_shown_sieve_2 (rc : List D → Hv → R D) : LS := lLc (iT (eOp oIx (eVar 0) (eK (.int 1)))) (gN 1) (cYes) (eCa (callQ rc) (aCons (eVar 1) (aNil))) [1]
def b_shown_sieve (rc : List D → Hv → R D) : SS := sSeq (sIf (toB (eOp oEq (eOp oIx (eVar 0) (eK (.int 0))) (eK (.str "not")))) (sRet (eOp oAdd (eK (.str "!")) (eCa (callQ rc) (aCons (eOp oIx (eVar 0) (eK (.int 1))) (aNil))))) (sNext)) (sSeq (sIf (toB (eOp oEq (eOp oIx (eVar 0) (eK (.int 0))) (eK (.str "all")))) (sRet (eOp oAdd (eOp oAdd (eK (.str "(&")) (eStr1 oJoin (eK (.str "&")) (eV ((c_shown_sieve_1 rc))))) (eK (.str ")")))) (sNext)) (sSeq (sIf (toB (eOp oEq (eOp oIx (eVar 0) (eK (.int 0))) (eK (.str "some")))) (sRet (eOp oAdd (eOp oAdd (eK (.str "(|")) (eStr1 oJoin (eK (.str "|")) (eV ((c_shown_sieve_2 rc))))) (eK (.str ")")))) (sNext)) (sSeq (sIf (toB (eOp oEq (eOp oIx (eVar 0) (eK (.int 0))) (eK (.str "lacks")))) (sRet (eOp oAdd (eOp oIx (eVar 0) (eK (.int 1))) (eK (.str "?")))) (sNext)) (sRet (eOp oAdd (eOp oAdd (eOp oIx (eVar 0) (eK (.int 1))) (eGetT tb_SIGNS (eOp oIx (eVar 0) (eK (.int 0))))) (eCa (Cm.f .P PV.m_written) (aCons (eOp oIx (eVar 0) (eK (.int 2))) (aNil))))))))
def m_shown_sieve : Nat → List D → Hv → R D
  | 0 => fnQ 1 1 sNever
  | n + 1 => fnQ 1 1 (b_shown_sieve (m_shown_sieve n))
def l_run_of_1 : SS := sLoop (cAnd (toB (eOp oLt (eVar 1) (eCa bLen (aCons (eVar 0) (aNil))))) (toB (eOp oIn (eOp oIx (eVar 0) (eVar 1)) (eVar 2)))) (sSet 1 (eOp oAdd (eVar 1) (eK (.int 1))))
def b_run_of : SS := sSeq (l_run_of_1) (sRet (eVar 1))
def m_run_of : List D → Hv → R D := fnS 3 0 b_run_of
def b_plain_at : SS := sSeq (sSet 2 (eCa (Cm.f .P m_run_of) (aCons (eVar 0) (aCons (eVar 1) (aCons (eK (.str "abcdefghijklmnopqrstuvwxyz")) (aNil)))))) (sSeq (sSet 3 (eSl (eVar 0) (pAt (eVar 1)) (pAt (eVar 2)))) (sSeq (sSet 4 (eSl (eVar 0) (pAt (eVar 2)) (pAt (eOp oAdd (eVar 2) (eK (.int 1)))))) (sSeq (sIf (cOr (cNot (toB (eCa (Cm.f .P PV.m_is_name) (aCons (eVar 3) (aNil))))) (toB (eOp oNotInP (eVar 4) (eTup (aCons (eK (.str "=")) (aCons (eK (.str "<")) (aCons (eK (.str ">")) (aCons (eK (.str "?")) (aNil))))))))) (sRaise "NoSieve") (sNext)) (sSeq (sIf (toB (eOp oEq (eVar 4) (eK (.str "?")))) (sRet (eTup (aCons (eTup (aCons (eK (.str "lacks")) (aCons (eVar 3) (aNil)))) (aCons (eOp oAdd (eVar 2) (eK (.int 1))) (aNil))))) (sNext)) (sSeq (sSet 5 (eCa (Cm.f .P m_run_of) (aCons (eVar 0) (aCons (eOp oAdd (eVar 2) (eK (.int 1))) (aCons (eK (.str "abcdefghijklmnopqrstuvwxyz0123456789-")) (aNil)))))) (sSeq (sSet 6 (eSl (eVar 0) (pAt (eOp oAdd (eVar 2) (eK (.int 1)))) (pAt (eVar 5)))) (sSeq (sIf (cOr (toB (eOp oEq (eVar 6) (eK (.str "")))) (toB (eOp oGt (eCa bLen (aCons (eVar 6) (aNil))) (eK (.int 61))))) (sRaise "NoSieve") (sNext)) (sSeq (sIf (toB (eOp oEq (eVar 4) (eK (.str "=")))) (sRet (eTup (aCons (eTup (aCons (eK (.str "is")) (aCons (eVar 3) (aCons (eVar 6) (aNil))))) (aCons (eVar 5) (aNil))))) (sNext)) (sSeq (sSet 7 (eCa (Cm.f .P PV.m_read_value) (aCons (eK (.str "number")) (aCons (eVar 6) (aNil))))) (sSeq (sIf (toB (eOp oIs (eVar 7) (eK .non))) (sRaise "NoSieve") (sNext)) (sRet (eTup (aCons (eTup (aCons (eOp oDget (eDispF (pCons (eK (.str "<")) (eK (.str "under")) (pCons (eK (.str ">")) (eK (.str "over")) (pNil)))) (eVar 4)) (aCons (eVar 3) (aCons (eVar 7) (aNil))))) (aCons (eVar 5) (aNil)))))))))))))))
def m_plain_at : List D → Hv → R D := fnQ 2 6 b_plain_at
def l_sieve_at_1 (rc : List D → Hv → R D) : SS := sLoop (toB (eOp oNe (eSl (eVar 0) (pAt (eVar 1)) (pAt (eOp oAdd (eVar 1) (eK (.int 1))))) (eK (.str ")")))) (sSeq (sIf (toB (eOp oGt (eCa bLen (aCons (eVar 4) (aNil))) (eK (.int 0)))) (sSeq (sIf (toB (eOp oNe (eSl (eVar 0) (pAt (eVar 1)) (pAt (eOp oAdd (eVar 1) (eK (.int 1))))) (eVar 3))) (sRaise "NoSieve") (sNext)) (sSet 1 (eOp oAdd (eVar 1) (eK (.int 1))))) (sNext)) (sSeq (sAsg (eCa (callQ rc) (aCons (eVar 0) (aCons (eVar 1) (aCons (eOp oSub (eVar 2) (eK (.int 1))) (aNil))))) (gT 2 (gsCons (gN 5) (gsCons (gN 1) (gsNil))))) (sDrop (eBM mAppend (eVar 4) (aCons (eVar 5) (aNil))))))
def b_sieve_at (rc : List D → Hv → R D) : SS := sSeq (sIf (toB (eOp oLt (eVar 2) (eK (.int 1)))) (sRaise "NoSieve") (sNext)) (sSeq (sIf (toB (eOp oEq (eSl (eVar 0) (pAt (eVar 1)) (pAt (eOp oAdd (eVar 1) (eK (.int 1))))) (eK (.str "!")))) (sSeq (sAsg (eCa (callQ rc) (aCons (eVar 0) (aCons (eOp oAdd (eVar 1) (eK (.int 1))) (aCons (eOp oSub (eVar 2) (eK (.int 1))) (aNil))))) (gT 2 (gsCons (gN 5) (gsCons (gN 6) (gsNil))))) (sRet (eTup (aCons (eTup (aCons (eK (.str "not")) (aCons (eVar 5) (aNil)))) (aCons (eVar 6) (aNil)))))) (sNext)) (sSeq (sIf (toB (eOp oNe (eSl (eVar 0) (pAt (eVar 1)) (pAt (eOp oAdd (eVar 1) (eK (.int 1))))) (eK (.str "(")))) (sRet (eCa (callQ m_plain_at) (aCons (eVar 0) (aCons (eVar 1) (aNil))))) (sNext)) (sSeq (sSet 3 (eSl (eVar 0) (pAt (eOp oAdd (eVar 1) (eK (.int 1)))) (pAt (eOp oAdd (eVar 1) (eK (.int 2)))))) (sSeq (sIf (toB (eOp oNotInP (eVar 3) (eTup (aCons (eK (.str "&")) (aCons (eK (.str "|")) (aNil)))))) (sRaise "NoSieve") (sNext)) (sSeq (sSet 4 (eC (lLst (aNil)))) (sSeq (sSet 1 (eOp oAdd (eVar 1) (eK (.int 2)))) (sSeq ((l_sieve_at_1 rc)) (sRet (eTup (aCons (eTup (aCons (eOp oDget (eDispF (pCons (eK (.str "&")) (eK (.str "all")) (pCons (eK (.str "|")) (eK (.str "some")) (pNil)))) (eVar 3)) (aCons (eCa bTuple (aCons (eVar 4) (aNil))) (aNil)))) (aCons (eOp oAdd (eVar 1) (eK (.int 1))) (aNil))))))))))))
def m_sieve_at : Nat → List D → Hv → R D
  | 0 => fnQ 3 4 sNever
  | n + 1 => fnQ 3 4 (b_sieve_at (m_sieve_at n))
def c_sieves_in_1 (rc : List D → Hv → R D) : LS := lLc (iT (eOp oIx (eVar 0) (eK (.int 1)))) (gN 1) (cYes) (eCa (callQ rc) (aCons (eVar 1) (aNil))) [1]
def b_sieves_in (rc : List D → Hv → R D) : SS := sSeq (sIf (toB (eOp oEq (eOp oIx (eVar 0) (eK (.int 0))) (eK (.str "not")))) (sRet (eOp oAdd (eK (.int 1)) (eCa (callQ rc) (aCons (eOp oIx (eVar 0) (eK (.int 1))) (aNil))))) (sNext)) (sSeq (sIf (cOr (toB (eOp oEq (eOp oIx (eVar 0) (eK (.int 0))) (eK (.str "all")))) (toB (eOp oEq (eOp oIx (eVar 0) (eK (.int 0))) (eK (.str "some"))))) (sRet (eOp oAdd (eK (.int 1)) (eCa bSum (aCons (eV ((c_sieves_in_1 rc))) (aNil))))) (sNext)) (sRet (eK (.int 1))))
def m_sieves_in : Nat → List D → Hv → R D
  | 0 => fnQ 1 1 sNever
  | n + 1 => fnQ 1 1 (b_sieves_in (m_sieves_in n))
def c_by_kinds_1 (rc : List D → Hv → R D) : LS := lLc (iT (eOp oIx (eVar 1) (eK (.int 1)))) (gN 3) (cYes) (eCa (callQ rc) (aCons (eVar 0) (aCons (eVar 3) (aNil)))) [3]
def b_by_kinds (rc : List D → Hv → R D) : SS := sSeq (sIf (toB (eOp oEq (eOp oIx (eVar 1) (eK (.int 0))) (eK (.str "not")))) (sRet (eTup (aCons (eK (.str "not")) (aCons (eCa (callQ rc) (aCons (eVar 0) (aCons (eOp oIx (eVar 1) (eK (.int 1))) (aNil)))) (aNil))))) (sNext)) (sSeq (sIf (cOr (toB (eOp oEq (eOp oIx (eVar 1) (eK (.int 0))) (eK (.str "all")))) (toB (eOp oEq (eOp oIx (eVar 1) (eK (.int 0))) (eK (.str "some"))))) (sRet (eTup (aCons (eOp oIx (eVar 1) (eK (.int 0))) (aCons (eCa bTuple (aCons (eV ((c_by_kinds_1 rc))) (aNil))) (aNil))))) (sNext)) (sSeq (sIf (toB (eOp oNe (eOp oIx (eVar 1) (eK (.int 0))) (eK (.str "is")))) (sSeq (sDrop (eCa (callQ (PT.m_asked_sieve 16)) (aCons (eVar 0) (aCons (eVar 1) (aNil))))) (sRet (eVar 1))) (sNext)) (sSeq (sSet 2 (eCa (Cm.f .P PV.m_read_value) (aCons (eOp oIx (eOp oIx (eVar 0) (eCa (Cm.f .P PS.m_field_at) (aCons (eVar 0) (aCons (eOp oIx (eVar 1) (eK (.int 1))) (aNil))))) (eK (.int 1))) (aCons (eOp oIx (eVar 1) (eK (.int 2))) (aNil))))) (sSeq (sIf (toB (eOp oIs (eVar 2) (eK .non))) (sRaiseP "NoKind" "name" (eOp oIx (eVar 1) (eK (.int 1)))) (sNext)) (sRet (eTup (aCons (eK (.str "is")) (aCons (eOp oIx (eVar 1) (eK (.int 1))) (aCons (eVar 2) (aNil))))))))))
def m_by_kinds : Nat → List D → Hv → R D
  | 0 => fnQ 2 2 sNever
  | n + 1 => fnQ 2 2 (b_by_kinds (m_by_kinds n))
def b_read_sieve : SS := sSeq (sAsg (eCa (callQ (m_sieve_at 16)) (aCons (eVar 1) (aCons (eK (.int 0)) (aCons (eK (.int 12)) (aNil))))) (gT 2 (gsCons (gN 2) (gsCons (gN 3) (gsNil))))) (sSeq (sIf (cOr (toB (eOp oNe (eVar 3) (eCa bLen (aCons (eVar 1) (aNil))))) (toB (eOp oGt (eCa (callQ (m_sieves_in 16)) (aCons (eVar 2) (aNil))) (eK (.int 60))))) (sRaise "NoSieve") (sNext)) (sRet (eCa (callQ (m_by_kinds 16)) (aCons (eVar 0) (aCons (eVar 2) (aNil))))))
def m_read_sieve : List D → Hv → R D := fnQ 2 2 b_read_sieve
theorem made_eqB {cs ss : List Nat} {most : Int} (hl : cs.length ≤ 16777216) : PV.m_made_of [tx cs, tx ss, .int most] [] = .ok (.bl (PV.okW cs ss most)) [] := by
  refine fnS_of (P := fun x => x = .ok (.bl (PV.okW cs ss most)) []) rfl ?_
  unfold PV.b_made_of
  by_cases q1 : cs.length < 1
  · have : PV.okW cs ss most = false := by unfold PV.okW; rw [decide_eq_false (by omega)]; rfl
    have q1' : (cs.length : Int) < 1 := by omega
    have q1'' : cs = [] := List.length_eq_zero_iff.mp (by omega)
    rw [q1''] at this
    simp (disch := omega) [PV.kss, this, q1'']
  by_cases q2 : most < (cs.length : Int)
  · have : PV.okW cs ss most = false := by unfold PV.okW; rw [decide_eq_false (by omega)]; rfl
    have q1' : ¬ (cs.length : Int) < 1 := by omega
    simp (disch := omega) [PV.kss, q1', q2, this]
  have q1' : ¬ (cs.length : Int) < 1 := by omega
  simp (disch := omega) [PV.kss, q1', q2]
  obtain ⟨I, hI⟩ : ∃ I : Nat → VS → Hv → Prop, I = fun i σ h => ∃ (x3 : Option D), σ = [some (tx cs), some (tx ss), some (.int most), x3] ∧ h = [] ∧ ∀ c ∈ cs.take i, c ∈ ss := ⟨_, rfl⟩
  refine Wp.loopA (fun c => tx [c]) cs I (h0 := []) (by simp) (by rw [hI]; exact ⟨_, rfl, rfl, fun c hc => by simp at hc⟩) ?_ ?_
  · intro i c σ h hp hh
    rw [hI] at hh
    obtain ⟨x3, rfl, rfl, al⟩ := hh
    refine ⟨_, rfl, ?_⟩
    by_cases q : c ∈ ss
    · simp [q]
      rw [hI]
      refine ⟨_, rfl, rfl, fun b hb => ?_⟩
      rw [List.take_add_one, hp] at hb
      rcases List.mem_append.mp hb with hb | hb
      · exact al b hb
      · cases List.mem_singleton.mp hb; exact q
    · have : PV.okW cs ss most = false := by
        unfold PV.okW
        rw [Bool.and_eq_false_iff]
        refine .inr (Bool.eq_false_iff.mpr fun z => q ?_)
        exact of_decide_eq_true (List.all_eq_true.mp z c (List.mem_of_getElem? hp))
      simp [q, this]
  · intro σ h hh
    rw [hI] at hh
    obtain ⟨x3, rfl, rfl, al⟩ := hh
    rw [List.take_length] at al
    have : PV.okW cs ss most = true := by
      unfold PV.okW
      rw [decide_eq_true (by omega), Bool.true_and, List.all_eq_true]
      exact fun c hc => decide_eq_true (al c hc)
    simp [this]
theorem name_eqB {cs : List Nat} (hl : cs.length ≤ 16777216) : PV.m_is_name [tx cs] [] = .ok (.bl (PV.okW cs smL 12)) [] := by
  refine fnS_of (P := fun x => x = .ok (.bl (PV.okW cs smL 12)) []) rfl ?_
  unfold PV.b_is_name
  have e := cP (made_eqB (ss := smL) (most := 12) hl)
  simp [e, sm_eq]
theorem slD_mid {cs : Tx} (hl : cs.length ≤ 16777216) (a b : Nat) : slD (tx cs) (some (a : Int)) (some (b : Int)) = some (tx ((cs.drop a).take (b - a))) := by
  show (if (sx cs).length ≤ 16777216 then some (D.str (cutS (sx cs) (some (a : Int)) (some (b : Int)))) else none) = _
  rw [sx_len, if_pos hl]
  have e : cutS (sx cs) (some (a : Int)) (some (b : Int)) = sx ((cs.drop a).take (b - a)) := by
    unfold cutS
    rw [HT.sIx_nat, HT.sIx_nat, sx_len]
    have e2 : (sx cs).cps.toList = cs := by simp
    rw [e2]
    show Str.mk _ = Str.mk _
    congr 1
    by_cases q : a ≤ cs.length
    · rw [Nat.min_eq_left q]
      by_cases q2 : b ≤ cs.length
      · rw [Nat.min_eq_left q2]
      · rw [Nat.min_eq_right (by omega), List.take_of_length_le (by rw [List.length_drop]; omega), List.take_of_length_le (by rw [List.length_drop]; omega)]
    · rw [Nat.min_eq_right (a := a) (by omega), List.drop_of_length_le (Nat.le_refl _), List.drop_of_length_le (by omega)]
      simp
  rw [e]
theorem slD_1 {cs : Tx} (hl : cs.length ≤ 16777216) (a : Nat) : slD (tx cs) (some (a : Int)) (some ((a : Int) + 1)) = some (tx ((cs.drop a).take 1)) := by
  have e := slD_mid hl a (a + 1)
  rw [show a + 1 - a = 1 by omega] at e
  exact e
theorem slD_2 {cs : Tx} (hl : cs.length ≤ 16777216) (a : Nat) : slD (tx cs) (some ((a : Int) + 1)) (some ((a : Int) + 2)) = some (tx ((cs.drop (a + 1)).take 1)) := by
  have e := slD_mid hl (a + 1) (a + 2)
  rw [show a + 2 - (a + 1) = 1 by omega] at e
  exact e
theorem take1 {r : Tx} {c : Nat} : (r.take 1 = [c]) = (r.head? = some c) := by
  cases r with
  | nil => simp
  | cons a r => simp
theorem runL_cons {S : List Nat} {c : Nat} {r : Tx} (h : c ∈ S) : runL S (c :: r) = c :: runL S r := by
  unfold runL; simp [List.takeWhile_cons, h]
theorem runL_stop {S : List Nat} {c : Nat} {r : Tx} (h : c ∉ S) : runL S (c :: r) = [] := by
  unfold runL; simp [List.takeWhile_cons, h]
def atM (σ : VS) (i : Nat) : Nat := match σ[i]? with
  | some (some (.int b)) => b.toNat
  | _ => 0
theorem run_eq {cs S : Tx} (hl : cs.length ≤ 16777000) (at0 : Nat) : m_run_of [tx cs, .int (at0 : Int), tx S] [] = .ok (.int ((at0 + (runL S (cs.drop at0)).length : Nat) : Int)) [] := by
  obtain ⟨e, he⟩ : ∃ e, at0 + (runL S (cs.drop at0)).length = e := ⟨_, rfl⟩
  rw [he]
  refine fnS_of (P := fun x => x = .ok (.int (e : Int)) []) rfl ?_
  unfold b_run_of
  simp only [Wp_seq]
  unfold l_run_of_1
  obtain ⟨I, hI⟩ : ∃ I : VS → Hv → Prop, I = fun σ h => ∃ b : Nat, σ = [some (tx cs), some (.int (b : Int)), some (tx S)] ∧ h = [] ∧ b + (runL S (cs.drop b)).length = e := ⟨_, rfl⟩
  refine Wp.while I (fun σ h => cs.length - atM σ 1) ?_ (by rw [hI]; exact ⟨at0, rfl, rfl, he⟩)
  intro σ h hh
  rw [hI] at hh
  obtain ⟨b, rfl, rfl, hb⟩ := hh
  by_cases q : b < cs.length
  · have ix : ∀ h, ixD h (tx cs) (b : Int) = some (tx [cs[b]]) := fun h => by
      rw [ixD_tx (by omega) (by omega) (by omega), Int.toNat_natCast, List.getElem?_eq_getElem q]; rfl
    have dr : cs.drop b = cs[b] :: cs.drop (b + 1) := List.drop_eq_getElem_cons q
    have q' : (b : Int) < cs.length := by omega
    by_cases m : cs[b] ∈ S
    · refine ⟨true, by simp (disch := omega) [q', ix, m], ?_⟩
      rw [if_pos rfl]
      simp
      rw [hI]
      rw [dr, runL_cons m, List.length_cons] at hb
      refine ⟨⟨b + 1, by simp, rfl, by omega⟩, ?_⟩
      show cs.length - ((b : Int) + 1).toNat < cs.length - (b : Int).toNat
      omega
    · refine ⟨false, by simp (disch := omega) [q', ix, m], ?_⟩
      rw [if_neg Bool.false_ne_true]
      rw [dr, runL_stop m] at hb
      simp
      have : b = e := by simpa using hb
      rw [this]
  · have q' : ¬ (b : Int) < cs.length := by omega
    refine ⟨false, by simp (disch := omega) [q'], ?_⟩
    rw [if_neg Bool.false_ne_true]
    rw [List.drop_of_length_le (by omega)] at hb
    have : b = e := by simpa [runL] using hb
    simp [this]
theorem run_call {cs S : Tx} (hl : cs.length ≤ 16777000) (at0 : Nat) (h : Hv) : callP m_run_of [tx cs, .int (at0 : Int), tx S] h = .ok (.int ((at0 + (runL S (cs.drop at0)).length : Nat) : Int)) h := cP (run_eq hl at0) (by simp) h
def atR (at0 : Nat) : Option (Sv × Nat) → VD.R D
  | none => .exc ⟨"NoSieve", none⟩ []
  | some (s, n) => .ok (.tup [svD s, .int ((at0 + n : Nat) : Int)]) []
theorem vl_eq : ("abcdefghijklmnopqrstuvwxyz0123456789-" : Str) = sx vlL := by decide +kernel
theorem signs_eq : ("=" : Str) = sx [61] ∧ ("<" : Str) = sx [60] ∧ (">" : Str) = sx [62] ∧ ("?" : Str) = sx [63] := by decide +kernel
theorem toPy_txs {h : Hv} {n : Nat} (ps : List Tx) : optAll (toPy h (n + 1)) (ps.map tx) = some (ps.map fun p => PyData.str (sx p)) := optAll_map (g := toPy h (n + 1)) (e := tx) (e' := fun p => PyData.str (sx p)) fun p _ => rfl
theorem inP_txs {h : Hv} (a : Tx) (ps : List Tx) : inP h (tx a) (.tup (ps.map tx)) = some (decide (a ∈ ps)) := by
  unfold inP
  have e2 : toPy h 12 (.tup (ps.map tx)) = some (.tuple (ps.map fun p => PyData.str (sx p))) := by
    show (optAll (toPy h 11) (ps.map tx)).map PyData.tuple = _
    rw [toPy_txs]; rfl
  rw [show toPy h 12 (tx a) = some (.str (sx a)) from rfl, e2]
  simp only [Option.bind_some, seqP]
  congr 1
  rw [List.any_map, Bool.eq_iff_iff, List.any_eq_true, decide_eq_true_eq]
  have eqv : ∀ x y : Str, PyData.eqv (.str x) (.str y) = (x == y) := fun x y => by simp only [PyData.eqv]
  constructor
  · rintro ⟨b, hb, q⟩
    have q : PyData.eqv (.str (sx b)) (.str (sx a)) = true := q
    rw [eqv] at q
    have := sx_inj.mp (eq_of_beq q)
    rw [← this]; exact hb
  · intro ha
    refine ⟨a, ha, ?_⟩
    show PyData.eqv (.str (sx a)) (.str (sx a)) = true
    rw [eqv]; exact beq_self_eq_true _
theorem oNotInP_txs {h : Hv} (a : Tx) (ps : List Tx) : oNotInP (tx a) (.tup (ps.map tx)) h = .ok (.bl (!decide (a ∈ ps))) h := by
  unfold oNotInP
  rw [inP_txs]
theorem e61 : ("=" : Str) = sx [61] := signs_eq.1
theorem e60 : ("<" : Str) = sx [60] := signs_eq.2.1
theorem e62 : (">" : Str) = sx [62] := signs_eq.2.2.1
theorem e63 : ("?" : Str) = sx [63] := signs_eq.2.2.2
theorem sign4 {h : Hv} (a : Tx) : oNotInP (tx a) (.tup [.str (sx [61]), .str (sx [60]), .str (sx [62]), .str (sx [63])]) h = .ok (.bl (!decide (a = [61] ∨ a = [60] ∨ a = [62] ∨ a = [63]))) h := by
  have e := oNotInP_txs (h := h) a [[61], [60], [62], [63]]
  simp only [List.mem_cons, List.not_mem_nil, or_false] at e
  exact e
theorem amp_eq : ("&" : Str) = sx [38] ∧ ("|" : Str) = sx [124] ∧ ("!" : Str) = sx [33] ∧ ("(" : Str) = sx [40] ∧ (")" : Str) = sx [41] := by decide +kernel
theorem e38 : ("&" : Str) = sx [38] := amp_eq.1
theorem e124 : ("|" : Str) = sx [124] := amp_eq.2.1
theorem e33 : ("!" : Str) = sx [33] := amp_eq.2.2.1
theorem e40 : ("(" : Str) = sx [40] := amp_eq.2.2.2.1
theorem e41 : (")" : Str) = sx [41] := amp_eq.2.2.2.2
theorem sign2 {h : Hv} (a : Tx) : oNotInP (tx a) (.tup [.str (sx [38]), .str (sx [124])]) h = .ok (.bl (!decide (a = [38] ∨ a = [124]))) h := by
  have e := oNotInP_txs (h := h) a [[38], [124]]
  simp only [List.mem_cons, List.not_mem_nil, or_false] at e
  exact e
theorem g60 : VD.getD ((List.map (fun x => x.fst) (mergeD [] [((Sum.inr (sx [60]) : Key), D.str "under"), (Sum.inr (sx [62]), D.str "over")])).zip (List.map (fun x => x.snd) (mergeD [] [((Sum.inr (sx [60]) : Key), D.str "under"), (Sum.inr (sx [62]), D.str "over")]))) (Sum.inr (sx [60])) = some (.str "under") := rfl
theorem g62 : VD.getD ((List.map (fun x => x.fst) (mergeD [] [((Sum.inr (sx [60]) : Key), D.str "under"), (Sum.inr (sx [62]), D.str "over")])).zip (List.map (fun x => x.snd) (mergeD [] [((Sum.inr (sx [60]) : Key), D.str "under"), (Sum.inr (sx [62]), D.str "over")]))) (Sum.inr (sx [62])) = some (.str "over") := rfl
theorem plain_eq {cs : Tx} (hl : cs.length ≤ 16777000) (at0 : Nat) : m_plain_at [tx cs, .int (at0 : Int)] [] = atR at0 (plainP (cs.drop at0)) := by
  obtain ⟨PP, hPP⟩ : ∃ PP : VD.R D → Prop, PP = fun x => x = atR at0 (plainP (cs.drop at0)) := ⟨_, rfl⟩
  have fin : PP (m_plain_at [tx cs, .int (at0 : Int)] []) := by
    refine fnQ_of (P := PP) rfl ?_
    unfold b_plain_at
    obtain ⟨r, hr⟩ : ∃ r, cs.drop at0 = r := ⟨_, rfl⟩
    obtain ⟨nm, hnm⟩ : ∃ nm, runL smL r = nm := ⟨_, rfl⟩
    have r1 := fun h => run_call (S := smL) hl at0 h
    rw [hr, hnm] at r1
    have e1 : cs.drop (at0 + nm.length) = r.drop nm.length := by rw [← hr, List.drop_drop]
    have nl : nm.length ≤ cs.length := by
      have := runL_len smL r
      rw [hnm] at this
      have := congrArg List.length hr
      rw [List.length_drop] at this
      omega
    obtain ⟨en, hen⟩ : ∃ en, at0 + nm.length = en := ⟨_, rfl⟩
    rw [hen] at r1 e1
    have s1 := slD_mid (cs := cs) (by omega) at0 en
    rw [show en - at0 = nm.length by omega, hr, show r.take nm.length = nm from by rw [← hnm]; exact runL_drop smL r] at s1
    have s2 := slD_1 (cs := cs) (by omega) en
    rw [e1] at s2
    have n1 := cP (name_eqB (cs := nm) (by omega))
    have no : (∀ x, plainP r = x → x = none → PP (.exc ⟨"NoSieve", none⟩ [])) := fun x h1 h2 => by rw [hPP, hr, h1, h2]; rfl
    have pe : plainP r = match r.drop nm.length with
      | [] => none
      | c :: q => plainK nm c (runL vlL q) := by unfold plainP; rw [hnm]; first | done | rfl
    cases ed : r.drop nm.length with
    | nil =>
      rw [ed] at s2 pe
      simp [r1, sm_eq, s1, s2, n1, sign4, e61, e60, e62, e63]
      exact no _ pe rfl
    | cons c q =>
      rw [ed] at s2 pe
      replace s2 : slD (tx cs) (some (en : Int)) (some ((en : Int) + 1)) = some (tx [c]) := s2
      replace pe : plainP r = plainK nm c (runL vlL q) := pe
      have q1 : cs.drop (en + 1) = q := by
        have : (cs.drop en).drop 1 = q := by rw [e1, ed]; rfl
        rw [List.drop_drop] at this; exact this
      by_cases w1 : PV.okW nm smL 12 = true
      · by_cases w2 : c = 63
        · subst w2
          have pk : plainP r = some (.lacks nm, nm.length + 1) := by rw [pe]; unfold plainK; rw [if_pos w1, if_pos rfl]
          simp [r1, sm_eq, s1, s2, n1, sign4, e61, e60, e62, e63, w1, PV.eqD_txs, -eqD_str]
          refine ⟨_, frzQ_y rfl, ?_⟩
          rw [hPP, hr, pk, ← hen]
          simp [atR, svD, Int.add_assoc]
        · by_cases w3 : c = 61 ∨ c = 60 ∨ c = 62
          · obtain ⟨v, hv⟩ : ∃ v, runL vlL q = v := ⟨_, rfl⟩
            have vl := runL_len vlL q
            have ql : q.length ≤ cs.length := by rw [← q1, List.length_drop]; omega
            rw [hv] at vl pe
            have r2 := fun h => run_call (S := vlL) hl (en + 1) h
            rw [q1, hv] at r2
            obtain ⟨be, hbe⟩ : ∃ be, en + 1 + v.length = be := ⟨_, rfl⟩
            rw [hbe] at r2
            replace r2 : ∀ h, callP m_run_of [tx cs, .int ((en : Int) + 1), tx vlL] h = .ok (.int (be : Int)) h := r2
            have s3 := slD_mid (cs := cs) (by omega) (en + 1) be
            rw [q1, show be - (en + 1) = v.length by omega, show q.take v.length = v from by rw [← hv]; exact runL_drop vlL q] at s3
            replace s3 : slD (tx cs) (some ((en : Int) + 1)) (some (be : Int)) = some (tx v) := s3
            have w4 : (c = 61 ∨ c = 60 ∨ c = 62 ∨ c = 63) := by rcases w3 with z | z | z <;> simp [z]
            have w2' : ¬ [c] = [63] := fun z => w2 (by injection z)
            have lv : ∀ h, lenD h (tx v) = some (v.length : Int) := fun h => lenD_tx (by omega)
            by_cases w5 : 1 ≤ v.length ∧ v.length ≤ 61
            · have w5a : ¬ v = [] := fun z => by rw [z] at w5; exact absurd w5.1 (by decide)
              have w5b : ¬ (61 : Int) < v.length := by omega
              by_cases w6 : c = 61
              · subst w6
                have pk : plainP r = some (.is nm (.wd v), nm.length + 1 + v.length) := by rw [pe]; unfold plainK; rw [if_pos w1, if_neg w2, if_pos w3, if_pos w5, if_pos rfl]
                simp [r1, sm_eq, s1, s2, n1, sign4, e61, e60, e62, e63, w1, PV.eqD_txs, r2, vl_eq, s3, nil_eq, w5a, w5b, lv, -eqD_str]
                refine ⟨_, frzQ_y rfl, ?_⟩
                rw [hPP, hr, pk, ← hbe, ← hen]
                simp [atR, svD, valD, Int.add_assoc, Int.add_left_comm, Int.add_comm]
              · have w6' : ¬ [c] = [61] := fun z => w6 (by injection z)
                have rn := cP (PV.read_number (cs := v) (by omega))
                by_cases w7 : PV.isNum v = true
                · have r7 : PV.readN v = .int (PV.valN v) := if_pos w7
                  rw [r7] at rn
                  have pk : plainP r = some (if c = 60 then .under nm (.nm (PV.valN v)) else .over nm (.nm (PV.valN v)), nm.length + 1 + v.length) := by rw [pe]; unfold plainK; rw [if_pos w1, if_neg w2, if_pos w3, if_pos w5, if_neg w6, if_pos w7]
                  by_cases w8 : c = 60
                  · subst w8
                    simp [r1, sm_eq, s1, s2, n1, sign4, e61, e60, e62, e63, w1, PV.eqD_txs, r2, vl_eq, s3, nil_eq, w5a, w5b, lv, rn, g60, -eqD_str]
                    refine ⟨_, frzQ_y rfl, ?_⟩
                    rw [hPP, hr, pk, ← hbe, ← hen]
                    simp [atR, svD, valD, Int.add_assoc, Int.add_left_comm, Int.add_comm]
                  · have w9 : c = 62 := by rcases w3 with z | z | z <;> simp_all
                    subst w9
                    simp [r1, sm_eq, s1, s2, n1, sign4, e61, e60, e62, e63, w1, PV.eqD_txs, r2, vl_eq, s3, nil_eq, w5a, w5b, lv, rn, g62, -eqD_str]
                    refine ⟨_, frzQ_y rfl, ?_⟩
                    rw [hPP, hr, pk, ← hbe, ← hen]
                    simp [atR, svD, valD, Int.add_assoc, Int.add_left_comm, Int.add_comm]
                · have r7 : PV.readN v = .non := if_neg w7
                  rw [r7] at rn
                  have w6x : c = 60 ∨ c = 62 := by rcases w3 with z | z | z <;> simp_all
                  simp [r1, sm_eq, s1, s2, n1, sign4, e61, e60, e62, e63, w1, w2, w6, w6x, PV.eqD_txs, r2, vl_eq, s3, nil_eq, w5a, w5b, lv, rn, -eqD_str]
                  refine no _ pe ?_
                  unfold plainK
                  rw [if_pos w1, if_neg w2, if_pos w3, if_pos w5, if_neg w6, if_neg w7]
            · have nk : plainK nm c v = none := by
                unfold plainK
                rw [if_pos w1, if_neg w2, if_pos w3, if_neg w5]
              by_cases w5a : v = []
              · simp [r1, sm_eq, s1, s2, n1, sign4, e61, e60, e62, e63, w1, w3, w2, PV.eqD_txs, r2, vl_eq, s3, nil_eq, w5a, -eqD_str]
                exact no _ pe nk
              · have w5b : (61 : Int) < v.length := by
                  have : 1 ≤ v.length := by cases v with | nil => exact absurd rfl w5a | cons _ _ => simp
                  omega
                simp [r1, sm_eq, s1, s2, n1, sign4, e61, e60, e62, e63, w1, w3, w2, PV.eqD_txs, r2, vl_eq, s3, nil_eq, w5a, w5b, lv, -eqD_str]
                exact no _ pe nk
          · have w4 : ¬ (c = 61 ∨ c = 60 ∨ c = 62 ∨ c = 63) := fun z => by rcases z with z | z | z | z <;> simp_all
            simp [r1, sm_eq, s1, s2, n1, sign4, e61, e60, e62, e63, w1, w4]
            refine no _ pe ?_
            unfold plainK
            rw [if_pos w1, if_neg w2, if_neg w3]
      · simp [r1, sm_eq, s1, s2, n1, sign4, e61, e60, e62, e63, w1]
        refine no _ pe ?_
        unfold plainK
        rw [if_neg w1]
  rw [hPP] at fin
  exact fin
def atX (h : Hv) (at0 : Nat) : Option (Sv × Nat) → VD.R D
  | none => .exc ⟨"NoSieve", none⟩ h
  | some (s, n) => .ok (.tup [svD s, .int ((at0 + n : Nat) : Int)]) h
theorem cQat {sem : List D → Hv → VD.R D} {ds : List D} {at0 : Nat} {o : Option (Sv × Nat)} (e : sem ds [] = atR at0 o) (hp : noCL ds = true) (h : Hv) : callQ sem ds h = atX h at0 o := by
  cases o with
  | none => exact cQX e hp h
  | some x => exact cQ e hp h
theorem noCL_map (l : List Sv) : noCL (l.map svD) = true := by rw [← svL_map]; exact noC_svL l
theorem g38 : VD.getD ((List.map (fun x => x.fst) (mergeD [] [((Sum.inr (sx [38]) : Key), D.str "all"), (Sum.inr (sx [124]), D.str "some")])).zip (List.map (fun x => x.snd) (mergeD [] [((Sum.inr (sx [38]) : Key), D.str "all"), (Sum.inr (sx [124]), D.str "some")]))) (Sum.inr (sx [38])) = some (.str "all") := rfl
theorem g124 : VD.getD ((List.map (fun x => x.fst) (mergeD [] [((Sum.inr (sx [38]) : Key), D.str "all"), (Sum.inr (sx [124]), D.str "some")])).zip (List.map (fun x => x.snd) (mergeD [] [((Sum.inr (sx [38]) : Key), D.str "all"), (Sum.inr (sx [124]), D.str "some")]))) (Sum.inr (sx [124])) = some (.str "some") := rfl
def endR (c : Nat) : Option (List Sv × Nat) → VD.R D
  | none => .exc ⟨"NoSieve", none⟩ []
  | some (l, n) => .ok (.tup [svD (if c = 38 then .all l else .some l), .int ((n : Int) + 1)]) []
theorem at_eq {cs : Tx} (hl : cs.length ≤ 16000000) : ∀ (k m at0 : Nat), k < m → m_sieve_at m [tx cs, .int (at0 : Int), .int (k : Int)] [] = atR at0 (atP k (cs.drop at0)) := by
  intro k
  induction k with
  | zero =>
    intro m at0 hm
    obtain ⟨m, rfl⟩ : ∃ m', m = m' + 1 := ⟨m - 1, by omega⟩
    refine fnQ_of (P := fun x => x = atR at0 (atP 0 (cs.drop at0))) rfl ?_
    unfold b_sieve_at
    simp; rfl
  | succ k ih =>
    intro m at0 hm
    obtain ⟨m, rfl⟩ : ∃ m', m = m' + 1 := ⟨m - 1, by omega⟩
    obtain ⟨r, hr⟩ : ∃ r, cs.drop at0 = r := ⟨_, rfl⟩
    have rl : r.length ≤ cs.length := by rw [← hr, List.length_drop]; omega
    obtain ⟨PP, hPP⟩ : ∃ PP : VD.R D → Prop, PP = fun x => x = atR at0 (atP (k + 1) r) := ⟨_, rfl⟩
    rw [hr]
    have fin : PP (m_sieve_at (m + 1) [tx cs, .int (at0 : Int), .int ((k + 1 : Nat) : Int)] []) := by
      refine fnQ_of (P := PP) rfl ?_
      unfold b_sieve_at
      have l1 : ¬ ((k : Int) + 1 < 1) := by omega
      have s1 := slD_1 (cs := cs) (by omega) at0
      rw [hr] at s1
      have s2 := slD_2 (cs := cs) (by omega) at0
      have d1 : cs.drop (at0 + 1) = r.drop 1 := by rw [← hr, List.drop_drop]
      rw [d1] at s2
      by_cases h33 : r.head? = some 33
      · have e := cQat (ih m (at0 + 1) (by omega)) (by simp [noCL, noC])
        rw [d1] at e
        replace e : ∀ h, callQ (m_sieve_at m) [tx cs, .int ((at0 : Int) + 1), .int (k : Int)] h = atX h (at0 + 1) (atP k (r.drop 1)) := e
        have pk : atP (k + 1) r = (atP k (r.drop 1)).map fun x => (.not x.1, x.2 + 1) := by rw [atP, if_pos h33]
        cases q : atP k (r.drop 1) with
        | none =>
          rw [q] at e pk
          simp [l1, s1, e33, PV.eqD_txs, -eqD_str, take1, h33, e, atX]
          rw [hPP, pk]; rfl
        | some x =>
          rw [q] at e pk
          simp [l1, s1, e33, PV.eqD_txs, -eqD_str, take1, h33, e, atX]
          refine ⟨_, frzQ_y (by simp [noC, noCL, noC_sv]), ?_⟩
          rw [hPP, pk]
          simp [atR, svD, Int.add_assoc, Int.add_left_comm, Int.add_comm]
      · by_cases h40 : r.head? = some 40
        · obtain ⟨c1, hc1⟩ : ∃ c1, (r.drop 1).take 1 = c1 := ⟨_, rfl⟩
          rw [hc1] at s2
          by_cases hs : c1 = [38] ∨ c1 = [124]
          · obtain ⟨c, rfl, hc⟩ : ∃ c : Nat, c1 = [c] ∧ (c = 38 ∨ c = 124) := by
              rcases hs with z | z
              · exact ⟨38, z, .inl rfl⟩
              · exact ⟨124, z, .inr rfl⟩
            have hc2 : (r.drop 1).head? = some c := by rw [← take1]; exact hc1
            obtain ⟨T, hT⟩ : ∃ T : Option (List Sv × Nat), (partsP (atP k) c (r.length + 1) true (r.drop 2)).map (fun y => (y.1, at0 + 2 + y.2)) = T := ⟨_, rfl⟩
            have pk : PP (endR c T) := by
              rw [hPP, ← hT]
              rcases hc with rfl | rfl
              · rw [atP, if_neg h33, if_pos h40, if_pos hc2]
                cases partsP (atP k) 38 (r.length + 1) true (r.drop 2) with
                | none => rfl
                | some y => simp [endR, atR, Int.add_assoc, Int.add_left_comm, Int.add_comm]
              · rw [atP, if_neg h33, if_pos h40, if_neg (by rw [hc2]; decide), if_pos hc2]
                cases partsP (atP k) 124 (r.length + 1) true (r.drop 2) with
                | none => rfl
                | some y => simp [endR, atR, Int.add_assoc, Int.add_left_comm, Int.add_comm]
            simp [l1, s1, s2, e33, e40, e38, e124, PV.eqD_txs, -eqD_str, take1, h33, h40, sign2, hc]
            unfold l_sieve_at_1
            obtain ⟨I, hI⟩ : ∃ I : VS → Hv → Prop, I = fun σ h => ∃ (done : List Sv) (b : Nat) (x5 : Option D) (mm : Nat) (fst : Bool), σ = [some (tx cs), some (.int (b : Int)), some (.int ((k : Int) + 1)), some (tx [c]), some (.cell 0), x5, none] ∧ h = [.lst (done.map svD)] ∧
              (fst = true ↔ done = []) ∧ (cs.drop b).length < mm ∧ done.length ≤ b ∧ b ≤ cs.length ∧ (partsP (atP k) c mm fst (cs.drop b)).map (fun y => (done ++ y.1, b + y.2)) = T := ⟨_, rfl⟩
            refine Wp.while I (fun σ h => cs.length - atM σ 1) ?_ ?_
            · intro σ h hh
              rw [hI] at hh
              obtain ⟨done, b, x5, mm, fst, rfl, rfl, hf, hm1, hd, hb, hT2⟩ := hh
              have t1 := slD_1 (cs := cs) (by omega) b
              obtain ⟨mm, rfl⟩ : ∃ m', mm = m' + 1 := ⟨mm - 1, by omega⟩
              rw [partsP] at hT2
              obtain ⟨rb, hrb⟩ : ∃ rb, cs.drop b = rb := ⟨_, rfl⟩
              rw [hrb] at t1 hT2 hm1
              have rbl : rb.length = cs.length - b := by rw [← hrb, List.length_drop]
              by_cases g41 : rb.head? = some 41
              · refine ⟨false, by simp [t1, e41, PV.eqD_txs, -eqD_str, take1, g41], ?_⟩
                rw [if_neg Bool.false_ne_true]
                rw [if_pos g41] at hT2
                rw [← hT2] at pk
                replace pk : PP (endR c (some (done ++ [], b + 0))) := pk
                rw [List.append_nil, Nat.add_zero] at pk
                have bt := bTuple_cell (xs := done.map svD) (n := 0) (h := [.lst (done.map svD)]) rfl
                rcases hc with rfl | rfl
                · simp [g38, bt, e38, e124]
                  refine ⟨_, frzQ_y (by simp [noC, noCL, noCL_map]), ?_⟩
                  simpa [endR, svD, svL_map] using pk
                · simp [g124, bt, e38, e124]
                  refine ⟨_, frzQ_y (by simp [noC, noCL, noCL_map]), ?_⟩
                  simpa [endR, svD, svL_map] using pk
              · refine ⟨true, by simp [t1, e41, PV.eqD_txs, -eqD_str, take1, g41], ?_⟩
                rw [if_pos rfl]
                rw [if_neg g41] at hT2
                cases fst with
                | true =>
                  have dn := hf.mp rfl
                  subst dn
                  rw [if_pos rfl] at hT2
                  have e := cQat (ih m b (by omega)) (by simp [noCL, noC])
                  rw [hrb] at e
                  cases q : atP k rb with
                  | none =>
                    rw [q] at e hT2
                    simp [e, atX]
                    rw [← hT2] at pk
                    exact pk
                  | some x =>
                    obtain ⟨a1, a2, _⟩ := at_ok k rb x.1 x.2 q
                    rw [q] at e hT2
                    simp [e, atX]
                    refine ⟨?_, ?_⟩
                    · rw [hI]
                      refine ⟨[x.1], b + x.2, some (svD x.1), mm, false, by simp, rfl, by simp, ?_, by simp; omega, by omega, ?_⟩
                      · rw [List.length_drop]; omega
                      · rw [← hT2, ← List.drop_drop, hrb]
                        simp [Option.map_map, Function.comp_def, Nat.add_assoc]
                    · show cs.length - ((b : Int) + x.2).toNat < cs.length - (b : Int).toNat
                      omega
                | false =>
                  have dn : ¬ done = [] := fun z => Bool.false_ne_true (hf.mpr z)
                  rw [if_neg Bool.false_ne_true] at hT2
                  have dl : 0 < done.length := List.length_pos_iff.mpr dn
                  by_cases gc : rb.head? = some c
                  · rw [if_pos gc] at hT2
                    have e := cQat (ih m (b + 1) (by omega)) (by simp [noCL, noC])
                    rw [← List.drop_drop, hrb] at e
                    replace e : ∀ h, callQ (m_sieve_at m) [tx cs, .int ((b : Int) + 1), .int (k : Int)] h = atX h (b + 1) (atP k (rb.drop 1)) := e
                    cases q : atP k (rb.drop 1) with
                    | none =>
                      rw [q] at e hT2
                      simp [t1, PV.eqD_txs, -eqD_str, take1, gc, e, atX, dl]
                      rw [← hT2] at pk
                      exact pk
                    | some x =>
                      obtain ⟨a1, a2, _⟩ := at_ok k (rb.drop 1) x.1 x.2 q
                      rw [List.length_drop] at a2
                      rw [q] at e hT2
                      have cz : done.length < 16777216 := by omega
                      simp [t1, PV.eqD_txs, -eqD_str, take1, gc, e, atX, dl, cz]
                      refine ⟨?_, ?_⟩
                      · rw [hI]
                        refine ⟨done ++ [x.1], b + 1 + x.2, some (svD x.1), mm, false, by simp, by simp, by simp, ?_, by simp; omega, by omega, ?_⟩
                        · rw [List.length_drop]; omega
                        · rw [← hT2, show b + 1 + x.2 = b + (x.2 + 1) by omega, ← List.drop_drop, hrb]
                          simp [Option.map_map, Function.comp_def, Nat.add_assoc]
                      · show cs.length - ((b : Int) + 1 + x.2).toNat < cs.length - (b : Int).toNat
                        omega
                  · rw [if_neg gc] at hT2
                    rw [← hT2] at pk
                    simp [t1, PV.eqD_txs, -eqD_str, take1, gc, dl]
                    exact pk
            · rw [hI]
              refine ⟨[], at0 + 2, none, r.length + 1, true, by simp, rfl, by simp, ?_, Nat.zero_le _, ?_, ?_⟩
              · rw [← List.drop_drop, hr, List.length_drop]; omega
              · have := head_len hc2
                rw [List.length_drop, ← hr, List.length_drop] at this
                omega
              · rw [← hT, ← List.drop_drop, hr]; simp
          · have hs' : ¬ ((r.drop 1).head? = some 38 ∨ (r.drop 1).head? = some 124) := fun z => hs (by rw [← hc1, take1, take1]; exact z)
            have pk : atP (k + 1) r = none := by rw [atP, if_neg h33, if_pos h40, if_neg (fun z => hs' (.inl z)), if_neg (fun z => hs' (.inr z))]
            simp [l1, s1, s2, e33, e40, e38, e124, PV.eqD_txs, -eqD_str, take1, h33, h40, sign2, hs]
            rw [hPP, pk]; rfl
        · have pk : atP (k + 1) r = plainP r := by rw [atP, if_neg h33, if_neg h40]
          have e := cQat (plain_eq (cs := cs) (by omega) at0) (by simp [noCL, noC])
          rw [hr] at e
          cases q : plainP r with
          | none =>
            rw [q] at e pk
            simp [l1, s1, e33, e40, PV.eqD_txs, -eqD_str, take1, h33, h40, e, atX]
            rw [hPP, pk]; rfl
          | some x =>
            rw [q] at e pk
            simp [l1, s1, e33, e40, PV.eqD_txs, -eqD_str, take1, h33, h40, e, atX]
            refine ⟨_, frzQ_y (by simp [noC, noCL, noC_sv]), ?_⟩
            rw [hPP, pk]
            simp [atR]
    rw [hPP] at fin
    exact fin
end
end RS
set_option Elab.async false
set_option linter.all false
set_option maxRecDepth 100000
set_option maxHeartbeats 4000000
namespace RS
open PySem PySem.Spec PyProof.Rows L2 VD WT PS PT
noncomputable section
theorem cnt_eq : ∀ (k : Nat) (s : Sv), dep s < k → wid 16000000 s → m_sieves_in k [svD s] [] = .ok (.int (cnt s : Nat)) [] := by
  intro k
  induction k with
  | zero => intro s h; exact absurd h (Nat.not_lt_zero _)
  | succ k ih =>
    intro s hd hw
    refine fnQ_of (P := fun x => x = .ok (.int (cnt s : Nat)) []) rfl ?_
    unfold b_sieves_in
    have nc : ∀ t : Sv, noCL [svD t] = true := fun t => by simp [noCL, noC_sv]
    have lst : ∀ l : List Sv, (∀ s ∈ l, dep s < k) → l.length ≤ 16000000 → (∀ s ∈ l, wid 16000000 s) → ∀ x : Str, c_sieves_in_1 (m_sieves_in k) [some (.tup [.str x, .tup (svL l)]), none] [] = .ok ((l.map fun s => ((cnt s : Nat) : Int)).map .int) [] := by
      intro l h1 h2 h3 x
      unfold c_sieves_in_1
      rw [List.map_map]
      refine lLc_map svD _ l (chk := always) (h0 := []) (by simp [svL_map]) rfl (by omega) fun t ht => ⟨_, rfl, ?_⟩
      have e := cQ (ih t (h1 t ht) (h3 t ht)) (nc t)
      simp [e]
    have sm : ∀ l : List Sv, ((l.map fun s => ((cnt s : Nat) : Int)).sum) = ((cntL l : Nat) : Int) := fun l => by
      induction l with
      | nil => rfl
      | cons s l ih => rw [List.map_cons, List.sum_cons, ih, cntL]; omega
    cases s with
    | not s =>
      rw [dep] at hd
      rw [wid] at hw
      have e := cQ (ih s (by omega) hw) (nc s)
      simp [svD, e, cnt, Int.add_comm]
    | all l =>
      rw [dep] at hd
      rw [wid, widL_mem] at hw
      have e := lst l (fun t ht => by have := dep_mem ht; omega) hw.1 hw.2 "all"
      have b := fun h => bSum_lst (ns := l.map fun s => ((cnt s : Nat) : Int)) (h := h)
      rw [sm] at b
      simp only [svD]
      simp [s_an, e, b, cnt, Int.add_comm, -List.map_map, -bSum_lst]
    | some l =>
      rw [dep] at hd
      rw [wid, widL_mem] at hw
      have e := lst l (fun t ht => by have := dep_mem ht; omega) hw.1 hw.2 "some"
      have b := fun h => bSum_lst (ns := l.map fun s => ((cnt s : Nat) : Int)) (h := h)
      rw [sm] at b
      simp only [svD]
      simp [s_sn, s_sa, e, b, cnt, Int.add_comm, -List.map_map, -bSum_lst]
    | lacks n => simp [svD, s_ln, s_la, s_ls, cnt]
    | is n v => simp [svD, s_in, s_ia, s_is, cnt]
    | under n v => simp [svD, s_un, s_ua, s_us, cnt]
    | over n v => simp [svD, s_on, s_oa, s_os, cnt]
theorem rw_svb : ∀ {s : Sv}, RwB s → (∀ n cs, s ≠ .is n cs) → (∀ t, s ≠ .not t) → (∀ l, s ≠ .all l) → (∀ l, s ≠ .some l) → SvB s
  | .lacks n, h, _, _, _, _ => by rw [RwB] at h; rw [SvB]; have := h.2.1; omega
  | .under n v, h, _, _, _, _ => by rw [RwB] at h; obtain ⟨h1, i, rfl, h2, h3⟩ := h; rw [SvB]; exact ⟨by have := h1.2.1; omega, h2, h3⟩
  | .over n v, h, _, _, _, _ => by rw [RwB] at h; obtain ⟨h1, i, rfl, h2, h3⟩ := h; rw [SvB]; exact ⟨by have := h1.2.1; omega, h2, h3⟩
  | .is n v, _, h, _, _, _ => absurd rfl (h n v)
  | .not t, _, _, h, _, _ => absurd rfl (h t)
  | .all l, _, _, _, h, _ => absurd rfl (h l)
  | .some l, _, _, _, _, h => absurd rfl (h l)
theorem ofDue_right {s t : Sv} {u : PT.Due} (h : ofDue s u = .right t) : u = .right ∧ t = s := by
  cases u with
  | right => injection h with h; exact ⟨rfl, h.symm⟩
  | field n => cases h
  | kind n => cases h
theorem readK_call {b : Bool} {cs : Tx} (hl : cs.length ≤ 1000) (h : Hv) : callP PV.m_read_value [.str (kindS b), tx cs] h = .ok (match readK b cs with
    | some v => valD v
    | none => .non) h := by
  cases b with
  | true =>
    have e := cP (PV.read_word hl) (by simp) h
    rw [show kindS true = ("word" : Str) from rfl, e]
    unfold readK
    rw [if_pos rfl]
    by_cases q : PV.okW cs (smL ++ fgL) 12 = true
    · rw [if_pos q, if_pos q]; rfl
    · rw [if_neg q, if_neg q]
  | false =>
    have e := cP (PV.read_number hl) (by simp) h
    rw [show kindS false = ("number" : Str) from rfl, e]
    unfold readK PV.readN
    rw [if_neg Bool.false_ne_true]
    by_cases q : PV.isNum cs = true
    · rw [if_pos q, if_pos q]; rfl
    · rw [if_neg q, if_neg q]
theorem kdL_err {fs : List Fd} : ∀ {l : List Sv} {e : Rd}, kdL fs l = .error e → ∀ t, e ≠ .right t
  | [], e, h => by rw [kdL] at h; cases h
  | s :: l, e, h => by
    rw [kdL] at h
    cases q : kd fs s with
    | right t =>
      rw [q] at h
      cases q2 : kdL fs l with
      | ok ts => rw [q2] at h; cases h
      | error e2 =>
        rw [q2] at h
        cases h
        exact kdL_err q2
    | no => rw [q] at h; cases h; exact fun _ z => nomatch z
    | field n => rw [q] at h; cases h; exact fun _ z => nomatch z
    | kind n => rw [q] at h; cases h; exact fun _ z => nomatch z
theorem kinds_eq {fs : List Fd} (hl : fs.length ≤ 100) : ∀ (k : Nat) (s t : Sv), dep s < k → RwB s → wid 16000000 s → kd fs s = .right t → k ≤ 16 → m_by_kinds k [fdsD fs, svD s] [] = .ok (svD t) [] := by
  intro k
  induction k with
  | zero => intro s t h; exact absurd h (Nat.not_lt_zero _)
  | succ k ih =>
    intro s t hd ok hw hk h16
    obtain ⟨PP, hPP⟩ : ∃ PP : VD.R D → Prop, PP = fun x => x = .ok (svD t) [] := ⟨_, rfl⟩
    have fin : PP (m_by_kinds (k + 1) [fdsD fs, svD s] []) := by
      refine fnQ_of (P := PP) rfl ?_
      unfold b_by_kinds
      have nc : ∀ t : Sv, noCL [fdsD fs, svD t] = true := fun t => by simp [noCL, noC_sv, noC_fds]
      have out : ∀ t : Sv, frzQ 0 [] (svD t) = some (svD t) := fun t => frzQ_y (noC_sv t)
      have lst : ∀ (l ts : List Sv), (∀ s ∈ l, dep s < k) → l.length ≤ 16000000 → (∀ s ∈ l, RwB s) → (∀ s ∈ l, wid 16000000 s) → kdL fs l = .ok ts → ∀ x : Str, c_by_kinds_1 (m_by_kinds k) [some (fdsD fs), some (.tup [.str x, .tup (svL l)]), none, none] [] = .ok (ts.map svD) [] := by
        intro l ts h1 h2 h3 h4 h5 x
        unfold c_by_kinds_1
        have key : ∀ (l ts : List Sv), kdL fs l = .ok ts → l.map (fun s => svD (match kd fs s with | .right t => t | _ => s)) = ts.map svD ∧ ∀ s ∈ l, ∃ t, kd fs s = .right t := by
          intro l
          induction l with
          | nil => intro ts h; rw [kdL] at h; cases h; exact ⟨rfl, fun s hs => nomatch hs⟩
          | cons s l ihl =>
            intro ts h
            rw [kdL] at h
            cases q : kd fs s with
            | right t =>
              rw [q] at h
              cases q2 : kdL fs l with
              | ok ts2 =>
                rw [q2] at h
                cases h
                obtain ⟨i1, i2⟩ := ihl ts2 q2
                refine ⟨by rw [List.map_cons, i1, q]; rfl, fun u hu => ?_⟩
                cases hu with
                | head => exact ⟨t, q⟩
                | tail _ hu => exact i2 u hu
              | error e => rw [q2] at h; cases h
            | no => rw [q] at h; cases h
            | field n => rw [q] at h; cases h
            | kind n => rw [q] at h; cases h
        obtain ⟨e1, e2⟩ := key l ts h5
        rw [← e1]
        refine lLc_map svD _ l (chk := always) (h0 := []) (by simp [svL_map]) rfl (by omega) fun u hu => ⟨_, rfl, ?_⟩
        obtain ⟨v, hv⟩ := e2 u hu
        have e := cQ (ih u v (h1 u hu) (h3 u hu) (h4 u hu) hv (by omega)) (nc u)
        simp [e, hv]
      have asked : ∀ u : Sv, SvB u → due fs u = .right → wid 1000 u → dep u = 0 → ∀ h, callQ (PT.m_asked_sieve 16) [fdsD fs, svD u] h = .ok (.bl true) h := fun u h1 h2 h3 h4 h => by
        have e := cQdue (asked_eq hl 16 u (by omega) h1 h3) (nc u) h
        rw [h2] at e; exact e
      cases s with
      | not s =>
        rw [dep] at hd
        rw [wid] at hw
        rw [RwB] at ok
        rw [kd] at hk
        cases q : kd fs s with
        | right u =>
          rw [q] at hk
          cases hk
          have e := cQ (ih s u (by omega) ok hw q (by omega)) (nc s)
          have o := out (.not u)
          rw [svD] at o
          simp [svD, e, o]
          rw [hPP, svD]
        | no => rw [q] at hk; cases hk
        | field n => rw [q] at hk; cases hk
        | kind n => rw [q] at hk; cases hk
      | all l =>
        rw [dep] at hd
        rw [wid, widL_mem] at hw
        rw [RwB, RwBL_mem] at ok
        rw [kd] at hk
        cases q : kdL fs l with
        | ok ts =>
          rw [q] at hk
          cases hk
          have e := lst l ts (fun t ht => by have := dep_mem ht; omega) hw.1 ok hw.2 q "all"
          have o := out (.all ts)
          rw [svD, svL_map] at o
          simp only [svD]
          simp [s_an, e, o, -List.map_map]
          rw [hPP, svD, svL_map]
        | error e => rw [q] at hk; exact absurd hk (kdL_err q t)
      | some l =>
        rw [dep] at hd
        rw [wid, widL_mem] at hw
        rw [RwB, RwBL_mem] at ok
        rw [kd] at hk
        cases q : kdL fs l with
        | ok ts =>
          rw [q] at hk
          cases hk
          have e := lst l ts (fun t ht => by have := dep_mem ht; omega) hw.1 ok hw.2 q "some"
          have o := out (.some ts)
          rw [svD, svL_map] at o
          simp only [svD]
          simp [s_sn, s_sa, e, o, -List.map_map]
          rw [hPP, svD, svL_map]
        | error e => rw [q] at hk; exact absurd hk (kdL_err q t)
      | lacks n =>
        rw [kd] at hk
        obtain ⟨q, rfl⟩ := ofDue_right hk
        have e := asked (.lacks n) (rw_svb ok (fun _ _ z => nomatch z) (fun _ z => nomatch z) (fun _ z => nomatch z) (fun _ z => nomatch z)) q trivial rfl
        have o := out (.lacks n)
        simp only [svD] at e o ⊢
        simp [s_ln, s_la, s_ls, s_li, e, o]
        rw [hPP, svD]
      | under n v =>
        rw [kd] at hk
        obtain ⟨q, rfl⟩ := ofDue_right hk
        have e := asked (.under n v) (rw_svb ok (fun _ _ z => nomatch z) (fun _ z => nomatch z) (fun _ z => nomatch z) (fun _ z => nomatch z)) q trivial rfl
        have o := out (.under n v)
        simp only [svD] at e o ⊢
        simp [s_un, s_ua, s_us, s_ui, e, o]
        rw [hPP, svD]
      | over n v =>
        rw [kd] at hk
        obtain ⟨q, rfl⟩ := ofDue_right hk
        have e := asked (.over n v) (rw_svb ok (fun _ _ z => nomatch z) (fun _ z => nomatch z) (fun _ z => nomatch z) (fun _ z => nomatch z)) q trivial rfl
        have o := out (.over n v)
        simp only [svD] at e o ⊢
        simp [s_on, s_oa, s_os, s_oi, e, o]
        rw [hPP, svD]
      | is n v =>
        rw [RwB] at ok
        obtain ⟨hn, cs, rfl, hcs⟩ := ok
        rw [kd, wdOf] at hk
        unfold kdIs at hk
        cases p1 : plN fs n with
        | none => rw [p1] at hk; cases hk
        | some i =>
          obtain ⟨b, p2⟩ := plN_some p1
          rw [p1, Option.bind_some, p2] at hk
          simp only at hk
          cases q : readK b cs with
          | none => rw [q] at hk; cases hk
          | some v =>
            rw [q] at hk
            cases hk
            have fc := field_call hl p1
            have ix := fun h => fd_ix (h := h) p2
            have rc := fun h => readK_call (b := b) (cs := cs) (by omega) h
            rw [q] at rc
            have nn : v ≠ .no := fun z => by
              rw [z] at q
              unfold readK at q
              split at q <;> split at q <;> cases q
            have o := out (.is n v)
            rw [svD] at o
            have isn : isD (valD v) .non = some false := by rw [isD_val, decide_eq_false nn]
            have ev : valD (.wd cs) = tx cs := rfl
            simp [svD, ev, s_in, s_ia, s_is, fc, ix, fx, rc, isn, o]
            rw [hPP, svD]
    rw [hPP] at fin
    exact fin
theorem len_tx {fs : List Fd} (nm : ∀ f ∈ fs, okName f.1) : ∀ (k : Nat) (s : Sv), dep s < k → SvOk fs s → (txS s).length + 1 ≤ 80 * cnt s := by
  intro k
  induction k with
  | zero => intro s h; exact absurd h (Nat.not_lt_zero _)
  | succ k ih =>
    intro s hd ok
    have nmk : ∀ {i : Nat} {n : Tx} {b : Bool}, fs[i]? = some (n, b) → n.length ≤ 12 := fun h => (nm _ (List.mem_of_getElem? h)).2.1
    have lst : ∀ (c : Nat) (l : List Sv), (∀ s ∈ l, dep s < k) → (∀ s ∈ l, SvOk fs s) → (TL.joinL [c] (txL l)).length ≤ 80 * cntL l := by
      intro c l h1 h2
      cases l with
      | nil => rw [txL, cntL]; exact Nat.le_refl _
      | cons s l =>
        rw [txL, joinL_behind, List.length_append, cntL]
        have a := ih s (h1 s List.mem_cons_self) (h2 s List.mem_cons_self)
        have b : ∀ l : List Sv, (∀ s ∈ l, dep s < k) → (∀ s ∈ l, SvOk fs s) → (behindL c (txL l)).length ≤ 80 * cntL l := by
          intro l
          induction l with
          | nil => intro _ _; exact Nat.zero_le _
          | cons s l ihl =>
            intro h1 h2
            rw [txL, behindL, cntL, List.length_append, List.length_cons]
            have := ih s (h1 s List.mem_cons_self) (h2 s List.mem_cons_self)
            have := ihl (fun t ht => h1 t (List.mem_cons_of_mem _ ht)) fun t ht => h2 t (List.mem_cons_of_mem _ ht)
            omega
        have := b l (fun t ht => h1 t (List.mem_cons_of_mem _ ht)) fun t ht => h2 t (List.mem_cons_of_mem _ ht)
        omega
    cases s with
    | not s =>
      rw [dep] at hd
      rw [SvOk] at ok
      rw [txS, cnt, List.length_cons]
      have := ih s (by omega) ok
      omega
    | all l =>
      rw [dep] at hd
      rw [SvOk, SvOkL_mem] at ok
      rw [txS, cnt]
      have := lst 38 l (fun t ht => by have := dep_mem ht; omega) ok
      simp; omega
    | some l =>
      rw [dep] at hd
      rw [SvOk, SvOkL_mem] at ok
      rw [txS, cnt]
      have := lst 124 l (fun t ht => by have := dep_mem ht; omega) ok
      simp; omega
    | lacks n =>
      rw [SvOk] at ok
      obtain ⟨i, b, h⟩ := ok
      have := nmk h
      rw [txS]
      show _ ≤ 80 * 1
      simp; omega
    | is n v =>
      rw [SvOk] at ok
      obtain ⟨i, b, h, h1, h2⟩ := ok
      have := nmk h
      have := (wr_ok h2 h1).2.1
      rw [txS]
      show _ ≤ 80 * 1
      simp; omega
    | under n v =>
      rw [SvOk] at ok
      obtain ⟨i, j, h, h1, h2⟩ := ok
      have := nmk h
      have := (wr_ok h2 (by rw [h1]; exact fun z => by cases z)).2.1
      rw [txS]
      show _ ≤ 80 * 1
      simp; omega
    | over n v =>
      rw [SvOk] at ok
      obtain ⟨i, j, h, h1, h2⟩ := ok
      have := nmk h
      have := (wr_ok h2 (by rw [h1]; exact fun z => by cases z)).2.1
      rw [txS]
      show _ ≤ 80 * 1
      simp; omega
theorem written_ok {b : Bool} {v : Val} (h : ValOk b v) (hn : v ≠ .no) (hv : Hv) : callP PV.m_written [valD v] hv = .ok (tx (wrV v)) hv := by
  cases v with
  | no => exact absurd rfl hn
  | wd cs => exact cP PV.written_str (by simp [valD]) hv
  | nm i =>
    have b1 : (10 : Int) ^ 60 < 10 ^ 77 := by decide
    exact cP (PV.written_int (n := i) (by have := h.2.1; omega) (by have := h.2.2; omega)) (by simp [valD]) hv
theorem lk_is : tb_SIGNS.lookup ("is" : Str) = some "=" := by decide +kernel
theorem lk_un : tb_SIGNS.lookup ("under" : Str) = some "<" := by decide +kernel
theorem lk_ov : tb_SIGNS.lookup ("over" : Str) = some ">" := by decide +kernel
theorem amp2 : ("(&" : Str) = sx [40, 38] ∧ ("(|" : Str) = sx [40, 124] := by decide +kernel
theorem txSum {fs : List Fd} (nm : ∀ f ∈ fs, okName f.1) {l : List Sv} (ok : ∀ s ∈ l, SvOk fs s) : ((l.map txS).map (·.length)).sum + l.length ≤ 80 * cntL l := by
  induction l with
  | nil => exact Nat.zero_le _
  | cons s l ih =>
    have a := len_tx nm (dep s + 1) s (by omega) (ok s List.mem_cons_self)
    have b := ih fun t ht => ok t (List.mem_cons_of_mem _ ht)
    rw [cntL]
    simp only [List.map_cons, List.sum_cons, List.length_cons]
    omega
theorem shown_eq {fs : List Fd} (fo : FdsOk fs) : ∀ (k : Nat) (s : Sv), dep s < k → SvOk fs s → cnt s ≤ 100000 → m_shown_sieve k [svD s] [] = .ok (tx (txS s)) [] := by
  intro k
  induction k with
  | zero => intro s h; exact absurd h (Nat.not_lt_zero _)
  | succ k ih =>
    intro s hd ok hc
    refine fnQ_of (P := fun x => x = .ok (tx (txS s)) []) rfl ?_
    unfold b_shown_sieve
    have nc : ∀ t : Sv, noCL [svD t] = true := fun t => by simp [noCL, noC_sv]
    have nmk : ∀ {i : Nat} {n : Tx} {b : Bool}, fs[i]? = some (n, b) → n.length ≤ 12 := fun h => (fo.nm _ (List.mem_of_getElem? h)).2.1
    have lst : ∀ l : List Sv, (∀ s ∈ l, dep s < k) → (∀ s ∈ l, SvOk fs s) → cntL l ≤ 100000 → ∀ x : Str,
        c_shown_sieve_1 (m_shown_sieve k) [some (.tup [.str x, .tup (svL l)]), none] [] = .ok ((l.map txS).map tx) [] := by
      intro l h1 h2 h3 x
      unfold c_shown_sieve_1
      have hl := len_cntL l
      have hm : ∀ s ∈ l, cnt s ≤ cntL l := fun s hs => by
        clear h1 h2 h3 hl
        induction l with
        | nil => cases hs
        | cons t l ih =>
          rw [cntL]
          cases hs with
          | head => omega
          | tail _ hs => have := ih hs; omega
      rw [List.map_map]
      refine lLc_map svD _ l (chk := always) (h0 := []) (by simp [svL_map]) rfl (by omega) fun t ht => ⟨_, rfl, ?_⟩
      have e := cQ (ih t (h1 t ht) (h2 t ht) (by have := hm t ht; omega)) (nc t)
      simp [e]
    have jn : ∀ (c : Nat) (l : List Sv), (∀ s ∈ l, SvOk fs s) → cntL l ≤ 100000 → ∀ h, oJoin (tx [c]) (.lst ((l.map txS).map tx)) h = .ok (tx (TL.joinL [c] (txL l))) h := fun c l h2 h3 h => by
      rw [txL_map]
      refine oJoin_ap (ps := l.map txS) rfl ?_
      have := txSum fo.nm h2
      show ((l.map txS).map (·.length)).sum + (l.map txS).length * 1 ≤ 16777216
      rw [List.length_map, Nat.mul_one]
      omega
    have jl : ∀ (c : Nat) (l : List Sv), (∀ s ∈ l, SvOk fs s) → (TL.joinL [c] (txL l)).length + 2 ≤ 80 * (cntL l + 1) := fun c l h2 => by
      cases l with
      | nil => rw [txL]; show 0 + 2 ≤ _; omega
      | cons s l =>
        have b := txSum fo.nm h2
        have e : (TL.joinL [c] (txL (s :: l))).length + 1 = (((s :: l).map txS).map (·.length)).sum + (s :: l).length := by
          rw [txL, joinL_behind, List.length_append]
          have : ∀ l : List Sv, (behindL c (txL l)).length = ((l.map txS).map (·.length)).sum + l.length := fun l => by
            induction l with
            | nil => rfl
            | cons t l ih => rw [txL, behindL, List.length_append, List.length_cons, ih]; simp; omega
          rw [this l]
          simp; omega
        omega
    cases s with
    | not s =>
      rw [dep] at hd
      rw [SvOk] at ok
      rw [cnt] at hc
      have e := cQ (ih s (by omega) ok (by omega)) (nc s)
      have ln := len_tx fo.nm (dep s + 1) s (by omega) ok
      have a : ∀ h, oAdd (.str (sx [33])) (tx (txS s)) h = .ok (tx (33 :: txS s)) h := fun h => oAdd_tx (a := [33]) (by simp; omega)
      simp only [svD]
      simp [e33, e, a, txS, -oAdd_tx]
    | all l =>
      rw [dep] at hd
      rw [SvOk, SvOkL_mem] at ok
      rw [cnt] at hc
      have e := lst l (fun t ht => by have := dep_mem ht; omega) ok (by omega) "all"
      have j := jn 38 l ok (by omega)
      have jl := jl 38 l ok
      have a1 : ∀ h, oAdd (.str (sx [40, 38])) (tx (TL.joinL [38] (txL l))) h = .ok (tx (40 :: 38 :: TL.joinL [38] (txL l))) h := fun h => oAdd_tx (a := [40, 38]) (by simp; omega)
      have a2 : ∀ h, oAdd (tx (40 :: 38 :: TL.joinL [38] (txL l))) (.str (sx [41])) h = .ok (tx (40 :: 38 :: (TL.joinL [38] (txL l) ++ [41]))) h := fun h => oAdd_tx (b := [41]) (by simp; omega)
      simp only [svD]
      simp [s_an, e, amp2.1, e38, e41, j, a1, a2, txS, -List.map_map, -oAdd_tx]
    | some l =>
      rw [dep] at hd
      rw [SvOk, SvOkL_mem] at ok
      rw [cnt] at hc
      have e : c_shown_sieve_2 (m_shown_sieve k) [some (.tup [.str "some", .tup (svL l)]), none] [] = _ := lst l (fun t ht => by have := dep_mem ht; omega) ok (by omega) "some"
      have j := jn 124 l ok (by omega)
      have jl := jl 124 l ok
      have a1 : ∀ h, oAdd (.str (sx [40, 124])) (tx (TL.joinL [124] (txL l))) h = .ok (tx (40 :: 124 :: TL.joinL [124] (txL l))) h := fun h => oAdd_tx (a := [40, 124]) (by simp; omega)
      have a2 : ∀ h, oAdd (tx (40 :: 124 :: TL.joinL [124] (txL l))) (.str (sx [41])) h = .ok (tx (40 :: 124 :: (TL.joinL [124] (txL l) ++ [41]))) h := fun h => oAdd_tx (b := [41]) (by simp; omega)
      simp only [svD]
      simp [s_sn, s_sa, e, amp2.2, e124, e41, j, a1, a2, txS, -List.map_map, -oAdd_tx]
    | lacks n =>
      rw [SvOk] at ok
      obtain ⟨i, b, h⟩ := ok
      have := nmk h
      have a : ∀ h, oAdd (tx n) (.str (sx [63])) h = .ok (tx (n ++ [63])) h := fun h => oAdd_tx (b := [63]) (by simp; omega)
      simp only [svD]
      simp [s_ln, s_la, s_ls, e63, a, txS, -oAdd_tx]
    | is n v =>
      rw [SvOk] at ok
      obtain ⟨i, b, h, h1, h2⟩ := ok
      have := nmk h
      have wl := (wr_ok h2 h1).2.1
      have w := fun h => written_ok h2 h1 h
      have a : ∀ h, oAdd (tx n) (.str (sx [61])) h = .ok (tx (n ++ [61])) h := fun h => oAdd_tx (b := [61]) (by simp; omega)
      have a2 : ∀ h, oAdd (tx (n ++ [61])) (tx (wrV v)) h = .ok (tx ((n ++ [61]) ++ wrV v)) h := fun h => oAdd_tx (by simp; omega)
      simp only [svD]
      have sl : ¬ (("is" : Str) = "lacks") := by decide
      simp [s_in, s_ia, s_is, sl, lk_is, e61, a, a2, w, txS, -oAdd_tx]
    | under n v =>
      rw [SvOk] at ok
      obtain ⟨i, j, h, h1, h2⟩ := ok
      have hn : v ≠ .no := by rw [h1]; exact fun z => by cases z
      have := nmk h
      have wl := (wr_ok h2 hn).2.1
      have w := fun h => written_ok h2 hn h
      have a : ∀ h, oAdd (tx n) (.str (sx [60])) h = .ok (tx (n ++ [60])) h := fun h => oAdd_tx (b := [60]) (by simp; omega)
      have a2 : ∀ h, oAdd (tx (n ++ [60])) (tx (wrV v)) h = .ok (tx ((n ++ [60]) ++ wrV v)) h := fun h => oAdd_tx (by simp; omega)
      simp only [svD]
      have sl : ¬ (("under" : Str) = "lacks") := by decide
      simp [s_un, s_ua, s_us, sl, lk_un, e60, a, a2, w, txS, -oAdd_tx]
    | over n v =>
      rw [SvOk] at ok
      obtain ⟨i, j, h, h1, h2⟩ := ok
      have hn : v ≠ .no := by rw [h1]; exact fun z => by cases z
      have := nmk h
      have wl := (wr_ok h2 hn).2.1
      have w := fun h => written_ok h2 hn h
      have a : ∀ h, oAdd (tx n) (.str (sx [62])) h = .ok (tx (n ++ [62])) h := fun h => oAdd_tx (b := [62]) (by simp; omega)
      have a2 : ∀ h, oAdd (tx (n ++ [62])) (tx (wrV v)) h = .ok (tx ((n ++ [62]) ++ wrV v)) h := fun h => oAdd_tx (by simp; omega)
      simp only [svD]
      have sl : ¬ (("over" : Str) = "lacks") := by decide
      simp [s_on, s_oa, s_os, sl, lk_ov, e62, a, a2, w, txS, -oAdd_tx]
theorem read_right {fs : List Fd} (hl : fs.length ≤ 100) {t : Tx} (ht : t.length ≤ 16000000) {s : Sv} (e : readF fs t = .right s) : m_read_sieve [fdsD fs, tx t] [] = .ok (svD s) [] := by
  unfold readF at e
  cases q : atP 12 t with
  | none => rw [q] at e; cases e
  | some x =>
    obtain ⟨u, n⟩ := x
    rw [q] at e
    obtain ⟨a1, a2, a3, a4, a5⟩ := at_ok 12 t u n q
    have dl := dep_lv u
    by_cases c : n = t.length ∧ cnt u ≤ 60
    · replace e : (if n = t.length ∧ cnt u ≤ 60 then kd fs u else .no) = .right s := e
      rw [if_pos c] at e
      refine fnQ_of (P := fun x => x = .ok (svD s) []) rfl ?_
      unfold b_read_sieve
      have e1 := cQat (at_eq ht 12 16 0 (by decide)) (by simp [noCL, noC])
      rw [List.drop_zero, q] at e1
      replace e1 : ∀ h, callQ (m_sieve_at 16) [tx t, .int 0, .int 12] h = .ok (.tup [svD u, .int ((0 + n : Nat) : Int)]) h := e1
      rw [Nat.zero_add] at e1
      have e2 := cQ (cnt_eq 16 u (by omega) (wid_mono (by omega) _ a5)) (by simp [noCL, noC_sv])
      have e3 := cQ (kinds_eq hl 16 u s (by omega) a4 (wid_mono (by omega) _ a5) e (by decide)) (by simp [noCL, noC_sv, noC_fds])
      have lt : ∀ h, lenD h (tx t) = some (t.length : Int) := fun h => lenD_tx (by omega)
      have c2 : ¬ (60 : Int) < (cnt u : Nat) := by omega
      simp [e1, e2, e3, lt, c.1, c2]
      exact frzQ_y (noC_sv s)
    · replace e : (if n = t.length ∧ cnt u ≤ 60 then kd fs u else .no) = .right s := e
      rw [if_neg c] at e; cases e
end
end RS
set_option Elab.async false
set_option linter.all false
set_option maxRecDepth 100000
set_option maxHeartbeats 4000000
namespace Lk09
open PySem PySem.Spec PyProof.Rows L2 VD
noncomputable section
abbrev N_written : List Str := ["value"]
theorem sc_written : FnScope N_written ["value"] (defScope s_written) := ⟨rfl, rfl, rfl, by decide +kernel, rfl, by decide +kernel, by decide +kernel⟩
abbrev N_shown_sieve : List Str := ["sieve", "part"]
theorem sc_shown_sieve : FnScope N_shown_sieve ["sieve"] (defScope s_shown_sieve) := ⟨rfl, rfl, rfl, by decide +kernel, rfl, by decide +kernel, by decide +kernel⟩
abbrev N_made_of : List Str := ["thing", "signs", "most", "sign"]
theorem sc_made_of : FnScope N_made_of ["thing", "signs", "most"] (defScope s_made_of) := ⟨rfl, rfl, rfl, by decide +kernel, rfl, by decide +kernel, by decide +kernel⟩
abbrev N_is_name : List Str := ["thing"]
theorem sc_is_name : FnScope N_is_name ["thing"] (defScope s_is_name) := ⟨rfl, rfl, rfl, by decide +kernel, rfl, by decide +kernel, by decide +kernel⟩
abbrev N_is_word : List Str := ["thing"]
theorem sc_is_word : FnScope N_is_word ["thing"] (defScope s_is_word) := ⟨rfl, rfl, rfl, by decide +kernel, rfl, by decide +kernel, by decide +kernel⟩
abbrev N_is_number_text : List Str := ["text", "figures"]
theorem sc_is_number_text : FnScope N_is_number_text ["text"] (defScope s_is_number_text) := ⟨rfl, rfl, rfl, by decide +kernel, rfl, by decide +kernel, by decide +kernel⟩
abbrev N_read_value : List Str := ["kind", "text"]
theorem sc_read_value : FnScope N_read_value ["kind", "text"] (defScope s_read_value) := ⟨rfl, rfl, rfl, by decide +kernel, rfl, by decide +kernel, by decide +kernel⟩
abbrev N_run_of : List Str := ["text", "at", "signs"]
theorem sc_run_of : FnScope N_run_of ["text", "at", "signs"] (defScope s_run_of) := ⟨rfl, rfl, rfl, by decide +kernel, rfl, by decide +kernel, by decide +kernel⟩
abbrev N_plain_at : List Str := ["text", "at", "end", "name", "sign", "behind", "value", "number"]
theorem sc_plain_at : FnScope N_plain_at ["text", "at"] (defScope s_plain_at) := ⟨rfl, rfl, rfl, by decide +kernel, rfl, by decide +kernel, by decide +kernel⟩
abbrev N_sieve_at : List Str := ["text", "at", "levels", "sign", "parts", "part", "end"]
theorem sc_sieve_at : FnScope N_sieve_at ["text", "at", "levels"] (defScope s_sieve_at) := ⟨rfl, rfl, rfl, by decide +kernel, rfl, by decide +kernel, by decide +kernel⟩
abbrev N_sieves_in : List Str := ["sieve", "part"]
theorem sc_sieves_in : FnScope N_sieves_in ["sieve"] (defScope s_sieves_in) := ⟨rfl, rfl, rfl, by decide +kernel, rfl, by decide +kernel, by decide +kernel⟩
abbrev N_field_at : List Str := ["fields", "name", "place"]
theorem sc_field_at : FnScope N_field_at ["fields", "name"] (defScope s_field_at) := ⟨rfl, rfl, rfl, by decide +kernel, rfl, by decide +kernel, by decide +kernel⟩
abbrev N_is_whole : List Str := ["thing"]
theorem sc_is_whole : FnScope N_is_whole ["thing"] (defScope s_is_whole) := ⟨rfl, rfl, rfl, by decide +kernel, rfl, by decide +kernel, by decide +kernel⟩
abbrev N_is_value : List Str := ["kind", "thing"]
theorem sc_is_value : FnScope N_is_value ["kind", "thing"] (defScope s_is_value) := ⟨rfl, rfl, rfl, by decide +kernel, rfl, by decide +kernel, by decide +kernel⟩
abbrev N_asked_sieve : List Str := ["fields", "sieve", "kind", "part"]
theorem sc_asked_sieve : FnScope N_asked_sieve ["fields", "sieve"] (defScope s_asked_sieve) := ⟨rfl, rfl, rfl, by decide +kernel, rfl, by decide +kernel, by decide +kernel⟩
abbrev N_by_kinds : List Str := ["fields", "sieve", "value", "part"]
theorem sc_by_kinds : FnScope N_by_kinds ["fields", "sieve"] (defScope s_by_kinds) := ⟨rfl, rfl, rfl, by decide +kernel, rfl, by decide +kernel, by decide +kernel⟩
abbrev N_read_sieve : List Str := ["fields", "text", "sieve", "end"]
theorem sc_read_sieve : FnScope N_read_sieve ["fields", "text"] (defScope s_read_sieve) := ⟨rfl, rfl, rfl, by decide +kernel, rfl, by decide +kernel, by decide +kernel⟩
abbrev N__law_cell_at : List Str := ["_law_script", "_law_k"]
theorem sc__law_cell_at : FnScope N__law_cell_at ["_law_script", "_law_k"] (defScope s__law_cell_at) := ⟨rfl, rfl, rfl, by decide +kernel, rfl, by decide +kernel, by decide +kernel⟩
abbrev N__law_mix : List Str := ["_law_seed", "_law_k", "_law_turn"]
theorem sc__law_mix : FnScope N__law_mix ["_law_seed", "_law_k"] (defScope s__law_mix) := ⟨rfl, rfl, rfl, by decide +kernel, rfl, by decide +kernel, by decide +kernel⟩
abbrev N__law_heads : List Str := ["_law_seed", "_law_signs", "_law_many", "_law_most", "_law_few", "_law_at", "_law_rest", "_law_heads_here", "_law_k", "_law_word", "_law_sign"]
theorem sc__law_heads : FnScope N__law_heads ["_law_seed", "_law_signs", "_law_many", "_law_most"] (defScope s__law_heads) := ⟨rfl, rfl, rfl, by decide +kernel, rfl, by decide +kernel, by decide +kernel⟩
abbrev N__law_world : List Str := ["_law_script", "_law_seed", "_law_many", "_law_names", "_law_fields", "_law_words", "_law_base", "_law_k"]
theorem sc__law_world : FnScope N__law_world ["_law_script"] (defScope s__law_world) := ⟨rfl, rfl, rfl, by decide +kernel, rfl, by decide +kernel, by decide +kernel⟩
abbrev N__law_sure_value : List Str := ["_law_seed", "_law_kind", "_law_world_here"]
theorem sc__law_sure_value : FnScope N__law_sure_value ["_law_seed", "_law_kind", "_law_world_here"] (defScope s__law_sure_value) := ⟨rfl, rfl, rfl, by decide +kernel, rfl, by decide +kernel, by decide +kernel⟩
abbrev N__law_plain : List Str := ["_law_seed", "_law_world_here", "_law_way", "_law_name", "_law_kind"]
theorem sc__law_plain : FnScope N__law_plain ["_law_seed", "_law_world_here"] (defScope s__law_plain) := ⟨rfl, rfl, rfl, by decide +kernel, rfl, by decide +kernel, by decide +kernel⟩
abbrev N__law_closed : List Str := ["_law_stack", "_law_opened", "_law_told"]
theorem sc__law_closed : FnScope N__law_closed ["_law_stack"] (defScope s__law_closed) := ⟨rfl, rfl, rfl, by decide +kernel, rfl, by decide +kernel, by decide +kernel⟩
abbrev N__law_grown : List Str := ["_law_cells", "_law_world_here", "_law_stack", "_law_many", "_law_k", "_law_seed"]
theorem sc__law_grown : FnScope N__law_grown ["_law_cells", "_law_world_here"] (defScope s__law_grown) := ⟨rfl, rfl, rfl, by decide +kernel, rfl, by decide +kernel, by decide +kernel⟩
abbrev N__law_written : List Str := ["_law_value", "_law_left", "_law_text_here"]
theorem sc__law_written : FnScope N__law_written ["_law_value"] (defScope s__law_written) := ⟨rfl, rfl, rfl, by decide +kernel, rfl, by decide +kernel, by decide +kernel⟩
abbrev N__law_text : List Str := ["_law_sieve", "_law_sign", "_law_text_here", "_law_k"]
theorem sc__law_text : FnScope N__law_text ["_law_sieve"] (defScope s__law_text) := ⟨rfl, rfl, rfl, by decide +kernel, rfl, by decide +kernel, by decide +kernel⟩
abbrev N_law : List Str := ["_law_script", "_law_world_here", "_law_fields", "_law_some", "_law_k", "_law_sieve", "_law_text_here", "_law_told"]
theorem sc_law : FnScope N_law ["_law_script"] (defScope s_law) := ⟨rfl, rfl, rfl, by decide +kernel, rfl, by decide +kernel, by decide +kernel⟩
theorem sci_NoField : FnScope ["self", "name"] ["self", "name"] (defScope i_NoField) := ⟨rfl, rfl, rfl, by decide +kernel, rfl, by decide +kernel, by decide +kernel⟩
theorem sci_NoKind : FnScope ["self", "name"] ["self", "name"] (defScope i_NoKind) := ⟨rfl, rfl, rfl, by decide +kernel, rfl, by decide +kernel, by decide +kernel⟩
section
def b_written : SS := sSeq (sIf (toB (eOp oIs (eVar 0) (eK .non))) (sRet (eK (.str "-"))) (sNext)) (sRet (eCa bStrA (aCons (eVar 0) (aNil))))
def m_written : List D → Hv → R D := fnS 1 0 b_written
def c_shown_sieve_1 (rc : List D → Hv → R D) : LS := lLc (iT (eOp oIx (eVar 0) (eK (.int 1)))) (gN 1) (cYes) (eCa (callQ rc) (aCons (eVar 1) (aNil))) [1]
def c_shown_sieve_2 (rc : List D → Hv → R D) : LS := lLc (iT (eOp oIx (eVar 0) (eK (.int 1)))) (gN 1) (cYes) (eCa (callQ rc) (aCons (eVar 1) (aNil))) [1]
def b_shown_sieve (rc : List D → Hv → R D) : SS := sSeq (sIf (toB (eOp oEq (eOp oIx (eVar 0) (eK (.int 0))) (eK (.str "not")))) (sRet (eOp oAdd (eK (.str "!")) (eCa (callQ rc) (aCons (eOp oIx (eVar 0) (eK (.int 1))) (aNil))))) (sNext)) (sSeq (sIf (toB (eOp oEq (eOp oIx (eVar 0) (eK (.int 0))) (eK (.str "all")))) (sRet (eOp oAdd (eOp oAdd (eK (.str "(&")) (eStr1 oJoin (eK (.str "&")) (eV ((c_shown_sieve_1 rc))))) (eK (.str ")")))) (sNext)) (sSeq (sIf (toB (eOp oEq (eOp oIx (eVar 0) (eK (.int 0))) (eK (.str "some")))) (sRet (eOp oAdd (eOp oAdd (eK (.str "(|")) (eStr1 oJoin (eK (.str "|")) (eV ((c_shown_sieve_2 rc))))) (eK (.str ")")))) (sNext)) (sSeq (sIf (toB (eOp oEq (eOp oIx (eVar 0) (eK (.int 0))) (eK (.str "lacks")))) (sRet (eOp oAdd (eOp oIx (eVar 0) (eK (.int 1))) (eK (.str "?")))) (sNext)) (sRet (eOp oAdd (eOp oAdd (eOp oIx (eVar 0) (eK (.int 1))) (eGetT tb_SIGNS (eOp oIx (eVar 0) (eK (.int 0))))) (eCa (Cm.f .P m_written) (aCons (eOp oIx (eVar 0) (eK (.int 2))) (aNil))))))))
def m_shown_sieve : Nat → List D → Hv → R D
  | 0 => fnQ 1 1 sNever
  | n + 1 => fnQ 1 1 (b_shown_sieve (m_shown_sieve n))
def l_made_of_1 : SS := sFor (iS (eVar 0)) (gN 3) (sIf (toB (eOp oNotIn (eVar 3) (eVar 1))) (sRet (eK (.bl false))) (sNext))
def b_made_of : SS := sSeq (sIf (cOr (cNot (toB (eIsi "str" (eVar 0)))) (cOr (toB (eOp oLt (eCa bLen (aCons (eVar 0) (aNil))) (eK (.int 1)))) (toB (eOp oGt (eCa bLen (aCons (eVar 0) (aNil))) (eVar 2))))) (sRet (eK (.bl false))) (sNext)) (sSeq (l_made_of_1) (sRet (eK (.bl true))))
def m_made_of : List D → Hv → R D := fnS 3 1 b_made_of
def b_is_name : SS := sRet (eCa (Cm.f .P m_made_of) (aCons (eVar 0) (aCons (eK (.str "abcdefghijklmnopqrstuvwxyz")) (aCons (eK (.int 12)) (aNil)))))
def m_is_name : List D → Hv → R D := fnS 1 0 b_is_name
def b_is_word : SS := sRet (eCa (Cm.f .P m_made_of) (aCons (eVar 0) (aCons (eOp oAdd (eK (.str "abcdefghijklmnopqrstuvwxyz")) (eK (.str "0123456789"))) (aCons (eK (.int 12)) (aNil)))))
def m_is_word : List D → Hv → R D := fnS 1 0 b_is_word
def b_is_number_text : SS := sSeq (sSet 1 (eVar 0)) (sSeq (sIf (toB (eOp oEq (eSl (eVar 0) (pNo) (pAt (eK (.int 1)))) (eK (.str "-")))) (sSet 1 (eSl (eVar 0) (pAt (eK (.int 1))) (pNo))) (sNext)) (sSeq (sIf (cNot (toB (eCa (Cm.f .P m_made_of) (aCons (eVar 1) (aCons (eK (.str "0123456789")) (aCons (eK (.int 60)) (aNil))))))) (sRet (eK (.bl false))) (sNext)) (sRet (eOrV (eOp oNe (eOp oIx (eVar 1) (eK (.int 0))) (eK (.str "0"))) (eOp oEq (eVar 0) (eK (.str "0")))))))
def m_is_number_text : List D → Hv → R D := fnS 1 1 b_is_number_text
def b_read_value : SS := sSeq (sIf (toB (eOp oEq (eVar 0) (eK (.str "word")))) (sSeq (sIf (toB (eCa (Cm.f .P m_is_word) (aCons (eVar 1) (aNil)))) (sRet (eVar 1)) (sNext)) (sRet (eK .non))) (sNext)) (sSeq (sIf (toB (eCa (Cm.f .P m_is_number_text) (aCons (eVar 1) (aNil)))) (sRet (eCa bIntA (aCons (eVar 1) (aNil)))) (sNext)) (sRet (eK .non)))
def m_read_value : List D → Hv → R D := fnS 2 0 b_read_value
def l_run_of_1 : SS := sLoop (cAnd (toB (eOp oLt (eVar 1) (eCa bLen (aCons (eVar 0) (aNil))))) (toB (eOp oIn (eOp oIx (eVar 0) (eVar 1)) (eVar 2)))) (sSet 1 (eOp oAdd (eVar 1) (eK (.int 1))))
def b_run_of : SS := sSeq (l_run_of_1) (sRet (eVar 1))
def m_run_of : List D → Hv → R D := fnS 3 0 b_run_of
def b_plain_at : SS := sSeq (sSet 2 (eCa (Cm.f .P m_run_of) (aCons (eVar 0) (aCons (eVar 1) (aCons (eK (.str "abcdefghijklmnopqrstuvwxyz")) (aNil)))))) (sSeq (sSet 3 (eSl (eVar 0) (pAt (eVar 1)) (pAt (eVar 2)))) (sSeq (sSet 4 (eSl (eVar 0) (pAt (eVar 2)) (pAt (eOp oAdd (eVar 2) (eK (.int 1)))))) (sSeq (sIf (cOr (cNot (toB (eCa (Cm.f .P m_is_name) (aCons (eVar 3) (aNil))))) (toB (eOp oNotInP (eVar 4) (eTup (aCons (eK (.str "=")) (aCons (eK (.str "<")) (aCons (eK (.str ">")) (aCons (eK (.str "?")) (aNil))))))))) (sRaise "NoSieve") (sNext)) (sSeq (sIf (toB (eOp oEq (eVar 4) (eK (.str "?")))) (sRet (eTup (aCons (eTup (aCons (eK (.str "lacks")) (aCons (eVar 3) (aNil)))) (aCons (eOp oAdd (eVar 2) (eK (.int 1))) (aNil))))) (sNext)) (sSeq (sSet 5 (eCa (Cm.f .P m_run_of) (aCons (eVar 0) (aCons (eOp oAdd (eVar 2) (eK (.int 1))) (aCons (eK (.str "abcdefghijklmnopqrstuvwxyz0123456789-")) (aNil)))))) (sSeq (sSet 6 (eSl (eVar 0) (pAt (eOp oAdd (eVar 2) (eK (.int 1)))) (pAt (eVar 5)))) (sSeq (sIf (cOr (toB (eOp oEq (eVar 6) (eK (.str "")))) (toB (eOp oGt (eCa bLen (aCons (eVar 6) (aNil))) (eK (.int 61))))) (sRaise "NoSieve") (sNext)) (sSeq (sIf (toB (eOp oEq (eVar 4) (eK (.str "=")))) (sRet (eTup (aCons (eTup (aCons (eK (.str "is")) (aCons (eVar 3) (aCons (eVar 6) (aNil))))) (aCons (eVar 5) (aNil))))) (sNext)) (sSeq (sSet 7 (eCa (Cm.f .P m_read_value) (aCons (eK (.str "number")) (aCons (eVar 6) (aNil))))) (sSeq (sIf (toB (eOp oIs (eVar 7) (eK .non))) (sRaise "NoSieve") (sNext)) (sRet (eTup (aCons (eTup (aCons (eOp oDget (eDispF (pCons (eK (.str "<")) (eK (.str "under")) (pCons (eK (.str ">")) (eK (.str "over")) (pNil)))) (eVar 4)) (aCons (eVar 3) (aCons (eVar 7) (aNil))))) (aCons (eVar 5) (aNil)))))))))))))))
def m_plain_at : List D → Hv → R D := fnQ 2 6 b_plain_at
def l_sieve_at_1 (rc : List D → Hv → R D) : SS := sLoop (toB (eOp oNe (eSl (eVar 0) (pAt (eVar 1)) (pAt (eOp oAdd (eVar 1) (eK (.int 1))))) (eK (.str ")")))) (sSeq (sIf (toB (eOp oGt (eCa bLen (aCons (eVar 4) (aNil))) (eK (.int 0)))) (sSeq (sIf (toB (eOp oNe (eSl (eVar 0) (pAt (eVar 1)) (pAt (eOp oAdd (eVar 1) (eK (.int 1))))) (eVar 3))) (sRaise "NoSieve") (sNext)) (sSet 1 (eOp oAdd (eVar 1) (eK (.int 1))))) (sNext)) (sSeq (sAsg (eCa (callQ rc) (aCons (eVar 0) (aCons (eVar 1) (aCons (eOp oSub (eVar 2) (eK (.int 1))) (aNil))))) (gT 2 (gsCons (gN 5) (gsCons (gN 1) (gsNil))))) (sDrop (eBM mAppend (eVar 4) (aCons (eVar 5) (aNil))))))
def b_sieve_at (rc : List D → Hv → R D) : SS := sSeq (sIf (toB (eOp oLt (eVar 2) (eK (.int 1)))) (sRaise "NoSieve") (sNext)) (sSeq (sIf (toB (eOp oEq (eSl (eVar 0) (pAt (eVar 1)) (pAt (eOp oAdd (eVar 1) (eK (.int 1))))) (eK (.str "!")))) (sSeq (sAsg (eCa (callQ rc) (aCons (eVar 0) (aCons (eOp oAdd (eVar 1) (eK (.int 1))) (aCons (eOp oSub (eVar 2) (eK (.int 1))) (aNil))))) (gT 2 (gsCons (gN 5) (gsCons (gN 6) (gsNil))))) (sRet (eTup (aCons (eTup (aCons (eK (.str "not")) (aCons (eVar 5) (aNil)))) (aCons (eVar 6) (aNil)))))) (sNext)) (sSeq (sIf (toB (eOp oNe (eSl (eVar 0) (pAt (eVar 1)) (pAt (eOp oAdd (eVar 1) (eK (.int 1))))) (eK (.str "(")))) (sRet (eCa (callQ m_plain_at) (aCons (eVar 0) (aCons (eVar 1) (aNil))))) (sNext)) (sSeq (sSet 3 (eSl (eVar 0) (pAt (eOp oAdd (eVar 1) (eK (.int 1)))) (pAt (eOp oAdd (eVar 1) (eK (.int 2)))))) (sSeq (sIf (toB (eOp oNotInP (eVar 3) (eTup (aCons (eK (.str "&")) (aCons (eK (.str "|")) (aNil)))))) (sRaise "NoSieve") (sNext)) (sSeq (sSet 4 (eC (lLst (aNil)))) (sSeq (sSet 1 (eOp oAdd (eVar 1) (eK (.int 2)))) (sSeq ((l_sieve_at_1 rc)) (sRet (eTup (aCons (eTup (aCons (eOp oDget (eDispF (pCons (eK (.str "&")) (eK (.str "all")) (pCons (eK (.str "|")) (eK (.str "some")) (pNil)))) (eVar 3)) (aCons (eCa bTuple (aCons (eVar 4) (aNil))) (aNil)))) (aCons (eOp oAdd (eVar 1) (eK (.int 1))) (aNil))))))))))))
def m_sieve_at : Nat → List D → Hv → R D
  | 0 => fnQ 3 4 sNever
  | n + 1 => fnQ 3 4 (b_sieve_at (m_sieve_at n))
def c_sieves_in_1 (rc : List D → Hv → R D) : LS := lLc (iT (eOp oIx (eVar 0) (eK (.int 1)))) (gN 1) (cYes) (eCa (callQ rc) (aCons (eVar 1) (aNil))) [1]
def b_sieves_in (rc : List D → Hv → R D) : SS := sSeq (sIf (toB (eOp oEq (eOp oIx (eVar 0) (eK (.int 0))) (eK (.str "not")))) (sRet (eOp oAdd (eK (.int 1)) (eCa (callQ rc) (aCons (eOp oIx (eVar 0) (eK (.int 1))) (aNil))))) (sNext)) (sSeq (sIf (cOr (toB (eOp oEq (eOp oIx (eVar 0) (eK (.int 0))) (eK (.str "all")))) (toB (eOp oEq (eOp oIx (eVar 0) (eK (.int 0))) (eK (.str "some"))))) (sRet (eOp oAdd (eK (.int 1)) (eCa bSum (aCons (eV ((c_sieves_in_1 rc))) (aNil))))) (sNext)) (sRet (eK (.int 1))))
def m_sieves_in : Nat → List D → Hv → R D
  | 0 => fnQ 1 1 sNever
  | n + 1 => fnQ 1 1 (b_sieves_in (m_sieves_in n))
def l_field_at_1 : SS := sFor (iR1 (aCons (eCa bLen (aCons (eVar 0) (aNil))) (aNil))) (gN 2) (sIf (toB (eOp oEq (eOp oIx (eOp oIx (eVar 0) (eVar 2)) (eK (.int 0))) (eVar 1))) (sRet (eVar 2)) (sNext))
def b_field_at : SS := sSeq (l_field_at_1) (sRaiseP "NoField" "name" (eVar 1))
def m_field_at : List D → Hv → R D := fnS 2 1 b_field_at
def b_is_whole : SS := sSeq (sIf (cOr (cNot (toB (eIsi "int" (eVar 0)))) (toB (eIsi "bool" (eVar 0)))) (sRet (eK (.bl false))) (sNext)) (sRet (eOp oLt (eCa bAbs (aCons (eVar 0) (aNil))) (eOp oPow (eK (.int 10)) (eK (.int 60)))))
def m_is_whole : List D → Hv → R D := fnS 1 0 b_is_whole
def b_is_value : SS := sSeq (sIf (toB (eOp oIs (eVar 1) (eK .non))) (sRet (eK (.bl true))) (sNext)) (sSeq (sIf (toB (eOp oEq (eVar 0) (eK (.str "word")))) (sRet (eCa (Cm.f .P m_is_word) (aCons (eVar 1) (aNil)))) (sNext)) (sRet (eCa (Cm.f .P m_is_whole) (aCons (eVar 1) (aNil)))))
def m_is_value : List D → Hv → R D := fnS 2 0 b_is_value
def l_asked_sieve_1 (rc : List D → Hv → R D) : SS := sFor (iT (eOp oIx (eVar 1) (eK (.int 1)))) (gN 3) (sDrop (eCa (callQ rc) (aCons (eVar 0) (aCons (eVar 3) (aNil)))))
def b_asked_sieve (rc : List D → Hv → R D) : SS := sSeq (sIf (toB (eOp oEq (eOp oIx (eVar 1) (eK (.int 0))) (eK (.str "not")))) (sRet (eCa (callQ rc) (aCons (eVar 0) (aCons (eOp oIx (eVar 1) (eK (.int 1))) (aNil))))) (sNext)) (sSeq (sIf (cOr (toB (eOp oEq (eOp oIx (eVar 1) (eK (.int 0))) (eK (.str "all")))) (toB (eOp oEq (eOp oIx (eVar 1) (eK (.int 0))) (eK (.str "some"))))) (sSeq ((l_asked_sieve_1 rc)) (sRet (eK (.bl true)))) (sNext)) (sSeq (sSet 2 (eOp oIx (eOp oIx (eVar 0) (eCa (Cm.f .P m_field_at) (aCons (eVar 0) (aCons (eOp oIx (eVar 1) (eK (.int 1))) (aNil))))) (eK (.int 1)))) (sSeq (sIf (cAnd (cOr (toB (eOp oEq (eOp oIx (eVar 1) (eK (.int 0))) (eK (.str "under")))) (toB (eOp oEq (eOp oIx (eVar 1) (eK (.int 0))) (eK (.str "over"))))) (toB (eOp oEq (eVar 2) (eK (.str "word"))))) (sRaiseP "NoKind" "name" (eOp oIx (eVar 1) (eK (.int 1)))) (sNext)) (sSeq (sIf (cAnd (toB (eOp oEq (eOp oIx (eVar 1) (eK (.int 0))) (eK (.str "is")))) (cNot (toB (eCa (Cm.f .P m_is_value) (aCons (eVar 2) (aCons (eOp oIx (eVar 1) (eK (.int 2))) (aNil))))))) (sRaiseP "NoKind" "name" (eOp oIx (eVar 1) (eK (.int 1)))) (sNext)) (sRet (eK (.bl true)))))))
def m_asked_sieve : Nat → List D → Hv → R D
  | 0 => fnQ 2 2 sNever
  | n + 1 => fnQ 2 2 (b_asked_sieve (m_asked_sieve n))
def c_by_kinds_1 (rc : List D → Hv → R D) : LS := lLc (iT (eOp oIx (eVar 1) (eK (.int 1)))) (gN 3) (cYes) (eCa (callQ rc) (aCons (eVar 0) (aCons (eVar 3) (aNil)))) [3]
def b_by_kinds (rc : List D → Hv → R D) : SS := sSeq (sIf (toB (eOp oEq (eOp oIx (eVar 1) (eK (.int 0))) (eK (.str "not")))) (sRet (eTup (aCons (eK (.str "not")) (aCons (eCa (callQ rc) (aCons (eVar 0) (aCons (eOp oIx (eVar 1) (eK (.int 1))) (aNil)))) (aNil))))) (sNext)) (sSeq (sIf (cOr (toB (eOp oEq (eOp oIx (eVar 1) (eK (.int 0))) (eK (.str "all")))) (toB (eOp oEq (eOp oIx (eVar 1) (eK (.int 0))) (eK (.str "some"))))) (sRet (eTup (aCons (eOp oIx (eVar 1) (eK (.int 0))) (aCons (eCa bTuple (aCons (eV ((c_by_kinds_1 rc))) (aNil))) (aNil))))) (sNext)) (sSeq (sIf (toB (eOp oNe (eOp oIx (eVar 1) (eK (.int 0))) (eK (.str "is")))) (sSeq (sDrop (eCa (callQ (m_asked_sieve 16)) (aCons (eVar 0) (aCons (eVar 1) (aNil))))) (sRet (eVar 1))) (sNext)) (sSeq (sSet 2 (eCa (Cm.f .P m_read_value) (aCons (eOp oIx (eOp oIx (eVar 0) (eCa (Cm.f .P m_field_at) (aCons (eVar 0) (aCons (eOp oIx (eVar 1) (eK (.int 1))) (aNil))))) (eK (.int 1))) (aCons (eOp oIx (eVar 1) (eK (.int 2))) (aNil))))) (sSeq (sIf (toB (eOp oIs (eVar 2) (eK .non))) (sRaiseP "NoKind" "name" (eOp oIx (eVar 1) (eK (.int 1)))) (sNext)) (sRet (eTup (aCons (eK (.str "is")) (aCons (eOp oIx (eVar 1) (eK (.int 1))) (aCons (eVar 2) (aNil))))))))))
def m_by_kinds : Nat → List D → Hv → R D
  | 0 => fnQ 2 2 sNever
  | n + 1 => fnQ 2 2 (b_by_kinds (m_by_kinds n))
def b_read_sieve : SS := sSeq (sAsg (eCa (callQ (m_sieve_at 16)) (aCons (eVar 1) (aCons (eK (.int 0)) (aCons (eK (.int 12)) (aNil))))) (gT 2 (gsCons (gN 2) (gsCons (gN 3) (gsNil))))) (sSeq (sIf (cOr (toB (eOp oNe (eVar 3) (eCa bLen (aCons (eVar 1) (aNil))))) (toB (eOp oGt (eCa (callQ (m_sieves_in 16)) (aCons (eVar 2) (aNil))) (eK (.int 60))))) (sRaise "NoSieve") (sNext)) (sRet (eCa (callQ (m_by_kinds 16)) (aCons (eVar 0) (aCons (eVar 2) (aNil))))))
def m_read_sieve : List D → Hv → R D := fnQ 2 2 b_read_sieve
def b__law_cell_at : SS := sSeq (sIf (toB (eOp oLt (eVar 1) (eCa bLen (aCons (eVar 0) (aNil))))) (sRet (eOp oIx (eVar 0) (eVar 1))) (sNext)) (sRet (eK (.int 0)))
def m__law_cell_at : List D → Hv → R D := fnS 2 0 b__law_cell_at
def b__law_mix : SS := sSeq (sSet 2 (eOp oMod (eOp oAdd (eOp oAdd (eOp oMul (eOp oMod (eVar 0) (eK (.int 2147483647))) (eK (.int 48271))) (eOp oMul (eVar 1) (eK (.int 7919)))) (eK (.int 11))) (eK (.int 2147483647)))) (sRet (eOp oMod (eOp oMul (eOp oMod (eOp oMul (eVar 2) (eVar 2)) (eK (.int 2147483629))) (eK (.int 69621))) (eK (.int 2147483647))))
def m__law_mix : List D → Hv → R D := fnS 2 1 b__law_mix
def c__law_heads_1 : LS := lLc (iR1 (aCons (eVar 3) (aNil))) (gN 8) (cYes) (eOp oIx (eVar 1) (eOp oMod (eOp oAdd (eOp oFdiv (eVar 0) (eK (.int 1664))) (eOp oMul (eOp oMul (eK (.int 5)) (eVar 8)) (eVar 8))) (eCa bLen (aCons (eVar 1) (aNil))))) [8]
def c__law_heads_2 : LS := lLc (iR1 (aCons (eVar 2) (aNil))) (gN 8) (cYes) (eSl (eVar 9) (pNo) (pAt (eOp oAdd (eVar 8) (eK (.int 1))))) [8]
def l__law_heads_1 : SS := sFor (iR1 (aCons (eVar 2) (aNil))) (gN 8) (sSeq (sSet 10 (eOp oIx (eVar 1) (eOp oMod (eOp oAdd (eOp oFdiv (eVar 0) (eK (.int 1664))) (eOp oMul (eK (.int 5)) (eVar 8))) (eCa bLen (aCons (eVar 1) (aNil)))))) (sDrop (eBM mAppend (eVar 7) (aCons (eOp oAdd (eOp oAdd (eOp oMulS (eVar 6) (eVar 5)) (eVar 10)) (eOp oMulS (eVar 6) (eOp oSub (eOp oSub (eVar 4) (eVar 5)) (eK (.int 1))))) (aNil)))))
def b__law_heads : SS := sSeq (sIf (cAnd (toB (eOp oEq (eOp oMod (eOp oFdiv (eVar 0) (eK (.int 43264))) (eK (.int 4))) (eK (.int 3)))) (toB (eOp oLe (eVar 2) (eVar 3)))) (sSeq (sSet 9 (eStr1 oJoin (eK (.str "")) (eV (c__law_heads_1)))) (sRet (eV (c__law_heads_2)))) (sNext)) (sSeq (sSet 4 (eOp oAdd (eK (.int 1)) (eOp oMod (eVar 0) (eVar 3)))) (sSeq (sSet 5 (eOp oMod (eOp oFdiv (eVar 0) (eK (.int 12))) (eVar 4))) (sSeq (sSet 6 (eOp oIx (eVar 1) (eOp oMod (eOp oFdiv (eVar 0) (eK (.int 64))) (eCa bLen (aCons (eVar 1) (aNil)))))) (sSeq (sSet 7 (eC (lLst (aNil)))) (sSeq (l__law_heads_1) (sRet (eVar 7)))))))
def m__law_heads : List D → Hv → R D := fnS 4 7 b__law_heads
def c__law_world_1 : LS := lLc (iR1 (aCons (eVar 2) (aNil))) (gN 7) (cYes) (eTup (aCons (eOp oIx (eVar 3) (eVar 7)) (aCons (eOp oIx (eV (lLst (aCons (eK (.str "word")) (aCons (eK (.str "number")) (aNil))))) (eOp oMod (eCa (Cm.f .P m__law_mix) (aCons (eVar 1) (aCons (eOp oAdd (eVar 7) (eK (.int 30))) (aNil)))) (eK (.int 2)))) (aNil)))) [7]
def b__law_world : SS := sSeq (sSet 1 (eCa (Cm.f .P m__law_mix) (aCons (eCa (Cm.f .P m__law_cell_at) (aCons (eVar 0) (aCons (eK (.int 0)) (aNil)))) (aCons (eK (.int 1)) (aNil))))) (sSeq (sSet 2 (eOp oAdd (eK (.int 1)) (eOp oMod (eVar 1) (eK (.int 8))))) (sSeq (sSet 3 (eCa (Cm.f .P m__law_heads) (aCons (eCa (Cm.f .P m__law_mix) (aCons (eVar 1) (aCons (eK (.int 2)) (aNil)))) (aCons (eK (.str "abcdefghijklmnopqrstuvwxyz")) (aCons (eVar 2) (aCons (eK (.int 12)) (aNil))))))) (sSeq (sSet 4 (eV (c__law_world_1))) (sSeq (sSet 5 (eCa (Cm.f .P m__law_heads) (aCons (eCa (Cm.f .P m__law_mix) (aCons (eVar 1) (aCons (eK (.int 3)) (aNil)))) (aCons (eK (.str "abcdefghijklmnopqrstuvwxyz0123456789")) (aCons (eK (.int 4)) (aCons (eK (.int 12)) (aNil))))))) (sSeq (sIf (toB (eOp oEq (eOp oMod (eOp oFdiv (eVar 1) (eK (.int 8))) (eK (.int 3))) (eK (.int 1)))) (sSet 5 (eV (eOp oCat (eV (lSl (eVar 3) (pNo) (pAt (eK (.int 3))))) (eV (lSl (eVar 5) (pNo) (pAt (eK (.int 1)))))))) (sNext)) (sSeq (sSet 6 (eOp oIx (eV (lLst (aCons (eK (.int 0)) (aCons (eOp oMul (eK (.int 9)) (eOp oPow (eK (.int 10)) (eK (.int 59)))) (aCons (eOp oSub (eK (.int 0)) (eOp oMul (eK (.int 9)) (eOp oPow (eK (.int 10)) (eK (.int 59))))) (aCons (eK (.int 98)) (aNil))))))) (eOp oMod (eOp oFdiv (eVar 1) (eK (.int 24))) (eK (.int 4))))) (sRet (eDispF (pCons (eK (.str "fields")) (eVar 4) (pCons (eK (.str "words")) (eVar 5) (pCons (eK (.str "base")) (eVar 6) (pNil))))))))))))
def m__law_world : List D → Hv → R D := fnS 1 7 b__law_world
def b__law_sure_value : SS := sSeq (sIf (toB (eOp oEq (eVar 1) (eK (.str "word")))) (sRet (eOp oIx (eOp oDget (eVar 2) (eK (.str "words"))) (eOp oMod (eVar 0) (eCa bLen (aCons (eOp oDget (eVar 2) (eK (.str "words"))) (aNil)))))) (sNext)) (sRet (eOp oSub (eOp oAdd (eOp oDget (eVar 2) (eK (.str "base"))) (eOp oMod (eVar 0) (eK (.int 6)))) (eK (.int 2))))
def m__law_sure_value : List D → Hv → R D := fnS 3 0 b__law_sure_value
def b__law_plain : SS := sSeq (sAsg (eOp oIx (eOp oDget (eVar 1) (eK (.str "fields"))) (eOp oMod (eVar 0) (eCa bLen (aCons (eOp oDget (eVar 1) (eK (.str "fields"))) (aNil))))) (gT 2 (gsCons (gN 3) (gsCons (gN 4) (gsNil))))) (sSeq (sSet 2 (eOp oMod (eOp oFdiv (eVar 0) (eK (.int 8))) (eK (.int 4)))) (sSeq (sIf (toB (eOp oEq (eVar 2) (eK (.int 0)))) (sRet (eTup (aCons (eK (.str "lacks")) (aCons (eVar 3) (aNil))))) (sNext)) (sSeq (sIf (cOr (toB (eOp oEq (eVar 2) (eK (.int 1)))) (toB (eOp oEq (eVar 4) (eK (.str "word"))))) (sRet (eTup (aCons (eK (.str "is")) (aCons (eVar 3) (aCons (eCa (Cm.f .P m__law_sure_value) (aCons (eOp oFdiv (eVar 0) (eK (.int 32))) (aCons (eVar 4) (aCons (eVar 1) (aNil))))) (aNil)))))) (sNext)) (sRet (eTup (aCons (eOp oIx (eV (lLst (aCons (eK (.str "under")) (aCons (eK (.str "over")) (aNil))))) (eOp oSub (eVar 2) (eK (.int 2)))) (aCons (eVar 3) (aCons (eCa (Cm.f .P m__law_sure_value) (aCons (eOp oFdiv (eVar 0) (eK (.int 32))) (aCons (eVar 4) (aCons (eVar 1) (aNil))))) (aNil)))))))))
def m__law_plain : List D → Hv → R D := fnQ 2 3 b__law_plain
def b__law_closed : SS := sSeq (sAsg (eBM mPop (eVar 0) aNil) (gT 2 (gsCons (gN 1) (gsCons (gN 2) (gsNil))))) (sIf (toB (eOp oEq (eVar 1) (eK (.str "not")))) (sDrop (eBM mAppend (eOp oIx (eOp oIx (eVar 0) (eUn uNeg (eK (.int 1)))) (eK (.int 1))) (aCons (eTup (aCons (eK (.str "not")) (aCons (eOp oIx (eV (eOp oCat (eVar 2) (eV (lLst (aCons (eTup (aCons (eK (.str "all")) (aCons (eTup (aNil)) (aNil)))) (aNil)))))) (eK (.int 0))) (aNil)))) (aNil)))) (sDrop (eBM mAppend (eOp oIx (eOp oIx (eVar 0) (eUn uNeg (eK (.int 1)))) (eK (.int 1))) (aCons (eTup (aCons (eVar 1) (aCons (eCa bTuple (aCons (eVar 2) (aNil))) (aNil)))) (aNil)))))
def m__law_closed : List D → Hv → R D := fnW 1 2 b__law_closed
def l__law_grown_1 : SS := sFor (iR2 (aCons (eK (.int 1)) (aCons (eCa bLen (aCons (eVar 0) (aNil))) (aNil)))) (gN 4) (sSeq (sSet 5 (eCa (Cm.f .P m__law_mix) (aCons (eOp oIx (eVar 0) (eVar 4)) (aCons (eVar 4) (aNil))))) (sIf (cAnd (toB (eOp oEq (eOp oMod (eVar 5) (eK (.int 4))) (eK (.int 0)))) (cAnd (toB (eOp oLt (eCa bLen (aCons (eVar 2) (aNil))) (eK (.int 11)))) (toB (eOp oLt (eVar 3) (eK (.int 57)))))) (sSeq (sDrop (eBM mAppend (eVar 2) (aCons (eTup (aCons (eOp oIx (eV (lLst (aCons (eK (.str "not")) (aCons (eK (.str "all")) (aCons (eK (.str "some")) (aNil)))))) (eOp oMod (eOp oFdiv (eVar 5) (eK (.int 4))) (eK (.int 3)))) (aCons (eC (lLst (aNil))) (aNil)))) (aNil)))) (sSet 3 (eOp oAdd (eVar 3) (eK (.int 2))))) (sIf (cAnd (toB (eOp oEq (eOp oMod (eVar 5) (eK (.int 8))) (eK (.int 1)))) (toB (eOp oGt (eCa bLen (aCons (eVar 2) (aNil))) (eK (.int 1))))) (sDrop (eCa (Cm.f .M m__law_closed) (aCons (eVar 2) (aNil)))) (sIf (cAnd (toB (eOp oLt (eVar 3) (eK (.int 58)))) (cOr (toB (eOp oNe (eOp oIx (eOp oIx (eVar 2) (eUn uNeg (eK (.int 1)))) (eK (.int 0))) (eK (.str "not")))) (toB (eOp oEqQ (eOp oIx (eOp oIx (eVar 2) (eUn uNeg (eK (.int 1)))) (eK (.int 1))) (eV (lLst (aNil))))))) (sSeq (sDrop (eBM mAppend (eOp oIx (eOp oIx (eVar 2) (eUn uNeg (eK (.int 1)))) (eK (.int 1))) (aCons (eCa (callQ m__law_plain) (aCons (eCa (Cm.f .P m__law_mix) (aCons (eVar 5) (aCons (eK (.int 1)) (aNil)))) (aCons (eVar 1) (aNil)))) (aNil)))) (sSet 3 (eOp oAdd (eVar 3) (eK (.int 1))))) (sNext)))))
def l__law_grown_2 : SS := sLoop (toB (eOp oGt (eCa bLen (aCons (eVar 2) (aNil))) (eK (.int 1)))) (sDrop (eCa (Cm.f .M m__law_closed) (aCons (eVar 2) (aNil))))
def b__law_grown : SS := sSeq (sSet 2 (eC (lLst (aCons (eTup (aCons (eOp oIx (eV (lLst (aCons (eK (.str "all")) (aCons (eK (.str "some")) (aNil))))) (eOp oMod (eOp oIx (eVar 0) (eK (.int 0))) (eK (.int 2)))) (aCons (eC (lLst (aNil))) (aNil)))) (aNil))))) (sSeq (sSet 3 (eK (.int 1))) (sSeq (l__law_grown_1) (sSeq (l__law_grown_2) (sRet (eTup (aCons (eOp oIx (eOp oIx (eVar 2) (eK (.int 0))) (eK (.int 0))) (aCons (eCa bTuple (aCons (eOp oIx (eOp oIx (eVar 2) (eK (.int 0))) (eK (.int 1))) (aNil))) (aNil))))))))
def m__law_grown : List D → Hv → R D := fnQ 2 4 b__law_grown
def l__law_written_1 : SS := sLoop (toB (eOp oGt (eVar 1) (eK (.int 0)))) (sSeq (sSet 2 (eOp oAdd (eOp oIx (eK (.str "0123456789")) (eOp oMod (eVar 1) (eK (.int 10)))) (eVar 2))) (sSet 1 (eOp oFdiv (eVar 1) (eK (.int 10)))))
def b__law_written : SS := sSeq (sIf (toB (eIsi "str" (eVar 0))) (sRet (eVar 0)) (sNext)) (sSeq (sSet 1 (eCa bAbs (aCons (eVar 0) (aNil)))) (sSeq (sSet 2 (eOp oIx (eV (lLst (aCons (eK (.str "")) (aCons (eK (.str "0")) (aNil))))) (eCa bIntA (aCons (eOp oEq (eVar 1) (eK (.int 0))) (aNil))))) (sSeq (l__law_written_1) (sRet (eOp oAdd (eOp oIx (eV (lLst (aCons (eK (.str "")) (aCons (eK (.str "-")) (aNil))))) (eCa bIntA (aCons (eOp oLt (eVar 0) (eK (.int 0))) (aNil)))) (eVar 2))))))
def m__law_written : List D → Hv → R D := fnS 1 2 b__law_written
def l__law_text_1 (rc : List D → Hv → R D) : SS := sFor (iR1 (aCons (eCa bLen (aCons (eOp oIx (eVar 0) (eK (.int 1))) (aNil))) (aNil))) (gN 3) (sSeq (sIf (toB (eOp oGt (eVar 3) (eK (.int 0)))) (sSet 2 (eOp oAdd (eVar 2) (eVar 1))) (sNext)) (sSet 2 (eOp oAdd (eVar 2) (eCa (callQ rc) (aCons (eOp oIx (eOp oIx (eVar 0) (eK (.int 1))) (eVar 3)) (aNil))))))
def b__law_text (rc : List D → Hv → R D) : SS := sSeq (sIf (toB (eOp oEq (eOp oIx (eVar 0) (eK (.int 0))) (eK (.str "not")))) (sRet (eOp oAdd (eK (.str "!")) (eCa (callQ rc) (aCons (eOp oIx (eVar 0) (eK (.int 1))) (aNil))))) (sNext)) (sSeq (sIf (toB (eOp oEq (eOp oIx (eVar 0) (eK (.int 0))) (eK (.str "lacks")))) (sRet (eOp oAdd (eOp oIx (eVar 0) (eK (.int 1))) (eK (.str "?")))) (sNext)) (sSeq (sIf (toB (eOp oInP (eOp oIx (eVar 0) (eK (.int 0))) (eV (lLst (aCons (eK (.str "is")) (aCons (eK (.str "under")) (aCons (eK (.str "over")) (aNil)))))))) (sRet (eOp oAdd (eOp oAdd (eOp oIx (eVar 0) (eK (.int 1))) (eOp oDget (eDispF (pCons (eK (.str "is")) (eK (.str "=")) (pCons (eK (.str "under")) (eK (.str "<")) (pCons (eK (.str "over")) (eK (.str ">")) (pNil))))) (eOp oIx (eVar 0) (eK (.int 0))))) (eCa (Cm.f .P m__law_written) (aCons (eOp oIx (eVar 0) (eK (.int 2))) (aNil))))) (sNext)) (sSeq (sSet 1 (eOp oDget (eDispF (pCons (eK (.str "all")) (eK (.str "&")) (pCons (eK (.str "some")) (eK (.str "|")) (pNil)))) (eOp oIx (eVar 0) (eK (.int 0))))) (sSeq (sSet 2 (eOp oAdd (eK (.str "(")) (eVar 1))) (sSeq ((l__law_text_1 rc)) (sRet (eOp oAdd (eVar 2) (eK (.str ")")))))))))
def m__law_text : Nat → List D → Hv → R D
  | 0 => fnQ 1 3 sNever
  | n + 1 => fnQ 1 3 (b__law_text (m__law_text n))
def l_law_1 : SS := sFor (iR1 (aCons (eK (.int 4)) (aNil))) (gN 4) (sDrop (eBM mAppend (eVar 3) (aCons (eCa (callQ m__law_plain) (aCons (eOp oAdd (eOp oMul (eOp oFdiv (eCa (Cm.f .P m__law_mix) (aCons (eCa (Cm.f .P m__law_cell_at) (aCons (eVar 0) (aCons (eK (.int 1)) (aNil)))) (aCons (eOp oAdd (eK (.int 20)) (eVar 4)) (aNil)))) (eK (.int 32))) (eK (.int 32))) (eOp oMul (eK (.int 8)) (eVar 4))) (aCons (eVar 1) (aNil)))) (aNil))))
def l_law_2 : SS := sFor (iC (eVar 3)) (gN 5) (sSeq (sSet 6 (eCa (callQ (m__law_text 16)) (aCons (eVar 5) (aNil)))) (sSeq (sSet 7 (eCa (callQ (m_shown_sieve 16)) (aCons (eVar 5) (aNil)))) (sSeq (sIf (cOr (cNot (toB (eIsi "str" (eVar 7)))) (toB (eOp oNe (eVar 7) (eVar 6)))) (sRet (eK (.bl false))) (sNext)) (sIf (cOr (toB (eOp oNeQ (eCa (callQ m_read_sieve) (aCons (eVar 2) (aCons (eVar 6) (aNil)))) (eVar 5))) (toB (eOp oNeQ (eVar 2) (eOp oDget (eVar 1) (eK (.str "fields")))))) (sRet (eK (.bl false))) (sNext)))))
def b_law : SS := sSeq (sSet 1 (eCa (Cm.f .P m__law_world) (aCons (eVar 0) (aNil)))) (sSeq (sSet 2 (eV (eCa bList (aCons (eOp oDget (eVar 1) (eK (.str "fields"))) (aNil))))) (sSeq (sSet 3 (eC (lLst (aCons (eCa (callQ m__law_grown) (aCons (eV (eOp oCat (eV (lLst (aCons (eCa (Cm.f .P m__law_cell_at) (aCons (eVar 0) (aCons (eK (.int 1)) (aNil)))) (aNil)))) (eV (lSl (eVar 0) (pAt (eK (.int 2))) (pAt (eK (.int 58))))))) (aCons (eVar 1) (aNil)))) (aCons (eTup (aCons (eK (.str "all")) (aCons (eTup (aNil)) (aNil)))) (aCons (eTup (aCons (eK (.str "some")) (aCons (eTup (aNil)) (aNil)))) (aNil))))))) (sSeq (l_law_1) (sSeq (l_law_2) (sRet (eK (.bl true)))))))
def m_law : List D → Hv → R D := fnS 1 7 b_law
end
structure Tx (K : PySem.W.Frag) (mg : Str → Option Value) (w : World) : Prop where
  d_written : ∃ fd, Fun K "written" "written" s_written (He.ga K "written") fd
  g_written : mg "written" = some (.ref (He.ga K "written"))
  d_shown_sieve : ∃ fd, Fun K "shown_sieve" "shown_sieve" s_shown_sieve (He.ga K "shown_sieve") fd
  g_shown_sieve : mg "shown_sieve" = some (.ref (He.ga K "shown_sieve"))
  d_made_of : ∃ fd, Fun K "made_of" "made_of" s_made_of (He.ga K "made_of") fd
  g_made_of : mg "made_of" = some (.ref (He.ga K "made_of"))
  d_is_name : ∃ fd, Fun K "is_name" "is_name" s_is_name (He.ga K "is_name") fd
  g_is_name : mg "is_name" = some (.ref (He.ga K "is_name"))
  d_is_word : ∃ fd, Fun K "is_word" "is_word" s_is_word (He.ga K "is_word") fd
  g_is_word : mg "is_word" = some (.ref (He.ga K "is_word"))
  d_is_number_text : ∃ fd, Fun K "is_number_text" "is_number_text" s_is_number_text (He.ga K "is_number_text") fd
  g_is_number_text : mg "is_number_text" = some (.ref (He.ga K "is_number_text"))
  d_read_value : ∃ fd, Fun K "read_value" "read_value" s_read_value (He.ga K "read_value") fd
  g_read_value : mg "read_value" = some (.ref (He.ga K "read_value"))
  d_run_of : ∃ fd, Fun K "run_of" "run_of" s_run_of (He.ga K "run_of") fd
  g_run_of : mg "run_of" = some (.ref (He.ga K "run_of"))
  d_plain_at : ∃ fd, Fun K "plain_at" "plain_at" s_plain_at (He.ga K "plain_at") fd
  g_plain_at : mg "plain_at" = some (.ref (He.ga K "plain_at"))
  d_sieve_at : ∃ fd, Fun K "sieve_at" "sieve_at" s_sieve_at (He.ga K "sieve_at") fd
  g_sieve_at : mg "sieve_at" = some (.ref (He.ga K "sieve_at"))
  d_sieves_in : ∃ fd, Fun K "sieves_in" "sieves_in" s_sieves_in (He.ga K "sieves_in") fd
  g_sieves_in : mg "sieves_in" = some (.ref (He.ga K "sieves_in"))
  d_field_at : ∃ fd, Fun K "field_at" "field_at" s_field_at (He.ga K "field_at") fd
  g_field_at : mg "field_at" = some (.ref (He.ga K "field_at"))
  d_is_whole : ∃ fd, Fun K "is_whole" "is_whole" s_is_whole (He.ga K "is_whole") fd
  g_is_whole : mg "is_whole" = some (.ref (He.ga K "is_whole"))
  d_is_value : ∃ fd, Fun K "is_value" "is_value" s_is_value (He.ga K "is_value") fd
  g_is_value : mg "is_value" = some (.ref (He.ga K "is_value"))
  d_asked_sieve : ∃ fd, Fun K "asked_sieve" "asked_sieve" s_asked_sieve (He.ga K "asked_sieve") fd
  g_asked_sieve : mg "asked_sieve" = some (.ref (He.ga K "asked_sieve"))
  d_by_kinds : ∃ fd, Fun K "by_kinds" "by_kinds" s_by_kinds (He.ga K "by_kinds") fd
  g_by_kinds : mg "by_kinds" = some (.ref (He.ga K "by_kinds"))
  d_read_sieve : ∃ fd, Fun K "read_sieve" "read_sieve" s_read_sieve (He.ga K "read_sieve") fd
  g_read_sieve : mg "read_sieve" = some (.ref (He.ga K "read_sieve"))
  d__law_cell_at : ∃ fd, Fun K "_law_cell_at" "_law_cell_at" s__law_cell_at (He.ga K "_law_cell_at") fd
  g__law_cell_at : mg "_law_cell_at" = some (.ref (He.ga K "_law_cell_at"))
  d__law_mix : ∃ fd, Fun K "_law_mix" "_law_mix" s__law_mix (He.ga K "_law_mix") fd
  g__law_mix : mg "_law_mix" = some (.ref (He.ga K "_law_mix"))
  d__law_heads : ∃ fd, Fun K "_law_heads" "_law_heads" s__law_heads (He.ga K "_law_heads") fd
  g__law_heads : mg "_law_heads" = some (.ref (He.ga K "_law_heads"))
  d__law_world : ∃ fd, Fun K "_law_world" "_law_world" s__law_world (He.ga K "_law_world") fd
  g__law_world : mg "_law_world" = some (.ref (He.ga K "_law_world"))
  d__law_sure_value : ∃ fd, Fun K "_law_sure_value" "_law_sure_value" s__law_sure_value (He.ga K "_law_sure_value") fd
  g__law_sure_value : mg "_law_sure_value" = some (.ref (He.ga K "_law_sure_value"))
  d__law_plain : ∃ fd, Fun K "_law_plain" "_law_plain" s__law_plain (He.ga K "_law_plain") fd
  g__law_plain : mg "_law_plain" = some (.ref (He.ga K "_law_plain"))
  d__law_closed : ∃ fd, Fun K "_law_closed" "_law_closed" s__law_closed (He.ga K "_law_closed") fd
  g__law_closed : mg "_law_closed" = some (.ref (He.ga K "_law_closed"))
  d__law_grown : ∃ fd, Fun K "_law_grown" "_law_grown" s__law_grown (He.ga K "_law_grown") fd
  g__law_grown : mg "_law_grown" = some (.ref (He.ga K "_law_grown"))
  d__law_written : ∃ fd, Fun K "_law_written" "_law_written" s__law_written (He.ga K "_law_written") fd
  g__law_written : mg "_law_written" = some (.ref (He.ga K "_law_written"))
  d__law_text : ∃ fd, Fun K "_law_text" "_law_text" s__law_text (He.ga K "_law_text") fd
  g__law_text : mg "_law_text" = some (.ref (He.ga K "_law_text"))
  d_law : ∃ fd, Fun K "law" "law" s_law (He.ga K "law") fd
  g_law : mg "law" = some (.ref (He.ga K "law"))
  n_str : mg "str" = none
  n_isinstance : mg "isinstance" = none
  n_len : mg "len" = none
  n_int : mg "int" = none
  n_tuple : mg "tuple" = none
  n_sum : mg "sum" = none
  n_range : mg "range" = none
  n_bool : mg "bool" = none
  n_abs : mg "abs" = none
  n_list : mg "list" = none
  c_MOST_SIGNS_values : ∃ t, mg "MOST_SIGNS_values" = some (.int 12 t)
  c_SMALL : ∃ t, mg "SMALL" = some (.str "abcdefghijklmnopqrstuvwxyz" t)
  c_FIGURES : ∃ t, mg "FIGURES" = some (.str "0123456789" t)
  c_MOST_FIGURES : ∃ t, mg "MOST_FIGURES" = some (.int 60 t)
  c_LETTERS : ∃ t, mg "LETTERS" = some (.str "abcdefghijklmnopqrstuvwxyz" t)
  c_IN_VALUES : ∃ t, mg "IN_VALUES" = some (.str "abcdefghijklmnopqrstuvwxyz0123456789-" t)
  c_MOST_SIGNS_sieve_texts : ∃ t, mg "MOST_SIGNS_sieve_texts" = some (.int 61 t)
  c_MOST_LEVELS : ∃ t, mg "MOST_LEVELS" = some (.int 12 t)
  c_MOST_SIEVES : ∃ t, mg "MOST_SIEVES" = some (.int 60 t)
  t_SIGNS : TabT K w mg "SIGNS" tb_SIGNS
  e_NoSieve : ExcT K mg "NoSieve" (He.ga K "NoSieve")
  k_NoField : mg "NoField" = some (.ref (He.ga K "NoField"))
  k_CrossError : mg "CrossError" = some (.ref (He.ga K "CrossError"))
  k_NoKind : mg "NoKind" = some (.ref (He.ga K "NoKind"))
  p_NoField : ∃ fd, Fun K "__init__" "NoField.__init__" i_NoField (He.ma K (He.ga K "NoField") "__init__") fd
  m_NoField : Meth K (He.ga K "NoField") "__init__" (He.ma K (He.ga K "NoField") "__init__")
  p_NoKind : ∃ fd, Fun K "__init__" "NoKind.__init__" i_NoKind (He.ma K (He.ga K "NoKind") "__init__") fd
  m_NoKind : Meth K (He.ga K "NoKind") "__init__" (He.ma K (He.ga K "NoKind") "__init__")
  ce : (efs.all fun f => f.ok K) = true
section
variable {P : Program} {w : World} {K : PySem.W.Frag} {mg : Str → Option Value} {base : Heap}
theorem pay_NoField (T : Tx K mg w) : PayT P w K mg base 1 "NoField" "name" := by
  obtain ⟨fd, F⟩ := T.p_NoField
  have ox := oexB_ok (ef_at T.ce (f := .oex "NoField") (by simp [efs]))
  have no := of_decide_eq_true (ef_at T.ce (f := .nof "NoField" "name") (by simp [efs]))
  have bi : biB K (He.ga K "CrossError") = true := ef_at T.ce (f := .bi "CrossError") (by simp [efs])
  refine ⟨T.k_NoField, ox, no, _, fd, ["self", "name"], T.m_NoField.at_, beq_iff_eq.mp T.m_NoField.fn, payInit_ok (z := "a name of no field") F sci_NoField rfl rfl (fun cdv A outer s H E hr => ?_), F.binds (ps := ["self", "name"]) fun _ _ _ _ _ _ us hl => match us, hl with | [_, _], _ => rfl⟩
  exact pss_cons (ps_expr (pe_ceinit rfl T.k_CrossError bi (pa_cons (pv 0) (pa_cons pe_str pa_nil)))) (pss_one (ps_ost (pv 0) (pv 1)))
theorem pay_NoKind (T : Tx K mg w) : PayT P w K mg base 1 "NoKind" "name" := by
  obtain ⟨fd, F⟩ := T.p_NoKind
  have ox := oexB_ok (ef_at T.ce (f := .oex "NoKind") (by simp [efs]))
  have no := of_decide_eq_true (ef_at T.ce (f := .nof "NoKind" "name") (by simp [efs]))
  have bi : biB K (He.ga K "CrossError") = true := ef_at T.ce (f := .bi "CrossError") (by simp [efs])
  refine ⟨T.k_NoKind, ox, no, _, fd, ["self", "name"], T.m_NoKind.at_, beq_iff_eq.mp T.m_NoKind.fn, payInit_ok (z := "a field of another kind") F sci_NoKind rfl rfl (fun cdv A outer s H E hr => ?_), F.binds (ps := ["self", "name"]) fun _ _ _ _ _ _ us hl => match us, hl with | [_, _], _ => rfl⟩
  exact pss_cons (ps_expr (pe_ceinit rfl T.k_CrossError bi (pa_cons (pv 0) (pa_cons pe_str pa_nil)))) (pss_one (ps_ost (pv 0) (pv 1)))
theorem ok_written (T : Tx K mg w) : OkF P w K mg base 1 "written" ["value"] m_written := by
  obtain ⟨fd, F⟩ := T.d_written
  refine okF_mk F sc_written rfl rfl T.g_written (F.binds (ps := ["value"]) fun _ _ _ _ _ _ us hl => match us, hl with | [_], _ => rfl) fun cdv A outer s H E hr => ?_
  have hu := Nat.lt_of_le_of_lt (Nat.add_le_add_left (show 1 ≤ 64 by decide) _) hr.units
  have tk := takes_fn (P := P) (w := w) (K := K) (mg := mg) (base := base) (N := N_written) (qual := "written") (scope := defScope s_written) (f := (He.ga K "written")) (cd := cdv) (A := A) (outer := outer) (s := s) (H := H) (E := E)
  have hp := passes_fn (P := P) (w := w) (K := K) (mg := mg) (base := base) (N := N_written) (qual := "written") (scope := defScope s_written) (f := (He.ga K "written")) (cd := cdv) (A := A) (outer := outer) (s := s) (H := H) (E := E)
  exact qb_cons (qs_if (st_cmp (op_isA) os_is (se_var (i := 0)) (se_non) (nomark _)) (qb_one (qs_ret (se_str))) (qb_nil)) (qb_one (qs_ret (se_callT call_strA cs_strA (T.n_str) (by decide +kernel) (sa_cons (se_var (i := 0)) (sa_nil)))))
theorem ok_shown_sieve (T : Tx K mg w) : ∀ n : Nat, OkF P w K mg base (2 + n) "shown_sieve" ["sieve"] (m_shown_sieve n)
  | 0 => by
    obtain ⟨fd, F⟩ := T.d_shown_sieve
    refine okQ_mk F sc_shown_sieve rfl rfl T.g_shown_sieve (F.binds (ps := ["sieve"]) fun _ _ _ _ _ _ us hl => match us, hl with | [_], _ => rfl) fun cdv A outer s H E hr => ?_
    exact qb_never
  | n + 1 => by
    have ih := ok_shown_sieve T n
    obtain ⟨fd, F⟩ := T.d_shown_sieve
    refine okQ_mk F sc_shown_sieve rfl rfl T.g_shown_sieve (F.binds (ps := ["sieve"]) fun _ _ _ _ _ _ us hl => match us, hl with | [_], _ => rfl) fun cdv A outer s H E hr => ?_
    have hu := Nat.lt_of_le_of_lt (Nat.add_le_add_left (show 1 ≤ 64 by decide) _) hr.units
    have tk := takes_fn (P := P) (w := w) (K := K) (mg := mg) (base := base) (N := N_shown_sieve) (qual := "shown_sieve") (scope := defScope s_shown_sieve) (f := (He.ga K "shown_sieve")) (cd := cdv) (A := A) (outer := outer) (s := s) (H := H) (E := E)
    have hp := passes_fn (P := P) (w := w) (K := K) (mg := mg) (base := base) (N := N_shown_sieve) (qual := "shown_sieve") (scope := defScope s_shown_sieve) (f := (He.ga K "shown_sieve")) (cd := cdv) (A := A) (outer := outer) (s := s) (H := H) (E := E)
    exact qb_cons (qs_if (st_cmp (op_eqP hr.units) os_eq (se_ix (se_var (i := 0)) (se_int)) (se_str) (nomark _)) (qb_one (qs_ret (se_op op_addA os_add (se_str) (se_fnQ ih hr tk (sa_cons (se_ix (se_var (i := 0)) (se_int)) (sa_nil)))))) (qb_nil)) (qb_cons (qs_if (st_cmp (op_eqP hr.units) os_eq (se_ix (se_var (i := 0)) (se_int)) (se_str) (nomark _)) (qb_one (qs_ret (se_op op_addA os_add (se_op op_addA os_add (se_str) (se_join (se_str) (se_V (sl_lc (own := [("part", 1)]) sc_shown_sieve.nd (qi_tup (se_ix (se_var (i := 0)) (se_int))) (blkOk_by (N := N_shown_sieve) (sc := defScope s_shown_sieve) (by decide +kernel)) (fun _ _ _ _ _ => qg_name sc_shown_sieve.nd) (by decide) (fun _ _ _ _ _ => scs_nil) (fun _ _ _ _ _ => se_fnQ ih hr takes0 (sa_cons (se_var (i := 1)) (sa_nil))))))) (se_str)))) (qb_nil)) (qb_cons (qs_if (st_cmp (op_eqP hr.units) os_eq (se_ix (se_var (i := 0)) (se_int)) (se_str) (nomark _)) (qb_one (qs_ret (se_op op_addA os_add (se_op op_addA os_add (se_str) (se_join (se_str) (se_V (sl_lc (own := [("part", 1)]) sc_shown_sieve.nd (qi_tup (se_ix (se_var (i := 0)) (se_int))) (blkOk_by (N := N_shown_sieve) (sc := defScope s_shown_sieve) (by decide +kernel)) (fun _ _ _ _ _ => qg_name sc_shown_sieve.nd) (by decide) (fun _ _ _ _ _ => scs_nil) (fun _ _ _ _ _ => se_fnQ ih hr takes0 (sa_cons (se_var (i := 1)) (sa_nil))))))) (se_str)))) (qb_nil)) (qb_cons (qs_if (st_cmp (op_eqP hr.units) os_eq (se_ix (se_var (i := 0)) (se_int)) (se_str) (nomark _)) (qb_one (qs_ret (se_op op_addA os_add (se_ix (se_var (i := 0)) (se_int)) (se_str)))) (qb_nil)) (qb_one (qs_ret (se_op op_addA os_add (se_op op_addA os_add (se_ix (se_var (i := 0)) (se_int)) (se_getTab T.t_SIGNS (se_ix (se_var (i := 0)) (se_int)))) (se_fn .P (ok_written T) (hr.mono (Nat.le_trans (by decide) (Nat.le_add_right 2 _))) tk (sa_cons (se_ix (se_var (i := 0)) (se_int)) (sa_nil)))))))))
theorem ok_made_of (T : Tx K mg w) : OkF P w K mg base 1 "made_of" ["thing", "signs", "most"] m_made_of := by
  obtain ⟨fd, F⟩ := T.d_made_of
  refine okF_mk F sc_made_of rfl rfl T.g_made_of (F.binds (ps := ["thing", "signs", "most"]) fun _ _ _ _ _ _ us hl => match us, hl with | [_, _, _], _ => rfl) fun cdv A outer s H E hr => ?_
  have hu := Nat.lt_of_le_of_lt (Nat.add_le_add_left (show 1 ≤ 64 by decide) _) hr.units
  have tk := takes_fn (P := P) (w := w) (K := K) (mg := mg) (base := base) (N := N_made_of) (qual := "made_of") (scope := defScope s_made_of) (f := (He.ga K "made_of")) (cd := cdv) (A := A) (outer := outer) (s := s) (H := H) (E := E)
  have hp := passes_fn (P := P) (w := w) (K := K) (mg := mg) (base := base) (N := N_made_of) (qual := "made_of") (scope := defScope s_made_of) (f := (He.ga K "made_of")) (cd := cdv) (A := A) (outer := outer) (s := s) (H := H) (E := E)
  exact qb_cons (qs_if (st_w (sw_or (st_not (st_val (se_isi (T := "str") T.n_isinstance T.n_str (by decide +kernel) (se_var (i := 0))))) (sw_or (st_cmp (op_ltA) os_lt (se_callB call_len cs_len (T.n_len) (by decide +kernel) (sa_cons (se_var (i := 0)) (sa_nil))) (se_int) (nomark _)) (sw_or1 (st_cmp (op_gtA) os_gt (se_callB call_len cs_len (T.n_len) (by decide +kernel) (sa_cons (se_var (i := 0)) (sa_nil))) (se_var (i := 2)) (nomark _)))))) (qb_one (qs_ret (se_bl))) (qb_nil)) (qb_cons (qs_for hp (qi_str (se_var (i := 0))) (qg_name sc_made_of.nd) (qb_one (qs_if (st_cmp (op_notInA) os_notIn (se_var (i := 3)) (se_var (i := 1)) (by rfl)) (qb_one (qs_ret (se_bl))) (qb_nil)))) (qb_one (qs_ret (se_bl))))
theorem ok_is_name (T : Tx K mg w) : OkF P w K mg base 2 "is_name" ["thing"] m_is_name := by
  obtain ⟨fd, F⟩ := T.d_is_name
  refine okF_mk F sc_is_name rfl rfl T.g_is_name (F.binds (ps := ["thing"]) fun _ _ _ _ _ _ us hl => match us, hl with | [_], _ => rfl) fun cdv A outer s H E hr => ?_
  have hu := Nat.lt_of_le_of_lt (Nat.add_le_add_left (show 1 ≤ 64 by decide) _) hr.units
  have tk := takes_fn (P := P) (w := w) (K := K) (mg := mg) (base := base) (N := N_is_name) (qual := "is_name") (scope := defScope s_is_name) (f := (He.ga K "is_name")) (cd := cdv) (A := A) (outer := outer) (s := s) (H := H) (E := E)
  have hp := passes_fn (P := P) (w := w) (K := K) (mg := mg) (base := base) (N := N_is_name) (qual := "is_name") (scope := defScope s_is_name) (f := (He.ga K "is_name")) (cd := cdv) (A := A) (outer := outer) (s := s) (H := H) (E := E)
  exact qb_one (qs_ret (se_fn .P (ok_made_of T) hr tk (sa_cons (se_var (i := 0)) (sa_cons ((by obtain ⟨t, ht⟩ := T.c_SMALL; exact se_globS ht)) (sa_cons ((by obtain ⟨t, ht⟩ := T.c_MOST_SIGNS_values; exact se_globI ht)) (sa_nil))))))
theorem ok_is_word (T : Tx K mg w) : OkF P w K mg base 2 "is_word" ["thing"] m_is_word := by
  obtain ⟨fd, F⟩ := T.d_is_word
  refine okF_mk F sc_is_word rfl rfl T.g_is_word (F.binds (ps := ["thing"]) fun _ _ _ _ _ _ us hl => match us, hl with | [_], _ => rfl) fun cdv A outer s H E hr => ?_
  have hu := Nat.lt_of_le_of_lt (Nat.add_le_add_left (show 1 ≤ 64 by decide) _) hr.units
  have tk := takes_fn (P := P) (w := w) (K := K) (mg := mg) (base := base) (N := N_is_word) (qual := "is_word") (scope := defScope s_is_word) (f := (He.ga K "is_word")) (cd := cdv) (A := A) (outer := outer) (s := s) (H := H) (E := E)
  have hp := passes_fn (P := P) (w := w) (K := K) (mg := mg) (base := base) (N := N_is_word) (qual := "is_word") (scope := defScope s_is_word) (f := (He.ga K "is_word")) (cd := cdv) (A := A) (outer := outer) (s := s) (H := H) (E := E)
  exact qb_one (qs_ret (se_fn .P (ok_made_of T) hr tk (sa_cons (se_var (i := 0)) (sa_cons (se_op op_addA os_add ((by obtain ⟨t, ht⟩ := T.c_SMALL; exact se_globS ht)) ((by obtain ⟨t, ht⟩ := T.c_FIGURES; exact se_globS ht))) (sa_cons ((by obtain ⟨t, ht⟩ := T.c_MOST_SIGNS_values; exact se_globI ht)) (sa_nil))))))
theorem ok_is_number_text (T : Tx K mg w) : OkF P w K mg base 2 "is_number_text" ["text"] m_is_number_text := by
  obtain ⟨fd, F⟩ := T.d_is_number_text
  refine okF_mk F sc_is_number_text rfl rfl T.g_is_number_text (F.binds (ps := ["text"]) fun _ _ _ _ _ _ us hl => match us, hl with | [_], _ => rfl) fun cdv A outer s H E hr => ?_
  have hu := Nat.lt_of_le_of_lt (Nat.add_le_add_left (show 1 ≤ 64 by decide) _) hr.units
  have tk := takes_fn (P := P) (w := w) (K := K) (mg := mg) (base := base) (N := N_is_number_text) (qual := "is_number_text") (scope := defScope s_is_number_text) (f := (He.ga K "is_number_text")) (cd := cdv) (A := A) (outer := outer) (s := s) (H := H) (E := E)
  have hp := passes_fn (P := P) (w := w) (K := K) (mg := mg) (base := base) (N := N_is_number_text) (qual := "is_number_text") (scope := defScope s_is_number_text) (f := (He.ga K "is_number_text")) (cd := cdv) (A := A) (outer := outer) (s := s) (H := H) (E := E)
  exact qb_cons (qs_set (i := 1) sc_is_number_text.nd (se_var (i := 0))) (qb_cons (qs_if (st_cmp (op_eqP hr.units) os_eq (se_sl (se_var (i := 0)) (so_no) (so_at (se_int))) (se_str) (nomark _)) (qb_one (qs_set (i := 1) sc_is_number_text.nd (se_sl (se_var (i := 0)) (so_at (se_int)) (so_no)))) (qb_nil)) (qb_cons (qs_if (st_not (st_val (se_fn .P (ok_made_of T) hr tk (sa_cons (se_var (i := 1)) (sa_cons ((by obtain ⟨t, ht⟩ := T.c_FIGURES; exact se_globS ht)) (sa_cons ((by obtain ⟨t, ht⟩ := T.c_MOST_FIGURES; exact se_globI ht)) (sa_nil))))))) (qb_one (qs_ret (se_bl))) (qb_nil)) (qb_one (qs_ret (se_or (se_cmp (op_neP hr.units) os_ne (se_ix (se_var (i := 1)) (se_int)) (se_str) (nomark _)) (se_one (se_cmp (op_eqP hr.units) os_eq (se_var (i := 0)) (se_str) (nomark _))))))))
theorem ok_read_value (T : Tx K mg w) : OkF P w K mg base 3 "read_value" ["kind", "text"] m_read_value := by
  obtain ⟨fd, F⟩ := T.d_read_value
  refine okF_mk F sc_read_value rfl rfl T.g_read_value (F.binds (ps := ["kind", "text"]) fun _ _ _ _ _ _ us hl => match us, hl with | [_, _], _ => rfl) fun cdv A outer s H E hr => ?_
  have hu := Nat.lt_of_le_of_lt (Nat.add_le_add_left (show 1 ≤ 64 by decide) _) hr.units
  have tk := takes_fn (P := P) (w := w) (K := K) (mg := mg) (base := base) (N := N_read_value) (qual := "read_value") (scope := defScope s_read_value) (f := (He.ga K "read_value")) (cd := cdv) (A := A) (outer := outer) (s := s) (H := H) (E := E)
  have hp := passes_fn (P := P) (w := w) (K := K) (mg := mg) (base := base) (N := N_read_value) (qual := "read_value") (scope := defScope s_read_value) (f := (He.ga K "read_value")) (cd := cdv) (A := A) (outer := outer) (s := s) (H := H) (E := E)
  exact qb_cons (qs_if (st_cmp (op_eqP hr.units) os_eq (se_var (i := 0)) (se_str) (nomark _)) (qb_cons (qs_if (st_val (se_fn .P (ok_is_word T) hr tk (sa_cons (se_var (i := 1)) (sa_nil)))) (qb_one (qs_ret (se_var (i := 1)))) (qb_nil)) (qb_one (qs_ret (se_non)))) (qb_nil)) (qb_cons (qs_if (st_val (se_fn .P (ok_is_number_text T) hr tk (sa_cons (se_var (i := 1)) (sa_nil)))) (qb_one (qs_ret (se_callT call_intA cs_intA (T.n_int) (by decide +kernel) (sa_cons (se_var (i := 1)) (sa_nil))))) (qb_nil)) (qb_one (qs_ret (se_non))))
theorem ok_run_of (T : Tx K mg w) : OkF P w K mg base 1 "run_of" ["text", "at", "signs"] m_run_of := by
  obtain ⟨fd, F⟩ := T.d_run_of
  refine okF_mk F sc_run_of rfl rfl T.g_run_of (F.binds (ps := ["text", "at", "signs"]) fun _ _ _ _ _ _ us hl => match us, hl with | [_, _, _], _ => rfl) fun cdv A outer s H E hr => ?_
  have hu := Nat.lt_of_le_of_lt (Nat.add_le_add_left (show 1 ≤ 64 by decide) _) hr.units
  have tk := takes_fn (P := P) (w := w) (K := K) (mg := mg) (base := base) (N := N_run_of) (qual := "run_of") (scope := defScope s_run_of) (f := (He.ga K "run_of")) (cd := cdv) (A := A) (outer := outer) (s := s) (H := H) (E := E)
  have hp := passes_fn (P := P) (w := w) (K := K) (mg := mg) (base := base) (N := N_run_of) (qual := "run_of") (scope := defScope s_run_of) (f := (He.ga K "run_of")) (cd := cdv) (A := A) (outer := outer) (s := s) (H := H) (E := E)
  exact qb_cons (qs_loop hp (st_w (sw_and (st_cmp (op_ltA) os_lt (se_var (i := 1)) (se_callB call_len cs_len (T.n_len) (by decide +kernel) (sa_cons (se_var (i := 0)) (sa_nil))) (nomark _)) (sw_and1 (st_cmp (op_inA) os_in (se_ix (se_var (i := 0)) (se_var (i := 1))) (se_var (i := 2)) (by rfl))))) (qb_one (qs_set (i := 1) sc_run_of.nd (se_op op_addA os_add (se_var (i := 1)) (se_int))))) (qb_one (qs_ret (se_var (i := 1))))
theorem ok_plain_at (T : Tx K mg w) : OkF P w K mg base 4 "plain_at" ["text", "at"] m_plain_at := by
  obtain ⟨fd, F⟩ := T.d_plain_at
  refine okQ_mk F sc_plain_at rfl rfl T.g_plain_at (F.binds (ps := ["text", "at"]) fun _ _ _ _ _ _ us hl => match us, hl with | [_, _], _ => rfl) fun cdv A outer s H E hr => ?_
  have hu := Nat.lt_of_le_of_lt (Nat.add_le_add_left (show 1 ≤ 64 by decide) _) hr.units
  have tk := takes_fn (P := P) (w := w) (K := K) (mg := mg) (base := base) (N := N_plain_at) (qual := "plain_at") (scope := defScope s_plain_at) (f := (He.ga K "plain_at")) (cd := cdv) (A := A) (outer := outer) (s := s) (H := H) (E := E)
  have hp := passes_fn (P := P) (w := w) (K := K) (mg := mg) (base := base) (N := N_plain_at) (qual := "plain_at") (scope := defScope s_plain_at) (f := (He.ga K "plain_at")) (cd := cdv) (A := A) (outer := outer) (s := s) (H := H) (E := E)
  exact qb_cons (qs_set (i := 2) sc_plain_at.nd (se_fn .P (ok_run_of T) (hr.mono (by decide)) tk (sa_cons (se_var (i := 0)) (sa_cons (se_var (i := 1)) (sa_cons ((by obtain ⟨t, ht⟩ := T.c_LETTERS; exact se_globS ht)) (sa_nil)))))) (qb_cons (qs_set (i := 3) sc_plain_at.nd (se_sl (se_var (i := 0)) (so_at (se_var (i := 1))) (so_at (se_var (i := 2))))) (qb_cons (qs_set (i := 4) sc_plain_at.nd (se_sl (se_var (i := 0)) (so_at (se_var (i := 2))) (so_at (se_op op_addA os_add (se_var (i := 2)) (se_int))))) (qb_cons (qs_if (st_w (sw_or (st_not (st_val (se_fn .P (ok_is_name T) (hr.mono (by decide)) tk (sa_cons (se_var (i := 3)) (sa_nil))))) (sw_or1 (st_cmp (op_notInP hr.units) os_notInP (se_var (i := 4)) (se_tup (sa_cons (se_str) (sa_cons (se_str) (sa_cons (se_str) (sa_cons (se_str) (sa_nil)))))) (by rfl))))) (qb_one (qs_raise T.e_NoSieve tk)) (qb_nil)) (qb_cons (qs_if (st_cmp (op_eqP hr.units) os_eq (se_var (i := 4)) (se_str) (nomark _)) (qb_one (qs_ret (se_tup (sa_cons (se_tup (sa_cons (se_str) (sa_cons (se_var (i := 3)) (sa_nil)))) (sa_cons (se_op op_addA os_add (se_var (i := 2)) (se_int)) (sa_nil)))))) (qb_nil)) (qb_cons (qs_set (i := 5) sc_plain_at.nd (se_fn .P (ok_run_of T) (hr.mono (by decide)) tk (sa_cons (se_var (i := 0)) (sa_cons (se_op op_addA os_add (se_var (i := 2)) (se_int)) (sa_cons ((by obtain ⟨t, ht⟩ := T.c_IN_VALUES; exact se_globS ht)) (sa_nil)))))) (qb_cons (qs_set (i := 6) sc_plain_at.nd (se_sl (se_var (i := 0)) (so_at (se_op op_addA os_add (se_var (i := 2)) (se_int))) (so_at (se_var (i := 5))))) (qb_cons (qs_if (st_w (sw_or (st_cmp (op_eqP hr.units) os_eq (se_var (i := 6)) (se_str) (nomark _)) (sw_or1 (st_cmp (op_gtA) os_gt (se_callB call_len cs_len (T.n_len) (by decide +kernel) (sa_cons (se_var (i := 6)) (sa_nil))) ((by obtain ⟨t, ht⟩ := T.c_MOST_SIGNS_sieve_texts; exact se_globI ht)) (nomark _))))) (qb_one (qs_raise T.e_NoSieve tk)) (qb_nil)) (qb_cons (qs_if (st_cmp (op_eqP hr.units) os_eq (se_var (i := 4)) (se_str) (nomark _)) (qb_one (qs_ret (se_tup (sa_cons (se_tup (sa_cons (se_str) (sa_cons (se_var (i := 3)) (sa_cons (se_var (i := 6)) (sa_nil))))) (sa_cons (se_var (i := 5)) (sa_nil)))))) (qb_nil)) (qb_cons (qs_set (i := 7) sc_plain_at.nd (se_fn .P (ok_read_value T) hr tk (sa_cons (se_str) (sa_cons (se_var (i := 6)) (sa_nil))))) (qb_cons (qs_if (st_cmp (op_isA) os_is (se_var (i := 7)) (se_non) (nomark _)) (qb_one (qs_raise T.e_NoSieve tk)) (qb_nil)) (qb_one (qs_ret (se_tup (sa_cons (se_tup (sa_cons (se_dget hu (se_dispF (sp_cons (se_str) (se_str) (sp_cons (se_str) (se_str) (sp_nil)))) (se_var (i := 4))) (sa_cons (se_var (i := 3)) (sa_cons (se_var (i := 7)) (sa_nil))))) (sa_cons (se_var (i := 5)) (sa_nil))))))))))))))))
theorem ok_sieve_at (T : Tx K mg w) : ∀ n : Nat, OkF P w K mg base (5 + n) "sieve_at" ["text", "at", "levels"] (m_sieve_at n)
  | 0 => by
    obtain ⟨fd, F⟩ := T.d_sieve_at
    refine okQ_mk F sc_sieve_at rfl rfl T.g_sieve_at (F.binds (ps := ["text", "at", "levels"]) fun _ _ _ _ _ _ us hl => match us, hl with | [_, _, _], _ => rfl) fun cdv A outer s H E hr => ?_
    exact qb_never
  | n + 1 => by
    have ih := ok_sieve_at T n
    obtain ⟨fd, F⟩ := T.d_sieve_at
    refine okQ_mk F sc_sieve_at rfl rfl T.g_sieve_at (F.binds (ps := ["text", "at", "levels"]) fun _ _ _ _ _ _ us hl => match us, hl with | [_, _, _], _ => rfl) fun cdv A outer s H E hr => ?_
    have hu := Nat.lt_of_le_of_lt (Nat.add_le_add_left (show 1 ≤ 64 by decide) _) hr.units
    have tk := takes_fn (P := P) (w := w) (K := K) (mg := mg) (base := base) (N := N_sieve_at) (qual := "sieve_at") (scope := defScope s_sieve_at) (f := (He.ga K "sieve_at")) (cd := cdv) (A := A) (outer := outer) (s := s) (H := H) (E := E)
    have hp := passes_fn (P := P) (w := w) (K := K) (mg := mg) (base := base) (N := N_sieve_at) (qual := "sieve_at") (scope := defScope s_sieve_at) (f := (He.ga K "sieve_at")) (cd := cdv) (A := A) (outer := outer) (s := s) (H := H) (E := E)
    exact qb_cons (qs_if (st_cmp (op_ltA) os_lt (se_var (i := 2)) (se_int) (nomark _)) (qb_one (qs_raise T.e_NoSieve tk)) (qb_nil)) (qb_cons (qs_if (st_cmp (op_eqP hr.units) os_eq (se_sl (se_var (i := 0)) (so_at (se_var (i := 1))) (so_at (se_op op_addA os_add (se_var (i := 1)) (se_int)))) (se_str) (nomark _)) (qb_cons (qs_asg (se_fnQ ih hr tk (sa_cons (se_var (i := 0)) (sa_cons (se_op op_addA os_add (se_var (i := 1)) (se_int)) (sa_cons (se_op op_sub os_sub (se_var (i := 2)) (se_int)) (sa_nil))))) (qg_tup (qgs_cons (qg_name sc_sieve_at.nd) (qgs_cons (qg_name sc_sieve_at.nd) (qgs_nil))))) (qb_one (qs_ret (se_tup (sa_cons (se_tup (sa_cons (se_str) (sa_cons (se_var (i := 5)) (sa_nil)))) (sa_cons (se_var (i := 6)) (sa_nil))))))) (qb_nil)) (qb_cons (qs_if (st_cmp (op_neP hr.units) os_ne (se_sl (se_var (i := 0)) (so_at (se_var (i := 1))) (so_at (se_op op_addA os_add (se_var (i := 1)) (se_int)))) (se_str) (nomark _)) (qb_one (qs_ret (se_fnQ (ok_plain_at T) (hr.mono (Nat.le_trans (by decide) (Nat.le_add_right 5 _))) tk (sa_cons (se_var (i := 0)) (sa_cons (se_var (i := 1)) (sa_nil)))))) (qb_nil)) (qb_cons (qs_set (i := 3) sc_sieve_at.nd (se_sl (se_var (i := 0)) (so_at (se_op op_addA os_add (se_var (i := 1)) (se_int))) (so_at (se_op op_addA os_add (se_var (i := 1)) (se_int))))) (qb_cons (qs_if (st_cmp (op_notInP hr.units) os_notInP (se_var (i := 3)) (se_tup (sa_cons (se_str) (sa_cons (se_str) (sa_nil)))) (by rfl)) (qb_one (qs_raise T.e_NoSieve tk)) (qb_nil)) (qb_cons (qs_set (i := 4) sc_sieve_at.nd (se_C (sl_lst (sa_nil)))) (qb_cons (qs_set (i := 1) sc_sieve_at.nd (se_op op_addA os_add (se_var (i := 1)) (se_int))) (qb_cons (qs_loop hp (st_cmp (op_neP hr.units) os_ne (se_sl (se_var (i := 0)) (so_at (se_var (i := 1))) (so_at (se_op op_addA os_add (se_var (i := 1)) (se_int)))) (se_str) (nomark _)) (qb_cons (qs_if (st_cmp (op_gtA) os_gt (se_callB call_len cs_len (T.n_len) (by decide +kernel) (sa_cons (se_var (i := 4)) (sa_nil))) (se_int) (nomark _)) (qb_cons (qs_if (st_cmp (op_neP hr.units) os_ne (se_sl (se_var (i := 0)) (so_at (se_var (i := 1))) (so_at (se_op op_addA os_add (se_var (i := 1)) (se_int)))) (se_var (i := 3)) (nomark _)) (qb_one (qs_raise T.e_NoSieve tk)) (qb_nil)) (qb_one (qs_set (i := 1) sc_sieve_at.nd (se_op op_addA os_add (se_var (i := 1)) (se_int))))) (qb_nil)) (qb_cons (qs_asg (se_fnQ ih hr tk (sa_cons (se_var (i := 0)) (sa_cons (se_var (i := 1)) (sa_cons (se_op op_sub os_sub (se_var (i := 2)) (se_int)) (sa_nil))))) (qg_tup (qgs_cons (qg_name sc_sieve_at.nd) (qgs_cons (qg_name sc_sieve_at.nd) (qgs_nil))))) (qb_one (qs_expr (se_bm PySem.F.slot_list_append PySem.F.type_list_append mt_append ms_append (se_var (i := 4)) (sa_cons (se_var (i := 5)) (sa_nil)))))))) (qb_one (qs_ret (se_tup (sa_cons (se_tup (sa_cons (se_dget hu (se_dispF (sp_cons (se_str) (se_str) (sp_cons (se_str) (se_str) (sp_nil)))) (se_var (i := 3))) (sa_cons (se_callT call_tuple_of cs_tuple (T.n_tuple) (by decide +kernel) (sa_cons (se_var (i := 4)) (sa_nil))) (sa_nil)))) (sa_cons (se_op op_addA os_add (se_var (i := 1)) (se_int)) (sa_nil)))))))))))))
theorem ok_sieves_in (T : Tx K mg w) : ∀ n : Nat, OkF P w K mg base (1 + n) "sieves_in" ["sieve"] (m_sieves_in n)
  | 0 => by
    obtain ⟨fd, F⟩ := T.d_sieves_in
    refine okQ_mk F sc_sieves_in rfl rfl T.g_sieves_in (F.binds (ps := ["sieve"]) fun _ _ _ _ _ _ us hl => match us, hl with | [_], _ => rfl) fun cdv A outer s H E hr => ?_
    exact qb_never
  | n + 1 => by
    have ih := ok_sieves_in T n
    obtain ⟨fd, F⟩ := T.d_sieves_in
    refine okQ_mk F sc_sieves_in rfl rfl T.g_sieves_in (F.binds (ps := ["sieve"]) fun _ _ _ _ _ _ us hl => match us, hl with | [_], _ => rfl) fun cdv A outer s H E hr => ?_
    have hu := Nat.lt_of_le_of_lt (Nat.add_le_add_left (show 1 ≤ 64 by decide) _) hr.units
    have tk := takes_fn (P := P) (w := w) (K := K) (mg := mg) (base := base) (N := N_sieves_in) (qual := "sieves_in") (scope := defScope s_sieves_in) (f := (He.ga K "sieves_in")) (cd := cdv) (A := A) (outer := outer) (s := s) (H := H) (E := E)
    have hp := passes_fn (P := P) (w := w) (K := K) (mg := mg) (base := base) (N := N_sieves_in) (qual := "sieves_in") (scope := defScope s_sieves_in) (f := (He.ga K "sieves_in")) (cd := cdv) (A := A) (outer := outer) (s := s) (H := H) (E := E)
    exact qb_cons (qs_if (st_cmp (op_eqP hr.units) os_eq (se_ix (se_var (i := 0)) (se_int)) (se_str) (nomark _)) (qb_one (qs_ret (se_op op_addA os_add (se_int) (se_fnQ ih hr tk (sa_cons (se_ix (se_var (i := 0)) (se_int)) (sa_nil)))))) (qb_nil)) (qb_cons (qs_if (st_w (sw_or (st_cmp (op_eqP hr.units) os_eq (se_ix (se_var (i := 0)) (se_int)) (se_str) (nomark _)) (sw_or1 (st_cmp (op_eqP hr.units) os_eq (se_ix (se_var (i := 0)) (se_int)) (se_str) (nomark _))))) (qb_one (qs_ret (se_op op_addA os_add (se_int) (se_callB (cr_sum rfl) cs_sum (T.n_sum) (by decide +kernel) (sa_cons (se_V (sl_lc (own := [("part", 1)]) sc_sieves_in.nd (qi_tup (se_ix (se_var (i := 0)) (se_int))) (blkOk_by (N := N_sieves_in) (sc := defScope s_sieves_in) (by decide +kernel)) (fun _ _ _ _ _ => qg_name sc_sieves_in.nd) (by decide) (fun _ _ _ _ _ => scs_nil) (fun _ _ _ _ _ => se_fnQ ih hr takes0 (sa_cons (se_var (i := 1)) (sa_nil))))) (sa_nil)))))) (qb_nil)) (qb_one (qs_ret (se_int))))
theorem ok_field_at (T : Tx K mg w) : OkF P w K mg base 3 "field_at" ["fields", "name"] m_field_at := by
  obtain ⟨fd, F⟩ := T.d_field_at
  refine okF_mk F sc_field_at rfl rfl T.g_field_at (F.binds (ps := ["fields", "name"]) fun _ _ _ _ _ _ us hl => match us, hl with | [_, _], _ => rfl) fun cdv A outer s H E hr => ?_
  have hu := Nat.lt_of_le_of_lt (Nat.add_le_add_left (show 1 ≤ 64 by decide) _) hr.units
  have tk := takes_fn (P := P) (w := w) (K := K) (mg := mg) (base := base) (N := N_field_at) (qual := "field_at") (scope := defScope s_field_at) (f := (He.ga K "field_at")) (cd := cdv) (A := A) (outer := outer) (s := s) (H := H) (E := E)
  have hp := passes_fn (P := P) (w := w) (K := K) (mg := mg) (base := base) (N := N_field_at) (qual := "field_at") (scope := defScope s_field_at) (f := (He.ga K "field_at")) (cd := cdv) (A := A) (outer := outer) (s := s) (H := H) (E := E)
  exact qb_cons (qs_for hp (qi_range1 T.n_range (sa_cons (se_callB call_len cs_len (T.n_len) (by decide +kernel) (sa_cons (se_var (i := 0)) (sa_nil))) (sa_nil))) (qg_name sc_field_at.nd) (qb_one (qs_if (st_cmp (op_eqP hr.units) os_eq (se_ix (se_ix (se_var (i := 0)) (se_var (i := 2))) (se_int)) (se_var (i := 1)) (nomark _)) (qb_one (qs_ret (se_var (i := 2)))) (qb_nil)))) (qb_one (qs_raiseP (pay_NoField T) hr tk (se_var (i := 1))))
theorem ok_is_whole (T : Tx K mg w) : OkF P w K mg base 1 "is_whole" ["thing"] m_is_whole := by
  obtain ⟨fd, F⟩ := T.d_is_whole
  refine okF_mk F sc_is_whole rfl rfl T.g_is_whole (F.binds (ps := ["thing"]) fun _ _ _ _ _ _ us hl => match us, hl with | [_], _ => rfl) fun cdv A outer s H E hr => ?_
  have hu := Nat.lt_of_le_of_lt (Nat.add_le_add_left (show 1 ≤ 64 by decide) _) hr.units
  have tk := takes_fn (P := P) (w := w) (K := K) (mg := mg) (base := base) (N := N_is_whole) (qual := "is_whole") (scope := defScope s_is_whole) (f := (He.ga K "is_whole")) (cd := cdv) (A := A) (outer := outer) (s := s) (H := H) (E := E)
  have hp := passes_fn (P := P) (w := w) (K := K) (mg := mg) (base := base) (N := N_is_whole) (qual := "is_whole") (scope := defScope s_is_whole) (f := (He.ga K "is_whole")) (cd := cdv) (A := A) (outer := outer) (s := s) (H := H) (E := E)
  exact qb_cons (qs_if (st_w (sw_or (st_not (st_val (se_isi (T := "int") T.n_isinstance T.n_int (by decide +kernel) (se_var (i := 0))))) (sw_or1 (st_val (se_isi (T := "bool") T.n_isinstance T.n_bool (by decide +kernel) (se_var (i := 0))))))) (qb_one (qs_ret (se_bl))) (qb_nil)) (qb_one (qs_ret (se_cmp (op_ltA) os_lt (se_callB call_abs cs_abs (T.n_abs) (by decide +kernel) (sa_cons (se_var (i := 0)) (sa_nil))) (se_op op_pow os_pow (se_int) (se_int)) (nomark _))))
theorem ok_is_value (T : Tx K mg w) : OkF P w K mg base 3 "is_value" ["kind", "thing"] m_is_value := by
  obtain ⟨fd, F⟩ := T.d_is_value
  refine okF_mk F sc_is_value rfl rfl T.g_is_value (F.binds (ps := ["kind", "thing"]) fun _ _ _ _ _ _ us hl => match us, hl with | [_, _], _ => rfl) fun cdv A outer s H E hr => ?_
  have hu := Nat.lt_of_le_of_lt (Nat.add_le_add_left (show 1 ≤ 64 by decide) _) hr.units
  have tk := takes_fn (P := P) (w := w) (K := K) (mg := mg) (base := base) (N := N_is_value) (qual := "is_value") (scope := defScope s_is_value) (f := (He.ga K "is_value")) (cd := cdv) (A := A) (outer := outer) (s := s) (H := H) (E := E)
  have hp := passes_fn (P := P) (w := w) (K := K) (mg := mg) (base := base) (N := N_is_value) (qual := "is_value") (scope := defScope s_is_value) (f := (He.ga K "is_value")) (cd := cdv) (A := A) (outer := outer) (s := s) (H := H) (E := E)
  exact qb_cons (qs_if (st_cmp (op_isA) os_is (se_var (i := 1)) (se_non) (nomark _)) (qb_one (qs_ret (se_bl))) (qb_nil)) (qb_cons (qs_if (st_cmp (op_eqP hr.units) os_eq (se_var (i := 0)) (se_str) (nomark _)) (qb_one (qs_ret (se_fn .P (ok_is_word T) hr tk (sa_cons (se_var (i := 1)) (sa_nil))))) (qb_nil)) (qb_one (qs_ret (se_fn .P (ok_is_whole T) (hr.mono (by decide)) tk (sa_cons (se_var (i := 1)) (sa_nil))))))
theorem ok_asked_sieve (T : Tx K mg w) : ∀ n : Nat, OkF P w K mg base (4 + n) "asked_sieve" ["fields", "sieve"] (m_asked_sieve n)
  | 0 => by
    obtain ⟨fd, F⟩ := T.d_asked_sieve
    refine okQ_mk F sc_asked_sieve rfl rfl T.g_asked_sieve (F.binds (ps := ["fields", "sieve"]) fun _ _ _ _ _ _ us hl => match us, hl with | [_, _], _ => rfl) fun cdv A outer s H E hr => ?_
    exact qb_never
  | n + 1 => by
    have ih := ok_asked_sieve T n
    obtain ⟨fd, F⟩ := T.d_asked_sieve
    refine okQ_mk F sc_asked_sieve rfl rfl T.g_asked_sieve (F.binds (ps := ["fields", "sieve"]) fun _ _ _ _ _ _ us hl => match us, hl with | [_, _], _ => rfl) fun cdv A outer s H E hr => ?_
    have hu := Nat.lt_of_le_of_lt (Nat.add_le_add_left (show 1 ≤ 64 by decide) _) hr.units
    have tk := takes_fn (P := P) (w := w) (K := K) (mg := mg) (base := base) (N := N_asked_sieve) (qual := "asked_sieve") (scope := defScope s_asked_sieve) (f := (He.ga K "asked_sieve")) (cd := cdv) (A := A) (outer := outer) (s := s) (H := H) (E := E)
    have hp := passes_fn (P := P) (w := w) (K := K) (mg := mg) (base := base) (N := N_asked_sieve) (qual := "asked_sieve") (scope := defScope s_asked_sieve) (f := (He.ga K "asked_sieve")) (cd := cdv) (A := A) (outer := outer) (s := s) (H := H) (E := E)
    exact qb_cons (qs_if (st_cmp (op_eqP hr.units) os_eq (se_ix (se_var (i := 1)) (se_int)) (se_str) (nomark _)) (qb_one (qs_ret (se_fnQ ih hr tk (sa_cons (se_var (i := 0)) (sa_cons (se_ix (se_var (i := 1)) (se_int)) (sa_nil)))))) (qb_nil)) (qb_cons (qs_if (st_w (sw_or (st_cmp (op_eqP hr.units) os_eq (se_ix (se_var (i := 1)) (se_int)) (se_str) (nomark _)) (sw_or1 (st_cmp (op_eqP hr.units) os_eq (se_ix (se_var (i := 1)) (se_int)) (se_str) (nomark _))))) (qb_cons (qs_for hp (qi_tup (se_ix (se_var (i := 1)) (se_int))) (qg_name sc_asked_sieve.nd) (qb_one (qs_expr (se_fnQ ih hr tk (sa_cons (se_var (i := 0)) (sa_cons (se_var (i := 3)) (sa_nil))))))) (qb_one (qs_ret (se_bl)))) (qb_nil)) (qb_cons (qs_set (i := 2) sc_asked_sieve.nd (se_ix (se_ix (se_var (i := 0)) (se_fn .P (ok_field_at T) (hr.mono (Nat.le_trans (by decide) (Nat.le_add_right 4 _))) tk (sa_cons (se_var (i := 0)) (sa_cons (se_ix (se_var (i := 1)) (se_int)) (sa_nil))))) (se_int))) (qb_cons (qs_if (st_w (sw_and (st_w (sw_or (st_cmp (op_eqP hr.units) os_eq (se_ix (se_var (i := 1)) (se_int)) (se_str) (nomark _)) (sw_or1 (st_cmp (op_eqP hr.units) os_eq (se_ix (se_var (i := 1)) (se_int)) (se_str) (nomark _))))) (sw_and1 (st_cmp (op_eqP hr.units) os_eq (se_var (i := 2)) (se_str) (nomark _))))) (qb_one (qs_raiseP (pay_NoKind T) (hr.mono (Nat.le_trans (by decide) (Nat.le_add_right 4 _))) tk (se_ix (se_var (i := 1)) (se_int)))) (qb_nil)) (qb_cons (qs_if (st_w (sw_and (st_cmp (op_eqP hr.units) os_eq (se_ix (se_var (i := 1)) (se_int)) (se_str) (nomark _)) (sw_and1 (st_not (st_val (se_fn .P (ok_is_value T) (hr.mono (Nat.le_trans (by decide) (Nat.le_add_right 4 _))) tk (sa_cons (se_var (i := 2)) (sa_cons (se_ix (se_var (i := 1)) (se_int)) (sa_nil))))))))) (qb_one (qs_raiseP (pay_NoKind T) (hr.mono (Nat.le_trans (by decide) (Nat.le_add_right 4 _))) tk (se_ix (se_var (i := 1)) (se_int)))) (qb_nil)) (qb_one (qs_ret (se_bl)))))))
theorem ok_by_kinds (T : Tx K mg w) : ∀ n : Nat, OkF P w K mg base (21 + n) "by_kinds" ["fields", "sieve"] (m_by_kinds n)
  | 0 => by
    obtain ⟨fd, F⟩ := T.d_by_kinds
    refine okQ_mk F sc_by_kinds rfl rfl T.g_by_kinds (F.binds (ps := ["fields", "sieve"]) fun _ _ _ _ _ _ us hl => match us, hl with | [_, _], _ => rfl) fun cdv A outer s H E hr => ?_
    exact qb_never
  | n + 1 => by
    have ih := ok_by_kinds T n
    obtain ⟨fd, F⟩ := T.d_by_kinds
    refine okQ_mk F sc_by_kinds rfl rfl T.g_by_kinds (F.binds (ps := ["fields", "sieve"]) fun _ _ _ _ _ _ us hl => match us, hl with | [_, _], _ => rfl) fun cdv A outer s H E hr => ?_
    have hu := Nat.lt_of_le_of_lt (Nat.add_le_add_left (show 1 ≤ 64 by decide) _) hr.units
    have tk := takes_fn (P := P) (w := w) (K := K) (mg := mg) (base := base) (N := N_by_kinds) (qual := "by_kinds") (scope := defScope s_by_kinds) (f := (He.ga K "by_kinds")) (cd := cdv) (A := A) (outer := outer) (s := s) (H := H) (E := E)
    have hp := passes_fn (P := P) (w := w) (K := K) (mg := mg) (base := base) (N := N_by_kinds) (qual := "by_kinds") (scope := defScope s_by_kinds) (f := (He.ga K "by_kinds")) (cd := cdv) (A := A) (outer := outer) (s := s) (H := H) (E := E)
    exact qb_cons (qs_if (st_cmp (op_eqP hr.units) os_eq (se_ix (se_var (i := 1)) (se_int)) (se_str) (nomark _)) (qb_one (qs_ret (se_tup (sa_cons (se_str) (sa_cons (se_fnQ ih hr tk (sa_cons (se_var (i := 0)) (sa_cons (se_ix (se_var (i := 1)) (se_int)) (sa_nil)))) (sa_nil)))))) (qb_nil)) (qb_cons (qs_if (st_w (sw_or (st_cmp (op_eqP hr.units) os_eq (se_ix (se_var (i := 1)) (se_int)) (se_str) (nomark _)) (sw_or1 (st_cmp (op_eqP hr.units) os_eq (se_ix (se_var (i := 1)) (se_int)) (se_str) (nomark _))))) (qb_one (qs_ret (se_tup (sa_cons (se_ix (se_var (i := 1)) (se_int)) (sa_cons (se_callT call_tuple_of cs_tuple (T.n_tuple) (by decide +kernel) (sa_cons (se_V (sl_lc (own := [("part", 3)]) sc_by_kinds.nd (qi_tup (se_ix (se_var (i := 1)) (se_int))) (blkOk_by (N := N_by_kinds) (sc := defScope s_by_kinds) (by decide +kernel)) (fun _ _ _ _ _ => qg_name sc_by_kinds.nd) (by decide) (fun _ _ _ _ _ => scs_nil) (fun _ _ _ _ _ => se_fnQ ih hr takes0 (sa_cons (se_var (i := 0)) (sa_cons (se_var (i := 3)) (sa_nil)))))) (sa_nil))) (sa_nil)))))) (qb_nil)) (qb_cons (qs_if (st_cmp (op_neP hr.units) os_ne (se_ix (se_var (i := 1)) (se_int)) (se_str) (nomark _)) (qb_cons (qs_expr (se_fnQ (ok_asked_sieve T 16) (hr.mono (Nat.le_trans (by decide) (Nat.le_add_right 21 _))) tk (sa_cons (se_var (i := 0)) (sa_cons (se_var (i := 1)) (sa_nil))))) (qb_one (qs_ret (se_var (i := 1))))) (qb_nil)) (qb_cons (qs_set (i := 2) sc_by_kinds.nd (se_fn .P (ok_read_value T) (hr.mono (Nat.le_trans (by decide) (Nat.le_add_right 21 _))) tk (sa_cons (se_ix (se_ix (se_var (i := 0)) (se_fn .P (ok_field_at T) (hr.mono (Nat.le_trans (by decide) (Nat.le_add_right 21 _))) tk (sa_cons (se_var (i := 0)) (sa_cons (se_ix (se_var (i := 1)) (se_int)) (sa_nil))))) (se_int)) (sa_cons (se_ix (se_var (i := 1)) (se_int)) (sa_nil))))) (qb_cons (qs_if (st_cmp (op_isA) os_is (se_var (i := 2)) (se_non) (nomark _)) (qb_one (qs_raiseP (pay_NoKind T) (hr.mono (Nat.le_trans (by decide) (Nat.le_add_right 21 _))) tk (se_ix (se_var (i := 1)) (se_int)))) (qb_nil)) (qb_one (qs_ret (se_tup (sa_cons (se_str) (sa_cons (se_ix (se_var (i := 1)) (se_int)) (sa_cons (se_var (i := 2)) (sa_nil)))))))))))
theorem ok_read_sieve (T : Tx K mg w) : OkF P w K mg base 38 "read_sieve" ["fields", "text"] m_read_sieve := by
  obtain ⟨fd, F⟩ := T.d_read_sieve
  refine okQ_mk F sc_read_sieve rfl rfl T.g_read_sieve (F.binds (ps := ["fields", "text"]) fun _ _ _ _ _ _ us hl => match us, hl with | [_, _], _ => rfl) fun cdv A outer s H E hr => ?_
  have hu := Nat.lt_of_le_of_lt (Nat.add_le_add_left (show 1 ≤ 64 by decide) _) hr.units
  have tk := takes_fn (P := P) (w := w) (K := K) (mg := mg) (base := base) (N := N_read_sieve) (qual := "read_sieve") (scope := defScope s_read_sieve) (f := (He.ga K "read_sieve")) (cd := cdv) (A := A) (outer := outer) (s := s) (H := H) (E := E)
  have hp := passes_fn (P := P) (w := w) (K := K) (mg := mg) (base := base) (N := N_read_sieve) (qual := "read_sieve") (scope := defScope s_read_sieve) (f := (He.ga K "read_sieve")) (cd := cdv) (A := A) (outer := outer) (s := s) (H := H) (E := E)
  exact qb_cons (qs_asg (se_fnQ (ok_sieve_at T 16) (hr.mono (by decide)) tk (sa_cons (se_var (i := 1)) (sa_cons (se_int) (sa_cons ((by obtain ⟨t, ht⟩ := T.c_MOST_LEVELS; exact se_globI ht)) (sa_nil))))) (qg_tup (qgs_cons (qg_name sc_read_sieve.nd) (qgs_cons (qg_name sc_read_sieve.nd) (qgs_nil))))) (qb_cons (qs_if (st_w (sw_or (st_cmp (op_neP hr.units) os_ne (se_var (i := 3)) (se_callB call_len cs_len (T.n_len) (by decide +kernel) (sa_cons (se_var (i := 1)) (sa_nil))) (nomark _)) (sw_or1 (st_cmp (op_gtA) os_gt (se_fnQ (ok_sieves_in T 16) (hr.mono (by decide)) tk (sa_cons (se_var (i := 2)) (sa_nil))) ((by obtain ⟨t, ht⟩ := T.c_MOST_SIEVES; exact se_globI ht)) (nomark _))))) (qb_one (qs_raise T.e_NoSieve tk)) (qb_nil)) (qb_one (qs_ret (se_fnQ (ok_by_kinds T 16) hr tk (sa_cons (se_var (i := 0)) (sa_cons (se_var (i := 2)) (sa_nil)))))))
theorem ok__law_cell_at (T : Tx K mg w) : OkF P w K mg base 1 "_law_cell_at" ["_law_script", "_law_k"] m__law_cell_at := by
  obtain ⟨fd, F⟩ := T.d__law_cell_at
  refine okF_mk F sc__law_cell_at rfl rfl T.g__law_cell_at (F.binds (ps := ["_law_script", "_law_k"]) fun _ _ _ _ _ _ us hl => match us, hl with | [_, _], _ => rfl) fun cdv A outer s H E hr => ?_
  have hu := Nat.lt_of_le_of_lt (Nat.add_le_add_left (show 1 ≤ 64 by decide) _) hr.units
  have tk := takes_fn (P := P) (w := w) (K := K) (mg := mg) (base := base) (N := N__law_cell_at) (qual := "_law_cell_at") (scope := defScope s__law_cell_at) (f := (He.ga K "_law_cell_at")) (cd := cdv) (A := A) (outer := outer) (s := s) (H := H) (E := E)
  have hp := passes_fn (P := P) (w := w) (K := K) (mg := mg) (base := base) (N := N__law_cell_at) (qual := "_law_cell_at") (scope := defScope s__law_cell_at) (f := (He.ga K "_law_cell_at")) (cd := cdv) (A := A) (outer := outer) (s := s) (H := H) (E := E)
  exact qb_cons (qs_if (st_cmp (op_ltA) os_lt (se_var (i := 1)) (se_callB call_len cs_len (T.n_len) (by decide +kernel) (sa_cons (se_var (i := 0)) (sa_nil))) (nomark _)) (qb_one (qs_ret (se_ix (se_var (i := 0)) (se_var (i := 1))))) (qb_nil)) (qb_one (qs_ret (se_int)))
theorem ok__law_mix (T : Tx K mg w) : OkF P w K mg base 1 "_law_mix" ["_law_seed", "_law_k"] m__law_mix := by
  obtain ⟨fd, F⟩ := T.d__law_mix
  refine okF_mk F sc__law_mix rfl rfl T.g__law_mix (F.binds (ps := ["_law_seed", "_law_k"]) fun _ _ _ _ _ _ us hl => match us, hl with | [_, _], _ => rfl) fun cdv A outer s H E hr => ?_
  have hu := Nat.lt_of_le_of_lt (Nat.add_le_add_left (show 1 ≤ 64 by decide) _) hr.units
  have tk := takes_fn (P := P) (w := w) (K := K) (mg := mg) (base := base) (N := N__law_mix) (qual := "_law_mix") (scope := defScope s__law_mix) (f := (He.ga K "_law_mix")) (cd := cdv) (A := A) (outer := outer) (s := s) (H := H) (E := E)
  have hp := passes_fn (P := P) (w := w) (K := K) (mg := mg) (base := base) (N := N__law_mix) (qual := "_law_mix") (scope := defScope s__law_mix) (f := (He.ga K "_law_mix")) (cd := cdv) (A := A) (outer := outer) (s := s) (H := H) (E := E)
  exact qb_cons (qs_set (i := 2) sc__law_mix.nd (se_op op_mod os_mod (se_op op_addA os_add (se_op op_addA os_add (se_op op_mulW os_mul (se_op op_mod os_mod (se_var (i := 0)) (se_int)) (se_int)) (se_op op_mulW os_mul (se_var (i := 1)) (se_int))) (se_int)) (se_int))) (qb_one (qs_ret (se_op op_mod os_mod (se_op op_mulW os_mul (se_op op_mod os_mod (se_op op_mulW os_mul (se_var (i := 2)) (se_var (i := 2))) (se_int)) (se_int)) (se_int))))
theorem ok__law_heads (T : Tx K mg w) : OkF P w K mg base 1 "_law_heads" ["_law_seed", "_law_signs", "_law_many", "_law_most"] m__law_heads := by
  obtain ⟨fd, F⟩ := T.d__law_heads
  refine okF_mk F sc__law_heads rfl rfl T.g__law_heads (F.binds (ps := ["_law_seed", "_law_signs", "_law_many", "_law_most"]) fun _ _ _ _ _ _ us hl => match us, hl with | [_, _, _, _], _ => rfl) fun cdv A outer s H E hr => ?_
  have hu := Nat.lt_of_le_of_lt (Nat.add_le_add_left (show 1 ≤ 64 by decide) _) hr.units
  have tk := takes_fn (P := P) (w := w) (K := K) (mg := mg) (base := base) (N := N__law_heads) (qual := "_law_heads") (scope := defScope s__law_heads) (f := (He.ga K "_law_heads")) (cd := cdv) (A := A) (outer := outer) (s := s) (H := H) (E := E)
  have hp := passes_fn (P := P) (w := w) (K := K) (mg := mg) (base := base) (N := N__law_heads) (qual := "_law_heads") (scope := defScope s__law_heads) (f := (He.ga K "_law_heads")) (cd := cdv) (A := A) (outer := outer) (s := s) (H := H) (E := E)
  exact qb_cons (qs_if (st_w (sw_and (st_cmp (op_eqP hr.units) os_eq (se_op op_mod os_mod (se_op op_fdivW os_fdiv (se_var (i := 0)) (se_int)) (se_int)) (se_int) (nomark _)) (sw_and1 (st_cmp (op_le) os_le (se_var (i := 2)) (se_var (i := 3)) (nomark _))))) (qb_cons (qs_set (i := 9) sc__law_heads.nd (se_join (se_str) (se_V (sl_lc (own := [("_law_k", 8)]) sc__law_heads.nd (qi_range1 T.n_range (sa_cons (se_var (i := 3)) (sa_nil))) (blkOk_by (N := N__law_heads) (sc := defScope s__law_heads) (by decide +kernel)) (fun _ _ _ _ _ => qg_name sc__law_heads.nd) (by decide) (fun _ _ _ _ _ => scs_nil) (fun _ _ _ _ _ => se_ix (se_var (i := 1)) (se_op op_mod os_mod (se_op op_addA os_add (se_op op_fdivW os_fdiv (se_var (i := 0)) (se_int)) (se_op op_mulW os_mul (se_op op_mulW os_mul (se_int) (se_var (i := 8))) (se_var (i := 8)))) (se_callB call_len cs_len (T.n_len) (by decide +kernel) (sa_cons (se_var (i := 1)) (sa_nil))))))))) (qb_one (qs_ret (se_V (sl_lc (own := [("_law_k", 8)]) sc__law_heads.nd (qi_range1 T.n_range (sa_cons (se_var (i := 2)) (sa_nil))) (blkOk_by (N := N__law_heads) (sc := defScope s__law_heads) (by decide +kernel)) (fun _ _ _ _ _ => qg_name sc__law_heads.nd) (by decide) (fun _ _ _ _ _ => scs_nil) (fun _ _ _ _ _ => se_sl (se_var (i := 9)) (so_no) (so_at (se_op op_addA os_add (se_var (i := 8)) (se_int))))))))) (qb_nil)) (qb_cons (qs_set (i := 4) sc__law_heads.nd (se_op op_addA os_add (se_int) (se_op op_mod os_mod (se_var (i := 0)) (se_var (i := 3))))) (qb_cons (qs_set (i := 5) sc__law_heads.nd (se_op op_mod os_mod (se_op op_fdivW os_fdiv (se_var (i := 0)) (se_int)) (se_var (i := 4)))) (qb_cons (qs_set (i := 6) sc__law_heads.nd (se_ix (se_var (i := 1)) (se_op op_mod os_mod (se_op op_fdivW os_fdiv (se_var (i := 0)) (se_int)) (se_callB call_len cs_len (T.n_len) (by decide +kernel) (sa_cons (se_var (i := 1)) (sa_nil)))))) (qb_cons (qs_set (i := 7) sc__law_heads.nd (se_C (sl_lst (sa_nil)))) (qb_cons (qs_for hp (qi_range1 T.n_range (sa_cons (se_var (i := 2)) (sa_nil))) (qg_name sc__law_heads.nd) (qb_cons (qs_set (i := 10) sc__law_heads.nd (se_ix (se_var (i := 1)) (se_op op_mod os_mod (se_op op_addA os_add (se_op op_fdivW os_fdiv (se_var (i := 0)) (se_int)) (se_op op_mulW os_mul (se_int) (se_var (i := 8)))) (se_callB call_len cs_len (T.n_len) (by decide +kernel) (sa_cons (se_var (i := 1)) (sa_nil)))))) (qb_one (qs_expr (se_bm PySem.F.slot_list_append PySem.F.type_list_append mt_append ms_append (se_var (i := 7)) (sa_cons (se_op op_addA os_add (se_op op_addA os_add (se_op op_mulS os_mulS (se_var (i := 6)) (se_var (i := 5))) (se_var (i := 10))) (se_op op_mulS os_mulS (se_var (i := 6)) (se_op op_sub os_sub (se_op op_sub os_sub (se_var (i := 4)) (se_var (i := 5))) (se_int)))) (sa_nil))))))) (qb_one (qs_ret (se_var (i := 7)))))))))
theorem ok__law_world (T : Tx K mg w) : OkF P w K mg base 2 "_law_world" ["_law_script"] m__law_world := by
  obtain ⟨fd, F⟩ := T.d__law_world
  refine okF_mk F sc__law_world rfl rfl T.g__law_world (F.binds (ps := ["_law_script"]) fun _ _ _ _ _ _ us hl => match us, hl with | [_], _ => rfl) fun cdv A outer s H E hr => ?_
  have hu := Nat.lt_of_le_of_lt (Nat.add_le_add_left (show 1 ≤ 64 by decide) _) hr.units
  have tk := takes_fn (P := P) (w := w) (K := K) (mg := mg) (base := base) (N := N__law_world) (qual := "_law_world") (scope := defScope s__law_world) (f := (He.ga K "_law_world")) (cd := cdv) (A := A) (outer := outer) (s := s) (H := H) (E := E)
  have hp := passes_fn (P := P) (w := w) (K := K) (mg := mg) (base := base) (N := N__law_world) (qual := "_law_world") (scope := defScope s__law_world) (f := (He.ga K "_law_world")) (cd := cdv) (A := A) (outer := outer) (s := s) (H := H) (E := E)
  exact qb_cons (qs_set (i := 1) sc__law_world.nd (se_fn .P (ok__law_mix T) hr tk (sa_cons (se_fn .P (ok__law_cell_at T) hr tk (sa_cons (se_var (i := 0)) (sa_cons (se_int) (sa_nil)))) (sa_cons (se_int) (sa_nil))))) (qb_cons (qs_set (i := 2) sc__law_world.nd (se_op op_addA os_add (se_int) (se_op op_mod os_mod (se_var (i := 1)) (se_int)))) (qb_cons (qs_set (i := 3) sc__law_world.nd (se_fn .P (ok__law_heads T) hr tk (sa_cons (se_fn .P (ok__law_mix T) hr tk (sa_cons (se_var (i := 1)) (sa_cons (se_int) (sa_nil)))) (sa_cons (se_str) (sa_cons (se_var (i := 2)) (sa_cons (se_int) (sa_nil))))))) (qb_cons (qs_setLc (own := [("_law_k", 7)]) (i := 4) (hf := sn_V) sc__law_world.nd (sw_true rfl rfl rfl (by decide +kernel)) (qi_range1 T.n_range (sa_cons (se_var (i := 2)) (sa_nil))) (blkOk_by (N := N__law_world) (sc := defScope s__law_world) (by decide +kernel)) (fun _ _ _ _ _ => qg_name sc__law_world.nd) (by decide) (fun _ _ _ _ _ => scs_nil) (fun _ _ _ _ _ => se_tup (sa_cons (se_ix (se_var (i := 3)) (se_var (i := 7))) (sa_cons (se_ix (se_V (sl_lst (sa_cons (se_str) (sa_cons (se_str) (sa_nil))))) (se_op op_mod os_mod (se_fn .P (ok__law_mix T) hr takes0 (sa_cons (se_var (i := 1)) (sa_cons (se_op op_addA os_add (se_var (i := 7)) (se_int)) (sa_nil)))) (se_int))) (sa_nil))))) (qb_cons (qs_set (i := 5) sc__law_world.nd (se_fn .P (ok__law_heads T) hr tk (sa_cons (se_fn .P (ok__law_mix T) hr tk (sa_cons (se_var (i := 1)) (sa_cons (se_int) (sa_nil)))) (sa_cons (se_str) (sa_cons (se_int) (sa_cons (se_int) (sa_nil))))))) (qb_cons (qs_if (st_cmp (op_eqP hr.units) os_eq (se_op op_mod os_mod (se_op op_fdivW os_fdiv (se_var (i := 1)) (se_int)) (se_int)) (se_int) (nomark _)) (qb_one (qs_set (i := 5) sc__law_world.nd (se_V (sl_op op_cat ol_cat (se_V (sl_sl (se_var (i := 3)) (so_no) (so_at (se_int)))) (se_V (sl_sl (se_var (i := 5)) (so_no) (so_at (se_int)))))))) (qb_nil)) (qb_cons (qs_set (i := 6) sc__law_world.nd (se_ix (se_V (sl_lst (sa_cons (se_int) (sa_cons (se_op op_mulW os_mul (se_int) (se_op op_pow os_pow (se_int) (se_int))) (sa_cons (se_op op_sub os_sub (se_int) (se_op op_mulW os_mul (se_int) (se_op op_pow os_pow (se_int) (se_int)))) (sa_cons (se_int) (sa_nil))))))) (se_op op_mod os_mod (se_op op_fdivW os_fdiv (se_var (i := 1)) (se_int)) (se_int)))) (qb_one (qs_ret (se_dispF (sp_cons (se_str) (se_var (i := 4)) (sp_cons (se_str) (se_var (i := 5)) (sp_cons (se_str) (se_var (i := 6)) (sp_nil)))))))))))))
theorem ok__law_sure_value (T : Tx K mg w) : OkF P w K mg base 1 "_law_sure_value" ["_law_seed", "_law_kind", "_law_world_here"] m__law_sure_value := by
  obtain ⟨fd, F⟩ := T.d__law_sure_value
  refine okF_mk F sc__law_sure_value rfl rfl T.g__law_sure_value (F.binds (ps := ["_law_seed", "_law_kind", "_law_world_here"]) fun _ _ _ _ _ _ us hl => match us, hl with | [_, _, _], _ => rfl) fun cdv A outer s H E hr => ?_
  have hu := Nat.lt_of_le_of_lt (Nat.add_le_add_left (show 1 ≤ 64 by decide) _) hr.units
  have tk := takes_fn (P := P) (w := w) (K := K) (mg := mg) (base := base) (N := N__law_sure_value) (qual := "_law_sure_value") (scope := defScope s__law_sure_value) (f := (He.ga K "_law_sure_value")) (cd := cdv) (A := A) (outer := outer) (s := s) (H := H) (E := E)
  have hp := passes_fn (P := P) (w := w) (K := K) (mg := mg) (base := base) (N := N__law_sure_value) (qual := "_law_sure_value") (scope := defScope s__law_sure_value) (f := (He.ga K "_law_sure_value")) (cd := cdv) (A := A) (outer := outer) (s := s) (H := H) (E := E)
  exact qb_cons (qs_if (st_cmp (op_eqP hr.units) os_eq (se_var (i := 1)) (se_str) (nomark _)) (qb_one (qs_ret (se_ix (se_dget hu (se_var (i := 2)) (se_str)) (se_op op_mod os_mod (se_var (i := 0)) (se_callB call_len cs_len (T.n_len) (by decide +kernel) (sa_cons (se_dget hu (se_var (i := 2)) (se_str)) (sa_nil))))))) (qb_nil)) (qb_one (qs_ret (se_op op_sub os_sub (se_op op_addA os_add (se_dget hu (se_var (i := 2)) (se_str)) (se_op op_mod os_mod (se_var (i := 0)) (se_int))) (se_int))))
theorem ok__law_plain (T : Tx K mg w) : OkF P w K mg base 2 "_law_plain" ["_law_seed", "_law_world_here"] m__law_plain := by
  obtain ⟨fd, F⟩ := T.d__law_plain
  refine okQ_mk F sc__law_plain rfl rfl T.g__law_plain (F.binds (ps := ["_law_seed", "_law_world_here"]) fun _ _ _ _ _ _ us hl => match us, hl with | [_, _], _ => rfl) fun cdv A outer s H E hr => ?_
  have hu := Nat.lt_of_le_of_lt (Nat.add_le_add_left (show 1 ≤ 64 by decide) _) hr.units
  have tk := takes_fn (P := P) (w := w) (K := K) (mg := mg) (base := base) (N := N__law_plain) (qual := "_law_plain") (scope := defScope s__law_plain) (f := (He.ga K "_law_plain")) (cd := cdv) (A := A) (outer := outer) (s := s) (H := H) (E := E)
  have hp := passes_fn (P := P) (w := w) (K := K) (mg := mg) (base := base) (N := N__law_plain) (qual := "_law_plain") (scope := defScope s__law_plain) (f := (He.ga K "_law_plain")) (cd := cdv) (A := A) (outer := outer) (s := s) (H := H) (E := E)
  exact qb_cons (qs_asg (se_ix (se_dget hu (se_var (i := 1)) (se_str)) (se_op op_mod os_mod (se_var (i := 0)) (se_callB call_len cs_len (T.n_len) (by decide +kernel) (sa_cons (se_dget hu (se_var (i := 1)) (se_str)) (sa_nil))))) (qg_tup (qgs_cons (qg_name sc__law_plain.nd) (qgs_cons (qg_name sc__law_plain.nd) (qgs_nil))))) (qb_cons (qs_set (i := 2) sc__law_plain.nd (se_op op_mod os_mod (se_op op_fdivW os_fdiv (se_var (i := 0)) (se_int)) (se_int))) (qb_cons (qs_if (st_cmp (op_eqP hr.units) os_eq (se_var (i := 2)) (se_int) (nomark _)) (qb_one (qs_ret (se_tup (sa_cons (se_str) (sa_cons (se_var (i := 3)) (sa_nil)))))) (qb_nil)) (qb_cons (qs_if (st_w (sw_or (st_cmp (op_eqP hr.units) os_eq (se_var (i := 2)) (se_int) (nomark _)) (sw_or1 (st_cmp (op_eqP hr.units) os_eq (se_var (i := 4)) (se_str) (nomark _))))) (qb_one (qs_ret (se_tup (sa_cons (se_str) (sa_cons (se_var (i := 3)) (sa_cons (se_fn .P (ok__law_sure_value T) hr tk (sa_cons (se_op op_fdivW os_fdiv (se_var (i := 0)) (se_int)) (sa_cons (se_var (i := 4)) (sa_cons (se_var (i := 1)) (sa_nil))))) (sa_nil))))))) (qb_nil)) (qb_one (qs_ret (se_tup (sa_cons (se_ix (se_V (sl_lst (sa_cons (se_str) (sa_cons (se_str) (sa_nil))))) (se_op op_sub os_sub (se_var (i := 2)) (se_int))) (sa_cons (se_var (i := 3)) (sa_cons (se_fn .P (ok__law_sure_value T) hr tk (sa_cons (se_op op_fdivW os_fdiv (se_var (i := 0)) (se_int)) (sa_cons (se_var (i := 4)) (sa_cons (se_var (i := 1)) (sa_nil))))) (sa_nil))))))))))
theorem ok__law_closed (T : Tx K mg w) : OkF P w K mg base 1 "_law_closed" ["_law_stack"] m__law_closed := by
  obtain ⟨fd, F⟩ := T.d__law_closed
  refine okW_mk F sc__law_closed rfl rfl T.g__law_closed (F.binds (ps := ["_law_stack"]) fun _ _ _ _ _ _ us hl => match us, hl with | [_], _ => rfl) fun cdv A outer s H E hr => ?_
  have hu := Nat.lt_of_le_of_lt (Nat.add_le_add_left (show 1 ≤ 64 by decide) _) hr.units
  have tk := takes_fn (P := P) (w := w) (K := K) (mg := mg) (base := base) (N := N__law_closed) (qual := "_law_closed") (scope := defScope s__law_closed) (f := (He.ga K "_law_closed")) (cd := cdv) (A := A) (outer := outer) (s := s) (H := H) (E := E)
  have hp := passes_fn (P := P) (w := w) (K := K) (mg := mg) (base := base) (N := N__law_closed) (qual := "_law_closed") (scope := defScope s__law_closed) (f := (He.ga K "_law_closed")) (cd := cdv) (A := A) (outer := outer) (s := s) (H := H) (E := E)
  exact qb_cons (qs_asg (se_bm0 PySem.F.slot_list_pop PySem.F.type_list_pop mt_pop ms_pop (se_var (i := 0))) (qg_tup (qgs_cons (qg_name sc__law_closed.nd) (qgs_cons (qg_name sc__law_closed.nd) (qgs_nil))))) (qb_one (qs_if (st_cmp (op_eqP hr.units) os_eq (se_var (i := 1)) (se_str) (nomark _)) (qb_one (qs_expr (se_bm PySem.F.slot_list_append PySem.F.type_list_append mt_append ms_append (se_ix (se_ix (se_var (i := 0)) (se_un un_neg us_neg (se_int))) (se_int)) (sa_cons (se_tup (sa_cons (se_str) (sa_cons (se_ix (se_V (sl_op op_cat ol_cat (se_var (i := 2)) (se_V (sl_lst (sa_cons (se_tup (sa_cons (se_str) (sa_cons (se_tup (sa_nil)) (sa_nil)))) (sa_nil)))))) (se_int)) (sa_nil)))) (sa_nil))))) (qb_one (qs_expr (se_bm PySem.F.slot_list_append PySem.F.type_list_append mt_append ms_append (se_ix (se_ix (se_var (i := 0)) (se_un un_neg us_neg (se_int))) (se_int)) (sa_cons (se_tup (sa_cons (se_var (i := 1)) (sa_cons (se_callT call_tuple_of cs_tuple (T.n_tuple) (by decide +kernel) (sa_cons (se_var (i := 2)) (sa_nil))) (sa_nil)))) (sa_nil)))))))
theorem ok__law_grown (T : Tx K mg w) : OkF P w K mg base 3 "_law_grown" ["_law_cells", "_law_world_here"] m__law_grown := by
  obtain ⟨fd, F⟩ := T.d__law_grown
  refine okQ_mk F sc__law_grown rfl rfl T.g__law_grown (F.binds (ps := ["_law_cells", "_law_world_here"]) fun _ _ _ _ _ _ us hl => match us, hl with | [_, _], _ => rfl) fun cdv A outer s H E hr => ?_
  have hu := Nat.lt_of_le_of_lt (Nat.add_le_add_left (show 1 ≤ 64 by decide) _) hr.units
  have tk := takes_fn (P := P) (w := w) (K := K) (mg := mg) (base := base) (N := N__law_grown) (qual := "_law_grown") (scope := defScope s__law_grown) (f := (He.ga K "_law_grown")) (cd := cdv) (A := A) (outer := outer) (s := s) (H := H) (E := E)
  have hp := passes_fn (P := P) (w := w) (K := K) (mg := mg) (base := base) (N := N__law_grown) (qual := "_law_grown") (scope := defScope s__law_grown) (f := (He.ga K "_law_grown")) (cd := cdv) (A := A) (outer := outer) (s := s) (H := H) (E := E)
  exact qb_cons (qs_set (i := 2) sc__law_grown.nd (se_C (sl_lst (sa_cons (se_tup (sa_cons (se_ix (se_V (sl_lst (sa_cons (se_str) (sa_cons (se_str) (sa_nil))))) (se_op op_mod os_mod (se_ix (se_var (i := 0)) (se_int)) (se_int))) (sa_cons (se_C (sl_lst (sa_nil))) (sa_nil)))) (sa_nil))))) (qb_cons (qs_set (i := 3) sc__law_grown.nd (se_int)) (qb_cons (qs_for hp (qi_range2 T.n_range (sa_cons (se_int) (sa_cons (se_callB call_len cs_len (T.n_len) (by decide +kernel) (sa_cons (se_var (i := 0)) (sa_nil))) (sa_nil)))) (qg_name sc__law_grown.nd) (qb_cons (qs_set (i := 5) sc__law_grown.nd (se_fn .P (ok__law_mix T) (hr.mono (by decide)) tk (sa_cons (se_ix (se_var (i := 0)) (se_var (i := 4))) (sa_cons (se_var (i := 4)) (sa_nil))))) (qb_one (qs_if (st_w (sw_and (st_cmp (op_eqP hr.units) os_eq (se_op op_mod os_mod (se_var (i := 5)) (se_int)) (se_int) (nomark _)) (sw_and (st_cmp (op_ltA) os_lt (se_callB call_len cs_len (T.n_len) (by decide +kernel) (sa_cons (se_var (i := 2)) (sa_nil))) (se_int) (nomark _)) (sw_and1 (st_cmp (op_ltA) os_lt (se_var (i := 3)) (se_int) (nomark _)))))) (qb_cons (qs_expr (se_bm PySem.F.slot_list_append PySem.F.type_list_append mt_append ms_append (se_var (i := 2)) (sa_cons (se_tup (sa_cons (se_ix (se_V (sl_lst (sa_cons (se_str) (sa_cons (se_str) (sa_cons (se_str) (sa_nil)))))) (se_op op_mod os_mod (se_op op_fdivW os_fdiv (se_var (i := 5)) (se_int)) (se_int))) (sa_cons (se_C (sl_lst (sa_nil))) (sa_nil)))) (sa_nil)))) (qb_one (qs_set (i := 3) sc__law_grown.nd (se_op op_addA os_add (se_var (i := 3)) (se_int))))) (qb_one (qs_if (st_w (sw_and (st_cmp (op_eqP hr.units) os_eq (se_op op_mod os_mod (se_var (i := 5)) (se_int)) (se_int) (nomark _)) (sw_and1 (st_cmp (op_gtA) os_gt (se_callB call_len cs_len (T.n_len) (by decide +kernel) (sa_cons (se_var (i := 2)) (sa_nil))) (se_int) (nomark _))))) (qb_one (qs_expr (se_fn .M (ok__law_closed T) (hr.mono (by decide)) tk (sa_cons (se_var (i := 2)) (sa_nil))))) (qb_one (qs_if (st_w (sw_and (st_cmp (op_ltA) os_lt (se_var (i := 3)) (se_int) (nomark _)) (sw_and1 (st_w (sw_or (st_cmp (op_neP hr.units) os_ne (se_ix (se_ix (se_var (i := 2)) (se_un un_neg us_neg (se_int))) (se_int)) (se_str) (nomark _)) (sw_or1 (st_cmp (op_eqP hr.units) os_eqQ (se_ix (se_ix (se_var (i := 2)) (se_un un_neg us_neg (se_int))) (se_int)) (se_V (sl_lst (sa_nil))) (nomark _)))))))) (qb_cons (qs_expr (se_bm PySem.F.slot_list_append PySem.F.type_list_append mt_append ms_append (se_ix (se_ix (se_var (i := 2)) (se_un un_neg us_neg (se_int))) (se_int)) (sa_cons (se_fnQ (ok__law_plain T) hr tk (sa_cons (se_fn .P (ok__law_mix T) (hr.mono (by decide)) tk (sa_cons (se_var (i := 5)) (sa_cons (se_int) (sa_nil)))) (sa_cons (se_var (i := 1)) (sa_nil)))) (sa_nil)))) (qb_one (qs_set (i := 3) sc__law_grown.nd (se_op op_addA os_add (se_var (i := 3)) (se_int))))) (qb_nil))))))))) (qb_cons (qs_loop hp (st_cmp (op_gtA) os_gt (se_callB call_len cs_len (T.n_len) (by decide +kernel) (sa_cons (se_var (i := 2)) (sa_nil))) (se_int) (nomark _)) (qb_one (qs_expr (se_fn .M (ok__law_closed T) (hr.mono (by decide)) tk (sa_cons (se_var (i := 2)) (sa_nil)))))) (qb_one (qs_ret (se_tup (sa_cons (se_ix (se_ix (se_var (i := 2)) (se_int)) (se_int)) (sa_cons (se_callT call_tuple_of cs_tuple (T.n_tuple) (by decide +kernel) (sa_cons (se_ix (se_ix (se_var (i := 2)) (se_int)) (se_int)) (sa_nil))) (sa_nil)))))))))
theorem ok__law_written (T : Tx K mg w) : OkF P w K mg base 1 "_law_written" ["_law_value"] m__law_written := by
  obtain ⟨fd, F⟩ := T.d__law_written
  refine okF_mk F sc__law_written rfl rfl T.g__law_written (F.binds (ps := ["_law_value"]) fun _ _ _ _ _ _ us hl => match us, hl with | [_], _ => rfl) fun cdv A outer s H E hr => ?_
  have hu := Nat.lt_of_le_of_lt (Nat.add_le_add_left (show 1 ≤ 64 by decide) _) hr.units
  have tk := takes_fn (P := P) (w := w) (K := K) (mg := mg) (base := base) (N := N__law_written) (qual := "_law_written") (scope := defScope s__law_written) (f := (He.ga K "_law_written")) (cd := cdv) (A := A) (outer := outer) (s := s) (H := H) (E := E)
  have hp := passes_fn (P := P) (w := w) (K := K) (mg := mg) (base := base) (N := N__law_written) (qual := "_law_written") (scope := defScope s__law_written) (f := (He.ga K "_law_written")) (cd := cdv) (A := A) (outer := outer) (s := s) (H := H) (E := E)
  exact qb_cons (qs_if (st_val (se_isi (T := "str") T.n_isinstance T.n_str (by decide +kernel) (se_var (i := 0)))) (qb_one (qs_ret (se_var (i := 0)))) (qb_nil)) (qb_cons (qs_set (i := 1) sc__law_written.nd (se_callB call_abs cs_abs (T.n_abs) (by decide +kernel) (sa_cons (se_var (i := 0)) (sa_nil)))) (qb_cons (qs_set (i := 2) sc__law_written.nd (se_ix (se_V (sl_lst (sa_cons (se_str) (sa_cons (se_str) (sa_nil))))) (se_callT call_intA cs_intA (T.n_int) (by decide +kernel) (sa_cons (se_cmp (op_eqP hr.units) os_eq (se_var (i := 1)) (se_int) (nomark _)) (sa_nil))))) (qb_cons (qs_loop hp (st_cmp (op_gtA) os_gt (se_var (i := 1)) (se_int) (nomark _)) (qb_cons (qs_set (i := 2) sc__law_written.nd (se_op op_addA os_add (se_ix (se_str) (se_op op_mod os_mod (se_var (i := 1)) (se_int))) (se_var (i := 2)))) (qb_one (qs_set (i := 1) sc__law_written.nd (se_op op_fdivW os_fdiv (se_var (i := 1)) (se_int)))))) (qb_one (qs_ret (se_op op_addA os_add (se_ix (se_V (sl_lst (sa_cons (se_str) (sa_cons (se_str) (sa_nil))))) (se_callT call_intA cs_intA (T.n_int) (by decide +kernel) (sa_cons (se_cmp (op_ltA) os_lt (se_var (i := 0)) (se_int) (nomark _)) (sa_nil)))) (se_var (i := 2))))))))
theorem ok__law_text (T : Tx K mg w) : ∀ n : Nat, OkF P w K mg base (2 + n) "_law_text" ["_law_sieve"] (m__law_text n)
  | 0 => by
    obtain ⟨fd, F⟩ := T.d__law_text
    refine okQ_mk F sc__law_text rfl rfl T.g__law_text (F.binds (ps := ["_law_sieve"]) fun _ _ _ _ _ _ us hl => match us, hl with | [_], _ => rfl) fun cdv A outer s H E hr => ?_
    exact qb_never
  | n + 1 => by
    have ih := ok__law_text T n
    obtain ⟨fd, F⟩ := T.d__law_text
    refine okQ_mk F sc__law_text rfl rfl T.g__law_text (F.binds (ps := ["_law_sieve"]) fun _ _ _ _ _ _ us hl => match us, hl with | [_], _ => rfl) fun cdv A outer s H E hr => ?_
    have hu := Nat.lt_of_le_of_lt (Nat.add_le_add_left (show 1 ≤ 64 by decide) _) hr.units
    have tk := takes_fn (P := P) (w := w) (K := K) (mg := mg) (base := base) (N := N__law_text) (qual := "_law_text") (scope := defScope s__law_text) (f := (He.ga K "_law_text")) (cd := cdv) (A := A) (outer := outer) (s := s) (H := H) (E := E)
    have hp := passes_fn (P := P) (w := w) (K := K) (mg := mg) (base := base) (N := N__law_text) (qual := "_law_text") (scope := defScope s__law_text) (f := (He.ga K "_law_text")) (cd := cdv) (A := A) (outer := outer) (s := s) (H := H) (E := E)
    exact qb_cons (qs_if (st_cmp (op_eqP hr.units) os_eq (se_ix (se_var (i := 0)) (se_int)) (se_str) (nomark _)) (qb_one (qs_ret (se_op op_addA os_add (se_str) (se_fnQ ih hr tk (sa_cons (se_ix (se_var (i := 0)) (se_int)) (sa_nil)))))) (qb_nil)) (qb_cons (qs_if (st_cmp (op_eqP hr.units) os_eq (se_ix (se_var (i := 0)) (se_int)) (se_str) (nomark _)) (qb_one (qs_ret (se_op op_addA os_add (se_ix (se_var (i := 0)) (se_int)) (se_str)))) (qb_nil)) (qb_cons (qs_if (st_cmp (op_inP hr.units) os_inP (se_ix (se_var (i := 0)) (se_int)) (se_V (sl_lst (sa_cons (se_str) (sa_cons (se_str) (sa_cons (se_str) (sa_nil)))))) (by rfl)) (qb_one (qs_ret (se_op op_addA os_add (se_op op_addA os_add (se_ix (se_var (i := 0)) (se_int)) (se_dget hu (se_dispF (sp_cons (se_str) (se_str) (sp_cons (se_str) (se_str) (sp_cons (se_str) (se_str) (sp_nil))))) (se_ix (se_var (i := 0)) (se_int)))) (se_fn .P (ok__law_written T) (hr.mono (Nat.le_trans (by decide) (Nat.le_add_right 2 _))) tk (sa_cons (se_ix (se_var (i := 0)) (se_int)) (sa_nil)))))) (qb_nil)) (qb_cons (qs_set (i := 1) sc__law_text.nd (se_dget hu (se_dispF (sp_cons (se_str) (se_str) (sp_cons (se_str) (se_str) (sp_nil)))) (se_ix (se_var (i := 0)) (se_int)))) (qb_cons (qs_set (i := 2) sc__law_text.nd (se_op op_addA os_add (se_str) (se_var (i := 1)))) (qb_cons (qs_for hp (qi_range1 T.n_range (sa_cons (se_callB call_len cs_len (T.n_len) (by decide +kernel) (sa_cons (se_ix (se_var (i := 0)) (se_int)) (sa_nil))) (sa_nil))) (qg_name sc__law_text.nd) (qb_cons (qs_if (st_cmp (op_gtA) os_gt (se_var (i := 3)) (se_int) (nomark _)) (qb_one (qs_set (i := 2) sc__law_text.nd (se_op op_addA os_add (se_var (i := 2)) (se_var (i := 1))))) (qb_nil)) (qb_one (qs_set (i := 2) sc__law_text.nd (se_op op_addA os_add (se_var (i := 2)) (se_fnQ ih hr tk (sa_cons (se_ix (se_ix (se_var (i := 0)) (se_int)) (se_var (i := 3))) (sa_nil)))))))) (qb_one (qs_ret (se_op op_addA os_add (se_var (i := 2)) (se_str)))))))))
theorem ok_law (T : Tx K mg w) : OkF P w K mg base 39 "law" ["_law_script"] m_law := by
  obtain ⟨fd, F⟩ := T.d_law
  refine okF_mk F sc_law rfl rfl T.g_law (F.binds (ps := ["_law_script"]) fun _ _ _ _ _ _ us hl => match us, hl with | [_], _ => rfl) fun cdv A outer s H E hr => ?_
  have hu := Nat.lt_of_le_of_lt (Nat.add_le_add_left (show 1 ≤ 64 by decide) _) hr.units
  have tk := takes_fn (P := P) (w := w) (K := K) (mg := mg) (base := base) (N := N_law) (qual := "law") (scope := defScope s_law) (f := (He.ga K "law")) (cd := cdv) (A := A) (outer := outer) (s := s) (H := H) (E := E)
  have hp := passes_fn (P := P) (w := w) (K := K) (mg := mg) (base := base) (N := N_law) (qual := "law") (scope := defScope s_law) (f := (He.ga K "law")) (cd := cdv) (A := A) (outer := outer) (s := s) (H := H) (E := E)
  exact qb_cons (qs_set (i := 1) sc_law.nd (se_fn .P (ok__law_world T) (hr.mono (by decide)) tk (sa_cons (se_var (i := 0)) (sa_nil)))) (qb_cons (qs_set (i := 2) sc_law.nd (se_V (sl_callT call_list_of cl_list (T.n_list) (by decide +kernel) (sa_cons (se_dget hu (se_var (i := 1)) (se_str)) (sa_nil))))) (qb_cons (qs_set (i := 3) sc_law.nd (se_C (sl_lst (sa_cons (se_fnQ (ok__law_grown T) (hr.mono (by decide)) tk (sa_cons (se_V (sl_op op_cat ol_cat (se_V (sl_lst (sa_cons (se_fn .P (ok__law_cell_at T) (hr.mono (by decide)) tk (sa_cons (se_var (i := 0)) (sa_cons (se_int) (sa_nil)))) (sa_nil)))) (se_V (sl_sl (se_var (i := 0)) (so_at (se_int)) (so_at (se_int)))))) (sa_cons (se_var (i := 1)) (sa_nil)))) (sa_cons (se_tup (sa_cons (se_str) (sa_cons (se_tup (sa_nil)) (sa_nil)))) (sa_cons (se_tup (sa_cons (se_str) (sa_cons (se_tup (sa_nil)) (sa_nil)))) (sa_nil))))))) (qb_cons (qs_for hp (qi_range1 T.n_range (sa_cons (se_int) (sa_nil))) (qg_name sc_law.nd) (qb_one (qs_expr (se_bm PySem.F.slot_list_append PySem.F.type_list_append mt_append ms_append (se_var (i := 3)) (sa_cons (se_fnQ (ok__law_plain T) (hr.mono (by decide)) tk (sa_cons (se_op op_addA os_add (se_op op_mulW os_mul (se_op op_fdivW os_fdiv (se_fn .P (ok__law_mix T) (hr.mono (by decide)) tk (sa_cons (se_fn .P (ok__law_cell_at T) (hr.mono (by decide)) tk (sa_cons (se_var (i := 0)) (sa_cons (se_int) (sa_nil)))) (sa_cons (se_op op_addA os_add (se_int) (se_var (i := 4))) (sa_nil)))) (se_int)) (se_int)) (se_op op_mulW os_mul (se_int) (se_var (i := 4)))) (sa_cons (se_var (i := 1)) (sa_nil)))) (sa_nil)))))) (qb_cons (qs_for hp (qi_cell (se_var (i := 3))) (qg_name sc_law.nd) (qb_cons (qs_set (i := 6) sc_law.nd (se_fnQ (ok__law_text T 16) (hr.mono (by decide)) tk (sa_cons (se_var (i := 5)) (sa_nil)))) (qb_cons (qs_set (i := 7) sc_law.nd (se_fnQ (ok_shown_sieve T 16) (hr.mono (by decide)) tk (sa_cons (se_var (i := 5)) (sa_nil)))) (qb_cons (qs_if (st_w (sw_or (st_not (st_val (se_isi (T := "str") T.n_isinstance T.n_str (by decide +kernel) (se_var (i := 7))))) (sw_or1 (st_cmp (op_neP hr.units) os_ne (se_var (i := 7)) (se_var (i := 6)) (nomark _))))) (qb_one (qs_ret (se_bl))) (qb_nil)) (qb_one (qs_if (st_w (sw_or (st_cmp (op_neP hr.units) os_neQ (se_fnQ (ok_read_sieve T) hr tk (sa_cons (se_var (i := 2)) (sa_cons (se_var (i := 6)) (sa_nil)))) (se_var (i := 5)) (nomark _)) (sw_or1 (st_cmp (op_neP hr.units) os_neQ (se_var (i := 2)) (se_dget hu (se_var (i := 1)) (se_str)) (nomark _))))) (qb_one (qs_ret (se_bl))) (qb_nil))))))) (qb_one (qs_ret (se_bl)))))))
end
theorem tx_of {K : PySem.W.Frag} {h : Heap} {mg : Str → Option Value} (X : K.In h) (G : h.Ns mainGlobals mg) (c : He.SaysD fas dfs K) (ce : (efs.all fun f => f.ok K) = true) {w : World} (tm : SaysM mts mtu w K) : Tx K mg w where
  d_written := let ⟨fd, F⟩ := c.def_ 0 rfl; ⟨fd, He5.fun_of F⟩
  g_written := He.glo_ok X G (c.fact 0 rfl)
  d_shown_sieve := let ⟨fd, F⟩ := c.def_ 1 rfl; ⟨fd, He5.fun_of F⟩
  g_shown_sieve := He.glo_ok X G (c.fact 1 rfl)
  d_made_of := let ⟨fd, F⟩ := c.def_ 2 rfl; ⟨fd, He5.fun_of F⟩
  g_made_of := He.glo_ok X G (c.fact 2 rfl)
  d_is_name := let ⟨fd, F⟩ := c.def_ 3 rfl; ⟨fd, He5.fun_of F⟩
  g_is_name := He.glo_ok X G (c.fact 3 rfl)
  d_is_word := let ⟨fd, F⟩ := c.def_ 4 rfl; ⟨fd, He5.fun_of F⟩
  g_is_word := He.glo_ok X G (c.fact 4 rfl)
  d_is_number_text := let ⟨fd, F⟩ := c.def_ 5 rfl; ⟨fd, He5.fun_of F⟩
  g_is_number_text := He.glo_ok X G (c.fact 5 rfl)
  d_read_value := let ⟨fd, F⟩ := c.def_ 6 rfl; ⟨fd, He5.fun_of F⟩
  g_read_value := He.glo_ok X G (c.fact 6 rfl)
  d_run_of := let ⟨fd, F⟩ := c.def_ 7 rfl; ⟨fd, He5.fun_of F⟩
  g_run_of := He.glo_ok X G (c.fact 7 rfl)
  d_plain_at := let ⟨fd, F⟩ := c.def_ 8 rfl; ⟨fd, He5.fun_of F⟩
  g_plain_at := He.glo_ok X G (c.fact 8 rfl)
  d_sieve_at := let ⟨fd, F⟩ := c.def_ 9 rfl; ⟨fd, He5.fun_of F⟩
  g_sieve_at := He.glo_ok X G (c.fact 9 rfl)
  d_sieves_in := let ⟨fd, F⟩ := c.def_ 10 rfl; ⟨fd, He5.fun_of F⟩
  g_sieves_in := He.glo_ok X G (c.fact 10 rfl)
  d_field_at := let ⟨fd, F⟩ := c.def_ 11 rfl; ⟨fd, He5.fun_of F⟩
  g_field_at := He.glo_ok X G (c.fact 11 rfl)
  d_is_whole := let ⟨fd, F⟩ := c.def_ 12 rfl; ⟨fd, He5.fun_of F⟩
  g_is_whole := He.glo_ok X G (c.fact 12 rfl)
  d_is_value := let ⟨fd, F⟩ := c.def_ 13 rfl; ⟨fd, He5.fun_of F⟩
  g_is_value := He.glo_ok X G (c.fact 13 rfl)
  d_asked_sieve := let ⟨fd, F⟩ := c.def_ 14 rfl; ⟨fd, He5.fun_of F⟩
  g_asked_sieve := He.glo_ok X G (c.fact 14 rfl)
  d_by_kinds := let ⟨fd, F⟩ := c.def_ 15 rfl; ⟨fd, He5.fun_of F⟩
  g_by_kinds := He.glo_ok X G (c.fact 15 rfl)
  d_read_sieve := let ⟨fd, F⟩ := c.def_ 16 rfl; ⟨fd, He5.fun_of F⟩
  g_read_sieve := He.glo_ok X G (c.fact 16 rfl)
  d__law_cell_at := let ⟨fd, F⟩ := c.def_ 17 rfl; ⟨fd, He5.fun_of F⟩
  g__law_cell_at := He.glo_ok X G (c.fact 17 rfl)
  d__law_mix := let ⟨fd, F⟩ := c.def_ 18 rfl; ⟨fd, He5.fun_of F⟩
  g__law_mix := He.glo_ok X G (c.fact 18 rfl)
  d__law_heads := let ⟨fd, F⟩ := c.def_ 19 rfl; ⟨fd, He5.fun_of F⟩
  g__law_heads := He.glo_ok X G (c.fact 19 rfl)
  d__law_world := let ⟨fd, F⟩ := c.def_ 20 rfl; ⟨fd, He5.fun_of F⟩
  g__law_world := He.glo_ok X G (c.fact 20 rfl)
  d__law_sure_value := let ⟨fd, F⟩ := c.def_ 21 rfl; ⟨fd, He5.fun_of F⟩
  g__law_sure_value := He.glo_ok X G (c.fact 21 rfl)
  d__law_plain := let ⟨fd, F⟩ := c.def_ 22 rfl; ⟨fd, He5.fun_of F⟩
  g__law_plain := He.glo_ok X G (c.fact 22 rfl)
  d__law_closed := let ⟨fd, F⟩ := c.def_ 23 rfl; ⟨fd, He5.fun_of F⟩
  g__law_closed := He.glo_ok X G (c.fact 23 rfl)
  d__law_grown := let ⟨fd, F⟩ := c.def_ 24 rfl; ⟨fd, He5.fun_of F⟩
  g__law_grown := He.glo_ok X G (c.fact 24 rfl)
  d__law_written := let ⟨fd, F⟩ := c.def_ 25 rfl; ⟨fd, He5.fun_of F⟩
  g__law_written := He.glo_ok X G (c.fact 25 rfl)
  d__law_text := let ⟨fd, F⟩ := c.def_ 26 rfl; ⟨fd, He5.fun_of F⟩
  g__law_text := He.glo_ok X G (c.fact 26 rfl)
  d_law := let ⟨fd, F⟩ := c.def_ 27 rfl; ⟨fd, He5.fun_of F⟩
  g_law := He.glo_ok X G (c.fact 27 rfl)
  n_str := He.free_ok X G (c.fact 28 rfl)
  n_isinstance := He.free_ok X G (c.fact 29 rfl)
  n_len := He.free_ok X G (c.fact 30 rfl)
  n_int := He.free_ok X G (c.fact 31 rfl)
  n_tuple := He.free_ok X G (c.fact 32 rfl)
  n_sum := He.free_ok X G (c.fact 33 rfl)
  n_range := He.free_ok X G (c.fact 34 rfl)
  n_bool := He.free_ok X G (c.fact 35 rfl)
  n_abs := He.free_ok X G (c.fact 36 rfl)
  n_list := He.free_ok X G (c.fact 37 rfl)
  c_MOST_SIGNS_values := He.int_ok X G (c.fact 38 rfl)
  c_SMALL := He.str_ok X G (c.fact 39 rfl)
  c_FIGURES := He.str_ok X G (c.fact 40 rfl)
  c_MOST_FIGURES := He.int_ok X G (c.fact 41 rfl)
  c_LETTERS := He.str_ok X G (c.fact 42 rfl)
  c_IN_VALUES := He.str_ok X G (c.fact 43 rfl)
  c_MOST_SIGNS_sieve_texts := He.int_ok X G (c.fact 44 rfl)
  c_MOST_LEVELS := He.int_ok X G (c.fact 45 rfl)
  c_MOST_SIEVES := He.int_ok X G (c.fact 46 rfl)
  t_SIGNS := tm.tab (i := 0) (He.glo_ok X G (c.fact 47 rfl))
  e_NoSieve := excT_of (He.glo_ok X G (c.fact 48 rfl)) (He.exc_ok (c.fact 49 rfl))
  k_NoField := He.glo_ok X G (c.fact 50 rfl)
  k_CrossError := He.glo_ok X G (c.fact 51 rfl)
  k_NoKind := He.glo_ok X G (c.fact 52 rfl)
  p_NoField := let ⟨fd, F⟩ := c.def_ 28 rfl; ⟨fd, He5.fun_of F⟩
  m_NoField := He.meth_ok (c.fact 53 rfl)
  p_NoKind := let ⟨fd, F⟩ := c.def_ 29 rfl; ⟨fd, He5.fun_of F⟩
  m_NoKind := He.meth_ok (c.fact 54 rfl)
  ce := ce
end
end Lk09
set_option Elab.async false
set_option linter.all false
set_option maxRecDepth 100000
set_option maxHeartbeats 4000000
namespace Lk09
open PySem PySem.Spec PyProof.Rows L2 VD PS WT PT RS
noncomputable section
theorem e_written : m_written = PV.m_written := by
  delta m_written PV.m_written b_written PV.b_written
  try rfl
theorem e_shown_sieve : ∀ k, m_shown_sieve k = RS.m_shown_sieve k
  | 0 => rfl
  | k + 1 => by
    show fnQ 1 1 (b_shown_sieve (m_shown_sieve k)) = fnQ 1 1 (RS.b_shown_sieve (RS.m_shown_sieve k))
    rw [e_shown_sieve k]
    delta c_shown_sieve_1 c_shown_sieve_2 b_shown_sieve RS.c_shown_sieve_1 RS.c_shown_sieve_2 RS.b_shown_sieve
    rw [e_written]
    try rfl
theorem e_made_of : m_made_of = PV.m_made_of := by
  delta m_made_of PV.m_made_of l_made_of_1 b_made_of PV.l_made_of_1 PV.b_made_of
  try rfl
theorem e_is_name : m_is_name = PV.m_is_name := by
  delta m_is_name PV.m_is_name b_is_name PV.b_is_name
  rw [e_made_of]
  try rfl
theorem e_is_word : m_is_word = PV.m_is_word := by
  delta m_is_word PV.m_is_word b_is_word PV.b_is_word
  rw [e_made_of]
  try rfl
theorem e_is_number_text : m_is_number_text = PV.m_is_number_text := by
  delta m_is_number_text PV.m_is_number_text b_is_number_text PV.b_is_number_text
  rw [e_made_of]
  try rfl
theorem e_read_value : m_read_value = PV.m_read_value := by
  delta m_read_value PV.m_read_value b_read_value PV.b_read_value
  rw [e_is_word, e_is_number_text]
  try rfl
theorem e_run_of : m_run_of = RS.m_run_of := by
  delta m_run_of RS.m_run_of l_run_of_1 b_run_of RS.l_run_of_1 RS.b_run_of
  try rfl
theorem e_plain_at : m_plain_at = RS.m_plain_at := by
  delta m_plain_at RS.m_plain_at b_plain_at RS.b_plain_at
  rw [e_run_of, e_is_name, e_read_value]
  try rfl
theorem e_sieve_at : ∀ k, m_sieve_at k = RS.m_sieve_at k
  | 0 => rfl
  | k + 1 => by
    show fnQ 3 4 (b_sieve_at (m_sieve_at k)) = fnQ 3 4 (RS.b_sieve_at (RS.m_sieve_at k))
    rw [e_sieve_at k]
    delta l_sieve_at_1 b_sieve_at RS.l_sieve_at_1 RS.b_sieve_at
    rw [e_plain_at]
    try rfl
theorem e_sieves_in : ∀ k, m_sieves_in k = RS.m_sieves_in k
  | 0 => rfl
  | k + 1 => by
    show fnQ 1 1 (b_sieves_in (m_sieves_in k)) = fnQ 1 1 (RS.b_sieves_in (RS.m_sieves_in k))
    rw [e_sieves_in k]
    delta c_sieves_in_1 b_sieves_in RS.c_sieves_in_1 RS.b_sieves_in
    try rfl
theorem e_field_at : m_field_at = PS.m_field_at := by
  delta m_field_at PS.m_field_at l_field_at_1 b_field_at PS.l_field_at_1 PS.b_field_at
  try rfl
theorem e_is_whole : m_is_whole = PV.m_is_whole := by
  delta m_is_whole PV.m_is_whole b_is_whole PV.b_is_whole
  try rfl
theorem e_is_value : m_is_value = PV.m_is_value := by
  delta m_is_value PV.m_is_value b_is_value PV.b_is_value
  rw [e_is_word, e_is_whole]
  try rfl
theorem e_asked_sieve : ∀ k, m_asked_sieve k = PT.m_asked_sieve k
  | 0 => rfl
  | k + 1 => by
    show fnQ 2 2 (b_asked_sieve (m_asked_sieve k)) = fnQ 2 2 (PT.b_asked_sieve (PT.m_asked_sieve k))
    rw [e_asked_sieve k]
    delta l_asked_sieve_1 b_asked_sieve PT.l_asked_sieve_1 PT.b_asked_sieve
    rw [e_field_at, e_is_value]
    try rfl
theorem e_by_kinds : ∀ k, m_by_kinds k = RS.m_by_kinds k
  | 0 => rfl
  | k + 1 => by
    show fnQ 2 2 (b_by_kinds (m_by_kinds k)) = fnQ 2 2 (RS.b_by_kinds (RS.m_by_kinds k))
    rw [e_by_kinds k]
    delta c_by_kinds_1 b_by_kinds RS.c_by_kinds_1 RS.b_by_kinds
    rw [e_asked_sieve, e_read_value, e_field_at]
    try rfl
theorem e_read_sieve : m_read_sieve = RS.m_read_sieve := by
  delta m_read_sieve RS.m_read_sieve b_read_sieve RS.b_read_sieve
  rw [e_sieve_at, e_sieves_in, e_by_kinds]
  try rfl
theorem e__law_sure_value : m__law_sure_value = WD.m__law_sure_value := by
  delta m__law_sure_value WD.m__law_sure_value b__law_sure_value WD.b__law_sure_value
  try rfl
theorem e__law_plain : m__law_plain = WD.m__law_plain := by
  delta m__law_plain WD.m__law_plain b__law_plain WD.b__law_plain
  rw [e__law_sure_value]
  try rfl
end
end Lk09
namespace Lk09
open PySem PySem.Spec PyProof.Rows L2 VD PS PT RS
open WT hiding Tx
open PV (numT)
noncomputable section
def slN (σ : VS) (i : Nat) : Nat := match σ[i]? with
  | some (some (.int b)) => b.toNat
  | _ => 0
theorem digit_at {k : Int} (h0 : 0 ≤ k) (h1 : k < 10) : fgL[k.toNat]?.getD 0 = 48 + k.toNat := by
  obtain rfl | rfl | rfl | rfl | rfl | rfl | rfl | rfl | rfl | rfl : k = 0 ∨ k = 1 ∨ k = 2 ∨ k = 3 ∨ k = 4 ∨ k = 5 ∨ k = 6 ∨ k = 7 ∨ k = 8 ∨ k = 9 := by omega
  all_goals rfl
theorem lwritten_int {n : Int} (h1 : -(10 ^ 60) < n) (h2 : n < 10 ^ 60) : m__law_written [.int n] [] = .ok (tx (numT n)) [] := by
  refine fnS_of (P := fun x => x = .ok (tx (numT n)) []) rfl ?_
  unfold b__law_written
  have kis : kitB "int" "str" = some false := by decide +kernel
  have lN := (PV.numT_len h1 h2).2
  have e77 : (10 : Int) ^ 60 < 10 ^ 77 := by decide
  have hab : (if n < 0 then -n else n) = (n.natAbs : Int) := by split <;> omega
  by_cases z : n = 0
  · subst z
    have e0 : numT 0 = [48] := by unfold numT; rw [if_neg (by omega)]; exact PV.numL_zero
    have a1 : ∀ h, oAdd (tx []) (tx [48]) h = .ok (tx [48]) h := fun h => oAdd_tx (by decide)
    rw [e0]
    simp [kis, nil_eq, PV.zero_eq]
    refine Wp.while (fun σ h => σ = [some (.int 0), some (.int 0), some (tx [48])] ∧ h = []) (fun _ _ => 0) ?_ ⟨rfl, rfl⟩
    rintro σ h ⟨rfl, rfl⟩
    refine ⟨false, by simp, ?_⟩
    rw [if_neg Bool.false_ne_true]
    simp [nil_eq, PV.min_eq, a1, -oAdd_tx]
  simp [kis, hab, nil_eq, PV.zero_eq, z]
  have hN : n.natAbs ≠ 0 := by omega
  generalize n.natAbs = N at lN hab hN
  refine Wp.while (fun σ h => ∃ (l : Nat) (cs : List Nat), σ = [some (.int n), some (.int l), some (tx cs)] ∧ h = [] ∧ l ≤ N ∧ (0 < l → TL.numL N = TL.numL l ++ cs) ∧ (l = 0 → cs = TL.numL N)) (fun σ _ => slN σ 1) ?_ ⟨N, [], rfl, rfl, Nat.le_refl _, fun _ => by simp, fun w => absurd w hN⟩
  rintro σ h ⟨l, cs, rfl, rfl, lb, c1, c2⟩
  by_cases q : (0 : Int) < l
  · refine ⟨true, by simp; omega, ?_⟩
    rw [if_pos rfl]
    have d0 := Int.emod_nonneg (l : Int) (show (10 : Int) ≠ 0 by decide)
    have d1 := Int.emod_lt_of_pos (l : Int) (show (0 : Int) < 10 by decide)
    have ix := ixD_tx (cs := fgL) (h := []) (k := (l : Int) % 10) (by decide) d0 d1
    rw [digit_at d0 d1] at ix
    have hc := c1 (by omega)
    have lc : cs.length ≤ 60 := by
      have := congrArg List.length hc
      rw [List.length_append] at this
      omega
    have ea : ∀ h, oAdd (tx [48 + ((l : Int) % 10).toNat]) (tx cs) h = .ok (tx ((48 + ((l : Int) % 10).toNat) :: cs)) h := fun h => oAdd_tx (by simp; omega)
    simp (disch := omega) [fg_eq, ix, ea, -ixD_tx, -oAdd_tx]
    have el : ((l : Int) % 10).toNat = l % 10 := by omega
    refine ⟨⟨l / 10, (48 + l % 10) :: cs, ⟨by omega, by rw [el]⟩, by omega, fun w => ?_, fun w => ?_⟩, ?_⟩
    · rw [hc, TL.numL_step (by omega), List.append_assoc]; rfl
    · have : l < 10 := by omega
      rw [hc, TL.numL_lt this, Nat.mod_eq_of_lt this]; rfl
    · simp [slN]; omega
  · refine ⟨false, by simp; omega, ?_⟩
    rw [if_neg (by simp)]
    have l0 : l = 0 := by omega
    have e := c2 l0
    have lc : cs.length ≤ 60 := by rw [e]; exact lN
    have ea : ∀ (a : List Nat) h, a.length ≤ 1 → oAdd (tx a) (tx cs) h = .ok (tx (a ++ cs)) h := fun a h ha => oAdd_tx (by omega)
    by_cases neg : n < 0
    · have ea1 := fun h => ea [45] h (by decide)
      have : numT n = 45 :: TL.numL N := by unfold numT; rw [if_pos neg]; congr 2; omega
      rw [this, ← e]
      simp [neg, PV.min_eq, nil_eq, ea1, -oAdd_tx]
    · have ea1 := fun h => ea [] h (by decide)
      have : numT n = TL.numL N := by unfold numT; rw [if_neg neg]; congr 1; omega
      rw [this, ← e]
      simp [neg, PV.min_eq, nil_eq, ea1, -oAdd_tx]
theorem lwritten_ok {b : Bool} {v : Val} (h : ValOk b v) (hn : v ≠ .no) (hv : Hv) : callP m__law_written [valD v] hv = .ok (tx (wrV v)) hv := by
  cases v with
  | no => exact absurd rfl hn
  | wd cs =>
    refine cP ?_ (by simp [valD]) hv
    refine fnS_of (P := fun x => x = .ok (tx (wrV (.wd cs))) []) rfl ?_
    unfold b__law_written
    have e : valD (.wd cs) = tx cs := rfl
    simp [e, PV.kss, wrV]
  | nm i => exact cP (lwritten_int h.2.1 h.2.2) (by simp [valD]) hv
theorem s_il : ¬ (("is" : Str) = "lacks") := by decide
theorem s_ul : ¬ (("under" : Str) = "lacks") := by decide
theorem s_ol : ¬ (("over" : Str) = "lacks") := by decide
theorem s_al : ¬ (("all" : Str) = "lacks") := by decide
theorem s_sl : ¬ (("some" : Str) = "lacks") := by decide
theorem in3 (h : Hv) : oInP (.str "is") (.lst [.str "is", .str "under", .str "over"]) h = .ok (.bl true) h ∧ oInP (.str "under") (.lst [.str "is", .str "under", .str "over"]) h = .ok (.bl true) h ∧ oInP (.str "over") (.lst [.str "is", .str "under", .str "over"]) h = .ok (.bl true) h ∧
    oInP (.str "all") (.lst [.str "is", .str "under", .str "over"]) h = .ok (.bl false) h ∧ oInP (.str "some") (.lst [.str "is", .str "under", .str "over"]) h = .ok (.bl false) h := ⟨rfl, rfl, rfl, rfl, rfl⟩
theorem gA : VD.getD ((List.map (fun x => x.fst) (mergeD [] [((Sum.inr "all" : Key), D.str (sx [38])), (Sum.inr "some", D.str (sx [124]))])).zip (List.map (fun x => x.snd) (mergeD [] [((Sum.inr "all" : Key), D.str (sx [38])), (Sum.inr "some", D.str (sx [124]))]))) (Sum.inr "all") = some (.str (sx [38])) := rfl
theorem gS : VD.getD ((List.map (fun x => x.fst) (mergeD [] [((Sum.inr "all" : Key), D.str (sx [38])), (Sum.inr "some", D.str (sx [124]))])).zip (List.map (fun x => x.snd) (mergeD [] [((Sum.inr "all" : Key), D.str (sx [38])), (Sum.inr "some", D.str (sx [124]))]))) (Sum.inr "some") = some (.str (sx [124])) := rfl
theorem gI : VD.getD ((List.map (fun x => x.fst) (mergeD [] [((Sum.inr "is" : Key), D.str (sx [61])), (Sum.inr "under", D.str (sx [60])), (Sum.inr "over", D.str (sx [62]))])).zip (List.map (fun x => x.snd) (mergeD [] [((Sum.inr "is" : Key), D.str (sx [61])), (Sum.inr "under", D.str (sx [60])), (Sum.inr "over", D.str (sx [62]))]))) (Sum.inr "is") = some (.str (sx [61])) := rfl
theorem gU : VD.getD ((List.map (fun x => x.fst) (mergeD [] [((Sum.inr "is" : Key), D.str (sx [61])), (Sum.inr "under", D.str (sx [60])), (Sum.inr "over", D.str (sx [62]))])).zip (List.map (fun x => x.snd) (mergeD [] [((Sum.inr "is" : Key), D.str (sx [61])), (Sum.inr "under", D.str (sx [60])), (Sum.inr "over", D.str (sx [62]))]))) (Sum.inr "under") = some (.str (sx [60])) := rfl
theorem gO : VD.getD ((List.map (fun x => x.fst) (mergeD [] [((Sum.inr "is" : Key), D.str (sx [61])), (Sum.inr "under", D.str (sx [60])), (Sum.inr "over", D.str (sx [62]))])).zip (List.map (fun x => x.snd) (mergeD [] [((Sum.inr "is" : Key), D.str (sx [61])), (Sum.inr "under", D.str (sx [60])), (Sum.inr "over", D.str (sx [62]))]))) (Sum.inr "over") = some (.str (sx [62])) := rfl
theorem joinL_take (c : Nat) : ∀ (l : List (List Nat)) (i : Nat) (t : List Nat), l[i]? = some t → TL.joinL [c] (l.take (i + 1)) = (if 0 < i then TL.joinL [c] (l.take i) ++ [c] else []) ++ t := by
  intro l i t h
  rw [List.take_add_one, h]
  cases i with
  | zero => rfl
  | succ i =>
    rw [if_pos (Nat.succ_pos i)]
    have hl : i + 1 ≤ l.length := by have := (List.getElem?_eq_some_iff.mp h).1; omega
    cases l with
    | nil => cases h
    | cons a l =>
      have key : ∀ (a : List Nat) (l : List (List Nat)) (t : List Nat), TL.joinL [c] ((a :: l) ++ [t]) = TL.joinL [c] (a :: l) ++ [c] ++ t := by
        intro a l t
        induction l generalizing a with
        | nil => show a ++ ([c] ++ t) = _; simp [TL.joinL]
        | cons b l ih =>
          show a ++ ([c] ++ TL.joinL [c] ((b :: l) ++ [t])) = a ++ ([c] ++ TL.joinL [c] (b :: l)) ++ [c] ++ t
          rw [ih]; simp
      rw [List.take_succ_cons]
      exact key a (l.take i) t
theorem ltext_eq {fs : List Fd} (fo : FdsOk fs) : ∀ (k : Nat) (s : Sv), dep s < k → SvOk fs s → cnt s ≤ 10000 → m__law_text k [svD s] [] = .ok (tx (txS s)) [] := by
  intro k
  induction k with
  | zero => intro s h; exact absurd h (Nat.not_lt_zero _)
  | succ k ih =>
    intro s hd ok hc
    obtain ⟨PP, hPP⟩ : ∃ PP : VD.R D → Prop, PP = fun x => x = .ok (tx (txS s)) [] := ⟨_, rfl⟩
    have fin : PP (m__law_text (k + 1) [svD s] []) := by
      refine fnQ_of (P := PP) rfl ?_
      unfold b__law_text
      have nc : ∀ t : Sv, noCL [svD t] = true := fun t => by simp [noCL, noC_sv]
      have nmk : ∀ {i : Nat} {n : List Nat} {b : Bool}, fs[i]? = some (n, b) → n.length ≤ 12 := fun h => (fo.nm _ (List.mem_of_getElem? h)).2.1
      have bar : ∀ (l : List Sv) (c : Nat) (x : Str), (∀ s ∈ l, dep s < k) → (∀ s ∈ l, SvOk fs s) → cntL l ≤ 10000 → PP (.ok (tx (40 :: c :: (TL.joinL [c] (txL l) ++ [41]))) []) →
          Wp (Sq (Rq PP) (sRet (eOp oAdd (eVar 2) (eK (.str ")"))))) (l__law_text_1 (m__law_text k) [some (.tup [.str x, .tup (svL l)]), some (tx [c]), some (tx [40, c]), none] []) := by
        intro l c x h1 h2 h3 fin
        unfold l__law_text_1
        have hl := len_cntL l
        have hm : ∀ s ∈ l, cnt s ≤ cntL l := fun s hs => by
          clear h1 h2 h3 hl fin
          induction l with
          | nil => cases hs
          | cons t l ih =>
            rw [cntL]
            cases hs with
            | head => omega
            | tail _ hs => have := ih hs; omega
        have tl : ∀ i, ((TL.joinL [c] ((txL l).take i))).length ≤ 80 * 10000 := fun i => by
          have e : ∀ l : List Sv, (∀ s ∈ l, SvOk fs s) → (TL.joinL [c] (txL l)).length ≤ 80 * cntL l := fun l h2 => by
            have b := txSum fo.nm h2
            have : ∀ ps : List (List Nat), (TL.joinL [c] ps).length ≤ (ps.map (·.length)).sum + ps.length := fun ps => by
              induction ps with
              | nil => exact Nat.zero_le _
              | cons p ps ih =>
                cases ps with
                | nil => show p.length ≤ _; simp
                | cons q ps =>
                  show (p ++ ([c] ++ TL.joinL [c] (q :: ps))).length ≤ _
                  simp only [List.length_append, List.map_cons, List.sum_cons, List.length_cons, List.length_nil] at ih ⊢
                  omega
            have t := this (txL l)
            rw [txL_map] at t ⊢
            have e2 : ((l.map txS).map fun x : List Nat => x.length).sum = ((l.map txS).map (·.length)).sum := rfl
            rw [List.length_map] at t
            exact Nat.le_trans t b
          have ml : (txL l).take i = txL (l.take i) := by rw [txL_map, txL_map, List.map_take]
          rw [ml]
          have a := e (l.take i) fun s hs => h2 s (List.mem_of_mem_take hs)
          have cl : ∀ (l : List Sv) i, cntL (l.take i) ≤ cntL l := fun l => by
            induction l with
            | nil => intro i; rw [List.take_nil]; exact Nat.le_refl _
            | cons s l ih =>
              intro i
              cases i with
              | zero => exact Nat.zero_le _
              | succ i => rw [List.take_succ_cons, cntL, cntL]; have := ih i; omega
          have := cl l i
          omega
        obtain ⟨I, hI⟩ : ∃ I : Nat → VS → Hv → Prop, ∀ i σ h, I i σ h = ∃ (x3 : Option D), σ = [some (.tup [.str x, .tup (svL l)]), some (tx [c]), some (tx (40 :: c :: TL.joinL [c] ((txL l).take i))), x3] ∧ h = [] := ⟨fun i σ h => _, fun _ _ _ => rfl⟩
        refine Wp.range 0 l.length I (h0 := []) (by simp (disch := omega) [svL_map]) (by rw [hI]; exact ⟨_, rfl, rfl⟩) ?_ ?_
        · intro i σ h hi hh
          rw [hI] at hh
          obtain ⟨x3, rfl, rfl⟩ := hh
          refine ⟨_, rfl, ?_⟩
          have m := List.getElem_mem hi
          have ix : ∀ h, ixD h (.tup (svL l)) (i : Int) = some (svD l[i]) := fun h => by rw [svL_map]; exact atI_map (atI_at rfl (List.getElem?_eq_getElem hi))
          have e := cQ (ih l[i] (h1 _ m) (h2 _ m) (by have := hm _ m; omega)) (nc l[i])
          have lt : (txL l)[i]? = some (txS l[i]) := by rw [txL_map, List.getElem?_map, List.getElem?_eq_getElem hi]; rfl
          have jt := joinL_take c (txL l) i (txS l[i]) lt
          have t1 := tl i
          have t2 := len_tx fo.nm (dep l[i] + 1) l[i] (by omega) (h2 _ m)
          have := hm _ m
          obtain ⟨J, hJ⟩ : ∃ J, TL.joinL [c] ((txL l).take i) = J := ⟨_, rfl⟩
          rw [hJ] at t1 jt ⊢
          have t3 := h3
          by_cases q : 0 < i
          · have a1 : ∀ h, oAdd (tx (40 :: c :: J)) (tx [c]) h = .ok (tx (40 :: c :: (J ++ [c]))) h := fun h => oAdd_tx (b := [c]) (by simp; omega)
            have a2 : ∀ h, oAdd (tx (40 :: c :: (J ++ [c]))) (tx (txS l[i])) h = .ok (tx (40 :: c :: (J ++ [c] ++ txS l[i]))) h := fun h => oAdd_tx (by simp; omega)
            rw [if_pos q] at jt
            simp [q, a1, a2, ix, e, -oAdd_tx]
            rw [hI]
            exact ⟨some (.int (i : Int)), by rw [jt]; simp, rfl⟩
          · have a2 : ∀ h, oAdd (tx (40 :: c :: J)) (tx (txS l[i])) h = .ok (tx (40 :: c :: (J ++ txS l[i]))) h := fun h => oAdd_tx (by simp; omega)
            have z : i = 0 := by omega
            rw [if_neg q] at jt
            have tz : J = [] := by rw [← hJ, z]; rfl
            simp [q, a2, ix, e, -oAdd_tx]
            rw [hI]
            exact ⟨_, by rw [jt, tz], rfl⟩
        · intro σ h hh
          rw [hI] at hh
          obtain ⟨x3, rfl, rfl⟩ := hh
          have tk : (txL l).take l.length = txL l := List.take_of_length_le (by rw [txL_map, List.length_map]; exact Nat.le_refl _)
          have t1 := tl l.length
          rw [tk] at t1 ⊢
          have a2 : ∀ h, oAdd (tx (40 :: c :: TL.joinL [c] (txL l))) (.str (sx [41])) h = .ok (tx (40 :: c :: (TL.joinL [c] (txL l) ++ [41]))) h := fun h => oAdd_tx (b := [41]) (by simp; omega)
          simp [e41, a2, -oAdd_tx]
          exact fin
      cases s with
      | not s =>
        rw [dep] at hd
        rw [SvOk] at ok
        rw [RS.cnt] at hc
        have e := cQ (ih s (by omega) ok (by omega)) (nc s)
        have ln := len_tx fo.nm (dep s + 1) s (by omega) ok
        have a : ∀ h, oAdd (.str (sx [33])) (tx (txS s)) h = .ok (tx (33 :: txS s)) h := fun h => oAdd_tx (a := [33]) (by simp; omega)
        simp only [svD]
        simp [e33, e, a, -oAdd_tx]
        rw [hPP, txS]
      | all l =>
        rw [dep] at hd
        rw [SvOk, SvOkL_mem] at ok
        rw [RS.cnt] at hc
        have bb := bar l 38 "all" (fun t ht => by have := dep_mem ht; omega) ok (by omega) (by rw [hPP, txS])
        have a : ∀ h, oAdd (.str (sx [40])) (.str (sx [38])) h = .ok (tx [40, 38]) h := fun h => oAdd_tx (a := [40]) (b := [38]) (by decide)
        simp only [svD]
        simp [s_an, s_al, in3, e38, e124, e40, gA, a, -oAdd_tx]
        exact bb
      | some l =>
        rw [dep] at hd
        rw [SvOk, SvOkL_mem] at ok
        rw [RS.cnt] at hc
        have bb := bar l 124 "some" (fun t ht => by have := dep_mem ht; omega) ok (by omega) (by rw [hPP, txS])
        have a : ∀ h, oAdd (.str (sx [40])) (.str (sx [124])) h = .ok (tx [40, 124]) h := fun h => oAdd_tx (a := [40]) (b := [124]) (by decide)
        simp only [svD]
        simp [s_sn, s_sl, in3, e38, e124, e40, gS, a, -oAdd_tx]
        exact bb
      | lacks n =>
        rw [SvOk] at ok
        obtain ⟨i, b, h⟩ := ok
        have := nmk h
        have a : ∀ h, oAdd (tx n) (.str (sx [63])) h = .ok (tx (n ++ [63])) h := fun h => oAdd_tx (b := [63]) (by simp; omega)
        simp only [svD]
        simp [s_ln, e63, a, -oAdd_tx]
        rw [hPP, txS]
      | is n v =>
        rw [SvOk] at ok
        obtain ⟨i, b, h, h1, h2⟩ := ok
        have := nmk h
        have wl := (wr_ok h2 h1).2.1
        have w := fun h => lwritten_ok h2 h1 h
        have a : ∀ h, oAdd (tx n) (.str (sx [61])) h = .ok (tx (n ++ [61])) h := fun h => oAdd_tx (b := [61]) (by simp; omega)
        have a2 : ∀ h, oAdd (tx (n ++ [61])) (tx (wrV v)) h = .ok (tx ((n ++ [61]) ++ wrV v)) h := fun h => oAdd_tx (by simp; omega)
        simp only [svD]
        simp [s_in, s_il, in3, e61, e60, e62, gI, a, a2, w, -oAdd_tx]
        rw [hPP, txS]
      | under n v =>
        rw [SvOk] at ok
        obtain ⟨i, j, h, h1, h2⟩ := ok
        have hn : v ≠ .no := by rw [h1]; exact fun z => by cases z
        have := nmk h
        have wl := (wr_ok h2 hn).2.1
        have w := fun h => lwritten_ok h2 hn h
        have a : ∀ h, oAdd (tx n) (.str (sx [60])) h = .ok (tx (n ++ [60])) h := fun h => oAdd_tx (b := [60]) (by simp; omega)
        have a2 : ∀ h, oAdd (tx (n ++ [60])) (tx (wrV v)) h = .ok (tx ((n ++ [60]) ++ wrV v)) h := fun h => oAdd_tx (by simp; omega)
        simp only [svD]
        simp [s_un, s_ul, in3, e61, e60, e62, gU, a, a2, w, -oAdd_tx]
        rw [hPP, txS]
      | over n v =>
        rw [SvOk] at ok
        obtain ⟨i, j, h, h1, h2⟩ := ok
        have hn : v ≠ .no := by rw [h1]; exact fun z => by cases z
        have := nmk h
        have wl := (wr_ok h2 hn).2.1
        have w := fun h => lwritten_ok h2 hn h
        have a : ∀ h, oAdd (tx n) (.str (sx [62])) h = .ok (tx (n ++ [62])) h := fun h => oAdd_tx (b := [62]) (by simp; omega)
        have a2 : ∀ h, oAdd (tx (n ++ [62])) (tx (wrV v)) h = .ok (tx ((n ++ [62]) ++ wrV v)) h := fun h => oAdd_tx (by simp; omega)
        simp only [svD]
        simp [s_on, s_ol, in3, e61, e60, e62, gO, a, a2, w, -oAdd_tx]
        rw [hPP, txS]
    rw [hPP] at fin
    exact fin
end
end Lk09
namespace Lk09
open PySem PySem.Spec PyProof.Rows L2 VD PS PT RS
open WT hiding Tx
open WD (worldD WorldOk plainF noC_world)
noncomputable section
theorem mix_same : m__law_mix = mixM := rfl
theorem cell_same : m__law_cell_at = cellM := rfl
theorem world_same : m__law_world = WD.m__law_world := rfl
def pyV : Val → PyData
  | .no => .none
  | .wd cs => .str (sx cs)
  | .nm i => .int i
mutual
def pyS : Sv → PyData
  | .lacks n => .tuple [.str "lacks", .str (sx n)]
  | .is n v => .tuple [.str "is", .str (sx n), pyV v]
  | .under n v => .tuple [.str "under", .str (sx n), pyV v]
  | .over n v => .tuple [.str "over", .str (sx n), pyV v]
  | .not s => .tuple [.str "not", pyS s]
  | .all l => .tuple [.str "all", .tuple (pyL l)]
  | .some l => .tuple [.str "some", .tuple (pyL l)]
def pyL : List Sv → List PyData
  | [] => []
  | s :: l => pyS s :: pyL l
end
theorem toPy_val {h : Hv} {f : Nat} (v : Val) : toPy h (f + 1) (valD v) = some (pyV v) := by cases v <;> rfl
theorem toPy_sv : ∀ (k : Nat) (s : Sv), lv s ≤ k → ∀ (h : Hv) (f : Nat), 2 * k ≤ f → toPy h f (svD s) = some (pyS s) := by
  intro k
  induction k with
  | zero => intro s h; have := lv_pos s; omega
  | succ k ih =>
    intro s hl h f hf
    obtain ⟨f, rfl⟩ : ∃ g, f = g + 2 := ⟨f - 2, by omega⟩
    have lst : ∀ l : List Sv, (∀ s ∈ l, lv s ≤ k) → optAll (toPy h f) (svL l) = some (pyL l) := by
      intro l
      induction l with
      | nil => intro _; rfl
      | cons s l ihl =>
        intro hs
        rw [svL, pyL]
        simp only [optAll_cons, ih s (hs s List.mem_cons_self) h f (by omega), ihl fun t ht => hs t (List.mem_cons_of_mem _ ht)]
    cases s with
    | not s =>
      rw [lv] at hl
      rw [svD, pyS]
      simp only [toPy_tup, optAll_cons, optAll_nil, toPy_str, ih s (by omega) h (f + 1) (by omega), Option.map_some]
    | all l =>
      rw [lv] at hl
      rw [svD, pyS]
      simp only [toPy_tup, optAll_cons, optAll_nil, toPy_str, lst l fun s hs => by have := lv_mem hs; omega, Option.map_some]
    | some l =>
      rw [lv] at hl
      rw [svD, pyS]
      simp only [toPy_tup, optAll_cons, optAll_nil, toPy_str, lst l fun s hs => by have := lv_mem hs; omega, Option.map_some]
    | lacks n => rfl
    | is n v =>
      rw [svD, pyS]
      simp only [toPy_tup, optAll_cons, optAll_nil, toPy_str, toPy_val, Option.map_some]
    | under n v =>
      rw [svD, pyS]
      simp only [toPy_tup, optAll_cons, optAll_nil, toPy_str, toPy_val, Option.map_some]
    | over n v =>
      rw [svD, pyS]
      simp only [toPy_tup, optAll_cons, optAll_nil, toPy_str, toPy_val, Option.map_some]
structure Ent where
  k : Nat
  i : Nat
  l : List Sv
def kn (k : Nat) : Str := if k = 0 then "not" else if k = 1 then "all" else "some"
def entD (e : Ent) : D := .tup [.str (kn e.k), .cell e.i]
def mkS (k : Nat) (l : List Sv) : Sv := if k = 0 then .not (l.head?.getD (.all [])) else if k = 1 then .all l else .some l
structure StAt (h : Hv) (S : List Ent) : Prop where
  st : h[1]? = some (.lst (S.map entD))
  ls : ∀ e ∈ S, h[e.i]? = some (.lst (e.l.map svD))
  nd : (S.map (·.i)).Nodup
  n1 : ∀ e ∈ S, e.i ≠ 1
theorem kn0 {k : Nat} : (kn k = ("not" : Str)) = (k = 0) := by
  unfold kn
  by_cases q : k = 0
  · simp [q]
  · rw [if_neg q]
    refine propext ⟨fun z => ?_, fun z => absurd z q⟩
    split at z
    · exact absurd z (by decide)
    · exact absurd z (by decide)
theorem atI_last {α : Type} (xs : List α) (y : α) : atI (xs ++ [y]) (-1) = some y := by
  unfold atI ixN
  rw [if_neg (by decide), if_pos (by simp; omega)]
  show (xs ++ [y])[((-1 : Int) + ((xs ++ [y]).length : Nat)).toNat]? = _
  have : ((-1 : Int) + ((xs ++ [y]).length : Nat)).toNat = xs.length := by rw [List.length_append, List.length_singleton]; omega
  rw [this, List.getElem?_append_right (Nat.le_refl _), Nat.sub_self]; rfl
theorem svD_mk (k : Nat) (l : List Sv) (hk : k ≠ 0) : svD (mkS k l) = .tup [.str (kn k), .tup (l.map svD)] := by
  unfold mkS kn
  rw [if_neg hk, if_neg hk]
  split <;> rw [svD, svL_map]
theorem closed_eq {h : Hv} {T : List Ent} {p e : Ent} (s : StAt h (T ++ [p, e])) (hl : p.l.length < 16777216) (hl2 : e.l.length < 16777216) :
    ∃ h', m__law_closed [.cell 1] h = .ok .non h' ∧ StAt h' (T ++ [{ p with l := p.l ++ [mkS e.k e.l] }]) ∧ h'.length = h.length := by
  obtain ⟨PP, hPP⟩ : ∃ PP : VD.R D → Prop, PP = fun x => ∃ h', x = .ok .non h' ∧ StAt h' (T ++ [{ p with l := p.l ++ [mkS e.k e.l] }]) ∧ h'.length = h.length := ⟨_, rfl⟩
  suffices hs : PP (m__law_closed [.cell 1] h) by rw [hPP] at hs; exact hs
  refine fnW_of (P := PP) rfl ?_
  unfold b__law_closed
  have l1 : 1 < h.length := (List.getElem?_eq_some_iff.mp s.st).1
  have ls : ((T ++ [p, e]).map entD) = (T ++ [p]).map entD ++ [entD e] := by simp
  have st := s.st
  rw [ls] at st
  have pe : ((T ++ [p]).map entD ++ [entD e])[((T ++ [p]).map entD ++ [entD e]).length - 1]? = some (entD e) := by
    rw [List.length_append, List.length_singleton, Nat.add_sub_cancel, List.getElem?_append_right (Nat.le_refl _), Nat.sub_self]; rfl
  have dl : ((T ++ [p]).map entD ++ [entD e]).dropLast = (T ++ [p]).map entD := List.dropLast_concat
  obtain ⟨X, hX⟩ : ∃ X, (T ++ [p]).map entD = X := ⟨_, rfl⟩
  have X1 : X = T.map entD ++ [entD p] := by rw [← hX]; simp
  rw [hX] at st pe dl
  have pm : p ∈ T ++ [p, e] := by simp
  have em : e ∈ T ++ [p, e] := by simp
  have hp := s.ls p pm
  have he := s.ls e em
  have np := s.n1 p pm
  have ne := s.n1 e em
  have g1 : (h.set 1 (.lst X))[1]? = some (.lst X) := List.getElem?_set_self l1
  have gp : (h.set 1 (.lst X))[p.i]? = some (.lst (p.l.map svD)) := by rw [List.getElem?_set_ne (Ne.symm np)]; exact hp
  have ge : (h.set 1 (.lst X))[e.i]? = some (.lst (e.l.map svD)) := by rw [List.getElem?_set_ne (Ne.symm ne)]; exact he
  have la : ∀ X', X' = X → L2.atI X' (-1) = some (entD p) := fun X' z => by rw [z, X1]; exact atI_last _ _
  have lm : (p.l.map svD).length < 16777216 := by rw [List.length_map]; exact hl
  have fin : ∀ x : D, x = svD (mkS e.k e.l) → PP (R.ok D.non ((h.set 1 (.lst X)).set p.i (.lst (p.l.map svD ++ [x])))) := by
    intro x hx
    subst hx
    rw [hPP]
    refine ⟨_, rfl, ?_, by simp⟩
    have nd := s.nd
    simp only [List.map_append, List.map_cons, List.map_nil] at nd
    have lp : p.i < (h.set 1 (.lst X)).length := (List.getElem?_eq_some_iff.mp gp).1
    refine ⟨?_, fun f hf => ?_, ?_, fun f hf => ?_⟩
    · rw [List.getElem?_set_ne np, g1, X1]; simp [entD]
    · rcases List.mem_append.mp hf with hf | hf
      · have nf : f.i ≠ p.i := fun z => by
          rw [List.nodup_append] at nd
          exact nd.2.2 f.i (List.mem_map.mpr ⟨f, hf, rfl⟩) p.i (by simp) z
        have n1 := s.n1 f (List.mem_append_left _ hf)
        rw [List.getElem?_set_ne (Ne.symm nf), List.getElem?_set_ne (Ne.symm n1)]
        exact s.ls f (List.mem_append_left _ hf)
      · cases List.mem_singleton.mp hf
        rw [List.getElem?_set_self lp]
        simp
    · simp only [List.map_append, List.map_cons, List.map_nil]
      refine List.Nodup.sublist ?_ nd
      exact List.Sublist.append (List.Sublist.refl _) (by simp)
    · rcases List.mem_append.mp hf with hf | hf
      · exact s.n1 f (List.mem_append_left _ hf)
      · cases List.mem_singleton.mp hf
        exact np
  have la0 : L2.atI X (-1) = some (.tup [.str (kn p.k), .cell p.i]) := la X rfl
  by_cases q : e.k = 0
  · have k0 : kn e.k = ("not" : Str) := by rw [q]; rfl
    have h0 : L2.atI (e.l.map svD ++ [.tup [.str "all", .tup []]]) 0 = some (svD (e.l.head?.getD (.all []))) := by
      cases e.l with
      | nil => rfl
      | cons s l => exact atI_at (j := 0) rfl rfl
    have le : e.l.length ≤ 16777215 := by omega
    have lp : p.l.length < 16777216 := hl
    simp [st, pe, dl, entD, k0, g1, ge, gp, la0, h0, lp, le]
    exact fin _ (by unfold mkS; rw [if_pos q, svD])
  · have k0 : ¬ kn e.k = ("not" : Str) := by rw [kn0]; exact q
    have bt := bTuple_cell ge
    have lp : p.l.length < 16777216 := hl
    simp [st, pe, dl, entD, k0, g1, ge, gp, la0, lp, bt]
    exact fin _ (svD_mk e.k e.l q).symm
structure StOk (fs : List Fd) (S : List Ent) : Prop where
  ok : ∀ (p : Nat) (e : Ent), S[p]? = some e → e.k < 3 ∧ ∀ s ∈ e.l, SvOk fs s ∧ lv s + p + 1 ≤ 12
  b0 : ∀ e, S[0]? = some e → e.k ≠ 0
def wS (S : List Ent) : Nat := (S.map fun e => 2 + cntL e.l).sum
theorem wS_app (A B : List Ent) : wS (A ++ B) = wS A + wS B := by unfold wS; simp
theorem cntL_app (a b : List Sv) : cntL (a ++ b) = cntL a + cntL b := by rw [cntL_sum, cntL_sum, cntL_sum]; simp
theorem cnt_mk (k : Nat) (l : List Sv) : RS.cnt (mkS k l) ≤ 2 + cntL l := by
  unfold mkS
  split
  · rw [RS.cnt]
    cases l with
    | nil => show RS.cnt (.all []) + 1 ≤ 2 + 0; rw [RS.cnt]; show 0 + 1 + 1 ≤ 2; omega
    | cons s l => rw [cntL]; show RS.cnt s + 1 ≤ _; omega
  · split <;> rw [RS.cnt] <;> omega
theorem mk_ok {fs : List Fd} {k p : Nat} {l : List Sv} (h : ∀ s ∈ l, SvOk fs s ∧ lv s + p + 1 ≤ 12) (hp : p ≤ 10) : SvOk fs (mkS k l) ∧ lv (mkS k l) + p ≤ 12 := by
  unfold mkS
  have lvl : lvL l + p + 1 ≤ 12 := by
    have : lvL l ≤ 11 - p := lvL_le fun s hs => by have := (h s hs).2; omega
    omega
  split
  · cases l with
    | nil => exact ⟨by show SvOk fs (.not (.all [])); rw [SvOk, SvOk, SvOkL]; trivial, by show lv (.not (.all [])) + p ≤ 12; rw [lv, lv, lvL]; omega⟩
    | cons s l =>
      obtain ⟨h1, h2⟩ := h s List.mem_cons_self
      exact ⟨by show SvOk fs (.not s); rw [SvOk]; exact h1, by show lv (.not s) + p ≤ 12; rw [lv]; omega⟩
  · split
    · exact ⟨by rw [SvOk, SvOkL_mem]; exact fun s hs => (h s hs).1, by rw [lv]; omega⟩
    · exact ⟨by rw [SvOk, SvOkL_mem]; exact fun s hs => (h s hs).1, by rw [lv]; omega⟩
theorem st_close {fs : List Fd} {T : List Ent} {p e : Ent} (s : StOk fs (T ++ [p, e])) (hl : (T ++ [p, e]).length ≤ 11) :
    StOk fs (T ++ [{ p with l := p.l ++ [mkS e.k e.l] }]) ∧ wS (T ++ [{ p with l := p.l ++ [mkS e.k e.l] }]) ≤ wS (T ++ [p, e]) := by
  have lT : T.length + 2 ≤ 11 := by simpa using hl
  have ep : (T ++ [p, e])[T.length]? = some p := by simp
  have ee : (T ++ [p, e])[T.length + 1]? = some e := by rw [List.getElem?_append_right (by omega)]; simp
  obtain ⟨p1, p2⟩ := s.ok _ _ ep
  obtain ⟨e1, e2⟩ := s.ok _ _ ee
  obtain ⟨m1, m2⟩ := mk_ok (k := e.k) e2 (by omega)
  refine ⟨⟨fun q f hf => ?_, fun f hf => ?_⟩, ?_⟩
  · by_cases hq : q < T.length
    · rw [List.getElem?_append_left hq] at hf
      exact s.ok q f (by rw [List.getElem?_append_left hq]; exact hf)
    · have hq2 := (List.getElem?_eq_some_iff.mp hf).1
      rw [List.length_append, List.length_singleton] at hq2
      have : q = T.length := by omega
      subst this
      simp at hf
      subst hf
      refine ⟨p1, fun t ht => ?_⟩
      rcases List.mem_append.mp ht with ht | ht
      · exact p2 t ht
      · cases List.mem_singleton.mp ht
        exact ⟨m1, by omega⟩
  · cases T with
    | nil =>
      simp at hf
      subst hf
      exact s.b0 p rfl
    | cons a T => exact s.b0 f (by simpa using hf)
  · rw [wS_app, wS_app]
    unfold wS
    simp only [List.map_cons, List.map_nil, List.sum_cons, List.sum_nil]
    rw [cntL_app]
    have := cnt_mk e.k e.l
    show _ + (2 + (cntL p.l + (RS.cnt (mkS e.k e.l) + 0)) + 0) ≤ _
    omega
theorem eq_nil_cell {h : Hv} {i : Nat} {l : List Sv} (hi : h[i]? = some (.lst (l.map svD))) (hl : ∀ s ∈ l, lv s ≤ 12) : eqQ h (.cell i) (.lst []) = some (decide (l = [])) := by
  unfold eqQ
  have e1 : toPy h 60 (.cell i) = some (.list (l.map pyS)) := by
    show (match h[i]? with
      | some (.lst ds) => (optAll (toPy h 59) ds).map PyData.list
      | _ => none) = _
    rw [hi]
    show (optAll (toPy h 59) (l.map svD)).map PyData.list = _
    rw [optAll_map (g := toPy h 59) (e := svD) (e' := pyS) fun s hs => toPy_sv 12 s (hl s hs) h 59 (by decide)]; rfl
  rw [e1, show toPy h 60 (.lst []) = some (.list []) from rfl]
  show some (PyData.eqv (.list (l.map pyS)) (.list [])) = _
  cases l with
  | nil => rfl
  | cons s l => rfl
theorem last_split {α : Type} {S : List α} (h : 1 ≤ S.length) : ∃ T e, S = T ++ [e] := ⟨S.dropLast, S.getLast (by intro z; rw [z] at h; simp at h), (List.dropLast_concat_getLast _).symm⟩
theorem entOk_mono {fs : List Fd} {S : List Ent} (s : StOk fs S) : ∀ e ∈ S, ∀ t ∈ e.l, lv t ≤ 12 := fun e he t ht => by
  obtain ⟨p, hp⟩ := List.getElem?_of_mem he
  have := ((s.ok p e hp).2 t ht).2
  omega
theorem len_wS {S : List Ent} {e : Ent} (he : e ∈ S) : e.l.length ≤ wS S := by
  have a := len_cntL e.l
  have b : ∀ S : List Ent, e ∈ S → cntL e.l ≤ wS S := fun S => by
    intro hS
    induction S with
    | nil => cases hS
    | cons f S ih =>
      have : wS (f :: S) = 2 + cntL f.l + wS S := by unfold wS; simp
      cases hS with
      | head => omega
      | tail _ hS => have := ih hS; omega
  have := b S he
  omega
theorem st_push {h : Hv} {S : List Ent} (s : StAt h S) (k : Nat) : StAt ((h ++ [Cell.lst []]).set 1 (Cell.lst (S.map entD ++ [D.tup [D.str (kn k), D.cell h.length]]))) (S ++ [⟨k, h.length, []⟩]) := by
  have l1 : 1 < h.length := (List.getElem?_eq_some_iff.mp s.st).1
  have lt : ∀ e ∈ S, e.i < h.length := fun e he => (List.getElem?_eq_some_iff.mp (s.ls e he)).1
  refine ⟨?_, fun e he => ?_, ?_, fun e he => ?_⟩
  · rw [List.getElem?_set_self (by simp; omega)]
    simp [entD]
  · rcases List.mem_append.mp he with he | he
    · rw [List.getElem?_set_ne (Ne.symm (s.n1 e he)), List.getElem?_append_left (lt e he)]
      exact s.ls e he
    · cases List.mem_singleton.mp he
      rw [List.getElem?_set_ne (by show 1 ≠ h.length; omega), List.getElem?_append_right (Nat.le_refl _), Nat.sub_self]; rfl
  · rw [List.map_append, List.nodup_append]
    refine ⟨s.nd, by simp, fun a ha b hb => ?_⟩
    obtain ⟨e, he, rfl⟩ := List.mem_map.mp ha
    simp at hb
    subst hb
    have := lt e he
    show e.i ≠ h.length
    omega
  · rcases List.mem_append.mp he with he | he
    · exact s.n1 e he
    · cases List.mem_singleton.mp he
      show h.length ≠ 1
      omega
theorem st_plain {h : Hv} {T : List Ent} {e : Ent} (s : StAt h (T ++ [e])) (t : Sv) : StAt (h.set e.i (.lst (e.l.map svD ++ [svD t]))) (T ++ [{ e with l := e.l ++ [t] }]) := by
  have em : e ∈ T ++ [e] := by simp
  have le := (List.getElem?_eq_some_iff.mp (s.ls e em)).1
  have n1 := s.n1 e em
  refine ⟨?_, fun f hf => ?_, ?_, fun f hf => ?_⟩
  · rw [List.getElem?_set_ne n1, s.st]
    simp [entD]
  · rcases List.mem_append.mp hf with hf | hf
    · have nf : f.i ≠ e.i := fun z => by
        have nd := s.nd
        rw [List.map_append, List.nodup_append] at nd
        exact nd.2.2 f.i (List.mem_map.mpr ⟨f, hf, rfl⟩) e.i (by simp) z
      rw [List.getElem?_set_ne (Ne.symm nf)]
      exact s.ls f (List.mem_append_left _ hf)
    · cases List.mem_singleton.mp hf
      rw [List.getElem?_set_self le]
      simp
  · have nd := s.nd
    simpa using nd
  · rcases List.mem_append.mp hf with hf | hf
    · exact s.n1 f (List.mem_append_left _ hf)
    · cases List.mem_singleton.mp hf
      exact n1
theorem ok_push {fs : List Fd} {S : List Ent} (s : StOk fs S) (h0 : 1 ≤ S.length) {k i : Nat} (hk : k < 3) : StOk fs (S ++ [⟨k, i, []⟩]) := by
  refine ⟨fun p e he => ?_, fun e he => s.b0 e (by rw [List.getElem?_append_left (by omega)] at he; exact he)⟩
  by_cases q : p < S.length
  · rw [List.getElem?_append_left q] at he
    exact s.ok p e he
  · rw [List.getElem?_append_right (by omega)] at he
    have := List.mem_of_getElem? he
    cases List.mem_singleton.mp this
    exact ⟨hk, fun t ht => nomatch ht⟩
theorem ok_plain {fs : List Fd} {T : List Ent} {e : Ent} (s : StOk fs (T ++ [e])) (hl : (T ++ [e]).length ≤ 11) {t : Sv} (h1 : SvOk fs t) (h2 : lv t = 1) : StOk fs (T ++ [{ e with l := e.l ++ [t] }]) := by
  have lT : T.length + 1 ≤ 11 := by simpa using hl
  have ee : (T ++ [e])[T.length]? = some e := by simp
  refine ⟨fun p f hf => ?_, fun f hf => ?_⟩
  · by_cases q : p < T.length
    · rw [List.getElem?_append_left q] at hf
      exact s.ok p f (by rw [List.getElem?_append_left q]; exact hf)
    · have hp := (List.getElem?_eq_some_iff.mp hf).1
      rw [List.length_append, List.length_singleton] at hp
      have : p = T.length := by omega
      subst this
      simp at hf
      subst hf
      obtain ⟨a, b⟩ := s.ok _ _ ee
      refine ⟨a, fun u hu => ?_⟩
      rcases List.mem_append.mp hu with hu | hu
      · exact b u hu
      · cases List.mem_singleton.mp hu
        exact ⟨h1, by omega⟩
  · cases T with
    | nil =>
      simp at hf
      subst hf
      exact s.b0 e rfl
    | cons a T => exact s.b0 f (by simpa using hf)
theorem if3 {p q r : Prop} [Decidable p] [Decidable q] [Decidable r] {X Y : Prop} (h : ¬ (p ∧ q ∧ r)) (y : Y) : if p then (if q then (if r then X else Y) else Y) else Y := by
  by_cases a : p
  · rw [if_pos a]
    by_cases b : q
    · rw [if_pos b, if_neg (fun c => h ⟨a, b, c⟩)]; exact y
    · rw [if_neg b]; exact y
  · rw [if_neg a]; exact y
theorem if2 {p q : Prop} [Decidable p] [Decidable q] {X Y : Prop} (h : ¬ (p ∧ q)) (y : Y) : if p then (if q then X else Y) else Y := by
  by_cases a : p
  · rw [if_pos a, if_neg (fun b => h ⟨a, b⟩)]; exact y
  · rw [if_neg a]; exact y
theorem grown_eq {fs : List Fd} {ws : List (List Nat)} {base : Int} (w : WorldOk fs ws base) {xs : List Int} (h0 : 1 ≤ xs.length) (h1 : xs.length ≤ 100) :
    ∃ s, m__law_grown [.lst (xs.map .int), worldD fs ws base] [] = .ok (svD s) [] ∧ SvOk fs s ∧ lv s ≤ 12 ∧ RS.cnt s ≤ 60 := by
  obtain ⟨PP, hPP⟩ : ∃ PP : VD.R D → Prop, PP = fun x => ∃ s, x = .ok (svD s) [] ∧ SvOk fs s ∧ lv s ≤ 12 ∧ RS.cnt s ≤ 60 := ⟨_, rfl⟩
  suffices hs : PP (m__law_grown [.lst (xs.map .int), worldD fs ws base] []) by rw [hPP] at hs; exact hs
  refine fnQ_of (P := PP) rfl ?_
  unfold b__law_grown
  obtain ⟨x0, hx0⟩ : ∃ x0, xs[0]? = some x0 := ⟨_, List.getElem?_eq_getElem (by omega)⟩
  have i0 : ∀ h, ixD h (.lst (xs.map .int)) 0 = some (.int x0) := fun h => atI_map (e := D.int) (atI_at (j := 0) rfl hx0)
  obtain ⟨k0, hk0, hk⟩ : ∃ k0 : Nat, (k0 = 1 ∨ k0 = 2) ∧ L2.atI [D.str "all", D.str "some"] (x0 % 2) = some (.str (kn k0)) := by
    have a := Int.emod_nonneg x0 (show (2 : Int) ≠ 0 by decide)
    have b := Int.emod_lt_of_pos x0 (show (0 : Int) < 2 by decide)
    rcases (by omega : x0 % 2 = 0 ∨ x0 % 2 = 1) with q | q
    · exact ⟨1, .inl rfl, by rw [q]; rfl⟩
    · exact ⟨2, .inr rfl, by rw [q]; rfl⟩
  simp [i0, hk]
  unfold l__law_grown_1 l__law_grown_2
  obtain ⟨Fin, hFin⟩ : ∃ Fin : VS → Hv → Prop, ∀ σ h, Fin σ h = ∃ (S : List Ent) (many : Nat) (x4 x5 : Option D), σ = [some (.lst (xs.map .int)), some (worldD fs ws base), some (.cell 1), some (.int (many : Int)), x4, x5] ∧
    StAt h S ∧ StOk fs S ∧ 1 ≤ S.length ∧ S.length ≤ 11 ∧ wS S ≤ many + 1 ∧ many ≤ 58 := ⟨fun σ h => _, fun _ _ => rfl⟩
  refine Wp.range 1 (xs.length - 1) (fun _ => Fin) (h0 := [.lst [], .lst [.tup [.str (kn k0), .cell 0]]]) ?_ ?_ ?_ ?_
  · have : (xs.length : Int) - 1 = ((xs.length - 1 : Nat) : Int) := by omega
    simp (disch := omega)
  · rw [hFin]
    refine ⟨[⟨k0, 0, []⟩], 1, none, none, rfl, ⟨rfl, fun e he => ?_, by simp, fun e he => ?_⟩, ⟨fun p e he => ?_, fun e he => ?_⟩, by simp, by simp, Nat.le_refl _, by decide⟩
    · cases List.mem_singleton.mp he; rfl
    · cases List.mem_singleton.mp he; exact Nat.zero_ne_one
    · have := List.mem_of_getElem? he
      cases List.mem_singleton.mp this
      exact ⟨by show k0 < 3; omega, fun t ht => nomatch ht⟩
    · cases he
      show k0 ≠ 0
      omega
  · intro i σ h hi hh
    rw [hFin] at hh
    obtain ⟨S, many, x4, x5, rfl, sa, so, s1, s2, s3, s4⟩ := hh
    refine ⟨_, rfl, ?_⟩
    obtain ⟨x, hx⟩ : ∃ x, xs[i + 1]? = some x := ⟨_, List.getElem?_eq_getElem (by omega)⟩
    have ix : ∀ h, ixD h (.lst (xs.map .int)) (1 + (i : Int)) = some (.int x) := fun h => atI_map (e := D.int) (atI_at (j := i + 1) (by omega) hx)
    have i30 : 1 + (i : Int) < 10 ^ 30 := by
      have a : 1 + (i : Int) < 101 := by omega
      exact Int.lt_trans a (by decide)
    have mx := fun h => callP_mix (s := x) (k := 1 + (i : Int)) (h := h) (by omega) i30
    obtain ⟨seed, hs⟩ : ∃ seed, mixF x (1 + (i : Int)) = seed := ⟨_, rfl⟩
    have sb := mixF_bd x (1 + (i : Int))
    rw [hs] at mx sb
    have ls : ∀ X, h[1]? = some (.lst X) → X = S.map entD := fun X z => by rw [sa.st] at z; cases z; rfl
    obtain ⟨N, hN⟩ : ∃ N, S.length = N := ⟨_, rfl⟩
    have lenS : lenD h (.cell 1) = some (N : Int) := by rw [lenD_cell, sa.st, ← hN]; simp
    have l1 : 1 < h.length := (List.getElem?_eq_some_iff.mp sa.st).1
    have st := sa.st
    by_cases cA : seed % 4 = 0 ∧ S.length < 11 ∧ many < 57
    · obtain ⟨a1, a2, a3⟩ := cA
      have a3' : (many : Int) < 57 := by omega
      have a2' : (N : Int) < 11 := by omega
      obtain ⟨kk, hk3, hkk⟩ : ∃ kk : Nat, kk < 3 ∧ L2.atI [D.str "not", D.str "all", D.str "some"] (seed / 4 % 3) = some (.str (kn kk)) := by
        have a := Int.emod_nonneg (seed / 4) (show (3 : Int) ≠ 0 by decide)
        have b := Int.emod_lt_of_pos (seed / 4) (show (0 : Int) < 3 by decide)
        rcases (by omega : seed / 4 % 3 = 0 ∨ seed / 4 % 3 = 1 ∨ seed / 4 % 3 = 2) with q | q | q
        · exact ⟨0, by decide, by rw [q]; rfl⟩
        · exact ⟨1, by decide, by rw [q]; rfl⟩
        · exact ⟨2, by decide, by rw [q]; rfl⟩
      have g1 : (h ++ [Cell.lst []])[1]? = some (.lst (S.map entD)) := by rw [List.getElem?_append_left l1]; exact st
      have sl : S.length < 16777216 := by omega
      simp [mix_same, ix, mx, a1, a2', a3', st, hkk, g1, sl, lenS, -lenD_cell]
      rw [hFin]
      exact ⟨_, many + 2, _, _, rfl, st_push sa kk, ok_push so s1 hk3, by simp, by simp; omega, by rw [wS_app]; show _ + (2 + 0 + 0) ≤ _; omega, by omega⟩
    · by_cases cB : seed % 8 = 1 ∧ 1 < S.length
      · obtain ⟨b1, b2⟩ := cB
        obtain ⟨S2, e, rfl⟩ := last_split s1
        obtain ⟨T, p, rfl⟩ := last_split (S := S2) (by simp at b2; omega)
        rw [List.append_assoc] at sa so s2 s3 st cA b2 s1 ls hN
        have sa' : StAt h (T ++ [p, e]) := sa
        have so' : StOk fs (T ++ [p, e]) := so
        have w3 : wS (T ++ [p, e]) ≤ 59 := Nat.le_trans (show wS (T ++ [p, e]) ≤ many + 1 from s3) (by omega)
        have lp := len_wS (S := T ++ [p, e]) (e := p) (by simp)
        have le := len_wS (S := T ++ [p, e]) (e := e) (by simp)
        obtain ⟨h', c1, c2, c3⟩ := closed_eq sa' (by omega) (by omega)
        obtain ⟨d1, d2⟩ := st_close so' (by exact s2)
        have na : ¬ seed % 4 = 0 := by omega
        have b2' : (1 : Int) < N := by rw [← hN]; simp; omega
        simp [mix_same, ix, mx, na, st, b1, b2', c1, lenS, -lenD_cell]
        rw [hFin]
        exact ⟨_, many, _, _, rfl, c2, d1, by simp, by simp at s2 ⊢; omega, Nat.le_trans d2 (show wS (T ++ [p, e]) ≤ many + 1 from s3), s4⟩
      · obtain ⟨T, e, rfl⟩ := last_split s1
        have em : e ∈ T ++ [e] := by simp
        have la : L2.atI ((T ++ [e]).map entD) (-1) = some (.tup [.str (kn e.k), .cell e.i]) := by
          rw [List.map_append]
          exact atI_last _ _
        have en := eq_nil_cell (sa.ls e em) (entOk_mono so e em)
        have he := sa.ls e em
        by_cases cC : many < 58 ∧ (e.k ≠ 0 ∨ e.l = [])
        · obtain ⟨c1, c2⟩ := cC
          have pm := fun h => callP_mix (s := seed) (k := 1) (h := h) (by decide) (by decide)
          have pe := cQ (WD.plain_eq w (seed := mixF seed 1)) (by simp [noCL, noC, noC_world])
          rw [← e__law_plain] at pe
          obtain ⟨p1, p2, p3⟩ := WD.plain_ok w (mixF seed 1)
          have plv : lv (plainF fs ws base (mixF seed 1)) = 1 := by
            generalize plainF fs ws base (mixF seed 1) = t at p2
            cases t with
            | not _ => rw [dep] at p2; omega
            | all _ => rw [dep] at p2; omega
            | some _ => rw [dep] at p2; omega
            | _ => rfl
          have cnt1 : RS.cnt (plainF fs ws base (mixF seed 1)) = 1 := by
            generalize plainF fs ws base (mixF seed 1) = t at p2
            cases t with
            | not _ => rw [dep] at p2; omega
            | all _ => rw [dep] at p2; omega
            | some _ => rw [dep] at p2; omega
            | _ => rfl
          have c1' : (many : Int) < 58 := by omega
          have le := len_wS em
          have le2 : e.l.length < 16777216 := by omega
          have kz : (kn e.k = ("not" : Str)) = (e.k = 0) := kn0
          have fin : Fin [some (.lst (xs.map .int)), some (worldD fs ws base), some (.cell 1), some (.int ((many : Int) + 1)), some (.int (1 + (i : Int))), some (.int seed)]
              (h.set e.i (.lst (e.l.map svD ++ [svD (plainF fs ws base (mixF seed 1))]))) := by
            rw [hFin]
            refine ⟨_, many + 1, _, _, rfl, st_plain sa _, ok_plain so s2 p1 plv, by simp, by simpa using s2, ?_, by omega⟩
            rw [wS_app] at s3 ⊢
            unfold wS at s3 ⊢
            simp only [List.map_cons, List.map_nil, List.sum_cons, List.sum_nil] at s3 ⊢
            rw [cntL_app]
            show _ + (2 + (cntL e.l + (RS.cnt _ + 0)) + 0) ≤ _
            omega
          have na : ¬ (seed % 4 = 0 ∧ (N : Int) < 11 ∧ (many : Int) < 57) := fun z => cA ⟨z.1, by omega, by omega⟩
          have nb : ¬ (seed % 8 = 1 ∧ (1 : Int) < N) := fun z => cB ⟨z.1, by omega⟩
          obtain ⟨X, hX⟩ : ∃ X, (T ++ [e]).map entD = X := ⟨_, rfl⟩
          rw [hX] at st la
          simp [mix_same, ix, mx, st, lenS, -lenD_cell, c1', la, kn0, en, he, pm, pe, le2]
          refine if3 na (if2 nb ?_)
          by_cases z : e.k = 0
          · have z2 : e.l = [] := c2.resolve_left (fun y => y z)
            rw [if_pos z, if_pos z2]
            exact fin
          · rw [if_neg z]
            exact fin
        · have na : ¬ (seed % 4 = 0 ∧ (N : Int) < 11 ∧ (many : Int) < 57) := fun z => cA ⟨z.1, by omega, by omega⟩
          have nb : ¬ (seed % 8 = 1 ∧ (1 : Int) < N) := fun z => cB ⟨z.1, by omega⟩
          obtain ⟨X, hX⟩ : ∃ X, (T ++ [e]).map entD = X := ⟨_, rfl⟩
          rw [hX] at st la
          simp [mix_same, ix, mx, st, lenS, -lenD_cell, la, kn0, en, he]
          refine if3 na (if2 nb ?_)
          have fin : Fin [some (.lst (xs.map .int)), some (worldD fs ws base), some (.cell 1), some (.int (many : Int)), some (.int (1 + (i : Int))), some (.int seed)] h := by
            rw [hFin]
            exact ⟨_, many, _, _, rfl, sa, so, s1, s2, s3, s4⟩
          by_cases c1 : (many : Int) < 58
          · rw [if_pos c1]
            by_cases z : e.k = 0
            · have z2 : ¬ e.l = [] := fun y => cC ⟨by omega, .inr y⟩
              rw [if_pos z, if_neg z2]
              exact fin
            · exact absurd ⟨by omega, .inl z⟩ cC
          · rw [if_neg c1]
            exact fin
  · intro σ h hh
    rw [hFin] at hh
    obtain ⟨S, many, x4, x5, rfl, sa, so, s1, s2, s3, s4⟩ := hh
    rw [Wp_sq_next]
    simp only [Wp_seq]
    obtain ⟨J, hJ⟩ : ∃ J : VS → Hv → Prop, ∀ σ h, J σ h = ∃ (S : List Ent), σ = [some (.lst (xs.map .int)), some (worldD fs ws base), some (.cell 1), some (.int (many : Int)), x4, x5] ∧
      StAt h S ∧ StOk fs S ∧ 1 ≤ S.length ∧ S.length ≤ 11 ∧ wS S ≤ many + 1 := ⟨fun σ h => _, fun _ _ => rfl⟩
    have sl : ∀ h S, StAt h S → lenD h (.cell 1) = some (S.length : Int) := fun h S sa => by rw [lenD_cell, sa.st]; simp
    refine Wp.while J (fun (_ : VS) (h : Hv) => match h[1]? with
      | some (Cell.lst xs) => xs.length
      | _ => 0) ?_ (by rw [hJ]; exact ⟨S, rfl, sa, so, s1, s2, s3⟩)
    intro σ h hh
    rw [hJ] at hh
    clear s1 s2 s3 sa so
    obtain ⟨S, rfl, sa, so, s1, s2, s3⟩ := hh
    have lenS := sl h S sa
    by_cases b2 : 1 < S.length
    · have b2' : (1 : Int) < S.length := by omega
      refine ⟨true, by simp [lenS, -lenD_cell]; omega, ?_⟩
      rw [if_pos rfl]
      obtain ⟨S2, e, rfl⟩ := last_split s1
      obtain ⟨T, p, rfl⟩ := last_split (S := S2) (by simp at b2; omega)
      rw [List.append_assoc] at sa so s2 s3
      have sa' : StAt h (T ++ [p, e]) := sa
      have so' : StOk fs (T ++ [p, e]) := so
      have s3' : wS (T ++ [p, e]) ≤ many + 1 := s3
      have w3 : wS (T ++ [p, e]) ≤ 59 := Nat.le_trans s3' (by omega)
      have lp := len_wS (S := T ++ [p, e]) (e := p) (by simp)
      have le := len_wS (S := T ++ [p, e]) (e := e) (by simp)
      obtain ⟨h', c1, c2, c3⟩ := closed_eq sa' (by omega) (by omega)
      obtain ⟨d1, d2⟩ := st_close so' (by exact s2)
      simp [c1]
      rw [hJ]
      refine ⟨⟨_, rfl, c2, d1, by simp, by simp at s2 ⊢; omega, Nat.le_trans d2 s3'⟩, ?_⟩
      rw [c2.st, sa'.st]
      simp
    · have b2' : ¬ (1 : Int) < S.length := by omega
      refine ⟨false, by simp [lenS, -lenD_cell]; omega, ?_⟩
      rw [if_neg Bool.false_ne_true]
      obtain ⟨e, rfl⟩ : ∃ e, S = [e] := by
        match S, s1, b2 with
        | [e], _, _ => exact ⟨e, rfl⟩
        | _ :: _ :: _, _, b => simp at b
      have st := sa.st
      have he := sa.ls e (by simp)
      have bt := bTuple_cell he
      have kne := so.b0 e rfl
      obtain ⟨_, lk⟩ := so.ok 0 e rfl
      have c2 : RS.cnt (mkS e.k e.l) ≤ 60 := by
        have := cnt_mk e.k e.l
        have : wS [e] = 2 + cntL e.l + 0 := rfl
        omega
      have d0 : L2.atI ([e].map entD) 0 = some (.tup [.str (kn e.k), .cell e.i]) := rfl
      simp [st, entD, bt]
      refine ⟨_, frzQ_y (by simp [noC, noCL, noCL_map]), ?_⟩
      rw [hPP]
      obtain ⟨m1, m2⟩ := mk_ok (k := e.k) (p := 0) lk (by decide)
      exact ⟨mkS e.k e.l, by rw [svD_mk _ _ kne], m1, by omega, c2⟩
end
end Lk09
namespace Lk09
open PySem PySem.Spec PyProof.Rows L2 VD PS PT RS
open WT hiding Tx
open WD (worldD WorldOk plainF noC_world dgk dg_f)
noncomputable section
def SvGood (fs : List Fd) (s : Sv) : Prop := SvOk fs s ∧ lv s ≤ 12 ∧ RS.cnt s ≤ 60
theorem eq_fds {fs : List Fd} (h : Hv) : eqQ h (fdsD fs) (fdsD fs) = some true := by
  have e : ∀ h, toPy h 60 (fdsD fs) = some (.list (fs.map fun f => .tuple [.str (sx f.1), .str (kindS f.2)])) := fun h => by
    show (optAll (toPy h 59) (fs.map fdD)).map PyData.list = _
    rw [optAll_map (g := toPy h 59) (e := fdD) (e' := fun f => PyData.tuple [.str (sx f.1), .str (kindS f.2)]) fun f _ => rfl]; rfl
  exact eqQ_same (e h) (e h)
theorem plain_good {fs : List Fd} {ws : List (List Nat)} {base : Int} (w : WorldOk fs ws base) (seed : Int) : SvGood fs (plainF fs ws base seed) := by
  obtain ⟨p1, p2, p3⟩ := WD.plain_ok w seed
  refine ⟨p1, ?_, ?_⟩
  · generalize plainF fs ws base seed = t at p2
    cases t with
    | not _ => rw [dep] at p2; omega
    | all _ => rw [dep] at p2; omega
    | some _ => rw [dep] at p2; omega
    | _ => exact show 1 ≤ 12 by decide
  · generalize plainF fs ws base seed = t at p2
    cases t with
    | not _ => rw [dep] at p2; omega
    | all _ => rw [dep] at p2; omega
    | some _ => rw [dep] at p2; omega
    | _ => exact show 1 ≤ 60 by decide
theorem law_true (ns : List Int) (hl : ns.length ≤ 63) : m_law [.fz (ns.map .int)] [] = .ok (.bl true) [] := by
  refine fnS_of (P := fun x => x = .ok (.bl true) []) rfl ?_
  unfold b_law
  obtain ⟨fs, ws, base, we, w⟩ := WD.world_eq (ns := ns)
  have we := cP we (by simp)
  rw [← world_same] at we
  have fh := w.fs.hi
  have c1 := fun h => callP_cell (ns := ns) (k := 1) (h := h) (by decide)
  obtain ⟨ys, hy, yl⟩ : ∃ ys : List Int, VD.cutD (ns.map D.int) (some 2) (some 58) = ys.map .int ∧ ys.length ≤ 63 := by
    unfold VD.cutD
    refine ⟨(ns.drop _).take _, by rw [List.map_take, List.map_drop], ?_⟩
    rw [List.length_take, List.length_drop]; omega
  obtain ⟨s0, g1, g2, g3, g4⟩ := grown_eq w (xs := cellF ns 1 :: ys) (by simp) (by simp; omega)
  have ge := cQ g1 (by simp [noCL, noC, noC_world, noCL_all])
  rw [List.map_cons] at ge
  have lo : ∀ h, lOf h (fdsD fs) = some (fs.map fdD) := fun _ => rfl
  have el : D.lst (fs.map fdD) = fdsD fs := rfl
  have yl2 : 1 + ys.length ≤ 16777216 := by omega
  simp [we, dgk, dg_f, lo, el, c1, cell_same, hy, yl2, ge]
  unfold l_law_1
  have e1 : D.tup [.str "all", .tup []] = svD (.all []) := rfl
  have e2 : D.tup [.str "some", .tup []] = svD (.some []) := rfl
  have g0 : ∀ s ∈ [s0, .all [], .some []], SvGood fs s := fun s hs => by
    simp only [List.mem_cons, List.not_mem_nil, or_false] at hs
    rcases hs with rfl | rfl | rfl
    · exact ⟨g2, g3, g4⟩
    · exact ⟨by rw [SvOk, SvOkL]; trivial, by decide, by decide⟩
    · exact ⟨by rw [SvOk, SvOkL]; trivial, by decide, by decide⟩
  obtain ⟨I, hI⟩ : ∃ I : Nat → VS → Hv → Prop, ∀ i σ h, I i σ h = ∃ (L : List Sv) (x4 : Option D), σ = [some (.fz (ns.map .int)), some (worldD fs ws base), some (fdsD fs), some (.cell 0), x4, none, none, none] ∧ h = [.lst (L.map svD)] ∧ L.length ≤ 3 + i ∧ ∀ s ∈ L, SvGood fs s := ⟨fun _ _ _ => _, fun _ _ _ => rfl⟩
  refine Wp.range 0 4 I (h0 := [.lst [svD s0, .tup [.str "all", .tup []], .tup [.str "some", .tup []]]]) (by simp) (by rw [hI]; exact ⟨[s0, .all [], .some []], _, rfl, rfl, by simp, g0⟩) ?_ ?_
  · intro i σ h hi hh
    rw [hI] at hh
    obtain ⟨L, x4, rfl, rfl, l1, l2⟩ := hh
    refine ⟨_, rfl, ?_⟩
    have m1 := fun h => callP_mix (s := cellF ns 1) (k := 20 + (i : Int)) (h := h) (by omega) (Int.lt_trans (show 20 + (i : Int) < 30 by omega) (by decide))
    have pe := cQ (WD.plain_eq w (seed := mixF (cellF ns 1) (20 + (i : Int)) / 32 * 32 + 8 * (i : Int))) (by simp [noCL, noC, noC_world])
    rw [← e__law_plain] at pe
    have pg := plain_good w (mixF (cellF ns 1) (20 + (i : Int)) / 32 * 32 + 8 * (i : Int))
    have ll : L.length < 16777216 := by omega
    have mb := mixF_bd (cellF ns 1) (20 + (i : Int))
    simp (disch := omega) [c1, cell_same, mix_same, m1, pe, ll]
    rw [hI]
    refine ⟨L ++ [plainF fs ws base (mixF (cellF ns 1) (20 + (i : Int)) / 32 * 32 + 8 * (i : Int))], _, rfl, by simp, by simp; omega, fun s hs => ?_⟩
    rcases List.mem_append.mp hs with hs | hs
    · exact l2 s hs
    · cases List.mem_singleton.mp hs
      exact pg
  · intro σ h hh
    rw [hI] at hh
    obtain ⟨L, x4, rfl, rfl, l1, l2⟩ := hh
    rw [Wp_sq_next]
    simp only [Wp_seq]
    unfold l_law_2
    obtain ⟨J, hJ⟩ : ∃ J : Nat → VS → Hv → Prop, ∀ i σ h, J i σ h = ∃ (x5 x6 x7 : Option D), σ = [some (.fz (ns.map .int)), some (worldD fs ws base), some (fdsD fs), some (.cell 0), x4, x5, x6, x7] ∧ h = [.lst (L.map svD)] := ⟨fun _ _ _ => _, fun _ _ _ => rfl⟩
    refine Wp.loop svD L J (chk := isCell 0 (L.map svD)) (h0 := [.lst (L.map svD)]) (by simp) (by rw [hJ]; exact ⟨_, _, _, rfl, rfl⟩) ?_ ?_ ?_
    · intro i σ h hh
      rw [hJ] at hh
      obtain ⟨x5, x6, x7, rfl, rfl⟩ := hh
      simp [isCell]
    · intro i s σ h hi hh
      rw [hJ] at hh
      obtain ⟨x5, x6, x7, rfl, rfl⟩ := hh
      refine ⟨_, rfl, ?_⟩
      obtain ⟨q1, q2, q3⟩ := l2 s (List.mem_of_getElem? hi)
      have dl := dep_lv s
      have t1 := cQ (ltext_eq w.fs 16 s (by omega) q1 (by omega)) (by simp [noCL, noC_sv])
      have t2 := cQ (shown_eq w.fs 16 s (by omega) q1 (by omega)) (by simp [noCL, noC_sv])
      rw [← e_shown_sieve] at t2
      have tl := len_tx w.fs.nm (dep s + 1) s (by omega) q1
      have t3 := cQ (read_right (fs := fs) (t := txS s) (by omega) (by omega) (read_txt w.fs q1 q2 q3)) (by simp [noCL, noC, noC_fds])
      rw [← e_read_sieve] at t3
      have es : ∀ h, eqQ h (svD s) (svD s) = some true := fun h => eqQ_same (toPy_sv 12 s q2 h 60 (by decide)) (toPy_sv 12 s q2 h 60 (by decide))
      have ef := fun h => eq_fds (fs := fs) h
      simp [t1, t2, t3, es, ef, PV.kss, dgk, dg_f]
      rw [hJ]
      exact ⟨_, _, _, rfl, rfl⟩
    · intro σ h hh
      rw [hJ] at hh
      obtain ⟨x5, x6, x7, rfl, rfl⟩ := hh
      simp
end
end Lk09
open PySem PySem.W PySem.Calls PyProof.Rows
set_option maxHeartbeats 0 in
theorem PySem.Challenge.cw_crosshall_k09_sieve_texts_holds : PySem.Challenge.rw_crosshall_k09_sieve_texts.Holds := by
  w_on; o_law
  refine HandSHeadRun.head_any (r := OpenLaw.row PySem.Challenge.rw_crosshall_k09_sieve_texts) (q := view (OpenLaw.row PySem.Challenge.rw_crosshall_k09_sieve_texts).prog [47]) (H := Lk09.hk) (ob := Lk09.ob) (M := 8000) (loose := Lk09.loose) (d := HandSHeadRun.topDef (OpenLaw.row PySem.Challenge.rw_crosshall_k09_sieve_texts).prog 47) (kwd := []) Lk09.ob_eq
    (by kernel_rfl) (fun s => by kernel_rfl) Lk09.run (by kernel_rfl) (by kernel_rfl) (by kernel_rfl) (by rfl) (by first | assumption | decide +kernel) (by decide +kernel) ⟨rfl, rfl, rfl, rfl, rfl, by decide +kernel⟩ ?hw ?hc
  case hw => w_witness2
  case hc =>
    refine VD.walk_own (lw := PySem.Challenge.rw_crosshall_k09_sieve_texts) (num := 63) (lev := 39) (nm := "_law_script") (CC := L2.CX PySem.Challenge.pw_crosshall_k09_sieve_texts) rfl (by decide) (by kernel_rfl) ⟨rfl, by decide, by decide⟩ ?F (fun _ _ _ _ _ z => VD.cx_false z)
    intro w mg fa h Y G hmg0
    obtain ⟨K, KX, c, ce, tl, tm⟩ := Y
    have hmg : mg ("law" : PySem.Str) = some (.ref fa) := by
      have e : (HandSHeadRun.topDef (OpenLaw.row PySem.Challenge.rw_crosshall_k09_sieve_texts).prog 47).name = ("law" : PySem.Str) := by kernel_rfl
      rw [← e]
      exact hmg0
    have T := Lk09.tx_of KX G c ce tm
    exact VD.law_end KX T.d_law T.g_law hmg (fun fd F s u => by obtain ⟨_, _, _, _, _, _, _, _, _, rfl, _, _⟩ := F.ex; exact .of_eq rfl) (fun base => Lk09.ok_law T) Lk09.law_true
