import PyProof.Rows.All
import Wide.All
import OpenK.AllK
import Wide.FinOn
import HandS.ForMost
import HandS.Nested
import HandS.DictComp
import HandS.SortRule
import HandS.SortInts
import KE.KSortTupG
import PyProof.TupleOfSeq
import PyProof.ReprRoads
import PyProof.ReprLen
import HandS.RaiseMore
import HandS.TupMul
import KE.KTupSum
import HandS.Gcd
import HandS.TupAny
import HandS.Style
import HandS.Deep
import HandS.Strs
import HandS.Text
import HandS.SetFor
import KE.DataFind
import PyProof.ListRange
import PyProof.ListStr
import HandS.More
import KE.GoesEnum
import KE.GoesMore
import HandS.Zip
import HandS.IsInst
import KE.KDictZip
import KE.GoesZip
import HandS.Dict
import KE.KItemsList
import HandS.ListItems
import HandS.Small
import HandS.HeadHook4
import HandS.Defaults
import HandS.HeadWalk
import PySem.Challenge.RW_waterturns_k72_whole_closings_led_hour_b
import KE.KStateDown
import HandS.Head2
set_option Elab.async false
set_option linter.all false
set_option maxRecDepth 100000
/-! EvA: own values, the evaluator's state, the relation to the hand layer's abstract heap. -/
namespace EV
open PySem PySem.Spec PyProof.Rows L2

/-- plain data, as trees -/
inductive D where
  | non | bl (b : Bool) | int (i : Int) | str (x : Str) | tup (xs : List D) | lst (xs : List D)
  | dic (ks : List Key) (ds : List D) | dit (ks : List (List Key)) (ds : List D)
  deriving Inhabited

/-- what a name may hold: data; a box; the own thing of a slot (a handle); a function captured elsewhere; one made here; the script -/
inductive Val where
  | d (x : D) | ref (j : Nat) | own (i : Nat) | clo (c : Nat) (caps : List (Option D)) | mk (c : Nat) | scr (ns : List Int) | kon (xs : List D)
  deriving Inhabited

inductive Sl where
  | no | val (v : Val) | own (b : D)
  deriving Inhabited

abbrev Ev := List Sl
abbrev Hh := List D

inductive Out (α : Type) where
  | ok (a : α) (ρ : Ev) (h : Hh)
  | bad
abbrev M (α : Type) := Ev → Hh → Out α
def M.ret {α : Type} (a : α) : M α := fun ρ h => .ok a ρ h
def M.fail {α : Type} : M α := fun _ _ => .bad
def M.bind {α β : Type} (m : M α) (f : α → M β) : M β := fun ρ h => match m ρ h with
  | .ok a ρ' h' => f a ρ' h'
  | .bad => .bad
theorem M.bind_ok {α β : Type} {m : M α} {f : α → M β} {ρ : Ev} {h : Hh} {b : β} {ρ2 : Ev} {h2 : Hh} (e : M.bind m f ρ h = .ok b ρ2 h2) :
    ∃ a ρ1 h1, m ρ h = .ok a ρ1 h1 ∧ f a ρ1 h1 = .ok b ρ2 h2 := by
  unfold M.bind at e
  cases q : m ρ h with
  | ok a ρ1 h1 => rw [q] at e; exact ⟨a, ρ1, h1, rfl, e⟩
  | bad => rw [q] at e; cases e

/-! ### reading through handles -/
def rd (ρ : Ev) (h : Hh) : Val → Option D
  | .d x => some x
  | .ref j => h[j]?
  | .own i => (match ρ[i]? with
    | some (.own b) => some b
    | _ => none)
  | .kon xs => some (.tup xs)
  | _ => none

/-! ### data against the abstract heap: A tells the addresses of what may still change -/
/-- a tuple of the written part -/
def KTup (K : PySem.W.Frag) (a : Addr) (vs : List V) : Prop :=
  ∃ (o : Obj) (its : Array Value) (n : Nat), K.lookup a = some o ∧ o.cls = .type "tuple" ∧ o.data = .seq its n ∧ its.size ≤ sizeLine ∧ Vals vs its.toList
mutual
def RepD (K : PySem.W.Frag) (H : Hp) (A : Addr → Prop) : D → V → Prop
  | .non, v => v = .non
  | .bl b, v => v = .bl b
  | .int i, v => v = .int i
  | .str x, v => v = .str x ∧ PyData.strOk x = true ∧ x.length ≤ sizeLine
  | .tup xs, v => ∃ a vs, v = .ref a ∧ H a = some (.tup vs) ∧ RepDs K H A xs vs
  | .lst xs, v => ∃ a vs, v = .ref a ∧ H a = some (.lst vs) ∧ ¬ A a ∧ RepDs K H A xs vs
  | .dic ks ds, v => ∃ a kvs, v = .ref a ∧ Rd H a (.dK kvs) ∧ ¬ A a ∧ kvs.map (·.1) = ks ∧ RepDs K H A ds (kvs.map (·.2))
  | .dit ks ds, v => ∃ a kvs, v = .ref a ∧ Rd H a (.dT kvs) ∧ ¬ A a ∧ kvs.map (·.1) = ks ∧ RepDs K H A ds (kvs.map (·.2))
def RepDs (K : PySem.W.Frag) (H : Hp) (A : Addr → Prop) : List D → List V → Prop
  | [], vs => vs = []
  | x :: xs, vs => ∃ v r, vs = v :: r ∧ RepD K H A x v ∧ RepDs K H A xs r
end
section
variable (K : PySem.W.Frag) (H : Hp) (A : Addr → Prop)
/-- what stands at the address of an own thing, of a box -/
def BoxAt : D → Addr → Prop
  | .lst xs, a => ∃ vs, H a = some (.lst vs) ∧ RepDs K H A xs vs
  | .dic ks ds, a => ∃ kvs, H a = some (.dK kvs) ∧ kvs.map (·.1) = ks ∧ RepDs K H A ds (kvs.map (·.2))
  | .dit ks ds, a => ∃ kvs, H a = some (.dT kvs) ∧ kvs.map (·.1) = ks ∧ RepDs K H A ds (kvs.map (·.2))
  | _, _ => False
end

/-- the abstract heap goes on: what is not in A stays, and is not in A' -/
structure Kp (H : Hp) (A : Addr → Prop) (H' : Hp) (A' : Addr → Prop) : Prop where
  tup : ∀ a vs, H a = some (.tup vs) → H' a = some (.tup vs)
  lst : ∀ a vs, H a = some (.lst vs) → ¬ A a → H' a = some (.lst vs) ∧ ¬ A' a
  dK : ∀ a kvs, Rd H a (.dK kvs) → ¬ A a → Rd H' a (.dK kvs) ∧ ¬ A' a
  dT : ∀ a kvs, Rd H a (.dT kvs) → ¬ A a → Rd H' a (.dT kvs) ∧ ¬ A' a
  frz : ∀ a o u, H a = some (.frz o u) → H' a = some (.frz o u)
theorem Kp.refl {H : Hp} {A : Addr → Prop} : Kp H A H A := ⟨fun _ _ e => e, fun _ _ e n => ⟨e, n⟩, fun _ _ e n => ⟨e, n⟩, fun _ _ e n => ⟨e, n⟩, fun _ _ _ e => e⟩
theorem Kp.trans {H H1 H2 : Hp} {A A1 A2 : Addr → Prop} (p : Kp H A H1 A1) (q : Kp H1 A1 H2 A2) : Kp H A H2 A2 :=
  ⟨fun a vs e => q.tup a vs (p.tup a vs e), fun a vs e n => let ⟨x, y⟩ := p.lst a vs e n; q.lst a vs x y,
   fun a vs e n => let ⟨x, y⟩ := p.dK a vs e n; q.dK a vs x y, fun a vs e n => let ⟨x, y⟩ := p.dT a vs e n; q.dT a vs x y, fun a o u e => q.frz a o u (p.frz a o u e)⟩
section
variable {K : PySem.W.Frag} {H H' : Hp} {A A' : Addr → Prop}
mutual
theorem RepD.kp (p : Kp H A H' A') : ∀ (d : D) (v : V), RepD K H A d v → RepD K H' A' d v
  | .non, _, r => r
  | .bl _, _, r => r
  | .int _, _, r => r
  | .str _, _, r => r
  | .tup xs, v, r => by
    obtain ⟨a, vs, e, h, q⟩ := r
    exact ⟨a, vs, e, p.tup a vs h, RepDs.kp p xs vs q⟩
  | .lst xs, v, r => by
    obtain ⟨a, vs, e, h, n, q⟩ := r
    exact ⟨a, vs, e, (p.lst a vs h n).1, (p.lst a vs h n).2, RepDs.kp p xs vs q⟩
  | .dic ks ds, v, r => by
    obtain ⟨a, vs, e, h, n, k, q⟩ := r
    exact ⟨a, vs, e, (p.dK a vs h n).1, (p.dK a vs h n).2, k, RepDs.kp p ds _ q⟩
  | .dit ks ds, v, r => by
    obtain ⟨a, vs, e, h, n, k, q⟩ := r
    exact ⟨a, vs, e, (p.dT a vs h n).1, (p.dT a vs h n).2, k, RepDs.kp p ds _ q⟩
theorem RepDs.kp (p : Kp H A H' A') : ∀ (ds : List D) (vs : List V), RepDs K H A ds vs → RepDs K H' A' ds vs
  | [], _, r => r
  | x :: xs, vs, r => by
    obtain ⟨v, t, e, r1, r2⟩ := r
    exact ⟨v, t, e, RepD.kp p x v r1, RepDs.kp p xs t r2⟩
end
theorem RepDs.length : ∀ {ds : List D} {vs : List V}, RepDs K H A ds vs → ds.length = vs.length
  | [], _, r => by cases (show _ = [] from r); rfl
  | x :: xs, _, r => by
    obtain ⟨v, t, e, _, r2⟩ := r
    subst e
    exact congrArg (· + 1) (RepDs.length r2)
theorem RepDs.get : ∀ {ds : List D} {vs : List V} {i : Nat} {x : D}, RepDs K H A ds vs → ds[i]? = some x → ∃ v, vs[i]? = some v ∧ RepD K H A x v
  | [], _, _, _, _, e => by simp at e
  | y :: ys, _, 0, x, r, e => by
    obtain ⟨v, t, e1, r1, _⟩ := r
    subst e1
    cases (Option.some.inj e)
    exact ⟨v, rfl, r1⟩
  | y :: ys, _, i + 1, x, r, e => by
    obtain ⟨v, t, e1, _, r2⟩ := r
    subst e1
    exact RepDs.get (i := i) r2 e
theorem RepDs.getV {ds : List D} {vs : List V} {i : Nat} {v : V} (r : RepDs K H A ds vs) (e : vs[i]? = some v) : ∃ x, ds[i]? = some x ∧ RepD K H A x v := by
  obtain ⟨hl, _⟩ := List.getElem?_eq_some_iff.mp e
  have hd : i < ds.length := by rw [r.length]; exact hl
  obtain ⟨u, h1, h2⟩ := r.get (List.getElem?_eq_getElem hd)
  rw [e] at h1
  cases h1
  exact ⟨_, List.getElem?_eq_getElem hd, h2⟩
theorem RepDs.app : ∀ {ds es : List D} {vs us : List V}, RepDs K H A ds vs → RepDs K H A es us → RepDs K H A (ds ++ es) (vs ++ us)
  | [], _, _, _, r, q => by cases (show _ = [] from r); exact q
  | x :: xs, _, _, _, r, q => by
    obtain ⟨v, t, e, r1, r2⟩ := r
    subst e
    exact ⟨v, t ++ _, rfl, r1, RepDs.app r2 q⟩
theorem RepDs.one {d : D} {v : V} (r : RepD K H A d v) : RepDs K H A [d] [v] := ⟨v, [], rfl, r, rfl⟩
theorem RepDs.take : ∀ {ds : List D} {vs : List V} (n : Nat), RepDs K H A ds vs → RepDs K H A (ds.take n) (vs.take n)
  | _, _, 0, _ => by simp [RepDs]
  | [], _, n + 1, r => by cases (show _ = [] from r); rfl
  | x :: xs, _, n + 1, r => by
    obtain ⟨v, t, e, r1, r2⟩ := r
    subst e
    exact ⟨v, t.take n, rfl, r1, RepDs.take n r2⟩
theorem RepDs.drop : ∀ {ds : List D} {vs : List V} (n : Nat), RepDs K H A ds vs → RepDs K H A (ds.drop n) (vs.drop n)
  | _, _, 0, r => r
  | [], _, n + 1, r => by cases (show _ = [] from r); rfl
  | x :: xs, _, n + 1, r => by
    obtain ⟨v, t, e, _, r2⟩ := r
    subst e
    exact RepDs.drop n r2
theorem RepDs.set : ∀ {ds : List D} {vs : List V} {d : D} {v : V} (i : Nat), RepDs K H A ds vs → RepD K H A d v → RepDs K H A (ds.set i d) (vs.set i v)
  | [], _, _, _, i, r, _ => by cases (show _ = [] from r); rfl
  | x :: xs, _, _, _, 0, r, q => by
    obtain ⟨v, t, e, _, r2⟩ := r
    subst e
    exact ⟨_, t, rfl, q, r2⟩
  | x :: xs, _, _, _, i + 1, r, q => by
    obtain ⟨v, t, e, r1, r2⟩ := r
    subst e
    exact ⟨v, t.set i _, rfl, r1, RepDs.set i r2 q⟩
theorem RepDs.erase : ∀ {ds : List D} {vs : List V} (i : Nat), RepDs K H A ds vs → RepDs K H A (ds.eraseIdx i) (vs.eraseIdx i)
  | [], _, i, r => by cases (show _ = [] from r); rfl
  | x :: xs, _, 0, r => by
    obtain ⟨v, t, e, _, r2⟩ := r
    subst e
    exact r2
  | x :: xs, _, i + 1, r => by
    obtain ⟨v, t, e, r1, r2⟩ := r
    subst e
    exact ⟨v, t.eraseIdx i, rfl, r1, RepDs.erase i r2⟩
theorem BoxAt.kp {b : D} {a : Addr} (p : Kp H A H' A') (x : BoxAt K H A b a) (e : ∀ o, H a = some o → H' a = some o) : BoxAt K H' A' b a := by
  cases b <;> first | exact x.elim | skip
  · obtain ⟨vs, h, r⟩ := x; exact ⟨vs, e _ h, r.kp p⟩
  · obtain ⟨vs, h, k, r⟩ := x; exact ⟨vs, e _ h, k, r.kp p⟩
  · obtain ⟨vs, h, k, r⟩ := x; exact ⟨vs, e _ h, k, r.kp p⟩
theorem BoxAt.here {b : D} {a : Addr} (x : BoxAt K H A b a) : ∃ o, H a = some o ∧ (∀ vs, o ≠ .tup vs) ∧ (∀ ps, o ≠ .tbl ps) := by
  cases b <;> first | exact x.elim | skip
  · obtain ⟨vs, h, r⟩ := x; exact ⟨_, h, (fun _ z => nomatch z), (fun _ z => nomatch z)⟩
  · obtain ⟨vs, h, r⟩ := x; exact ⟨_, h, (fun _ z => nomatch z), (fun _ z => nomatch z)⟩
  · obtain ⟨vs, h, r⟩ := x; exact ⟨_, h, (fun _ z => nomatch z), (fun _ z => nomatch z)⟩
/-- an own thing, frozen -/
theorem BoxAt.frozen {b : D} {a : Addr} (x : BoxAt K H A b a) (n : ¬ A a) : RepD K H A b (.ref a) := by
  cases b <;> first | exact x.elim | skip
  · obtain ⟨vs, h, r⟩ := x; exact ⟨a, vs, rfl, h, n, r⟩
  · obtain ⟨vs, h, k, r⟩ := x; exact ⟨a, vs, rfl, .inl h, n, k, r⟩
  · obtain ⟨vs, h, k, r⟩ := x; exact ⟨a, vs, rfl, .inl h, n, k, r⟩
end
end EV

set_option maxRecDepth 100000
set_option maxHeartbeats 4000000
/-! EvBd: plain parameters bound. -/
namespace EV
open PySem PySem.Spec PyProof.Rows L2

theorem zip_lookup : ∀ {ps : List Str} {us : List Value} {i : Nat} {x : Str} {u : Value}, ps.Nodup → ps[i]? = some x → us[i]? = some u → (ps.zip us).lookup x = some u
  | [], _, _, _, _, _, h, _ => by simp at h
  | _ :: _, [], _, _, _, _, _, h => by simp at h
  | p :: ps, v :: us, 0, x, u, nd, h1, h2 => by
    simp at h1 h2
    subst h1; subst h2
    simp [List.lookup]
  | p :: ps, v :: us, i + 1, x, u, nd, h1, h2 => by
    have e : (ps.zip us).lookup x = some u := zip_lookup (i := i) (List.nodup_cons.mp nd).2 (by simpa using h1) (by simpa using h2)
    have hx : x ≠ p := fun z => (List.nodup_cons.mp nd).1 (by rw [← z]; exact List.mem_of_getElem? (by simpa using h1))
    rw [List.zip_cons_cons, List.lookup_cons]
    rw [beq_eq_false_iff_ne.mpr hx]
    exact e
theorem zip_some {ps : List Str} {us : List Value} (nd : ps.Nodup) (hl : us.length = ps.length) {x : Str} (hx : x ∈ ps) : ∃ u, (ps.zip us).lookup x = some u := by
  obtain ⟨i, hi⟩ := List.mem_iff_getElem?.mp hx
  have hl' := (List.getElem?_eq_some_iff.mp hi).1
  exact ⟨us[i]'(by rw [hl]; exact hl'), zip_lookup nd hi (List.getElem?_eq_getElem _)⟩
theorem zip_none {ps : List Str} {us : List Value} (nd : ps.Nodup) (hl : us.length = ps.length) : (ps.filter fun n => ((ps.zip us).lookup n).isNone) = [] := by
  rw [List.filter_eq_nil_iff]
  intro x hx
  obtain ⟨u, hu⟩ := zip_some nd hl hx
  rw [hu]; simp
theorem zip_by {L : List (Str × Value)} : ∀ {qs : List Str} {vs : List Value}, vs.length = qs.length → (∀ (i : Nat) (x : Str) (u : Value), qs[i]? = some x → vs[i]? = some u → L.lookup x = some u) → (qs.filterMap fun n => (L.lookup n).map (n, ·)) = qs.zip vs
  | [], [], _, _ => rfl
  | [], _ :: _, h, _ => by cases h
  | _ :: _, [], h, _ => by cases h
  | q :: qs, v :: vs, hl, h => by
    have e := h 0 q v rfl rfl
    rw [List.filterMap_cons, e, List.zip_cons_cons]
    show (q, v) :: _ = _
    rw [zip_by (by simpa using hl) fun i x u h1 h2 => h (i + 1) x u h1 h2]
theorem zip_back {ps : List Str} {us : List Value} (nd : ps.Nodup) (hl : us.length = ps.length) : (ps.filterMap fun n => ((ps.zip us).lookup n).map (n, ·)) = ps.zip us :=
  zip_by hl fun _ _ _ h1 h2 => zip_lookup nd h1 h2
theorem bind_plain {fd : FuncData} {ps : List Str} {us : List Value} (hp : fd.params.posonlyargs = []) (ha : fd.params.args.map (·.arg) = ps) (hv : fd.params.vararg = none) (hk : fd.params.kwonlyargs = []) (hw : fd.params.kwarg = none) (hd : fd.defaults = .none) (nd : ps.Nodup) (hl : us.length = ps.length) :
    bindArgs fd ⟨us, []⟩ = pure (ps.zip us) := by
  have f1 := zip_none nd hl
  have f2 := zip_back nd hl
  have f3 : ps.take ps.length = ps := List.take_length
  have hs : seqItems? Value.none = pure none := rfl
  unfold bindArgs
  simp only [hp, ha, hv, hk, hw, hd, hs, List.map_nil, List.nil_append, List.forIn_nil, pure_bind, hl, List.append_nil]
  simp [f1, f2, f3, List.take_of_length_le]
/-- plain parameters, no defaults -/
structure Plain (fd : FuncData) (ps : List Str) : Prop where
  po : fd.params.posonlyargs = []
  ar : fd.params.args.map (·.arg) = ps
  va : fd.params.vararg = none
  ko : fd.params.kwonlyargs = []
  kw : fd.params.kwarg = none
  df : fd.defaults = .none
  nd : ps.Nodup
theorem Plain.pos {fd : FuncData} {ps : List Str} (P : Plain fd ps) {us : List Value} (hl : us.length = ps.length) : bindArgs fd ⟨us, []⟩ = pure (ps.zip us) := bind_plain P.po P.ar P.va P.ko P.kw P.df P.nd hl
/-- the values in the parameters' order -/
def placeV (L : List (Str × Value)) (ps : List Str) : List Value := ps.filterMap fun n => L.lookup n
theorem zip_place {L : List (Str × Value)} : ∀ {ps : List Str}, (∀ x ∈ ps, (L.lookup x).isSome = true) → (ps.filterMap fun n => (L.lookup n).map (n, ·)) = ps.zip (placeV L ps) ∧ (placeV L ps).length = ps.length
  | [], _ => ⟨rfl, rfl⟩
  | p :: ps, h => by
    obtain ⟨u, hu⟩ := Option.isSome_iff_exists.mp (h p List.mem_cons_self)
    obtain ⟨h1, h2⟩ := zip_place (L := L) (ps := ps) fun x hx => h x (List.mem_cons_of_mem _ hx)
    unfold placeV at *
    rw [List.filterMap_cons, List.filterMap_cons, hu, h1]
    refine ⟨rfl, ?_⟩
    show _ + 1 = _ + 1
    rw [h2]
theorem forIn_app {β : Type} {f : Str × Value → List (Str × Value) × β → Sem (ForInStep (List (Str × Value) × β))} {e : β} : ∀ (L s0 : List (Str × Value)), (∀ pre kv post, L = pre ++ kv :: post → f kv (s0 ++ pre, e) = pure (.yield (s0 ++ pre ++ [kv], e))) → forIn L (s0, e) f = pure (s0 ++ L, e)
  | [], s0, _ => by rw [List.append_nil]; rfl
  | kv :: L, s0, h => by
    have h0 := h [] kv L rfl
    rw [List.append_nil] at h0
    rw [List.forIn_cons, h0, pure_bind]
    have ih := forIn_app (f := f) (e := e) L (s0 ++ [kv]) fun pre x post q => by
      have := h (kv :: pre) x post (by rw [q]; rfl)
      rw [show s0 ++ kv :: pre = s0 ++ [kv] ++ pre by simp] at this
      exact this
    show forIn L (s0 ++ [kv], e) f = _
    rw [ih]
    simp
theorem bind_by {α β : Type} {m m' : Sem α} {k : α → Sem β} {r : Sem β} (h : m = m') (h2 : (m' >>= k) = r) : (m >>= k) = r := by rw [h]; exact h2
theorem lookup_notin {L : List (Str × Value)} {x : Str} (h : x ∉ L.map (·.1)) : L.lookup x = none := by
  cases e : L.lookup x with
  | none => rfl
  | some v => exact absurd (List.mem_map.mpr ⟨(x, v), PySem.mem_of_lookup e, rfl⟩) h
theorem zip_keys : ∀ (ps : List Str) (us : List Value), (ps.zip us).map (·.1) = ps.take us.length
  | [], us => by simp
  | _ :: _, [] => by simp
  | p :: ps, u :: us => by rw [List.zip_cons_cons, List.map_cons, zip_keys ps us]; rfl
theorem bind_kw {fd : FuncData} {ps ks : List Str} (P : Plain fd ps) {us ws : List Value} (hu : us.length ≤ ps.length) (hk : ∀ k ∈ ks, k ∈ ps) (hw : ws.length = ks.length) (hn : ((ps.take us.length) ++ ks).Nodup) (hall : ∀ x ∈ ps, ((ps.zip us ++ ks.zip ws).lookup x).isSome = true) :
    bindArgs fd ⟨us, ks.zip ws⟩ = pure (ps.zip (placeV (ps.zip us ++ ks.zip ws) ps)) := by
  obtain ⟨f2, f4⟩ := zip_place hall
  have f1 : (ps.filter fun n => ((ps.zip us ++ ks.zip ws).lookup n).isNone) = [] := by
    rw [List.filter_eq_nil_iff]
    intro x hx
    have := hall x hx
    cases h : (ps.zip us ++ ks.zip ws).lookup x with
    | none => rw [h] at this; cases this
    | some u => simp
  have f3 : ps.take ps.length = ps := List.take_length
  have hs : seqItems? Value.none = pure none := rfl
  have kz : (ks.zip ws).map (·.1) = ks := by rw [zip_keys, hw, List.take_length]
  unfold bindArgs
  simp only [P.po, P.ar, P.va, P.ko, P.kw, P.df, hs, List.map_nil, List.nil_append, pure_bind, List.append_nil]
  refine bind_by (forIn_app (ks.zip ws) (ps.zip us) fun pre kv post e => ?_) ?_
  · have hmem : kv.1 ∈ ks := by rw [← kz, e]; simp
    have hps : ps.contains kv.1 = true := List.contains_iff_mem.mpr (hk _ hmem)
    have hpre : kv.1 ∉ pre.map (·.1) ∧ kv.1 ∉ ps.take us.length := by
      have e2 : ks = pre.map (·.1) ++ kv.1 :: post.map (·.1) := by rw [← kz, e]; simp
      rw [e2] at hn
      have := List.nodup_append.mp hn
      constructor
      · intro z
        have h2 := List.nodup_append.mp this.2.1
        exact h2.2.2 _ z _ List.mem_cons_self rfl
      · intro z
        exact this.2.2 _ z _ (List.mem_append_right _ List.mem_cons_self) rfl
    have hl : (ps.zip us ++ pre).lookup kv.1 = none := lookup_notin (by
      rw [List.map_append, zip_keys]
      intro z
      rcases List.mem_append.mp z with z | z
      · exact hpre.2 z
      · exact hpre.1 z)
    simp only [hps, hl, Bool.true_or, if_true, Option.isSome_none, Bool.false_eq_true, if_false]
  · have g : ¬ (us.length > ps.length) := by omega
    simp [f1, f2, f3, g]
end EV

set_option maxRecDepth 100000
/-! EvB: the frame's relation, steps, what a reading by the evaluator is. -/
namespace EV
open PySem PySem.Spec PyProof.Rows L2

/-- a def within a def, or a lambda: what its text has -/
structure NFd where
  name : Str
  params : Arguments
  body : List Stmt
  scope : Scope
  ps : List Str
  fr : List Str
  N : List Str

structure Ct where
  K : PySem.W.Frag
  A1 : Addr → Prop
  μ : List Addr
  T : List NdefX.NTab
  code : Nat → NFd → Prop
  s0 : Heap
  H0 : Hp
  nb : Addr → Prop
  mds : Nat → NFd → Prop
  cells : List (Str × Addr)
  blk : Bool

/-- whose address is an own slot's -/
def Ow (σ : L2.St) (ρ : Ev) (a : Addr) : Prop := ∃ (i : Nat) (b : D), ρ[i]? = some (.own b) ∧ σ[i]? = some (some (.ref a))
def Av (C : Ct) (σ : L2.St) (ρ : Ev) (a : Addr) : Prop := C.A1 a ∨ Ow σ ρ a

/-- what is never written -/
def steady : HO → Bool
  | .tup _ => true | .frz _ _ => true | .ext _ => true | .met _ _ => true | .rng _ _ => true | _ => false

def FnIs (n : NFd) (F : NdefX.NF) : Prop := F.name = n.name ∧ F.params = n.params ∧ F.body = n.body ∧ F.scope = n.scope
def capsOk (K : PySem.W.Frag) (H : Hp) (A : Addr → Prop) : List (Option D) → List (Option V) → Prop
  | [], ws => ws = []
  | none :: r, ws => ∃ w t, ws = w :: t ∧ capsOk K H A r t
  | some d :: r, ws => ∃ v t, ws = some v :: t ∧ RepD K H A d v ∧ capsOk K H A r t
/-- a function that was made in another frame, with what its cells hold -/
def CloAt (C : Ct) (A : Addr → Prop) (H : Hp) (c : Nat) (caps : List (Option D)) (v : V) : Prop :=
  C.blk = false ∧ ∃ n f F ws, C.code c n ∧ v = .ref f ∧ H f = some (NdefX.FnO f F) ∧ H F.c = some (LamX.CodeO F.c F.qual) ∧ FnIs n F ∧ NdefX.CellsAt F.cl n.fr ws C.s0 C.H0 ∧ (∀ y a, F.cl.lookup y = some a → ¬ C.nb a) ∧ capsOk C.K H A caps ws
def MkAt (C : Ct) (H : Hp) (c : Nat) (v : V) : Prop :=
  C.blk = false ∧ ∃ n f F, C.code c n ∧ v = .ref f ∧ H f = some (NdefX.FnO f F) ∧ H F.c = some (LamX.CodeO F.c F.qual) ∧ FnIs n F ∧ F.cl = cloFrom C.cells n.scope.names [] ∧ C.mds c n
/-- the script: frozen, or a list of the written part -/
def SqF (K : PySem.W.Frag) (H : Hp) (a : Addr) (xs : List V) : Prop :=
  (∃ o, H a = some (.frz o (.lst xs))) ∨
    ∃ (o : Obj) (its : Array Value) (n : Nat), K.lookup a = some o ∧ o.cls = .type "list" ∧ o.dict = none ∧ o.data = .seq its n ∧ its.size ≤ sizeLine ∧ Vals xs its.toList
theorem SqF.sq {K : PySem.W.Frag} {H : Hp} {a : Addr} {xs : List V} (s : SqF K H a xs) : SqL K H a xs := s.elim (fun ⟨o, e⟩ => .inl (.inr ⟨o, e⟩)) .inr
theorem SqF.st {K : PySem.W.Frag} {H H' : Hp} {a : Addr} {xs : List V} (s : SqF K H a xs) (st : ∀ a o, H a = some o → steady o = true → H' a = some o) : SqF K H' a xs := s.elim (fun ⟨o, e⟩ => .inl ⟨o, st _ _ e rfl⟩) .inr
def RepV (C : Ct) (σ : L2.St) (ρ : Ev) (H : Hp) : Val → V → Prop
  | .d x, v => RepD C.K H (Av C σ ρ) x v
  | .ref j, v => ∃ a, C.μ[j]? = some a ∧ v = .ref a
  | .own i, v => ∃ a b, ρ[i]? = some (.own b) ∧ σ[i]? = some (some (.ref a)) ∧ v = .ref a
  | .clo c caps, v => CloAt C (Av C σ ρ) H c caps v
  | .mk c, v => MkAt C H c v
  | .scr ns, v => ∃ a, v = .ref a ∧ SqF C.K H a (ns.map V.int)
  | .kon xs, v => ∃ a vs, v = .ref a ∧ KTup C.K a vs ∧ RepDs C.K H (Av C σ ρ) xs vs

structure Rel (C : Ct) (σ : L2.St) (H : Hp) (ρ : Ev) (h : Hh) : Prop where
  len : σ.length = ρ.length
  val : ∀ (i : Nat) (w : Val), ρ[i]? = some (.val w) → ∃ v, σ[i]? = some (some v) ∧ RepV C σ ρ H w v
  own : ∀ (i : Nat) (b : D), ρ[i]? = some (.own b) → ∃ a, σ[i]? = some (some (.ref a)) ∧ ¬ C.A1 a ∧ BoxAt C.K H (Av C σ ρ) b a
  dis : ∀ (i j : Nat) (b b' : D) (a : Addr), ρ[i]? = some (.own b) → ρ[j]? = some (.own b') → σ[i]? = some (some (.ref a)) → σ[j]? = some (some (.ref a)) → i = j
  blen : h.length = C.μ.length
  box : ∀ (j : Nat) (b : D), h[j]? = some b → ∃ a, C.μ[j]? = some a ∧ BoxAt C.K H (Av C σ ρ) b a
  mu : ∀ a ∈ C.μ, C.A1 a
  nod : C.μ.Nodup
  trk : ∀ a, C.A1 a → ∃ o, H a = some o
  noH : ∀ (i k : Nat), ρ[i]? = some (.val (.own k)) → False
  tab : NdefX.TabsN C.T H

def isDic : HO → Bool
  | .dK _ => true
  | .dT _ => true
  | _ => false
/-- an object stays; a dict that nobody may change may be locked for good (it is walked) -/
def Kept (A1 : Addr → Prop) (H' : Hp) (a : Addr) (o : HO) : Prop := H' a = some o ∨ (¬ A1 a ∧ isDic o = true ∧ ∃ od, H' a = some (.frz od o))
theorem Kept.mono {A A' : Addr → Prop} {H' : Hp} {a : Addr} {o : HO} (k : Kept A H' a o) (h : A' a → A a) : Kept A' H' a o := k.imp id fun ⟨n, r⟩ => ⟨fun z => n (h z), r⟩
theorem Kept.inA {A : Addr → Prop} {H' : Hp} {a : Addr} {o : HO} (k : Kept A H' a o) (h : A a) : H' a = some o := k.resolve_right fun z => z.1 h
theorem Kept.plain {A : Addr → Prop} {H' : Hp} {a : Addr} {o : HO} (k : Kept A H' a o) (h : isDic o = false) : H' a = some o := k.resolve_right fun z => by rw [h] at z; cases z.2.1
structure Stp (C : Ct) (σ : L2.St) (ρ : Ev) (H : Hp) (σ' : L2.St) (ρ' : Ev) (H' : Hp) : Prop where
  st : ∀ a o, H a = some o → steady o = true → H' a = some o
  keep : ∀ a o, H a = some o → a ∉ C.μ → ¬ Ow σ ρ a → (∀ ps, o ≠ .tbl ps) → Kept C.A1 H' a o
  there : ∀ a, H' a = none → H a = none
  own : ∀ a, Ow σ' ρ' a → Ow σ ρ a ∨ H a = none
theorem Stp.refl {C : Ct} {σ : L2.St} {ρ : Ev} {H : Hp} : Stp C σ ρ H σ ρ H := ⟨fun _ _ e _ => e, fun _ _ e _ _ _ => .inl e, fun _ e => e, fun _ x => .inl x⟩
theorem Kept.then {A : Addr → Prop} {H1 H2 : Hp} {a : Addr} {o : HO} (k : Kept A H1 a o) (st : ∀ a o, H1 a = some o → steady o = true → H2 a = some o) (kp : H1 a = some o → Kept A H2 a o) : Kept A H2 a o := by
  rcases k with e | ⟨n, d, od, e⟩
  · exact kp e
  · exact .inr ⟨n, d, od, st _ _ e rfl⟩
theorem Stp.trans {C : Ct} {σ σ1 σ2 : L2.St} {ρ ρ1 ρ2 : Ev} {H H1 H2 : Hp} (p : Stp C σ ρ H σ1 ρ1 H1) (q : Stp C σ1 ρ1 H1 σ2 ρ2 H2) : Stp C σ ρ H σ2 ρ2 H2 where
  st := fun a o e s => q.st a o (p.st a o e s) s
  keep := fun a o e n1 n2 n3 => (p.keep a o e n1 n2 n3).then q.st fun e1 => q.keep a o e1 n1 (fun z => by
    rcases p.own a z with y | y
    · exact n2 y
    · rw [e] at y; cases y) n3
  there := fun a e => p.there a (q.there a e)
  own := fun a x => by
    rcases q.own a x with y | y
    · exact p.own a y
    · exact .inr (p.there a y)
theorem Kept.dK {A : Addr → Prop} {H' : Hp} {a : Addr} {kvs : List (Key × V)} (k : Kept A H' a (.dK kvs)) : Rd H' a (.dK kvs) := k.imp id fun ⟨_, _, r⟩ => r
theorem Kept.dT {A : Addr → Prop} {H' : Hp} {a : Addr} {kvs : List (List Key × V)} (k : Kept A H' a (.dT kvs)) : Rd H' a (.dT kvs) := k.imp id fun ⟨_, _, r⟩ => r
theorem Stp.kp {C : Ct} {σ σ' : L2.St} {ρ ρ' : Ev} {H H' : Hp} (p : Stp C σ ρ H σ' ρ' H') (mu : ∀ a ∈ C.μ, C.A1 a) : Kp H (Av C σ ρ) H' (Av C σ' ρ') := by
  have av : ∀ a o, H a = some o → ¬ Av C σ ρ a → ¬ Av C σ' ρ' a := fun a o e n z => by
    rcases z with z | z
    · exact n (.inl z)
    · rcases p.own a z with y | y
      · exact n (.inr y)
      · rw [e] at y; cases y
  have kp : ∀ a o, H a = some o → ¬ Av C σ ρ a → (∀ ps, o ≠ .tbl ps) → Kept C.A1 H' a o := fun a o e n t => p.keep a o e (fun z => n (.inl (mu a z))) (fun z => n (.inr z)) t
  refine ⟨fun a vs e => p.st a _ e rfl, fun a vs e n => ⟨(kp a _ e n fun _ z => (nomatch z)).plain rfl, av a _ e n⟩, fun a vs e n => ?_, fun a vs e n => ?_, fun a o u e => p.st a _ e rfl⟩
  · rcases e with e | ⟨o, e⟩
    · exact ⟨(kp a _ e n fun _ z => (nomatch z)).dK, av a _ e n⟩
    · exact ⟨.inr ⟨o, p.st a _ e rfl⟩, av a _ e n⟩
  · rcases e with e | ⟨o, e⟩
    · exact ⟨(kp a _ e n fun _ z => (nomatch z)).dT, av a _ e n⟩
    · exact ⟨.inr ⟨o, p.st a _ e rfl⟩, av a _ e n⟩
theorem Kept.upd {A : Addr → Prop} {H : Hp} {a p : Addr} {o u : HO} (k : Kept A H a o) (h : a ≠ p) : Kept A (upd H p u) a o := by
  rcases k with e | ⟨n, d, od, e⟩
  · exact .inl (by rw [upd_ne h]; exact e)
  · exact .inr ⟨n, d, od, by rw [upd_ne h]; exact e⟩
/-- an expression leaves the slots' kinds -/
def Shp (ρ ρ' : Ev) : Prop := ∀ i : Nat, ρ'[i]? = ρ[i]? ∨ ∃ b b', ρ[i]? = some (.own b) ∧ ρ'[i]? = some (.own b')
theorem Shp.refl (ρ : Ev) : Shp ρ ρ := fun _ => .inl rfl
theorem Shp.own {ρ ρ' : Ev} (s : Shp ρ ρ') {i : Nat} {b : D} (e : ρ[i]? = some (.own b)) : ∃ b', ρ'[i]? = some (.own b') := by
  rcases s i with z | ⟨_, b', _, z⟩
  · exact ⟨b, z.trans e⟩
  · exact ⟨b', z⟩
theorem Shp.own' {ρ ρ' : Ev} (s : Shp ρ ρ') {i : Nat} {b : D} (e : ρ'[i]? = some (.own b)) : ∃ b', ρ[i]? = some (.own b') := by
  rcases s i with z | ⟨b', _, z, _⟩
  · exact ⟨b, z.symm.trans e⟩
  · exact ⟨b', z⟩
theorem Shp.trans {ρ ρ1 ρ2 : Ev} (s : Shp ρ ρ1) (t : Shp ρ1 ρ2) : Shp ρ ρ2 := fun i => by
  rcases s i with z | ⟨b, b', z1, z2⟩
  · rcases t i with y | ⟨c, c', y1, y2⟩
    · exact .inl (y.trans z)
    · exact .inr ⟨c, c', z.symm.trans y1, y2⟩
  · obtain ⟨c, e⟩ := t.own z2
    exact .inr ⟨b, c, z1, e⟩
theorem Shp.ow {ρ ρ' : Ev} (s : Shp ρ ρ') {σ : L2.St} {a : Addr} : Ow σ ρ' a ↔ Ow σ ρ a :=
  ⟨fun ⟨i, _, e, q⟩ => let ⟨b, e'⟩ := s.own' e; ⟨i, b, e', q⟩, fun ⟨i, _, e, q⟩ => let ⟨b, e'⟩ := s.own e; ⟨i, b, e', q⟩⟩
theorem Shp.av {C : Ct} {ρ ρ' : Ev} (s : Shp ρ ρ') {σ : L2.St} : Av C σ ρ' = Av C σ ρ := by
  funext a
  exact propext ⟨fun z => z.imp id s.ow.mp, fun z => z.imp id s.ow.mpr⟩
theorem capsOk.kp {K : PySem.W.Frag} {H H' : Hp} {A A' : Addr → Prop} (p : Kp H A H' A') : ∀ {cs : List (Option D)} {ws : List (Option V)}, capsOk K H A cs ws → capsOk K H' A' cs ws
  | [], _, r => r
  | none :: _, _, r => by obtain ⟨w, t, e, q⟩ := r; exact ⟨w, t, e, capsOk.kp p q⟩
  | some _ :: _, _, r => by obtain ⟨v, t, e, r1, q⟩ := r; exact ⟨v, t, e, r1.kp p _ _, capsOk.kp p q⟩
theorem RepV.stp {C : Ct} {σ : L2.St} {ρ ρ' : Ev} {H H' : Hp} (p : Stp C σ ρ H σ ρ' H') (mu : ∀ a ∈ C.μ, C.A1 a) (s : Shp ρ ρ') {w : Val} {v : V} (r : RepV C σ ρ H w v) : RepV C σ ρ' H' w v := by
  cases w with
  | d x => exact RepD.kp (p.kp mu) x v r
  | ref j => exact r
  | own i =>
    obtain ⟨a, b, e1, e2, e3⟩ := r
    obtain ⟨b', e⟩ := s.own e1
    exact ⟨a, b', e, e2, e3⟩
  | clo c caps =>
    obtain ⟨b0, n, f, F, ws, h1, h2, h3, h4, h5, h6, h7, h8⟩ := r
    exact ⟨b0, n, f, F, ws, h1, h2, p.st _ _ h3 rfl, p.st _ _ h4 rfl, h5, h6, h7, h8.kp (p.kp mu)⟩
  | mk c =>
    obtain ⟨b0, n, f, F, h1, h2, h3, h4, h5⟩ := r
    exact ⟨b0, n, f, F, h1, h2, p.st _ _ h3 rfl, p.st _ _ h4 rfl, h5⟩
  | scr ns =>
    obtain ⟨a, h1, h2⟩ := r
    exact ⟨a, h1, h2.st p.st⟩
  | kon xs =>
    obtain ⟨a, vs, h1, h2, h3⟩ := r
    exact ⟨a, vs, h1, h2, h3.kp (p.kp mu)⟩

/-! ### readings by the evaluator -/
/-- from a state that is told: m gives a value, and what follows holds of what represents it -/
def tV (C : Ct) (m : M Val) (ρ : Ev) (h : Hh) (σ : L2.St) (H : Hp) (Q : VK) : Prop :=
  ∃ w ρ' h', m ρ h = .ok w ρ' h' ∧ ∀ v H', Rel C σ H' ρ' h' → RepV C σ ρ' H' w v → Stp C σ ρ H σ ρ' H' → Shp ρ ρ' → Q v H'
def tE (C : Ct) (m : M Val) : TE := fun σ H Q => ∃ ρ h, Rel C σ H ρ h ∧ tV C m ρ h σ H Q
def tBv (C : Ct) (m : M Bool) (ρ : Ev) (h : Hh) (σ : L2.St) (H : Hp) (Q : Bool → Hp → Prop) : Prop :=
  ∃ w ρ' h', m ρ h = .ok w ρ' h' ∧ ∀ H', Rel C σ H' ρ' h' → Stp C σ ρ H σ ρ' H' → Shp ρ ρ' → Q w H'
def tT (C : Ct) (m : M Bool) : TT := fun σ H Q => ∃ ρ h, Rel C σ H ρ h ∧ tBv C m ρ h σ H Q
def RepVs (C : Ct) (σ : L2.St) (ρ : Ev) (H : Hp) : List Val → List V → Prop
  | [], vs => vs = []
  | w :: ws, vs => ∃ v r, vs = v :: r ∧ RepV C σ ρ H w v ∧ RepVs C σ ρ H ws r
theorem RepVs.stp {C : Ct} {σ : L2.St} {ρ ρ' : Ev} {H H' : Hp} (p : Stp C σ ρ H σ ρ' H') (mu : ∀ a ∈ C.μ, C.A1 a) (s : Shp ρ ρ') : ∀ {ws : List Val} {vs : List V}, RepVs C σ ρ H ws vs → RepVs C σ ρ' H' ws vs
  | [], _, r => r
  | _ :: _, _, r => by obtain ⟨v, t, e, r1, r2⟩ := r; exact ⟨v, t, e, r1.stp p mu s, RepVs.stp p mu s r2⟩
def tAv (C : Ct) (m : M (List Val)) (ρ : Ev) (h : Hh) (σ : L2.St) (H : Hp) (Q : List V → Hp → Prop) : Prop :=
  ∃ ws ρ' h', m ρ h = .ok ws ρ' h' ∧ ∀ vs H', Rel C σ H' ρ' h' → RepVs C σ ρ' H' ws vs → Stp C σ ρ H σ ρ' H' → Shp ρ ρ' → Q vs H'
def tA (C : Ct) (m : M (List Val)) : TA := fun σ H Q => ∃ ρ h, Rel C σ H ρ h ∧ tAv C m ρ h σ H Q

theorem _root_.L2.PE.weakE {X : Cx} {e : Expr} {t t' : TE} (p : PE X e t) (h : ∀ σ H Q, t' σ H Q → t σ H Q) : PE X e t' := ⟨fun pins s σ H Q I q => p.run pins s σ H Q I (h σ H Q q)⟩
theorem _root_.L2.PT.weakE {X : Cx} {e : Expr} {t t' : TT} (p : PT X e t) (h : ∀ σ H Q, t' σ H Q → t σ H Q) : PT X e t' := ⟨fun pins s σ H Q I q => p.run pins s σ H Q I (h σ H Q q)⟩
theorem _root_.L2.PW.weakE {X : Cx} {e : Expr} {t t' : TT} (p : PW X e t) (h : ∀ σ H Q, t' σ H Q → t σ H Q) : PW X e t' := ⟨fun wh pins s σ H Q I q => p.run wh pins s σ H Q I (h σ H Q q)⟩
theorem _root_.L2.PA.weakE {X : Cx} {es : List Expr} {t t' : TA} (p : PA X es t) (h : ∀ σ H Q, t' σ H Q → t σ H Q) : PA X es t' := ⟨fun pos pins s σ H Q I q => p.run pos pins s σ H Q I (h σ H Q q)⟩
theorem _root_.L2.PS.weakE {X : Cx} {st : Stmt} {t t' : TS} (p : PS X st t) (h : ∀ D σ H, t' D σ H → t D σ H) : PS X st t' := ⟨fun pins s σ H D I q => p.run pins s σ H D I (h D σ H q)⟩
theorem _root_.L2.PSs.weakE {X : Cx} {st : List Stmt} {t t' : TS} (p : PSs X st t) (h : ∀ D σ H, t' D σ H → t D σ H) : PSs X st t' := ⟨fun pins s σ H D I q => p.run pins s σ H D I (h D σ H q)⟩

section
variable {C : Ct} {σ : L2.St} {H : Hp} {ρ : Ev} {h : Hh}
/-- one part behind another: the first of the two told from here -/
theorem tV.first {ma : M Val} {f : Val → M Val} {Q : VK} (q : tV C (ma.bind f) ρ h σ H Q) :
    tV C ma ρ h σ H fun v H1 => ∃ w ρ1 h1, Rel C σ H1 ρ1 h1 ∧ RepV C σ ρ1 H1 w v ∧ tV C (f w) ρ1 h1 σ H1 Q := by
  obtain ⟨w, ρ', h', e, k⟩ := q
  obtain ⟨a, ρ1, h1, e1, e2⟩ := M.bind_ok e
  exact ⟨a, ρ1, h1, e1, fun v H1 R1 r1 s1 p1 => ⟨a, ρ1, h1, R1, r1, w, ρ', h', e2, fun v2 H2 R2 r2 s2 p2 => k v2 H2 R2 r2 (s1.trans s2) (p1.trans p2)⟩⟩
theorem tV.mono {m : M Val} {Q Q' : VK} (q : tV C m ρ h σ H Q) (hq : ∀ v H', Q v H' → Q' v H') : tV C m ρ h σ H Q' := by
  obtain ⟨w, ρ', h', e, k⟩ := q
  exact ⟨w, ρ', h', e, fun v H' a b c d => hq v H' (k v H' a b c d)⟩
theorem tE.one {ma : M Val} {f : Val → M Val} {Q : VK} {R : V → Hp → Prop} (q : tE C (ma.bind f) σ H Q)
    (hR : ∀ x v ρ h H1, Rel C σ H1 ρ h → RepV C σ ρ H1 x v → tV C (f x) ρ h σ H1 Q → R v H1) : tE C ma σ H R := by
  obtain ⟨ρ, h, r, q⟩ := q
  exact ⟨ρ, h, r, q.first.mono fun v H1 ⟨w, ρ1, h1, R1, r1, q1⟩ => hR w v ρ1 h1 H1 R1 r1 q1⟩
theorem tE.two {ma mb : M Val} {f : Val → Val → M Val} {Q : VK} {R : V → V → Hp → Prop} (q : tE C (ma.bind fun x => mb.bind fun y => f x y) σ H Q)
    (hR : ∀ x y v u ρ h H2, Rel C σ H2 ρ h → RepV C σ ρ H2 x v → RepV C σ ρ H2 y u → tV C (f x y) ρ h σ H2 Q → R v u H2) : tE C ma σ H fun v H1 => tE C mb σ H1 fun u H2 => R v u H2 := by
  refine q.one fun x v ρ1 h1 H1 R1 r1 q1 => ?_
  obtain ⟨w, ρ', h', e, k⟩ := q1
  obtain ⟨y, ρ2, h2, e1, e2⟩ := M.bind_ok e
  exact ⟨ρ1, h1, R1, y, ρ2, h2, e1, fun u H2 R2 r2 s2 p2 => hR x y v u ρ2 h2 H2 R2 (r1.stp s2 R1.mu p2) r2 ⟨w, ρ', h', e2, fun v3 H3 R3 r3 s3 p3 => k v3 H3 R3 r3 (s2.trans s3) (p2.trans p3)⟩⟩
/-- the answer as it is: nothing changes -/
theorem tV.pure {m : M Val} {w : Val} {Q : VK} {v : V} (q : tV C m ρ h σ H Q) (R : Rel C σ H ρ h) (e : m ρ h = .ok w ρ h) (r : RepV C σ ρ H w v) : Q v H := by
  obtain ⟨w', ρ', h', e', k⟩ := q
  rw [e] at e'
  injection e' with e1 e2 e3
  subst e1; subst e2; subst e3
  exact k v H R r .refl (.refl _)
theorem tV.get {m : M Val} {Q : VK} (q : tV C m ρ h σ H Q) : ∃ w ρ' h', m ρ h = .ok w ρ' h' := by
  obtain ⟨w, ρ', h', e, _⟩ := q
  exact ⟨w, ρ', h', e⟩

/-- a new object that nobody may change -/
theorem Rel.laid {p : Addr} {o : HO} (R : Rel C σ H ρ h) (n : H p = none) (nt : ∀ ps, o ≠ .tbl ps) : Rel C σ (upd H p o) ρ h ∧ Stp C σ ρ H σ ρ (upd H p o) := by
  have ex : ∀ a u, H a = some u → upd H p o a = some u := fun a u e => by rw [upd_ne (ne_of_none e n)]; exact e
  have S : Stp C σ ρ H σ ρ (upd H p o) := ⟨fun a u e _ => ex a u e, fun a u e _ _ _ => .inl (ex a u e), fun a e => by
    by_cases q : a = p
    · rw [q]; exact n
    · rw [upd_ne q] at e; exact e, fun a x => .inl x⟩
  have k := S.kp R.mu
  refine ⟨⟨R.len, fun i w e => ?_, fun i b e => ?_, R.dis, R.blen, fun j b e => ?_, R.mu, R.nod, fun a e => ?_, R.noH, ?_⟩, S⟩
  · obtain ⟨v, e1, r⟩ := R.val i w e
    exact ⟨v, e1, r.stp S R.mu (.refl _)⟩
  · obtain ⟨a, e1, e2, e3⟩ := R.own i b e
    exact ⟨a, e1, e2, e3.kp k fun u e => ex a u e⟩
  · obtain ⟨a, e1, e3⟩ := R.box j b e
    exact ⟨a, e1, e3.kp k fun u e => ex a u e⟩
  · obtain ⟨u, e1⟩ := R.trk a e
    exact ⟨u, ex a u e1⟩
  · exact NdefX.TabsN.ext R.tab ex
end
end EV

set_option maxRecDepth 100000
set_option maxHeartbeats 4000000
/-! EvSo: sorted(list of flat tuples): the tuples' items are ints and texts, place by place of one kind. -/
namespace EV
open PySem PySem.Spec PyProof.Rows L2

/-! ### the order -/
def ltK1 : Key → Key → Bool
  | .inl a, .inl b => decide (a < b)
  | .inr a, .inr b => decide (a.cps.toList < b.cps.toList)
  | .inl _, .inr _ => true
  | .inr _, .inl _ => false
def ltKs : List Key → List Key → Bool
  | [], [] => false
  | [], _ :: _ => true
  | _ :: _, [] => false
  | x :: r, y :: t => if x = y then ltKs r t else ltK1 x y
def skOf : Key → Int ⊕ List Nat
  | .inl a => .inl a
  | .inr x => .inr x.cps.toList
theorem strEq {x y : Str} (h : x.cps.toList = y.cps.toList) : x = y := by
  cases x; cases y
  exact congrArg Str.mk (Array.toList_inj.mp h)
theorem skOf_inj {x y : Key} (h : skOf x = skOf y) : x = y := by
  cases x <;> cases y <;> simp only [skOf, Sum.inl.injEq, Sum.inr.injEq, reduceCtorEq] at h
  · rw [h]
  · rw [strEq h]
theorem lt1_eq (x y : Key) : itemOrd.blt (skOf x) (skOf y) = ltK1 x y := by
  cases x <;> cases y <;> rfl
theorem ltKs_eq : ∀ a b : List Key, lexLt itemOrd (a.map skOf) (b.map skOf) = ltKs a b
  | [], [] => rfl
  | [], _ :: _ => rfl
  | _ :: _, [] => rfl
  | x :: r, y :: t => by
    show lexLt itemOrd (skOf x :: r.map skOf) (skOf y :: t.map skOf) = if x = y then ltKs r t else ltK1 x y
    by_cases h : x = y
    · subst h
      rw [if_pos rfl, lex_self, ltKs_eq r t]
    · rw [if_neg h, lex_diff (fun z => h (skOf_inj z)), lt1_eq]
theorem ltKs_swo {α : Type} (k : α → List Key) : SrtO.Swo fun x y => ltKs (k x) (k y) := by
  refine ⟨fun x y h => ?_, fun x y z h1 h2 => ?_⟩
  · rw [← ltKs_eq] at h ⊢
    cases q : lexLt itemOrd ((k y).map skOf) ((k x).map skOf) with
    | false => rfl
    | true =>
      have := lex_trans _ _ _ h q
      rw [lex_irrefl] at this
      cases this
  · rw [← ltKs_eq] at h1 h2 ⊢
    cases q : lexLt itemOrd ((k z).map skOf) ((k x).map skOf) with
    | false => rfl
    | true =>
      rcases lex_negTrans _ ((k y).map skOf) _ q with w | w
      · rw [w] at h2; cases h2
      · rw [w] at h1; cases h1
theorem ltKs_total {a b : List Key} (h1 : ltKs a b = false) (h2 : ltKs b a = false) : a = b := by
  rw [← ltKs_eq] at h1 h2
  have e := lex_total _ _ h1 h2
  exact List.map_inj_right (fun _ _ z => skOf_inj z) |>.mp e

/-! ### over the heap -/
def isS : Key → Bool
  | .inl _ => false
  | .inr _ => true
theorem items_of : ∀ (ks : List Key) (us : List Value) (sh : Nat → Bool) (i : Nat), Vals (ks.map kV) us → (∀ j k, ks[j]? = some k → sh (i + j) = isS k) → tupItems sh i us = some (ks.map skOf)
  | [], us, sh, i, r, _ => by cases r; rfl
  | k :: ks, us, sh, i, r, h => by
    cases r with
    | @cons _ u _ us' r1 r2 =>
      have ih := items_of ks us' sh (i + 1) r2 (fun j k' e => by have := h (j + 1) k' e; rw [show i + 1 + j = i + (j + 1) by omega]; exact this)
      have h0 := h 0 k rfl
      cases k with
      | inl n =>
        obtain ⟨t, e⟩ : ∃ t, u = Value.int n t := r1
        subst e
        have h0 : sh i = false := h0
        simp only [tupItems, h0, Bool.false_eq_true, if_false, ih]
        rfl
      | inr x =>
        obtain ⟨t, e⟩ : ∃ t, u = Value.str x t := r1
        subst e
        have h0 : sh i = true := h0
        simp only [tupItems, h0, if_true, ih]
        rfl
/-- what stands at a value of the list: a tuple of these keys -/
def rSortT (K : PySem.W.Frag) : List V → Hp → VK → Prop := fun vs H Q => ∃ (a : Addr) (xs : List V) (k : V → List Key) (sh : List Bool), vs = [V.ref a] ∧ SqL K H a xs ∧ sh ≠ [] ∧
  (∀ x ∈ xs, ∃ t, x = V.ref t ∧ H t = some (.tup ((k x).map kV)) ∧ (k x).map isS = sh) ∧ ∀ ys p, SrtO.Srtd (fun x y => ltKs (k x) (k y)) ys → ys.Perm xs → H p = none → Q (.ref p) (upd H p (.lst ys))
section
variable {X : Cx}
theorem cr_sortT : CallR X (.builtin "sorted") (rSortT X.K) := by
  intro pins s σ H vs us Q I r h
  obtain ⟨a, xs, k, sh, ev, hs, hne, hx, q⟩ := h
  subst ev
  obtain ⟨its, rv, hl, hz⟩ := I.list hs
  obtain ⟨u, eu, ru⟩ := vals1 r
  subst eu
  have ru : u = Value.ref a := ru
  subst ru
  obtain ⟨e1, e2⟩ := refs_back rv fun x m => by
    obtain ⟨t, e, _⟩ := hx x m
    exact ⟨t, e⟩
  let shf : Nat → Bool := fun i => sh.getD i false
  have tup : ∀ v ∈ its, ∃ t o vals n, v = Value.ref t ∧ s.heap.get? t = some o ∧ o.cls = .type "tuple" ∧ o.data = .seq vals n ∧ tupItems shf 0 vals.toList = some ((k (backV v)).map skOf) ∧ ∃ f, vals[0]? = some f ∧ (shf 0 = false → ∃ k t, f = .int k t) ∧ (shf 0 = true → ∃ x t, f = .str x t) := fun v hv => by
    obtain ⟨t, rfl⟩ := e2 v hv
    have hm : V.ref t ∈ xs := by rw [e1]; exact List.mem_map.mpr ⟨_, hv, rfl⟩
    obtain ⟨t', e, ht, hsh⟩ := hx _ hm
    cases e
    obtain ⟨_, its2, r2, o, ho, hc, n, hd⟩ := I.hok _ _ ht
    have hsf : ∀ (j : Nat) (kk : Key), (k (V.ref t))[j]? = some kk → shf (0 + j) = isS kk := fun j kk e => by
      show sh.getD (0 + j) false = isS kk
      rw [← hsh, Nat.zero_add, List.getD_eq_getElem?_getD, List.getElem?_map, e]; rfl
    refine ⟨t, o, its2.toArray, n, rfl, ho, hc, hd, items_of _ _ shf 0 r2 hsf, ?_⟩
    cases ek : k (V.ref t) with
    | nil => rw [ek] at hsh; exact absurd hsh.symm hne
    | cons k0 kr =>
      rw [ek] at r2 hsf
      cases r2 with
      | @cons _ f _ fr r1 r3 =>
        refine ⟨f, rfl, fun z => ?_, fun z => ?_⟩
        · have := hsf 0 k0 rfl
          rw [z] at this
          cases k0 with
          | inl n => obtain ⟨t', e⟩ : ∃ t, f = Value.int n t := r1; exact ⟨n, t', e⟩
          | inr x => cases this
        · have := hsf 0 k0 rfl
          rw [z] at this
          cases k0 with
          | inl n => cases this
          | inr x => obtain ⟨t', e⟩ : ∃ t, f = Value.str x t := r1; exact ⟨x, t', e⟩
  refine SrtO.sorted_ord (ltv := fun v u => ltKs (k (backV v)) (k (backV u))) (ltKs_swo fun v => k (backV v)) hl.isList (by rw [← rv.length]; exact hz) (fun h2 h₁ a' ha' kk => ?_) fun out h1 hb => ?_
  · intro h' keep
    have at' : ∀ {t o}, s.heap.get? t = some o → h'.get? t = some o := fun {t o} e => keep t o (kk t o e).1 (kk t o e).2
    have tup' : ∀ v ∈ its, ∃ t o vals n, v = Value.ref t ∧ h'.get? t = some o ∧ o.cls = .type "tuple" ∧ o.data = .seq vals n ∧ tupItems shf 0 vals.toList = some ((k (backV v)).map skOf) ∧ ∃ f, vals[0]? = some f ∧ (shf 0 = false → ∃ k t, f = .int k t) ∧ (shf 0 = true → ∃ x t, f = .str x t) := fun v hv => by
      obtain ⟨t, o, vals, n, g1, g2, g3⟩ := tup v hv
      exact ⟨t, o, vals, n, g1, at' g2, g3⟩
    have hts : ∀ l : List Value, (∀ v ∈ l, v ∈ its) → ∃ fs, TupsOf h' shf l fs ∧ fs.length = l.length := fun l => by
      induction l with
      | nil => intro _; exact ⟨[], .nil, rfl⟩
      | cons v l ih =>
        intro hm
        obtain ⟨fs, g1, g2⟩ := ih fun v hv => hm v (List.mem_cons_of_mem _ hv)
        obtain ⟨t, o, vals, n, c1, c2, c3, c4, _, f, c5, c6, c7⟩ := tup' v (hm v List.mem_cons_self)
        exact ⟨f :: fs, .cons ⟨t, o, vals, n, c1, c2, c3, c4, c5, c6, c7⟩ g1, by rw [List.length_cons, List.length_cons, g2]⟩
    obtain ⟨fs, g1, g2⟩ := hts its fun _ h => h
    refine ⟨tuples' true, fun Q' E' hq => tup_kind (s := { s with heap := h' }) (by rw [g2]; omega) g1 hq, fun p q' hp hq' => ?_⟩
    obtain ⟨t1, o1, v1, n1, c1, c2, c3, c4, c5, _⟩ := tup' p.1 hp
    obtain ⟨t2, o2, v2, n2, d1, d2, d3, d4, d5, _⟩ := tup' q'.1 hq'
    show wpAny (model X.prog X.w) X.A.in1.in1 (keyLt' (tuples' true) p.1 q'.1) (fun r s' => s' = _ ∧ r = ltKs (k (backV p.1)) (k (backV q'.1))) (fun _ _ => False) { s with heap := h' }
    rw [← ltKs_eq]
    rw [c1] at c5 ⊢
    rw [d1] at d5 ⊢
    exact PySem.W.kat_lt c2 c4 d2 d4 (tup_lex v1.toList v2.toList 0 _ _ c5 d5 (by rw [Array.length_toList, Array.length_toList]) ⟨rfl, rfl⟩)
  · have h3 : ∀ u ∈ out, ∃ a, u = Value.ref a := fun u hu => e2 u (hb.perm.mem_iff.mp hu)
    obtain ⟨n, hn⟩ := sortedAll_at s.heap its out.toArray
    have hp : (out.map backV).Perm xs := by
      rw [e1]
      exact hb.perm.map backV
    have hd : s.heap.objs.size ≤ s.heap.objs.size + 1 := Nat.le_succ _
    refine ⟨.ref (s.heap.objs.size + 1), upd H (s.heap.objs.size + 1) (.lst (out.map backV)), I.laid (t' := s.toks) (fun b o e => sortedAll_old e) hd ⟨?_, out, n, vals_back h3, hn⟩, rfl, q _ _ (SrtO.srtd_map h1) hp (I.hok.fresh hd)⟩
    rw [hp.length_eq]
    exact hz
end
end EV

set_option maxRecDepth 100000
set_option maxHeartbeats 4000000
/-! EvSt: sorted(a tuple): ints, texts, flat tuples. -/
namespace EV
open PySem PySem.Spec PyProof.Rows L2

section
variable {prog : Program} {w : World} {A : Around} {E : Value → Shared → Prop} {s : Shared}
/-- what is gathered of a tuple: the heap grows -/
theorem gather_tup {Q : List Value → Shared → Prop} {t : Addr} {o : Obj} {xs : Array Value} {n : Nat} (ho : s.heap.get? t = some o) (hc : o.cls = .type "tuple") (hd : o.data = .seq xs n) (hz : xs.size ≤ sizeLine)
    (q : ∀ h1 : Heap, (∀ b u, s.heap.get? b = some u → h1.get? b = some u) → s.heap.objs.size ≤ h1.objs.size → Q xs.toList { s with heap := h1 }) :
    wpAny (model prog w) A (collect (.ref t)) Q E s := by
  let l := s.heap.objs.size
  let hA : Heap := s.heap.push { cls := .type "list", data := .seq ([] : List Value).toArray }
  let hB : Heap := hA.update l (Obj.mapSeq (· ++ xs))
  have atA : hA.get? l = some { cls := .type "list", data := .seq #[] 0 } := Heap.get?_push_size _ rfl
  have atB := Heap.get?_update_self (Obj.mapSeq (· ++ xs)) atA rfl
  have keptB : ∀ b u, s.heap.get? b = some u → hB.get? b = some u := fun b u e =>
    (Heap.get?_update_other _ _ (Nat.ne_of_gt (Heap.lt_size e))).trans (Heap.get?_push_of_some _ e)
  have sizeB : s.heap.objs.size ≤ hB.objs.size := by
    show _ ≤ (hA.update l _).objs.size
    rw [Heap.size_update, size_push']; exact Nat.le_succ _
  have last : wpAny (model prog w) A (match Value.ref l with
      | .ref a => do
        match (← load a).data with
          | .seq ys _ => pure ys.toList
          | _ => unsupported "internal:collect"
      | _ => unsupported "internal:collect") Q E { s with heap := hB } := by
    refine wpAny_bind (wpAny_load atB ?_)
    have e : ((#[] : Array Value) ++ xs).toList = xs.toList := by simp
    exact wpAny_pure (by show Q ((#[] : Array Value) ++ xs).toList _; rw [e]; exact q hB keptB sizeB)
  have ext := wpAny_extend_seq (prog := prog) (w := w) (A := A) (s := { s with heap := hA }) (R := fun r u => r = .ok (.ret (.ref l)) ∧ u = { s with heap := hB }) l t (.ref l) 0 (.inr rfl) atA (Heap.get?_push_of_some _ ho) hc hd ⟨rfl, rfl⟩ hz
  unfold collect
  refine wpAny_bind (wpAny_runValue (codeAny_builtin F.entry_proto_collect ?_))
  rw [Around.under_plainId F.plain_proto_collect _]
  show wpAny _ A.in1 (newList [] >>= fun k => again (.builtin "list.__iadd__" ⟨[k, .ref t], []⟩)) _ _ s
  refine wpAny_bind (wpAny_newObj_type (wpAny_pure ⟨plainId_quiet F.plain_list_iadd _, codeAny_builtin F.entry_list_iadd ?_⟩))
  rw [Around.under_plainId F.plain_list_iadd _]
  refine wpAny_mono ext (fun fin u k => ?_) fun _ _ k => absurd k.1 (by simp)
  match fin, k with
  | .done f, k => obtain ⟨e, rfl⟩ := k; cases e; exact last
  | .again c, k => exact ⟨k.1, codeAny_mono k.2 fun r u' z => by obtain ⟨rfl, rfl⟩ := z; exact last⟩
theorem sorted_tupO {t : Addr} {vs : List Value} {o : Obj} {n : Nat} {ltv : Value → Value → Bool} {Q : Value → Shared → Prop} (O : SrtO.Swo ltv) (ho : s.heap.get? t = some o) (hc : o.cls = .type "tuple") (hd : o.data = .seq vs.toArray n) (hz : vs.length ≤ sizeLine)
    (hS : 2 ≤ vs.length → ∀ (h₁ : Heap) (a : Addr), (∀ b o, s.heap.get? b = some o → b ≠ a ∧ h₁.get? b = some o) → SrtO.SortableO prog w A.in1.in1 { s with heap := h₁ } a vs ltv)
    (h : ∀ (out : List Value) (h' : Heap) (a : Addr) (e : Nat), SrtO.Srtd ltv out → SrtO.Stb ltv out vs → (∀ b o, s.heap.get? b = some o → h'.get? b = some o) → s.heap.objs.size ≤ a → h'.get? a = some (seqObj "list" out.toArray e) → Q (.ref a) { s with heap := h' }) :
    wpAny (model prog w) A (call (.builtin "sorted") [.ref t]) Q E s := by
  refine Calls.call_function_entry kind_sorted plain_sorted entry_sorted (args_sorted1 _) ?_
  unfold Builtin.«sorted»
  refine wpAny_bind (m := checkCount "sorted" 1 1 _) (wpAny_pure ?_)
  refine wpAny_bind (gather_tup ho hc hd (by rw [List.size_toArray]; exact hz) fun h1 k1 hsz => ?_)
  refine wpAny_bind (wpAny_newList ?_ hz)
  have hoL : (h1.push (seqObj "list" vs.toArray 0)).get? h1.objs.size = some (seqObj "list" vs.toArray 0) := Heap.get?_push_size _ rfl
  have keep : ∀ b o, s.heap.get? b = some o → b ≠ h1.objs.size ∧ (h1.push (seqObj "list" vs.toArray 0)).get? b = some o := fun b o q =>
    ⟨Nat.ne_of_lt (Heap.lt_size (k1 _ _ q)), Heap.get?_push_of_some _ (k1 _ _ q)⟩
  refine wpAny_bind (wpAny_holding (wpAny_call_entry (s := { s with heap := h1.push (seqObj "list" vs.toArray 0) }) slot_list_sort ⟨_, hoL, rfl⟩ entry_list_sort
    (SrtO.list_sort_ord (s := { s with heap := h1.push (seqObj "list" vs.toArray 0) }) O hoL hz (fun h2 => hS h2 _ _ keep) fun out hs hb => ⟨_, rfl, ?_⟩) (args_list_sort _)))
  obtain ⟨e, he⟩ := sortedHeap_at (vs := vs) (out := out.toArray) hoL
  refine wpAny_pure ⟨_, rfl, h out _ _ e hs hb (fun b o' q => ?_) hsz he⟩
  rw [sortedHeap_old (keep _ _ q).1 (Heap.lt_size (keep _ _ q).2)]
  exact (keep _ _ q).2
end
/-! ### texts by this order -/
def kyS (v : Value) : List Key := match v with
  | .str a _ => [.inr a]
  | _ => []
theorem ltKs_s1 {a b : Str} : ltKs [.inr a] [.inr b] = decide (a.cps.toList < b.cps.toList) := by
  show (if (Sum.inr a : Key) = .inr b then false else decide (a.cps.toList < b.cps.toList)) = _
  by_cases e : a = b
  · subst e
    rw [if_pos rfl]
    exact (decide_eq_false (List.lt_irrefl _)).symm
  · rw [if_neg fun z => e (Sum.inr.inj z)]
section
variable {prog : Program} {w : World} {A : Around} {s : Shared}
theorem strs_mem : ∀ {vs : List Value} {ss : List Str}, StrsAre vs ss → ∀ v ∈ vs, ∃ x t, v = Value.str x t ∧ x ∈ ss := by
  intro vs ss h
  induction h with
  | nil => intro v hv; cases hv
  | @cons x0 t0 vs0 ss0 _ ih =>
    intro v hv
    rcases List.mem_cons.mp hv with z | z
    · exact ⟨x0, t0, z, List.mem_cons_self⟩
    · obtain ⟨x, t, e, m⟩ := ih v z; exact ⟨x, t, e, List.mem_cons_of_mem _ m⟩
theorem strs_sortable {a : Addr} {vs : List Value} {ss : List Str} (hI : StrsAre vs ss) (h2 : 2 ≤ vs.length) : SrtO.SortableO prog w A s a vs (fun v u => ltKs (kyS v) (kyS u)) := by
  intro h' _
  refine ⟨oneType', fun Q E hq => ?_, fun p q hm hm' => ?_⟩
  · match vs, hI, h2 with
    | v1 :: v2 :: rest, hI, _ => rw [keyKind_strs hI]; exact wpAny_pure hq
    | [], _, h => exact absurd h (by decide)
    | [v], _, h => exact absurd h (by simp)
  · obtain ⟨x, t, e, _⟩ := strs_mem hI _ hm
    obtain ⟨y, u, e', _⟩ := strs_mem hI _ hm'
    show wpAny (model prog w) A (keyLt' oneType' p.1 q.1) (fun r s' => s' = _ ∧ r = ltKs (kyS p.1) (kyS q.1)) (fun _ _ => False) _
    rw [e, e', keyLt'_oneType]
    exact oneLt_str ⟨rfl, ltKs_s1.symm⟩
end
/-! ### the rules -/
def rSortIT (K : PySem.W.Frag) : List V → Hp → VK → Prop := fun vs H Q => ∃ (a : Addr) (ns : List Int), vs = [V.ref a] ∧ SqT K H a (ns.map V.int) ∧
  ∀ (ns' : List Int) (p : Addr), ns'.Perm ns → ns'.Pairwise (· ≤ ·) → H p = none → Q (.ref p) (upd H p (.lst (ns'.map V.int)))
def rSortST (K : PySem.W.Frag) : List V → Hp → VK → Prop := fun vs H Q => ∃ (a : Addr) (xs : List Str), vs = [V.ref a] ∧ SqT K H a (xs.map V.str) ∧
  ∀ (ys : List Str) (p : Addr), ys.Perm xs → ys.Pairwise (fun x y => ltKs [.inr y] [.inr x] = false) → H p = none → Q (.ref p) (upd H p (.lst (ys.map V.str)))
section
variable {X : Cx}
theorem cr_sortIT : CallR X (.builtin "sorted") (rSortIT X.K) := by
  intro pins s σ H vs us Q I r h
  obtain ⟨a, ns, ev, hs, q⟩ := h
  subst ev
  obtain ⟨its, rv, hl, hz⟩ := I.tuple hs
  obtain ⟨o, ho, hc, n, hd⟩ := hl
  rw [Vals.ref1 r]
  have hi := rv.ints
  refine sorted_tupO SrtO.swo_int ho hc hd (by rw [← rv.length]; exact hz) (fun h2 h₁ a' _ => SrtO.ints_sortable hi h2) fun out h' a' e h1 h2 kp hsz he => ?_
  obtain ⟨k1, k2, k3⟩ := SrtO.ints_out hi h1 h2
  have hlen : ((out.map SrtO.iv).map V.int).length ≤ sizeLine := by
    rw [List.length_map, k2.length_eq]
    rw [List.length_map] at hz
    exact hz
  exact ⟨.ref _, upd H a' (.lst ((out.map SrtO.iv).map V.int)), I.laid (t' := s.toks) kp hsz ⟨hlen, out, e, vals_of_ints k1, he⟩, rfl, q _ _ k2 k3 (I.hok.fresh hsz)⟩
def sOf (v : Value) : Str := match v with
  | .str a _ => a
  | _ => Str.ofString ""
theorem strs_sOf : ∀ {vs : List Value} {ss : List Str}, StrsAre vs ss → vs.map sOf = ss := by
  intro vs ss h
  induction h with
  | nil => rfl
  | @cons x0 t0 vs0 ss0 _ ih => rw [List.map_cons, ih]; rfl
theorem sOf_strs : ∀ {vs : List Value}, (∀ v ∈ vs, ∃ x t, v = Value.str x t) → StrsAre vs (vs.map sOf)
  | [], _ => .nil
  | v :: vs, h => by
    obtain ⟨x, t, e⟩ := h v List.mem_cons_self
    subst e
    exact .cons x t (sOf_strs fun u hu => h u (List.mem_cons_of_mem _ hu))
theorem cr_sortST : CallR X (.builtin "sorted") (rSortST X.K) := by
  intro pins s σ H vs us Q I r h
  obtain ⟨a, xs, ev, hs, q⟩ := h
  subst ev
  obtain ⟨its, rv, hl, hz⟩ := I.tuple hs
  obtain ⟨o, ho, hc, n, hd⟩ := hl
  rw [Vals.ref1 r]
  have hi := rv.strs
  refine sorted_tupO (ltKs_swo kyS) ho hc hd (by rw [← rv.length]; exact hz) (fun h2 h₁ a' _ => strs_sortable hi h2) fun out h' a' e h1 h2 kp hsz he => ?_
  have mem : ∀ v ∈ out, ∃ x t, v = Value.str x t := fun v hv => by
    obtain ⟨x, t, e1, _⟩ := strs_mem hi v (h2.perm.mem_iff.mp hv); exact ⟨x, t, e1⟩
  have k1 := sOf_strs mem
  have k2 : (out.map sOf).Perm xs := by rw [← strs_sOf hi]; exact h2.perm.map sOf
  have k3 : (out.map sOf).Pairwise (fun x y => ltKs [.inr y] [.inr x] = false) := by
    refine List.pairwise_map.mpr ((List.Pairwise.imp_of_mem ?_) h1)
    intro v u hv hu z
    obtain ⟨x, t, e1⟩ := mem v hv
    obtain ⟨y, t', e2⟩ := mem u hu
    subst e1; subst e2
    exact z
  have hlen : ((out.map sOf).map V.str).length ≤ sizeLine := by
    rw [List.length_map, k2.length_eq]
    rw [List.length_map] at hz
    exact hz
  exact ⟨.ref _, upd H a' (.lst ((out.map sOf).map V.str)), I.laid (t' := s.toks) kp hsz ⟨hlen, out, e, vals_of_strs k1, he⟩, rfl, q _ _ k2 k3 (I.hok.fresh hsz)⟩
end
end EV

set_option maxRecDepth 100000
set_option maxHeartbeats 4000000
/-! EvRp: repr of lists and tuples of plain data. -/
namespace EV
open PySem PySem.Spec PyProof.Rows L2

/-- what may be shown -/
def showOk (p : PyData) : Bool := p.canLay0 && (decide (p.depth ≤ 50) && (decide (p.weight ≤ 2 ^ 20) && (p.intsShort 13 && p.showable)))
theorem showOk_ok {p : PyData} (h : showOk p = true) : p.canLay0 = true ∧ p.depth ≤ 50 ∧ p.weight ≤ 2 ^ 20 ∧ p.intsShort 13 = true ∧ p.showable = true := by
  unfold showOk at h
  simp only [Bool.and_eq_true, decide_eq_true_eq] at h
  exact h
theorem show_fits {p : PyData} (h : showOk p = true) : p.shown.length ≤ sizeLine := by
  obtain ⟨h1, h2, h3, h4, _⟩ := showOk_ok h
  exact PyData.shown_fits (B := 13) (by decide) (by decide) (PyData.leavesShort_of_canLay0 13 p h1 h4) h3
/-! ### shown texts are texts -/
theorem ok_iff {x : Str} : PyData.strOk x = true ↔ ∀ c ∈ x.cps.toList, c < 0x110000 := by
  unfold PyData.strOk
  rw [Array.all_eq_true_iff_forall_mem]
  simp only [decide_eq_true_eq, Array.mem_toList_iff]
theorem ok_app {a b : Str} (h1 : PyData.strOk a = true) (h2 : PyData.strOk b = true) : PyData.strOk (a ++ b) = true := by
  rw [ok_iff] at h1 h2 ⊢
  intro c hc
  have hc : c ∈ (a.cps ++ b.cps).toList := hc
  rw [Array.toList_append] at hc
  rcases List.mem_append.mp hc with z | z
  · exact h1 c z
  · exact h2 c z
theorem char_lt (c : Char) : c.toNat < 0x110000 := by
  have := c.valid
  unfold UInt32.isValidChar Nat.isValidChar at this
  show c.val.toNat < 0x110000
  omega
theorem ok_lit (s : String) : PyData.strOk (s : Str) = true := by
  rw [ok_iff]
  intro c hc
  rw [Str.ofString_eq_toList] at hc
  simp only [Array.toList_map, List.toList_toArray, List.mem_map] at hc
  obtain ⟨d, _, rfl⟩ := hc
  exact char_lt d
theorem ok_from : ∀ (ts : List Str) (k : Nat) (acc : Str), PyData.strOk acc = true → (∀ t ∈ ts, PyData.strOk t = true) → PyData.strOk (textFrom k acc ts) = true
  | [], _, _, h, _ => h
  | t :: ts, k, acc, h, ht => ok_from ts (k + 1) _ (ok_app (ok_app h (ok_lit _)) (ht t List.mem_cons_self)) fun u hu => ht u (List.mem_cons_of_mem _ hu)
theorem ok_list {ts : List Str} (ht : ∀ t ∈ ts, PyData.strOk t = true) : PyData.strOk (listText ts) = true := ok_app (ok_from ts 0 _ (ok_lit _) ht) (ok_lit _)
theorem ok_join {sep : Str} (hs : PyData.strOk sep = true) : ∀ (ts : List Str), (∀ t ∈ ts, PyData.strOk t = true) → PyData.strOk (Str.join sep ts) = true
  | [], _ => (by decide +kernel : PyData.strOk Str.empty = true)
  | [x], h => h x List.mem_cons_self
  | x :: y :: r, h => ok_app (ok_app (h x List.mem_cons_self) hs) (ok_join hs (y :: r) fun u hu => h u (List.mem_cons_of_mem _ hu))
theorem ok_tuple {ts : List Str} (ht : ∀ t ∈ ts, PyData.strOk t = true) : PyData.strOk (tupleText ts) = true := ok_app (ok_app (ok_lit _) (ok_join (ok_lit _) ts ht)) (ok_lit _)
theorem ok_char {q c : Nat} (hq : q < 0x110000) (hc : c < 0x110000) : ∀ d ∈ Builtin.Str.reprChar q c, d < 0x110000 := by
  intro d hd
  have hex : ∀ w : Nat, ∀ d ∈ List.replicate (w - ((Nat.toDigits 16 c).map Char.toNat).length) 48 ++ (Nat.toDigits 16 c).map Char.toNat, d < 0x110000 := fun w d hd => by
    rcases List.mem_append.mp hd with z | z
    · rw [List.eq_of_mem_replicate z]; decide
    · obtain ⟨e, _, rfl⟩ := List.mem_map.mp z
      exact char_lt e
  unfold Builtin.Str.reprChar at hd
  dsimp only at hd
  have two : ∀ {l : List Nat} {n m : Nat}, d ∈ [n, m] ++ l → n < 0x110000 → m < 0x110000 → (d ∈ l → d < 0x110000) → d < 0x110000 := fun {l n m} h1 h2 h3 h4 => by
    rcases List.mem_append.mp h1 with z | z
    · rcases List.mem_cons.mp z with z | z
      · rw [z]; exact h2
      · rw [List.mem_singleton.mp z]; exact h3
    · exact h4 z
  repeat' split at hd
  all_goals first
    | exact two hd (by decide) (by decide) (hex _ d)
    | (simp only [List.mem_cons, List.not_mem_nil, or_false] at hd; rcases hd with hd | hd <;> (rw [hd]; first | exact hc | decide))
    | (have hd := List.mem_singleton.mp hd; rw [hd]; exact hc)
theorem ok_repr {x : Str} (h : PyData.strOk x = true) : PyData.strOk (reprText x) = true := by
  have hq : reprQuote x < 0x110000 := by
    unfold reprQuote
    split <;> decide
  rw [ok_iff] at h ⊢
  have fold : ∀ (l : List Nat) (acc : Array Nat), (∀ c ∈ l, c < 0x110000) → (∀ c ∈ acc.toList, c < 0x110000) → ∀ c ∈ (l.foldl (fun out c => out ++ (Builtin.Str.reprChar (reprQuote x) c).toArray) acc).toList, c < 0x110000 := fun l => by
    induction l with
    | nil => intro acc _ h2; exact h2
    | cons d r ih =>
      intro acc h1 h2
      refine ih _ (fun c hc => h1 c (List.mem_cons_of_mem _ hc)) fun c hc => ?_
      rw [Array.toList_append] at hc
      rcases List.mem_append.mp hc with z | z
      · exact h2 c z
      · exact ok_char hq (h1 d List.mem_cons_self) c (by simpa using z)
  intro c hc
  unfold reprText at hc
  have hc : c ∈ (Array.push (x.cps.foldl (fun out c => out ++ (Builtin.Str.reprChar (reprQuote x) c).toArray) #[reprQuote x]) (reprQuote x)).toList := hc
  rw [Array.toList_push, ← Array.foldl_toList] at hc
  rcases List.mem_append.mp hc with z | z
  · exact fold _ _ h (by simpa using hq) c z
  · rw [List.mem_singleton.mp z]; exact hq
mutual
theorem ok_shown : ∀ p : PyData, p.canLay0 = true → PyData.strOk p.shown = true
  | .none, _ => by simp only [PyData.shown]; exact ok_lit _
  | .bool b, _ => by simp only [PyData.shown]; cases b <;> exact ok_lit _
  | .int i, _ => by simp only [PyData.shown]; exact ok_lit _
  | .str x, h => by simp only [PyData.shown]; exact ok_repr (by simpa only [PyData.canLay0] using h)
  | .list xs, h => by simp only [PyData.shown]; exact ok_list (ok_shownAll xs (by simpa only [PyData.canLay0] using h))
  | .tuple xs, h => by simp only [PyData.shown]; exact ok_tuple (ok_shownAll xs (by simpa only [PyData.canLay0] using h))
  | .dict kvs, h => by simp only [PyData.canLay0] at h; cases h
theorem ok_shownAll : ∀ ps : List PyData, PyData.canLayAll0 ps = true → ∀ t ∈ PyData.shownAll ps, PyData.strOk t = true
  | [], _ => fun t ht => by simp only [PyData.shownAll] at ht; cases ht
  | p :: ps, h => fun t ht => by
    simp only [PyData.canLayAll0, Bool.and_eq_true] at h
    simp only [PyData.shownAll] at ht
    rcases List.mem_cons.mp ht with z | z
    · rw [z]; exact ok_shown p h.1
    · exact ok_shownAll ps h.2 t z
end
/-! ### the rule -/
def rRepr (K : PySem.W.Frag) : List V → Hp → VK → Prop := fun vs H Q => ∃ (a : Addr) (p : PyData), vs = [V.ref a] ∧ Dp K H (.ref a) p ∧ showOk p = true ∧ Q (.str p.shown) H
def rReprI : List V → Hp → VK → Prop := fun xs H Q => ∃ i : Int, xs = [.int i] ∧ i.natAbs.log2 < 1920 ∧ Q (.str (toString i)) H
theorem cr_repr {X : Cx} (hg : X.A.guards = some []) (hu : X.A.units + 64 < cLine) : CallR X (.builtin "repr") (rRepr X.K) := by
  intro pins s σ H vs us Q I r q
  obtain ⟨a, p, e, hd, hs, q⟩ := q
  subst e
  obtain ⟨u, e, ru⟩ := vals1 r
  subst e
  have ru : u = Value.ref a := ru
  subst ru
  obtain ⟨as, rd⟩ := Dp.reads I p (.ref a) (.ref a) hd rfl
  obtain ⟨h1, h2, h3, h4, h5⟩ := showOk_ok hs
  exact repr_of_reads' rd h5 (PyData.noDict_hsm (PyData.hasDict_of_canLay p h1)) hg (by omega) (fun _ _ e => e) (fun h' u tk k => ⟨.str p.shown, H, I.kept k, ⟨_, rfl⟩, q⟩) (show_fits hs)
end EV

set_option maxRecDepth 100000
/-! EvC: the small language and what it means, in plain Lean. -/
namespace EV
open PySem PySem.Spec PyProof.Rows L2

inductive Blt where
  | len | all | any | sum | min1 | max1 | min2 | max2 | abs | int | tuple | list | sorted | divmod
inductive Blt2 where
  | sorted | repr | dict
/-- further operations: list(range(a)); o.index(a), o.count(a) of a list, o.join(a), list(zip(a, b)), list(range(a, b)) -/
inductive O1 where
  | rng
inductive O2 where
  | index | count | join | lzip | rng2 | gcd
inductive Ty where
  | int | bool | str | tuple | list | dict

mutual
inductive Ex where
  | non | bl (b : Bool) | int (i : Int) | str (x : Str)
  | v (i : Nat) | g (x : Str)
  | bin (op : Operator) (a b : Ex) | neg (a : Ex)
  | cmp (op : CmpOp) (a b : Ex) | ch (op op2 : CmpOp) (a b c : Ex)
  | bop (isAnd : Bool) (es : List Ex) | not (a : Ex) | ife (t a b : Ex)
  | tup (es : List Ex) | lst (es : List Ex)
  | ix (a b : Ex) | sl (a : Ex) (lo hi : Option Ex)
  | call (f : Nat) (es : List Ex) | callb (f : Nat) (e : Ex) | callk (f : Nat) (es : List Ex) (ks : List Str) (kes : List Ex)
  | calln (i : Nat) (es : List Ex)
  | bi (b : Blt) (es : List Ex) | isi (a : Ex) (t : Ty)
  | app (i : Nat) (e : Ex) | popAt (i : Nat) (e : Ex)
  | get (o k : Ex) | get2 (o k d : Ex) | dnew (tk : Bool)
  | bi2 (b : Blt2) (e : Ex) | rev (o : Ex) | dzip (a b : Ex)
  | o1 (o : O1) (a : Ex) | o2 (o : O2) (a b : Ex) | ext (i : Nat) (e : Ex)
  | lc (elt : Ex) (tg : Tg) (it : It2) (ifs : List Ex) (vs : List Nat)
  | dc (k e : Ex) (tg : Tg) (it : It2) (ifs : List Ex) (vs : List Nat) (tk : Bool)
inductive It2 where
  | seq (e : Ex) | vals (e : Ex) | items (e : Ex) | range1 (a : Ex) | range2 (a b : Ex) | enum (e : Ex) | zip (a b : Ex)
inductive Tg where
  | nm (i : Nat) | tp (ts : List Tg) | sub (o k : Ex)
end

inductive FO where
  | ok (w : Val) (own : Bool) (h : Hh)
  | bad
structure Gv where
  con : Str → Option D
  call : Nat → List Val → Hh → FO
  calln : Nat → List (Option D) → List Val → Hh → FO
  fr : Nat → List Nat
  arity : Nat → List Str

/-! ### data operations -/
mutual
def toP : D → Option PyData
  | .non => some .none
  | .bl b => some (.bool b)
  | .int i => some (.int i)
  | .str x => some (.str x)
  | .tup xs => (toPs xs).map .tuple
  | .lst xs => (toPs xs).map .list
  | .dic _ _ => none
  | .dit _ _ => none
def toPs : List D → Option (List PyData)
  | [] => some []
  | x :: xs => match toP x, toPs xs with
    | some p, some ps => some (p :: ps)
    | _, _ => none
end
def eqD (a b : D) : Option Bool := match toP a, toP b with
  | some p, some q => if p.depth ≤ 64 ∧ q.depth ≤ 64 then some (PyData.eqv p q) else none
  | _, _ => none
def flatD : D → Option V
  | .non => some .non
  | .bl b => some (.bl b)
  | .int i => some (.int i)
  | .str x => some (.str x)
  | _ => none
def flats : List D → Option (List V)
  | [] => some []
  | x :: xs => match flatD x, flats xs with
    | some v, some vs => some (v :: vs)
    | _, _ => none
def keyD : D → Option Key
  | .int i => some (.inl i)
  | .str x => some (.inr x)
  | _ => none
def keyDs : List D → Option (List Key)
  | [] => some []
  | x :: xs => match keyD x, keyDs xs with
    | some k, some ks => some (k :: ks)
    | _, _ => none
def keyT : D → Option (List Key)
  | .tup xs => keyDs xs
  | _ => none
/-- what stands at a key -/
def look {κ : Type} [DecidableEq κ] : List κ → List D → κ → Option D
  | k :: ks, d :: ds, x => if k = x then some d else look ks ds x
  | _, _, _ => none
/-- .. behind d[k] = v -/
def putKs {κ : Type} [DecidableEq κ] (ks : List κ) (k : κ) : List κ := if k ∈ ks then ks else ks ++ [k]
def putDs {κ : Type} [DecidableEq κ] (ks : List κ) (ds : List D) (x : κ) (v : D) : List D := if x ∈ ks then List.zipWith (fun k d => if k = x then v else d) ks ds else ds ++ [v]
def inD (a b : D) : Option Bool := match b with
  | .lst ys | .tup ys => (match flatD a, flats ys with
    | some v, some vs => some (inV v vs)
    | _, _ => none)
  | .str z => (match a with
    | .str y => (match y.cps.toList with
      | [c] => some (decide (c ∈ z.cps.toList))
      | _ => some (!(Builtin.Str.occurrences z y 0 z.length 1).isEmpty))
    | _ => none)
  | .dic ks ds => (keyD a).map fun k => (look ks ds k).isSome
  | .dit ks ds => (keyT a).map fun k => (look ks ds k).isSome
  | _ => none
def ltS (x y : Str) : Bool := decide (x.cps.toList < y.cps.toList)
def isNonD : D → Bool
  | .non => true
  | _ => false
def cmpD : CmpOp → D → D → Option Bool
  | .Eq, a, b => eqD a b
  | .NotEq, a, b => (eqD a b).map (!·)
  | .In, a, b => inD a b
  | .NotIn, a, b => (inD a b).map (!·)
  | .Is, a, .non => some (isNonD a)
  | .IsNot, a, .non => some (!isNonD a)
  | .Lt, .int a, .int b => some (decide (a < b))
  | .LtE, .int a, .int b => some (decide (a ≤ b))
  | .Gt, .int a, .int b => some (decide (b < a))
  | .GtE, .int a, .int b => some (decide (b ≤ a))
  | .Lt, .str a, .str b => some (ltS a b)
  | _, _, _ => none
def addD : D → D → Option D
  | .int a, .int b => some (.int (a + b))
  | .str a, .str b => if a.length + b.length ≤ sizeLine then some (.str (a ++ b)) else none
  | .tup a, .tup b => if a.length + b.length ≤ sizeLine then some (.tup (a ++ b)) else none
  | .lst a, .lst b => if a.length + b.length ≤ sizeLine then some (.lst (a ++ b)) else none
  | _, _ => none
def subD : D → D → Option D
  | .int a, .int b => some (.int (a - b))
  | _, _ => none
def repS (x : Str) (n : Nat) : Str := ⟨(List.replicate n x.cps.toList).flatten.toArray⟩
def mulD : D → D → Option D
  | .str x, .int k => if 2 ≤ k ∧ k < 2147483648 ∧ 0 < x.length ∧ x.length * k.toNat ≤ sizeLine then some (.str (repS x k.toNat)) else none
  | .int a, .int b => if (-(2 ^ 64) < a ∧ a < 2 ^ 64) ∨ (-(2 ^ 64) < b ∧ b < 2 ^ 64) then some (.int (a * b)) else none
  | .lst a, .int k => if 0 ≤ k ∧ k < 2 ^ 63 ∧ a.length * k.toNat ≤ sizeLine then some (.lst (List.replicate k.toNat a).flatten) else none
  | .tup a, .int k => if a ≠ [] ∧ 2 ≤ k ∧ k ≤ 1000 ∧ a.length ≤ 1000 then some (.tup (List.replicate k.toNat a).flatten) else none
  | _, _ => none
def fdivD : D → D → Option D
  | .int a, .int b => if 0 < b ∧ b < 1073741824 then some (.int (a / b)) else none
  | _, _ => none
def modD : D → D → Option D
  | .int a, .int b => if 0 < b then some (.int (a % b)) else none
  | _, _ => none
def powD : D → D → Option D
  | .int a, .int b => if 0 ≤ b ∧ b ≤ 1000000 ∧ a.natAbs < 2 ^ 64 then some (.int (a ^ b.toNat)) else none
  | _, _ => none
def opD : Operator → D → D → Option D
  | .Add => addD
  | .Sub => subD
  | .Mult => mulD
  | .FloorDiv => fdivD
  | .Mod => modD
  | .Pow => powD
  | _ => fun _ _ => none
def ixD : D → D → Option D
  | .lst xs, .int i => atI xs i
  | .tup xs, .int i => atI xs i
  | .str x, .int i => (atI x.cps.toList i).map fun c => .str ⟨#[c]⟩
  | .dic ks ds, k => (keyD k).bind (look ks ds)
  | .dit ks ds, k => (keyT k).bind (look ks ds)
  | _, _ => none
def cutD (xs : List D) (lo hi : Option Int) : List D :=
  (xs.drop (HT.sIx xs.length 0 lo)).take (HT.sIx xs.length xs.length hi - HT.sIx xs.length 0 lo)
def slD (a : D) (lo hi : Option Int) : Option D := match a with
  | .lst xs => some (.lst (cutD xs lo hi))
  | .tup xs => some (.tup (cutD xs lo hi))
  | .str x => some (.str (cutS x lo hi))
  | _ => none
def truD : D → Bool
  | .non => false
  | .bl b => b
  | .int i => i != 0
  | .str x => (x.length : Int) != 0
  | .tup xs => !xs.isEmpty
  | .lst xs => !xs.isEmpty
  | .dic ks _ => !ks.isEmpty
  | .dit ks _ => !ks.isEmpty
def isiD : Ty → D → Bool
  | .int, .int _ => true
  | .int, .bl _ => true
  | .bool, .bl _ => true
  | .str, .str _ => true
  | .tuple, .tup _ => true
  | .list, .lst _ => true
  | .dict, .dic _ _ => true
  | .dict, .dit _ _ => true
  | _, _ => false
def intsD : List D → Option (List Int)
  | [] => some []
  | .int i :: xs => (intsD xs).map (i :: ·)
  | _ :: _ => none
def boolsD : List D → Option (List Bool)
  | [] => some []
  | .bl b :: xs => (boolsD xs).map (b :: ·)
  | _ :: _ => none
def minL : List Int → Option Int
  | [] => none
  | x :: xs => some (xs.foldl (fun a b => if b < a then b else a) x)
def maxL : List Int → Option Int
  | [] => none
  | x :: xs => some (xs.foldl (fun a b => if a < b then b else a) x)
def kD : Key → D
  | .inl i => .int i
  | .inr x => .str x
def keyOkB : Key → Bool
  | .inl _ => true
  | .inr x => PyData.strOk x && decide (x.length ≤ sizeLine)
def biD (b : Blt) (ds : List D) : Option D := match b, ds with
  | .len, [.lst xs] => some (.int xs.length)
  | .len, [.tup xs] => some (.int xs.length)
  | .len, [.str x] => some (.int x.length)
  | .len, [.dic ks _] => some (.int ks.length)
  | .all, [.lst xs] => (boolsD xs).map fun bs => .bl (bs.all id)
  | .any, [.lst xs] => (boolsD xs).map fun bs => .bl (bs.any id)
  | .sum, [.lst xs] => (intsD xs).map fun ns => .int ns.sum
  | .sum, [.tup xs] => (intsD xs).map fun ns => .int ns.sum
  | .min1, [.tup xs] => ((intsD xs).bind minL).map .int
  | .max1, [.tup xs] => ((intsD xs).bind maxL).map .int
  | .min1, [.lst xs] => ((intsD xs).bind minL).map .int
  | .max1, [.lst xs] => ((intsD xs).bind maxL).map .int
  | .min2, [.int a, .int b] => some (.int (if b < a then b else a))
  | .max2, [.int a, .int b] => some (.int (if b > a then b else a))
  | .abs, [.int a] => some (.int (if a < 0 then -a else a))
  | .int, [.int a] => some (.int a)
  | .int, [.bl b] => some (.int (if b = true then 1 else 0))
  | .tuple, [.lst xs] => some (.tup xs)
  | .tuple, [.tup xs] => some (.tup xs)
  | .list, [.lst xs] => some (.lst xs)
  | .list, [.tup xs] => some (.lst xs)
  | .list, [.str x] => some (.lst (x.cps.toList.map fun c => .str ⟨#[c]⟩))
  | .list, [.dic ks _] => if ks.all keyOkB = true then some (.lst (ks.map kD)) else none
  | .divmod, [.int a, .int b] => if 0 < b ∧ b < 1073741824 then some (.tup [.int (a / b), .int (a % b)]) else none
  | _, _ => none

/-! ### a second family: sorted, repr, dict -/
def insD {α : Type} (lt : α → α → Bool) (x : α) : List α → List α
  | [] => [x]
  | y :: r => if lt y x = true then y :: insD lt x r else x :: y :: r
def isort {α : Type} (lt : α → α → Bool) : List α → List α
  | [] => []
  | x :: r => insD lt x (isort lt r)
/-- what sorted looks at -/
def kyD : D → List Key
  | .int i => [.inl i]
  | .str x => [.inr x]
  | .tup xs => (keyDs xs).getD []
  | _ => []
def ltD (a b : D) : Bool := ltKs (kyD a) (kyD b)
def isIntD : D → Bool
  | .int _ => true
  | _ => false
def isStrD : D → Bool
  | .str _ => true
  | _ => false
/-- a tuple of ints and texts, of this shape -/
def tupShp (sh : List Bool) : D → Bool
  | .tup xs => (match keyDs xs with
    | some ks => decide (ks.map isS = sh)
    | none => false)
  | _ => false
def tupsOk : List D → Bool
  | [] => true
  | x :: xs => !((kyD x).map isS).isEmpty && (x :: xs).all (tupShp ((kyD x).map isS))
def sortOk (xs : List D) : Bool := xs.all isIntD || ((xs.all isStrD && decide (xs.length < 64)) || tupsOk xs)
def sortD (xs : List D) : Option D := if sortOk xs = true then some (.lst (isort ltD xs)) else none
/-- .. of a tuple: ints, or texts -/
def sortTD (xs : List D) : Option D := if (xs.all isIntD || xs.all isStrD) = true then some (.lst (isort ltD xs)) else none
def reprD (d : D) : Option D := match d with
  | .lst _ | .tup _ => (match toP d with
    | some p => if showOk p = true then some (.str p.shown) else none
    | none => none)
  | .int i => if i.natAbs.log2 < 1920 ∧ showOk (.int i) = true then some (.str (PyData.int i).shown) else none
  | _ => none
def pairD : D → Option (Key × D)
  | .tup [k, v] => (keyD k).map fun k => (k, v)
  | _ => none
def pairsD : List D → Option (List (Key × D))
  | [] => some []
  | x :: xs => match pairD x, pairsD xs with
    | some p, some ps => some (p :: ps)
    | _, _ => none
def foldK : List (Key × D) → List Key → List D → List Key × List D
  | [], ks, ds => (ks, ds)
  | p :: ps, ks, ds => foldK ps (putKs ks p.1) (putDs ks ds p.1 p.2)
def dictD (ps : List (Key × D)) : D := .dic (foldK ps [] []).1 (foldK ps [] []).2
def b2Name : Blt2 → Str
  | .sorted => "sorted" | .repr => "repr" | .dict => "dict"
def bi2D (b : Blt2) (d : D) : Option D := match b with
  | .sorted => (match d with
    | .lst xs => sortD xs
    | .tup xs => sortTD xs
    | _ => none)
  | .repr => reprD d
  | .dict => (match d with
    | .lst xs => (pairsD xs).map dictD
    | _ => none)
def revD : D → Option D
  | .lst xs => some (.lst xs.reverse)
  | .tup xs => some (.tup xs.reverse)
  | _ => none
def seqD : D → Option (List D)
  | .lst xs => some xs
  | .tup xs => some xs
  | _ => none
def dzipD (a b : D) : Option D := match seqD a, seqD b with
  | some xs, some ys => (keyDs xs).map fun ks => dictD (ks.zip ys)
  | _, _ => none

def zipD : List D → List D → List D
  | x :: xs, y :: ys => .tup [x, y] :: zipD xs ys
  | _, _ => []
/-! ### further operations -/
def rngD (lo hi : Int) : Option D := if (-(2 ^ 62) ≤ lo ∧ lo < 2 ^ 62 ∧ -(2 ^ 62) ≤ hi ∧ hi < 2 ^ 62) ∧ (hi - lo).toNat ≤ 2 ^ 24 then some (.lst (((List.range (hi - lo).toNat).map fun (k : Nat) => lo + (k : Int)).map .int)) else none
def o1D (o : O1) (a : D) : Option D := match o, a with
  | .rng, .int j => rngD 0 j
  | _, _ => none
def strsD : List D → Option (List Str)
  | [] => some []
  | .str x :: xs => (strsD xs).map (x :: ·)
  | _ :: _ => none
/-- where an equal one stands first -/
def idxP (ds : List PyData) (d : PyData) : Option Nat := if (PyData.list ds).depth ≤ 64 ∧ d.depth ≤ 60 then ds.findIdx? (fun z => PyData.eqv z d) else none
def cntP (ds : List PyData) (d : PyData) : Option Nat := if (PyData.list ds).depth ≤ 64 ∧ d.depth ≤ 60 then some (ds.countP fun z => PyData.eqv z d) else none
def o2D (o : O2) (a b : D) : Option D := match o with
  | .index => (match toP a, toP b with
    | some (.list ds), some d => (idxP ds d).map fun j => .int (j : Nat)
    | _, _ => none)
  | .count => (match toP a, toP b with
    | some (.list ds), some d => (cntP ds d).map fun j => .int (j : Nat)
    | _, _ => none)
  | .join => (match a, (seqD b).bind strsD with
    | .str x, some zs => if (zs.map (·.length)).sum + zs.length * x.length ≤ 16777216 ∧ PyData.strOk (Txt.join x zs) = true ∧ (Txt.join x zs).length ≤ sizeLine then some (.str (Txt.join x zs)) else none
    | _, _ => none)
  | .lzip => (match seqD a, seqD b with
    | some xs, some ys => some (.lst (zipD xs ys))
    | _, _ => none)
  | .rng2 => (match a, b with
    | .int i, .int j => rngD i j
    | _, _ => none)
  | .gcd => (match a, b with
    | .int i, .int j => some (.int ((Nat.gcd i.natAbs j.natAbs : Nat) : Int))
    | _, _ => none)

/-! ### steps over values -/
def lift1 (f : D → Option D) (x : Val) : M Val := fun ρ h => match rd ρ h x with
  | some a => (match f a with
    | some c => .ok (.d c) ρ h
    | none => .bad)
  | none => .bad
def lift2 (f : D → D → Option D) (x y : Val) : M Val := fun ρ h => match rd ρ h x, rd ρ h y with
  | some a, some b => (match f a b with
    | some c => .ok (.d c) ρ h
    | none => .bad)
  | _, _ => .bad
def binM (op : Operator) (x y : Val) : M Val := match x, y with
  | .kon _, _ => M.fail
  | _, .kon _ => M.fail
  | x, y => lift2 (opD op) x y
def cmpM (op : CmpOp) (x y : Val) : M Val := match x with
  | .kon _ => M.fail
  | x => lift2 (fun a b => (cmpD op a b).map .bl) x y
/-- the script is read by index and by slice alone; its length -/
def scrIx (ns : List Int) : Val → Option Int
  | .d (.int i) => atI ns i
  | _ => none
def ixM (x y : Val) : M Val := match x with
  | .scr ns => fun ρ h => (match scrIx ns y with
    | some n => .ok (.d (.int n)) ρ h
    | none => .bad)
  | x => (match y with
    | .kon _ => M.fail
    | y => lift2 ixD x y)
def partI : Val → Option Int
  | .d (.int i) => some i
  | _ => none
def slM (x : Val) (lo hi : Option Int) : M Val := match x with
  | .scr ns => M.ret (.d (.lst (cutD (ns.map .int) lo hi)))
  | .kon _ => M.fail
  | x => lift1 (fun a => slD a lo hi) x
/-- the kinds whose truth is asked: all but dicts -/
def truOk : D → Bool
  | .dic _ _ => false
  | .dit _ _ => false
  | _ => true
def truM (x : Val) : M Bool := fun ρ h => match rd ρ h x with
  | some a => if truOk a = true then .ok (truD a) ρ h else .bad
  | none => .bad
def rds (ρ : Ev) (h : Hh) : List Val → Option (List D)
  | [] => some []
  | x :: xs => match rd ρ h x, rds ρ h xs with
    | some d, some ds => some (d :: ds)
    | _, _ => none
def biM (b : Blt) (xs : List Val) : M Val := match b, xs with
  | .len, [.scr ns] => M.ret (.d (.int ns.length))
  | .tuple, [.kon _] => M.fail
  | b, xs => fun ρ h => (match rds ρ h xs with
    | some ds => (match biD b ds with
      | some c => .ok (.d c) ρ h
      | none => .bad)
    | none => .bad)
/-- data alone -/
def plainV : Val → M D := fun x => match x with
  | .d a => M.ret a
  | _ => M.fail
def plains : List Val → Option (List D)
  | [] => some []
  | .d a :: xs => (plains xs).map (a :: ·)
  | _ :: _ => none
/-- what is handed to a call: a function made here takes its cells along -/
def capAt (ρ : Ev) (j : Nat) : Option (Option D) := match ρ[j]? with
  | some (.val (.d x)) => some (some x)
  | some .no => some none
  | _ => none
def capsAt (ρ : Ev) : List Nat → Option (List (Option D))
  | [] => some []
  | j :: js => match capAt ρ j, capsAt ρ js with
    | some c, some cs => some (c :: cs)
    | _, _ => none
def hand (G : Gv) (ρ : Ev) : Val → Option Val
  | .own _ => none
  | .mk c => (capsAt ρ (G.fr c)).map (.clo c)
  | w => some w
def hands (G : Gv) (ρ : Ev) : List Val → Option (List Val)
  | [] => some []
  | x :: xs => match hand G ρ x, hands G ρ xs with
    | some y, some ys => some (y :: ys)
    | _, _ => none
/-- an answer of a call, as a value -/
def backM (o : FO) : M Val := fun ρ h => match o with
  | .ok w _ h' => if h'.length = h.length then .ok w ρ h' else .bad
  | .bad => .bad
def callM0 (G : Gv) (f : Nat) (xs : List Val) : M Val := fun ρ h => match hands G ρ xs with
  | some ys => backM (G.call f ys h) ρ h
  | none => .bad
/-- one's own object is lent to a call, and is one's own again -/
def lendM (G : Gv) (f : Nat) (xs : List Val) : M Val := fun ρ h => match xs with
  | [x, .own i] => (match hand G ρ x, ρ[i]? with
    | some y, some (.own b) => (match G.call f [y, .ref h.length] (h ++ [b]) with
      | .ok (.d w) _ h' => (match h'[h.length]? with
        | some b' => if h'.length = h.length + 1 then .ok (.d w) (ρ.set i (.own b')) (h'.take h.length) else .bad
        | none => .bad)
      | _ => .bad)
    | _, _ => .bad)
  | _ => .bad
def callM (G : Gv) (f : Nat) (xs : List Val) : M Val := fun ρ h => match hands G ρ xs with
  | some ys => backM (G.call f ys h) ρ h
  | none => lendM G f xs ρ h
/-- one argument that is made for the call and changed there -/
def callbM (G : Gv) (f : Nat) (x : Val) : M Val := fun ρ h => match x with
  | .d b => (match G.call f [.ref h.length] (h ++ [b]) with
    | .ok (.d w) _ h' => if h'.length = h.length + 1 then .ok (.d w) ρ (h'.take h.length) else .bad
    | _ => .bad)
  | _ => .bad
def callnM (G : Gv) (x : Val) (xs : List Val) : M Val := fun ρ h => match x, hands G ρ xs with
  | .clo c caps, some ys => backM (G.calln c caps ys h) ρ h
  | .mk c, some ys => (match capsAt ρ (G.fr c) with
    | some caps => backM (G.calln c caps ys h) ρ h
    | none => .bad)
  | _, _ => .bad
def find (k : Str) : List Str → List Val → Option Val
  | x :: xs, v :: vs => if x = k then some v else find k xs vs
  | _, _ => none
/-- keywords to their places -/
def place : List Str → List Val → List Str → List Val → Option (List Val)
  | [], [], _, _ => some []
  | _ :: ps, x :: xs, ks, vs => (place ps xs ks vs).map (x :: ·)
  | p :: ps, [], ks, vs => match find p ks vs, place ps [] ks vs with
    | some v, some r => some (v :: r)
    | _, _ => none
  | [], _ :: _, _, _ => none
def kwOk (ps : List Str) (n : Nat) (ks : List Str) : Bool := decide (n ≤ ps.length) && (ks.all (fun k => ps.contains k) && decide ((ps.take n ++ ks).Nodup))
def callkM (G : Gv) (f : Nat) (xs : List Val) (ks : List Str) (vs : List Val) : M Val :=
  match place (G.arity f) xs ks vs with
  | some ys => if kwOk (G.arity f) xs.length ks = true ∧ ks.length = vs.length then callM0 G f ys else M.fail
  | none => M.fail
def nameM (i : Nat) : M Val := fun ρ h => match ρ[i]? with
  | some (.val w) => .ok w ρ h
  | some (.own _) => .ok (.own i) ρ h
  | _ => .bad
def isOwn (i : Nat) : M Unit := fun ρ h => match ρ[i]? with
  | some (.own (.lst _)) => .ok () ρ h
  | _ => .bad
def appM (i : Nat) (x : Val) : M Val := fun ρ h => match ρ[i]?, x with
  | some (.own (.lst xs)), .d a => if xs.length < sizeLine then .ok (.d .non) (ρ.set i (.own (.lst (xs ++ [a])))) h else .bad
  | _, _ => .bad
def popM (i : Nat) (x : Val) : M Val := fun ρ h => match ρ[i]?, x with
  | some (.own (.lst xs)), .d (.int k) => (match ixN xs.length k with
    | some j => (match xs[j]? with
      | some a => if -(2 ^ 63) ≤ k ∧ k < 2 ^ 63 then .ok (.d a) (ρ.set i (.own (.lst (xs.eraseIdx j)))) h else .bad
      | none => .bad)
    | none => .bad)
  | _, _ => .bad
def getD (a k d : D) : Option D := match a with
  | .dic ks ds => (keyD k).map fun k => (look ks ds k).getD d
  | .dit ks ds => (keyT k).map fun k => (look ks ds k).getD d
  | _ => none
def get2M (x y z : Val) : M Val := fun ρ h => match z, y with
  | .d c, .d k => lift2 (fun a k => getD a k c) x (.d k) ρ h
  | _, _ => .bad
/-- a name's store -/
def setM (i : Nat) (x : Val) : M Unit := fun ρ h => match x with
  | .own _ => .bad
  | w => if i < ρ.length then .ok () (ρ.set i (.val w)) h else .bad
/-- o[k] = x -/
def putD (a k x : D) : Option D := match a with
  | .lst xs => (match k with
    | .int i => (ixN xs.length i).map fun j => .lst (xs.set j x)
    | _ => none)
  | .dic ks ds => (match keyD k with
    | some y => if ks.length < sizeLine then some (.dic (putKs ks y) (putDs ks ds y x)) else none
    | none => none)
  | .dit ks ds => (match keyT k with
    | some y => if ks.length < sizeLine then some (.dit (putKs ks y) (putDs ks ds y x)) else none
    | none => none)
  | _ => none
def putM (o k x : Val) : M Unit := fun ρ h => match k, x with
  | .d kd, .d a => (match o with
    | .own i => (match ρ[i]? with
      | some (.own b) => (match putD b kd a with
        | some b' => .ok () (ρ.set i (.own b')) h
        | none => .bad)
      | _ => .bad)
    | .ref j => (match h[j]? with
      | some b => (match putD b kd a with
        | some b' => .ok () ρ (h.set j b')
        | none => .bad)
      | none => .bad)
    | _ => .bad)
  | _, _ => .bad
/-- what is gone through -/
def itemsD : D → Option (List D)
  | .dic ks _ => if ks.all keyOkB = true then some (ks.map kD) else none
  | .lst xs => some xs
  | .tup xs => some xs
  | .str x => some (x.cps.toList.map fun c => .str ⟨#[c]⟩)
  | _ => none
def itemsM (x : Val) : M (List D) := fun ρ h => match x with
  | .d a => (match itemsD a with
    | some xs => .ok xs ρ h
    | none => .bad)
  | .kon xs => .ok xs ρ h
  | _ => .bad
def valsD : D → Option (List D)
  | .dic _ ds => some ds
  | _ => none
def itemsPD : D → Option (List D)
  | .dic ks ds => if ks.all keyOkB = true then some (List.zipWith (fun k d => .tup [kD k, d]) ks ds) else none
  | _ => none
def dicM (f : D → Option (List D)) (x : Val) : M (List D) := fun ρ h => match x with
  | .d a => (match f a with
    | some xs => .ok xs ρ h
    | none => .bad)
  | _ => .bad
def upto (lo : Int) : Nat → List D
  | 0 => []
  | n + 1 => .int lo :: upto (lo + 1) n
def rangeM (x y : Val) : M (List D) := match x, y with
  | .d (.int i), .d (.int j) => if -(2 ^ 62) ≤ i ∧ i < 2 ^ 62 ∧ -(2 ^ 62) ≤ j ∧ j < 2 ^ 62 then M.ret (upto i (j - i).toNat) else M.fail
  | _, _ => M.fail
def number : Nat → List D → List D
  | _, [] => []
  | n, x :: xs => .tup [.int n, x] :: number (n + 1) xs
/-- lists and tuples alone -/
def seqM (x : Val) : M (List D) := match x with
  | .d (.lst xs) => M.ret xs
  | .d (.tup xs) => M.ret xs
  | .kon xs => M.ret xs
  | _ => M.fail
/-- two frozen lists, or two tuples -/
def zipM (x y : Val) : M (List D) := match x, y with
  | .d (.lst xs), .d (.lst ys) => M.ret (zipD xs ys)
  | .d (.tup xs), .d (.tup ys) => M.ret (zipD xs ys)
  | .kon xs, .d (.tup ys) => M.ret (zipD xs ys)
  | .d (.tup xs), .kon ys => M.ret (zipD xs ys)
  | _, _ => M.fail
def tyW : Ty → String
  | .int => "int" | .bool => "bool" | .str => "str" | .tuple => "tuple" | .list => "list" | .dict => "dict"
def isiO (t : Ty) : D → Option D
  | .dit _ _ => none
  | d => some (.bl (isiD t d))
/-- the slots of a comprehension's own names are put aside -/
def wipeE (ρ : Ev) : List Nat → Ev
  | [] => ρ
  | v :: vs => (wipeE ρ vs).set v .no
/-- in a comprehension's block no function of the frame is called -/
def dropF : Sl → Sl
  | .val (.clo _ _) => .no
  | .val (.mk _) => .no
  | s => s
def blkE (ρ : Ev) (vs : List Nat) : Ev := wipeE (ρ.map dropF) vs
def pick : Sl → Sl → Sl
  | .own _, s => s
  | s, _ => s
def outE (ρ ρ' : Ev) : Ev := List.zipWith pick ρ ρ'
def noOwn (ρ : Ev) (vs : List Nat) : Bool := vs.all fun v => match ρ[v]? with
  | some (.own _) => false
  | some _ => true
  | none => false
/-- the turns of a list comprehension -/
def lcLoop (vs : List Nat) (tg : Val → M Unit) (test : M Bool) (elt : M Val) : List D → List D → M (List D)
  | [], acc => M.ret acc
  | x :: xs, acc => (tg (.d x)).bind fun _ => test.bind fun b => if b = true then
      elt.bind fun y => (plainV y).bind fun d => fun ρ h => if acc.length < sizeLine ∧ noOwn ρ vs = true then lcLoop vs tg test elt xs (acc ++ [d]) (wipeE ρ vs) h else .bad
    else fun ρ h => if noOwn ρ vs = true then lcLoop vs tg test elt xs acc (wipeE ρ vs) h else .bad
def lcM (vs : List Nat) (tg : Val → M Unit) (test : M Bool) (elt : M Val) (xs : List D) : M Val := fun ρ h =>
  if noOwn ρ vs = true then (match lcLoop vs tg test elt xs [] (blkE ρ vs) h with
    | .ok ys ρ' h' => .ok (.d (.lst ys)) (outE ρ ρ') h'
    | .bad => .bad)
  else .bad

/-- a call whose answer is its own -/
def backO (o : FO) : M Val := fun ρ h => match o with
  | .ok (.d b) true h' => if h'.length = h.length then .ok (.d b) ρ h' else .bad
  | _ => .bad
def callO (G : Gv) (f : Nat) (xs : List Val) : M Val := fun ρ h => match hands G ρ xs with
  | some ys => backO (G.call f ys h) ρ h
  | none => .bad
/-- the turns of a dict comprehension -/
def keyV : Val → Option Key
  | .d x => keyD x
  | _ => none
def dcLoop (vs : List Nat) (tg : Val → M Unit) (test : M Bool) (key val : M Val) : List D → List Key → List D → M (List Key × List D)
  | [], ks, ds => M.ret (ks, ds)
  | x :: xs, ks, ds => (tg (.d x)).bind fun _ => test.bind fun b => if b = true then
      key.bind fun y => val.bind fun z => (plainV z).bind fun d => fun ρ h => (match keyV y with
        | some k => if ks.length < sizeLine ∧ noOwn ρ vs = true then dcLoop vs tg test key val xs (putKs ks k) (putDs ks ds k d) (wipeE ρ vs) h else .bad
        | none => .bad)
    else fun ρ h => if noOwn ρ vs = true then dcLoop vs tg test key val xs ks ds (wipeE ρ vs) h else .bad
def dcM (vs : List Nat) (tg : Val → M Unit) (test : M Bool) (key val : M Val) (xs : List D) : M Val := fun ρ h =>
  if noOwn ρ vs = true then (match dcLoop vs tg test key val xs [] [] (blkE ρ vs) h with
    | .ok p ρ' h' => .ok (.d (.dic p.1 p.2)) (outE ρ ρ') h'
    | .bad => .bad)
  else .bad
def repM (x y : Val) : M Val := match x with
  | .d (.lst _) => binM .Mult x y
  | _ => M.fail
def lstM (xs : List Val) : M Val := match plains xs with
  | some ds => if ds.length ≤ sizeLine then M.ret (.d (.lst ds)) else M.fail
  | none => M.fail
/-- what a method stands on is looked at first -/
def preM (o : O2) (x : Val) : M Unit := match o with
  | .index | .count => fun ρ h => (match rd ρ h x with
    | some (.lst _) => .ok () ρ h
    | _ => .bad)
  | .join => fun ρ h => (match rd ρ h x with
    | some (.str _) => .ok () ρ h
    | _ => .bad)
  | _ => M.ret ()
def extM (i : Nat) (x : Val) : M Val := fun ρ h => match ρ[i]?, x with
  | some (.own (.lst xs)), .d (.lst ys) => if xs.length + ys.length ≤ sizeLine then .ok (.d .non) (ρ.set i (.own (.lst (xs ++ ys)))) h else .bad
  | _, _ => .bad
/-! ### the meaning -/
mutual
def den (G : Gv) : Ex → M Val
  | .non => M.ret (.d .non)
  | .bl b => M.ret (.d (.bl b))
  | .int i => M.ret (.d (.int i))
  | .str x => M.ret (.d (.str x))
  | .v i => nameM i
  | .g x => (match G.con x with
    | some (.tup xs) => M.ret (.kon xs)
    | some d => M.ret (.d d)
    | none => M.fail)
  | .bin op a b => (den G a).bind fun x => (den G b).bind fun y => binM op x y
  | .neg a => (den G a).bind fun x => lift1 (fun d => match d with | .int i => some (.int (-i)) | _ => none) x
  | .cmp op a b => (den G a).bind fun x => (den G b).bind fun y => cmpM op x y
  | .ch op op2 a b c => (den G a).bind fun x => (den G b).bind fun y => (cmpM op x y).bind fun k => (match k with
    | .d (.bl true) => (den G c).bind fun z => cmpM op2 y z
    | .d (.bl false) => M.ret (.d (.bl false))
    | _ => M.fail)
  | .bop isAnd es => denB G isAnd es
  | .not a => (den G a).bind fun x => (match x with
    | .d (.bl b) => M.ret (.d (.bl (!b)))
    | _ => M.fail)
  | .ife t a b => (denT G t).bind fun c => if c = true then den G a else den G b
  | .tup es => (dens G es).bind fun xs => (match plains xs with
    | some ds => if ds.length ≤ sizeLine then M.ret (.d (.tup ds)) else M.fail
    | none => M.fail)
  | .lst es => (dens G es).bind fun xs => (match plains xs with
    | some ds => if ds.length ≤ sizeLine then M.ret (.d (.lst ds)) else M.fail
    | none => M.fail)
  | .ix a b => (den G a).bind fun x => (den G b).bind fun y => ixM x y
  | .sl a lo hi => (den G a).bind fun x => (denO G lo).bind fun l => (denO G hi).bind fun u => slM x l u
  | .call f es => (dens G es).bind fun xs => callM G f xs
  | .callb f e => (denF G e).bind fun x => callbM G f x
  | .callk f es ks kes => (dens G es).bind fun xs => (dens G kes).bind fun vs => callkM G f xs ks vs
  | .calln i es => (nameM i).bind fun x => (dens G es).bind fun xs => callnM G x xs
  | .bi b es => (dens G es).bind fun xs => biM b xs
  | .isi a t => (den G a).bind fun x => lift1 (isiO t) x
  | .app i e => (isOwn i).bind fun _ => (den G e).bind fun x => appM i x
  | .popAt i e => (isOwn i).bind fun _ => (den G e).bind fun x => popM i x
  | .get o k => (den G o).bind fun x => (den G k).bind fun y => get2M x y (.d .non)
  | .get2 o k d => (den G o).bind fun x => (den G k).bind fun y => (den G d).bind fun z => get2M x y z
  | .lc elt tg it ifs vs => (denI G it).bind fun xs => lcM vs (asg G tg) (denTs G ifs) (den G elt) xs
  | .dc k e tg it ifs vs tk => (denI G it).bind fun xs => dcM vs (asg G tg) (denTs G ifs) (den G k) (den G e) xs
  | .dnew tk => M.ret (.d (if tk = true then .dit [] [] else .dic [] []))
  | .bi2 b e => (den G e).bind fun x => lift1 (bi2D b) x
  | .rev o => (den G o).bind fun x => lift1 revD x
  | .dzip a b => (den G a).bind fun x => (den G b).bind fun y => lift2 dzipD x y
  | .o1 o a => (den G a).bind fun x => lift1 (o1D o) x
  | .o2 o a b => (den G a).bind fun x => (preM o x).bind fun _ => (den G b).bind fun y => lift2 (o2D o) x y
  | .ext i e => (isOwn i).bind fun _ => (den G e).bind fun x => extM i x
/-- what is made anew -/
def denF (G : Gv) : Ex → M Val
  | .call f es => (dens G es).bind fun xs => callO G f xs
  | .lst es => (dens G es).bind fun xs => lstM xs
  | .dnew tk => M.ret (.d (if tk = true then .dit [] [] else .dic [] []))
  | .lc elt tg it ifs vs => (denI G it).bind fun xs => lcM vs (asg G tg) (denTs G ifs) (den G elt) xs
  | .dc k e tg it ifs vs tk => (denI G it).bind fun xs => dcM vs (asg G tg) (denTs G ifs) (den G k) (den G e) xs
  | .bi b es => (dens G es).bind fun xs => (match b with
    | .list => biM .list xs
    | _ => M.fail)
  | .bi2 b e => (den G e).bind fun x => (match b with
    | .repr => M.fail
    | b => lift1 (bi2D b) x)
  | .dzip a b => (den G a).bind fun x => (den G b).bind fun y => lift2 dzipD x y
  | .bin op a b => (denF G a).bind fun x => (den G b).bind fun y => (match op with
    | .Mult => repM x y
    | _ => M.fail)
  | _ => M.fail
/-- several, from the left -/
def dens (G : Gv) : List Ex → M (List Val)
  | [] => M.ret []
  | e :: es => (den G e).bind fun x => (dens G es).bind fun xs => M.ret (x :: xs)
def denO (G : Gv) : Option Ex → M (Option Int)
  | none => M.ret none
  | some e => (den G e).bind fun x => (match partI x with
    | some i => M.ret (some i)
    | none => M.fail)
/-- and, or as values: all but the last are boolsD -/
def denB (G : Gv) (isAnd : Bool) : List Ex → M Val
  | [] => M.fail
  | e :: es => (den G e).bind fun x => denBr G isAnd x es
def denBr (G : Gv) (isAnd : Bool) (x : Val) : List Ex → M Val
  | [] => M.ret x
  | e :: es => (match x with
    | .d (.bl b) => if b = isAnd then (den G e).bind fun y => denBr G isAnd y es else M.ret (.d (.bl b))
    | _ => M.fail)
/-- a test -/
def denT (G : Gv) : Ex → M Bool
  | .bop isAnd es => denTB G isAnd es
  | .not a => (denT G a).bind fun b => M.ret (!b)
  | .cmp op a b => (den G a).bind fun x => (den G b).bind fun y => (cmpM op x y).bind fun k => truM k
  | .ife t a b => M.fail
  | .ch op op2 a b c => (den G a).bind fun x => (den G b).bind fun y => (cmpM op x y).bind fun k => (match k with
    | .d (.bl true) => (den G c).bind fun z => (cmpM op2 y z).bind fun r => truM r
    | .d (.bl false) => M.ret false
    | _ => M.fail)
  | .v i => (nameM i).bind truM
  | .bl b => M.ret b
  | .call f es => ((dens G es).bind fun xs => callM G f xs).bind truM
  | .calln i es => ((nameM i).bind fun x => (dens G es).bind fun xs => callnM G x xs).bind truM
  | .callk f es ks kes => ((dens G es).bind fun xs => (dens G kes).bind fun vs => callkM G f xs ks vs).bind truM
  | .bi b es => ((dens G es).bind fun xs => biM b xs).bind truM
  | .isi a t => ((den G a).bind fun x => lift1 (isiO t) x).bind truM
  | .ix a b => ((den G a).bind fun x => (den G b).bind fun y => ixM x y).bind truM
  | .bin op a b => ((den G a).bind fun x => (den G b).bind fun y => binM op x y).bind truM
  | _ => M.fail
def denTB (G : Gv) (isAnd : Bool) : List Ex → M Bool
  | [] => M.ret isAnd
  | e :: es => (denT G e).bind fun b => if b = isAnd then denTB G isAnd es else M.ret b
/-- a clause's tests -/
def denTs (G : Gv) : List Ex → M Bool
  | [] => M.ret true
  | [e] => denT G e
  | _ :: _ :: _ => M.fail
def denI (G : Gv) : It2 → M (List D)
  | .seq e => (den G e).bind fun x => itemsM x
  | .vals e => (den G e).bind fun x => dicM valsD x
  | .items e => (den G e).bind fun x => dicM itemsPD x
  | .range1 a => (den G a).bind fun x => rangeM (.d (.int 0)) x
  | .range2 a b => (den G a).bind fun x => (den G b).bind fun y => rangeM x y
  | .enum e => (den G e).bind fun x => (seqM x).bind fun xs => M.ret (number 0 xs)
  | .zip a b => (den G a).bind fun x => (den G b).bind fun y => zipM x y
/-- a target's store -/
def asg (G : Gv) : Tg → Val → M Unit
  | .nm i, x => setM i x
  | .tp ts, x => (match x with
    | .d (.tup xs) => asgs G ts xs
    | _ => M.fail)
  | .sub o k, x => (den G o).bind fun y => (den G k).bind fun z => putM y z x
def asgs (G : Gv) : List Tg → List D → M Unit
  | [], [] => M.ret ()
  | t :: ts, x :: xs => (asg G t (.d x)).bind fun _ => asgs G ts xs
  | _, _ => M.fail
end

/-! ### statements -/
inductive SO where
  | nx (ρ : Ev) (h : Hh) | rt (w : Val) (own : Bool) (h : Hh) | bk (ρ : Ev) (h : Hh) | ct (ρ : Ev) (h : Hh) | bad
abbrev MS := Ev → Hh → SO
inductive St where
  | ex (e : Ex) | set (tg : Tg) (e : Ex) | setOwn (i : Nat) (e : Ex) | par (is : List (Nat × Bool)) (es : List Ex)
  | ret (e : Ex) | retOwn (e : Ex) | retNm (i : Nat) | retN
  | ite (t : Ex) (a b : List St) | whil (t : Ex) (b : List St) | forr (tg : Tg) (it : It2) (b : List St)
  | freeze (i : Nat) | ndef (i c : Nat) | brk | cnt | pass | nev
  | aug (i : Nat) (op : Operator) (e : Ex) | augS (o k : Ex) (op : Operator) (e : Ex)
def thenS {α : Type} (m : M α) (f : α → MS) : MS := fun ρ h => match m ρ h with
  | .ok a ρ' h' => f a ρ' h'
  | .bad => .bad
def seqS (m n : MS) : MS := fun ρ h => match m ρ h with
  | .nx ρ' h' => n ρ' h'
  | o => o
/-- what is made for this name alone -/
def ownM (i : Nat) (x : Val) : MS := fun ρ h => match x with
  | .d b => if i < ρ.length then .nx (ρ.set i (.own b)) h else .bad
  | _ => .bad
def retM (x : Val) : MS := fun _ h => match x with
  | .kon _ => .bad
  | .own _ => .bad
  | .mk _ => .bad
  | .clo _ _ => .bad
  | w => .rt w false h
def retOwnM (x : Val) : MS := fun ρ h => match x with
  | .d b => .rt (.d b) true h
  | .own i => (match ρ[i]? with
    | some (.own b) => .rt (.d b) true h
    | _ => .bad)
  | _ => .bad
def retNmM (i : Nat) : MS := fun ρ h => match ρ[i]? with
  | some (.own b) => .rt (.d b) true h
  | _ => .bad
def freezeM (i : Nat) : MS := fun ρ h => match ρ[i]? with
  | some (.own b) => .nx (ρ.set i (.val (.d b))) h
  | _ => .bad
/-- from the right -/
def parM : List (Nat × Bool) → List Val → MS
  | [], [] => fun ρ h => .nx ρ h
  | (i, o) :: is, x :: xs => fun ρ h => (match parM is xs ρ h with
    | .nx ρ' h' => (match x with
      | .d b => if i < ρ'.length then .nx (ρ'.set i (if o = true then .own b else .val (.d b))) h' else .bad
      | .own _ => .bad
      | w => if i < ρ'.length ∧ o = false then .nx (ρ'.set i (.val w)) h' else .bad)
    | _ => .bad)
  | _, _ => fun _ _ => .bad
/-- o op= x, numbers alone -/
def augM (op : Operator) (x y : Val) : M Val := match op, x, y with
  | .Add, .d (.int i), .d (.int j) => M.ret (.d (.int (i + j)))
  | .Sub, .d (.int i), .d (.int j) => M.ret (.d (.int (i - j)))
  | _, _, _ => M.fail
def forLoop (tg : Val → M Unit) (body : MS) : List D → MS
  | [] => fun ρ h => .nx ρ h
  | x :: xs => thenS (tg (.d x)) fun _ ρ h => (match body ρ h with
    | .nx ρ' h' => forLoop tg body xs ρ' h'
    | .ct ρ' h' => forLoop tg body xs ρ' h'
    | .bk ρ' h' => .nx ρ' h'
    | o => o)
def whileLoop (t : M Bool) (body : MS) : Nat → MS
  | 0 => fun _ _ => .bad
  | n + 1 => thenS t fun b ρ h => if b = true then (match body ρ h with
    | .nx ρ' h' => whileLoop t body n ρ' h'
    | .ct ρ' h' => whileLoop t body n ρ' h'
    | .bk ρ' h' => .nx ρ' h'
    | o => o) else .nx ρ h
def whileFuel : Nat := 100000
def denFs (G : Gv) : List (Nat × Bool) → List Ex → M (List Val)
  | [], [] => M.ret []
  | p :: ps, e :: es => (if p.2 = true then denF G e else den G e).bind fun x => (denFs G ps es).bind fun xs => M.ret (x :: xs)
  | _, _ => M.fail
mutual
def denS (G : Gv) : St → MS
  | .ex e => thenS (den G e) fun _ ρ h => .nx ρ h
  | .set tg e => thenS (den G e) fun x => thenS (asg G tg x) fun _ ρ h => .nx ρ h
  | .setOwn i e => thenS (denF G e) fun x => ownM i x
  | .par is es => thenS (denFs G is es) fun xs => parM is xs
  | .ret e => thenS (den G e) fun x => retM x
  | .retOwn e => thenS (denF G e) fun x => retOwnM x
  | .retNm i => retNmM i
  | .retN => fun _ h => .rt (.d .non) false h
  | .ite t a b => thenS (denT G t) fun c => if c = true then denSs G a else denSs G b
  | .whil t b => whileLoop (denT G t) (denSs G b) whileFuel
  | .forr tg it b => thenS (denI G it) fun xs => forLoop (asg G tg) (denSs G b) xs
  | .freeze i => freezeM i
  | .ndef i c => fun ρ h => if i < ρ.length then .nx (ρ.set i (.val (.mk c))) h else .bad
  | .brk => fun ρ h => .bk ρ h
  | .cnt => fun ρ h => .ct ρ h
  | .pass => fun ρ h => .nx ρ h
  | .nev => fun _ _ => .bad
  | .aug i op e => thenS (nameM i) fun x => thenS (den G e) fun y => thenS (augM op x y) fun z => thenS (setM i z) fun _ ρ h => .nx ρ h
  | .augS o k op e => thenS (den G o) fun x => thenS (den G k) fun y => thenS (ixM x y) fun v => thenS (den G e) fun z => thenS (augM op v z) fun u => thenS (putM x y u) fun _ ρ h => .nx ρ h
def denSs (G : Gv) : List St → MS
  | [] => fun ρ h => .nx ρ h
  | s :: ss => seqS (denS G s) (denSs G ss)
end

/-! ### functions -/
structure Fn where
  n : Nat          -- parameters
  m : Nat          -- names in all
  body : List St
def runFn (G : Gv) (f : Fn) (ws : List Val) (h : Hh) : FO :=
  if ws.length = f.n then (match denSs G f.body (ws.map .val ++ List.replicate (f.m - f.n) .no) h with
    | .rt w o h' => .ok w o h'
    | .nx _ h' => .ok (.d .non) false h'
    | _ => .bad)
  else .bad
def capSl : Option D → Sl
  | some d => .val (.d d)
  | none => .no
def runNf (G : Gv) (f : Fn) (caps : List (Option D)) (ws : List Val) (h : Hh) : FO :=
  if ws.length = f.n then (match denSs G f.body (ws.map .val ++ (caps.map capSl ++ List.replicate (f.m - f.n - caps.length) .no)) h with
    | .rt w o h' => .ok w o h'
    | .nx _ h' => .ok (.d .non) false h'
    | _ => .bad)
  else .bad
/-- the text: its constants, its functions (names of the parameters), the functions within functions, where their captured names stand in the maker's frame -/
structure Prg where
  con : Str → Option D
  fns : List (List Str × Fn)
  nfs : List (Fn × List Nat)
def level (p : Prg) : Nat → Gv
  | 0 => ⟨p.con, fun _ _ _ => .bad, fun _ _ _ _ => .bad, fun c => (p.nfs[c]?.map (·.2)).getD [], fun f => (p.fns[f]?.map (·.1)).getD []⟩
  | n + 1 => ⟨p.con, fun f ws h => (match p.fns[f]? with
      | some q => runFn (level p n) q.2 ws h
      | none => .bad), fun c caps ws h => (match p.nfs[c]? with
      | some q => runNf (level p n) q.1 caps ws h
      | none => .bad), fun c => (p.nfs[c]?.map (·.2)).getD [], fun f => (p.fns[f]?.map (·.1)).getD []⟩
end EV

set_option maxRecDepth 100000
set_option maxHeartbeats 1000000
/-! EvD: the steps over values are what the hand layer's operators ask. -/
namespace EV
open PySem PySem.Spec PyProof.Rows L2

section
variable {C : Ct} {σ : L2.St} {H : Hp} {ρ : Ev} {h : Hh}
/-- what is read through a handle -/
def RdD (K : PySem.W.Frag) (H : Hp) (A : Addr → Prop) : D → V → Prop
  | .tup xs, v => ∃ a vs, v = .ref a ∧ SqT K H a vs ∧ RepDs K H A xs vs
  | .lst xs, v => ∃ a vs, v = .ref a ∧ H a = some (.lst vs) ∧ RepDs K H A xs vs
  | .dic ks ds, v => ∃ a kvs, v = .ref a ∧ Rd H a (.dK kvs) ∧ kvs.map (·.1) = ks ∧ RepDs K H A ds (kvs.map (·.2))
  | .dit ks ds, v => ∃ a kvs, v = .ref a ∧ Rd H a (.dT kvs) ∧ kvs.map (·.1) = ks ∧ RepDs K H A ds (kvs.map (·.2))
  | d, v => RepD K H A d v
theorem RepD.read {K : PySem.W.Frag} {A : Addr → Prop} {d : D} {v : V} (r : RepD K H A d v) : RdD K H A d v := by
  cases d <;> first | exact r | skip
  · obtain ⟨a, vs, e, h1, q⟩ := r; exact ⟨a, vs, e, .inl (.inl h1), q⟩
  · obtain ⟨a, vs, e, h1, _, q⟩ := r; exact ⟨a, vs, e, h1, q⟩
  · obtain ⟨a, vs, e, h1, _, k, q⟩ := r; exact ⟨a, vs, e, h1, k, q⟩
  · obtain ⟨a, vs, e, h1, _, k, q⟩ := r; exact ⟨a, vs, e, h1, k, q⟩
theorem BoxAt.read {K : PySem.W.Frag} {A : Addr → Prop} {b : D} {a : Addr} (x : BoxAt K H A b a) : RdD K H A b (.ref a) := by
  cases b <;> first | exact x.elim | skip
  · obtain ⟨vs, h1, q⟩ := x; exact ⟨a, vs, rfl, h1, q⟩
  · obtain ⟨vs, h1, k, q⟩ := x; exact ⟨a, vs, rfl, .inl h1, k, q⟩
  · obtain ⟨vs, h1, k, q⟩ := x; exact ⟨a, vs, rfl, .inl h1, k, q⟩
theorem rd_ok (R : Rel C σ H ρ h) {x : Val} {v : V} {d : D} (r : RepV C σ ρ H x v) (e : rd ρ h x = some d) : RdD C.K H (Av C σ ρ) d v := by
  cases x with
  | d y => cases (Option.some.inj e); exact RepD.read r
  | ref j =>
    obtain ⟨a, h1, h2⟩ := r
    obtain ⟨a', h3, h4⟩ := R.box j d e
    rw [h1] at h3; cases h3
    rw [h2]; exact h4.read
  | own i =>
    obtain ⟨a, b, h1, h2, h3⟩ := r
    have e : (match ρ[i]? with
      | some (.own b) => some b
      | _ => none) = some d := e
    rw [h1] at e
    cases (Option.some.inj e)
    obtain ⟨a', h4, _, h5⟩ := R.own i _ h1
    rw [h2] at h4; cases h4
    rw [h3]; exact h5.read
  | clo c caps => cases e
  | mk c => cases e
  | scr ns => cases e
  | kon xs =>
    cases (Option.some.inj e)
    obtain ⟨a, vs, h1, h2, h3⟩ := r
    exact ⟨a, vs, h1, .inr h2, h3⟩
/-- a tuple that is no constant of the text -/
theorem rd_tup (R : Rel C σ H ρ h) {x : Val} {v : V} {xs : List D} (r : RepV C σ ρ H x v) (e : rd ρ h x = some (.tup xs)) (n : ∀ ys, x ≠ .kon ys) : RepD C.K H (Av C σ ρ) (.tup xs) v := by
  cases x with
  | d y => cases (Option.some.inj e); exact r
  | ref j =>
    obtain ⟨a', h3, h4⟩ := R.box j _ e
    exact h4.elim
  | own i =>
    obtain ⟨a, b, h1, h2, h3⟩ := r
    have e : (match ρ[i]? with
      | some (.own b) => some b
      | _ => none) = some (.tup xs) := e
    rw [h1] at e
    cases (Option.some.inj e)
    obtain ⟨a', h4, _, h5⟩ := R.own i _ h1
    exact h5.elim
  | clo c caps => cases e
  | mk c => cases e
  | scr ns => cases e
  | kon xs => exact absurd rfl (n xs)
theorem Rel.fresh (R : Rel C σ H ρ h) {p : Addr} (n : H p = none) : ¬ Av C σ ρ p := by
  rintro (z | ⟨i, b, e1, e2⟩)
  · obtain ⟨o, e⟩ := R.trk p z
    rw [n] at e; cases e
  · obtain ⟨a, e3, _, e4⟩ := R.own i b e1
    rw [e2] at e3; cases e3
    obtain ⟨o, e, _⟩ := e4.here
    rw [n] at e; cases e
theorem RdD.tup {K : PySem.W.Frag} {A : Addr → Prop} {xs : List D} {v : V} (r : RdD K H A (.tup xs) v) : ∃ a vs, v = .ref a ∧ SqT K H a vs ∧ RepDs K H A xs vs := by
  exact r
theorem RdD.lst {K : PySem.W.Frag} {A : Addr → Prop} {xs : List D} {v : V} (r : RdD K H A (.lst xs) v) : ∃ a vs, v = .ref a ∧ H a = some (.lst vs) ∧ SqL K H a vs ∧ RepDs K H A xs vs := by
  obtain ⟨a, vs, e, k, q⟩ := r
  exact ⟨a, vs, e, k, .inl (.inl k), q⟩
/-- the end of a step that leaves everything as it is -/
theorem tV.same {m : M Val} {w : Val} {Q : VK} (R : Rel C σ H ρ h) (q : tV C m ρ h σ H Q) (e : m ρ h = .ok w ρ h) {v : V} (r : RepV C σ ρ H w v) : Q v H := q.pure R e r
/-- .. that lays a new tuple -/
theorem tV.newT {m : M Val} {ds : List D} {vs : List V} {Q : VK} {p : Addr} (R : Rel C σ H ρ h) (q : tV C m ρ h σ H Q) (e : m ρ h = .ok (.d (.tup ds)) ρ h) (r : RepDs C.K H (Av C σ ρ) ds vs) (n : H p = none) : Q (.ref p) (upd H p (.tup vs)) := by
  obtain ⟨w', ρ', h', e', k⟩ := q
  rw [e] at e'
  injection e' with e1 e2 e3
  subst e1; subst e2; subst e3
  obtain ⟨R1, S⟩ := R.laid (o := .tup vs) n (fun _ z => by cases z)
  exact k _ _ R1 ⟨p, vs, rfl, upd_same, r.kp (S.kp R.mu)⟩ S (.refl _)
theorem tV.newL {m : M Val} {ds : List D} {vs : List V} {Q : VK} {p : Addr} (R : Rel C σ H ρ h) (q : tV C m ρ h σ H Q) (e : m ρ h = .ok (.d (.lst ds)) ρ h) (r : RepDs C.K H (Av C σ ρ) ds vs) (n : H p = none) : Q (.ref p) (upd H p (.lst vs)) := by
  obtain ⟨w', ρ', h', e', k⟩ := q
  rw [e] at e'
  injection e' with e1 e2 e3
  subst e1; subst e2; subst e3
  obtain ⟨R1, S⟩ := R.laid (o := .lst vs) n (fun _ z => by cases z)
  exact k _ _ R1 ⟨p, vs, rfl, upd_same, R.fresh n, r.kp (S.kp R.mu)⟩ S (.refl _)
theorem lift2_ok {f : D → D → Option D} {x y w : Val} {ρ' : Ev} {h' : Hh} (e : lift2 f x y ρ h = .ok w ρ' h') : ∃ a b c, rd ρ h x = some a ∧ rd ρ h y = some b ∧ f a b = some c ∧ w = .d c ∧ ρ' = ρ ∧ h' = h := by
  unfold lift2 at e
  split at e
  · rename_i a b ha hb
    split at e
    · rename_i c hc
      injection e with e1 e2 e3
      exact ⟨a, b, c, ha, hb, hc, e1.symm, e2.symm, e3.symm⟩
    · cases e
  · cases e
theorem lift1_ok {f : D → Option D} {x w : Val} {ρ' : Ev} {h' : Hh} (e : lift1 f x ρ h = .ok w ρ' h') : ∃ a c, rd ρ h x = some a ∧ f a = some c ∧ w = .d c ∧ ρ' = ρ ∧ h' = h := by
  unfold lift1 at e
  split at e
  · rename_i a ha
    split at e
    · rename_i c hc
      injection e with e1 e2 e3
      exact ⟨a, c, ha, hc, e1.symm, e2.symm, e3.symm⟩
    · cases e
  · cases e
/-- both operands read, the answer told -/
theorem lift2_cases {f : D → D → Option D} {x y : Val} {v u : V} {Q : VK} (R : Rel C σ H ρ h) (rx : RepV C σ ρ H x v) (ry : RepV C σ ρ H y u) (q : tV C (lift2 f x y) ρ h σ H Q) :
    ∃ a b c, RdD C.K H (Av C σ ρ) a v ∧ RdD C.K H (Av C σ ρ) b u ∧ f a b = some c ∧ lift2 f x y ρ h = .ok (.d c) ρ h := by
  obtain ⟨w, ρ', h', e⟩ := q.get
  obtain ⟨a, b, c, e1, e2, e3, e4, e5, e6⟩ := lift2_ok e
  subst e4; subst e5; subst e6
  exact ⟨a, b, c, rd_ok R rx e1, rd_ok R ry e2, e3, e⟩

/-! ### binary operators -/
theorem strOk_app {a b : Str} (h1 : PyData.strOk a = true) (h2 : PyData.strOk b = true) : PyData.strOk (a ++ b) = true := by
  unfold PyData.strOk at *
  rw [show (a ++ b).cps = a.cps ++ b.cps from rfl, Array.all_append, h1, h2]
  rfl
theorem len_app {a b : Str} : (a ++ b).length = a.length + b.length := by
  unfold Str.length
  rw [show (a ++ b).cps = a.cps ++ b.cps from rfl, Array.size_append]
def rAddE (K : PySem.W.Frag) : R2 := fun x y H Q => rI0 (fun i j => .int (i + j)) x y H Q ∨ (∃ i j, x = .str i ∧ y = .str j ∧ i.length + j.length ≤ sizeLine ∧ Q (.str (i ++ j)) H) ∨ rCatA K x y H Q ∨ rCat x y H Q
theorem op_addE {X : Cx} : OpR X (binaryOp .Add) (rAddE X.K) := op_add.or (op_add_str.or (op_catA.or op_cat))
theorem bin_lift {op : Operator} {x y : Val} {Q : VK} (q : tV C (binM op x y) ρ h σ H Q) : tV C (lift2 (opD op) x y) ρ h σ H Q ∧ (∀ ys, x ≠ .kon ys) ∧ ∀ ys, y ≠ .kon ys := by
  have n1 : ∀ ys, x ≠ .kon ys := fun ys z => by
    subst z
    obtain ⟨_, _, _, e⟩ := q.get
    cases y <;> cases e
  have n2 : ∀ ys, y ≠ .kon ys := fun ys z => by
    subst z
    obtain ⟨_, _, _, e⟩ := q.get
    cases x <;> cases e
  refine ⟨?_, n1, n2⟩
  cases x <;> cases y <;> first | exact q | exact absurd rfl (n1 _) | exact absurd rfl (n2 _)
theorem s_add {x y : Val} {v u : V} {Q : VK} (R : Rel C σ H ρ h) (rx : RepV C σ ρ H x v) (ry : RepV C σ ρ H y u) (q : tV C (binM .Add x y) ρ h σ H Q) : rAddE C.K v u H Q := by
  obtain ⟨q, n1, n2⟩ := bin_lift q
  obtain ⟨w0, ρ0, h0, e0⟩ := q.get
  obtain ⟨a, b, c, i1, i2, e, e4, e5, e6⟩ := lift2_ok e0
  subst e4; subst e5; subst e6
  have ra := rd_ok R rx i1
  have rb := rd_ok R ry i2
  have em := e0
  have e : addD a b = some c := e
  unfold addD at e
  split at e
  · cases e
    have ea : v = _ := ra
    have eb : u = _ := rb
    exact .inl ⟨_, _, ea, eb, q.same R em rfl⟩
  · split at e
    · cases e
      obtain ⟨ea, sa, la⟩ := ra
      obtain ⟨eb, sb, lb⟩ := rb
      rename_i hl
      exact .inr (.inl ⟨_, _, ea, eb, hl, q.same R em ⟨rfl, strOk_app sa sb, by rw [len_app]; exact hl⟩⟩)
    · cases e
  · split at e
    · cases e
      rename_i hl
      obtain ⟨p, vs, ea, sa, qa⟩ := ra.tup
      obtain ⟨p2, us, eb, sb, qb⟩ := rb.tup
      have l1 := qa.length
      have l2 := qb.length
      refine .inr (.inr (.inl ⟨p, p2, vs, us, ea, eb, sa, sb, by rw [← l1, ← l2]; exact hl, fun z => ?_, fun z z2 => ?_, fun _ _ t n => q.newT R em (qa.app qb) n⟩))
      · subst z
        have : _ = [] := List.eq_nil_of_length_eq_zero (by rw [l1]; rfl)
        subst this
        rw [List.nil_append] at em
        refine q.same R em ?_
        rw [← eb]
        exact rd_tup R ry i2 n2
      · subst z2
        have : _ = [] := List.eq_nil_of_length_eq_zero (by rw [l2]; rfl)
        subst this
        rw [List.append_nil] at em
        refine q.same R em ?_
        rw [← ea]
        exact rd_tup R rx i1 n1
    · cases e
  · split at e
    · cases e
      rename_i hl
      obtain ⟨p, vs, ea, ha, _, qa⟩ := ra.lst
      obtain ⟨p2, us, eb, hb, _, qb⟩ := rb.lst
      have l1 := qa.length
      have l2 := qb.length
      exact .inr (.inr (.inr ⟨p, p2, vs, us, ea, eb, ha, hb, by rw [← l1, ← l2]; exact hl, fun t n => q.newL R em (qa.app qb) n⟩))
    · cases e
  · cases e

/-- two ints, one answer -/
theorem s_int2 {f : D → D → Option D} {P : Int → Int → Prop} {g : Int → Int → D} {x y : Val} {v u : V} {Q : VK} (R : Rel C σ H ρ h) (rx : RepV C σ ρ H x v) (ry : RepV C σ ρ H y u) (q : tV C (lift2 f x y) ρ h σ H Q)
    (hf : ∀ a b c, f a b = some c → ∃ i j, a = .int i ∧ b = .int j ∧ P i j ∧ c = g i j) : ∃ i j, v = .int i ∧ u = .int j ∧ P i j ∧ lift2 f x y ρ h = .ok (.d (g i j)) ρ h := by
  obtain ⟨a, b, c, ra, rb, e, em⟩ := lift2_cases R rx ry q
  obtain ⟨i, j, ea, eb, p, ec⟩ := hf a b c e
  subst ea; subst eb; subst ec
  exact ⟨i, j, ra, rb, p, em⟩
theorem s_sub {x y : Val} {v u : V} {Q : VK} (R : Rel C σ H ρ h) (rx : RepV C σ ρ H x v) (ry : RepV C σ ρ H y u) (q : tV C (binM .Sub x y) ρ h σ H Q) : rI0 (fun i j => .int (i - j)) v u H Q := by
  obtain ⟨i, j, e1, e2, _, em⟩ := s_int2 (P := fun _ _ => True) (g := fun i j => .int (i - j)) R rx ry (bin_lift q).1 fun a b c e => by
    have e : subD a b = some c := e
    unfold subD at e
    split at e
    · cases e; exact ⟨_, _, rfl, rfl, trivial, rfl⟩
    · cases e
  exact ⟨i, j, e1, e2, (bin_lift q).1.same R em rfl⟩
theorem s_fdiv {x y : Val} {v u : V} {Q : VK} (R : Rel C σ H ρ h) (rx : RepV C σ ρ H x v) (ry : RepV C σ ρ H y u) (q : tV C (binM .FloorDiv x y) ρ h σ H Q) : rI CDiv (fun i j => .int (i / j)) v u H Q := by
  obtain ⟨i, j, e1, e2, p, em⟩ := s_int2 (P := CDiv) (g := fun i j => .int (i / j)) R rx ry (bin_lift q).1 fun a b c e => by
    have e : fdivD a b = some c := e
    unfold fdivD at e
    split at e
    · split at e
      · cases e; exact ⟨_, _, rfl, rfl, by assumption, rfl⟩
      · cases e
    · cases e
  exact ⟨i, j, e1, e2, p, (bin_lift q).1.same R em rfl⟩
theorem s_mod {x y : Val} {v u : V} {Q : VK} (R : Rel C σ H ρ h) (rx : RepV C σ ρ H x v) (ry : RepV C σ ρ H y u) (q : tV C (binM .Mod x y) ρ h σ H Q) : rI (fun _ j => 0 < j) (fun i j => .int (i % j)) v u H Q := by
  obtain ⟨i, j, e1, e2, p, em⟩ := s_int2 (P := fun _ j => 0 < j) (g := fun i j => .int (i % j)) R rx ry (bin_lift q).1 fun a b c e => by
    have e : modD a b = some c := e
    unfold modD at e
    split at e
    · split at e
      · cases e; exact ⟨_, _, rfl, rfl, by assumption, rfl⟩
      · cases e
    · cases e
  exact ⟨i, j, e1, e2, p, (bin_lift q).1.same R em rfl⟩
theorem s_pow {x y : Val} {v u : V} {Q : VK} (R : Rel C σ H ρ h) (rx : RepV C σ ρ H x v) (ry : RepV C σ ρ H y u) (q : tV C (binM .Pow x y) ρ h σ H Q) : rI CPow (fun i j => .int (i ^ j.toNat)) v u H Q := by
  obtain ⟨i, j, e1, e2, p, em⟩ := s_int2 (P := CPow) (g := fun i j => .int (i ^ j.toNat)) R rx ry (bin_lift q).1 fun a b c e => by
    have e : powD a b = some c := e
    unfold powD at e
    split at e
    · split at e
      · cases e; exact ⟨_, _, rfl, rfl, by assumption, rfl⟩
      · cases e
    · cases e
  exact ⟨i, j, e1, e2, p, (bin_lift q).1.same R em rfl⟩
def rRepS : R2 := fun x y H Q => ∃ z k, x = .str z ∧ y = .int k ∧ (2 ≤ k ∧ k < 2147483648 ∧ 0 < z.length ∧ z.length * k.toNat ≤ sizeLine) ∧ Q (.str (repS z k.toNat)) H
theorem repS_len (x : Str) (n : Nat) : (repS x n).length = x.length * n := by
  show ((List.replicate n x.cps.toList).flatten.toArray).size = x.cps.size * n
  rw [List.size_toArray, List.length_flatten, List.map_replicate, List.sum_replicate_nat, Array.length_toList, Nat.mul_comm]
theorem repS_ok {x : Str} (n : Nat) (h : PyData.strOk x = true) : PyData.strOk (repS x n) = true := by
  unfold PyData.strOk at h ⊢
  rw [Array.all_eq_true_iff_forall_mem] at h ⊢
  intro c hc
  have hc : c ∈ (List.replicate n x.cps.toList).flatten := by simpa [repS] using hc
  obtain ⟨l, hl, hc⟩ := List.mem_flatten.mp hc
  rw [List.eq_of_mem_replicate hl] at hc
  exact h c (Array.mem_def.mpr hc)
theorem repS_eq (x : Str) (n : Nat) : (⟨(List.replicate n x.cps).foldl (· ++ ·) #[]⟩ : Str) = repS x n := by
  have f0 : ∀ (m : Nat) (acc : Array Nat), ((List.replicate m x.cps).foldl (· ++ ·) acc).toList = acc.toList ++ (List.replicate m x.cps.toList).flatten := fun m => by
    induction m with
    | zero => intro acc; simp
    | succ m ih =>
      intro acc
      rw [List.replicate_succ, List.foldl_cons, ih, List.replicate_succ, List.flatten_cons, Array.toList_append, List.append_assoc]
  unfold repS
  congr 1
  apply Array.toList_inj.mp
  rw [f0 n #[]]
  simp
theorem op_repS {X : Cx} : OpR X (binaryOp .Mult) rRepS := by
  intro pins s σ H x y v u Q I rx ry h
  obtain ⟨z, k, ex, ey, ⟨h1, h2, h3, h4⟩, q⟩ := h
  subst ex; subst ey
  obtain ⟨t, et⟩ := rx
  obtain ⟨t2, et2⟩ := ry
  subst et; subst et2
  have n1 : ¬ k < 1 := by omega
  have ne : (k == 1 || z.length == 0) = false := by
    have a : ¬ k = 1 := by omega
    have b : ¬ z.length = 0 := by omega
    simp [a, b]
  refine P.mul_str (by have a : ¬ k < -(2 ^ 63 : Int) := by omega
                       have b : ¬ k ≥ 2 ^ 63 := by omega
                       simp only [decide_eq_false a, decide_eq_false b, Bool.or_self]) (fun _ _ => ?_) (fun _ _ => ?_) ?_
  · have l1 : (z.length : Int) * k ≤ 2 ^ 63 - 1 := by
      have e : ((k.toNat : Nat) : Int) = k := Int.toNat_of_nonneg (by omega)
      have l2 : ((z.length * k.toNat : Nat) : Int) ≤ (sizeLine : Int) := Int.ofNat_le.mpr h4
      rw [Int.natCast_mul, e] at l2
      have l3 : (sizeLine : Int) ≤ 2 ^ 63 - 1 := by decide
      exact Int.le_trans l2 l3
    have l4 : (z.length : Int) ≤ (2 ^ 63 - 1) / k := Int.le_ediv_of_mul_le (by omega) l1
    omega
  · unfold Builtin.Str.tooLong
    exact decide_eq_false (by omega)
  · rw [if_neg n1, if_neg (by rw [ne]; exact Bool.false_ne_true), repS_eq]
    exact ⟨by rw [repS_len]; exact h4, ⟨.str (repS z k.toNat), H, I.tok _, ⟨_, rfl⟩, q⟩⟩
def rMulE (K : PySem.W.Frag) : R2 := fun x y H Q => rI CMul (fun i j => .int (i * j)) x y H Q ∨ rRep x y H Q ∨ rRepS x y H Q ∨ rRepT K x y H Q
theorem op_mulE {X : Cx} : OpR X (binaryOp .Mult) (rMulE X.K) := op_mul.or (op_rep.or (op_repS.or op_repT))
theorem rep_rep {K : PySem.W.Frag} {A : Addr → Prop} {xs : List D} {vs : List V} (r : RepDs K H A xs vs) : ∀ n : Nat, RepDs K H A (List.replicate n xs).flatten (List.replicate n vs).flatten
  | 0 => rfl
  | n + 1 => by
    rw [List.replicate_succ, List.replicate_succ, List.flatten_cons, List.flatten_cons]
    exact r.app (rep_rep r n)
theorem s_mul {x y : Val} {v u : V} {Q : VK} (R : Rel C σ H ρ h) (rx : RepV C σ ρ H x v) (ry : RepV C σ ρ H y u) (q : tV C (binM .Mult x y) ρ h σ H Q) : rMulE C.K v u H Q := by
  replace q := (bin_lift q).1
  obtain ⟨a, b, c, ra, rb, e, em⟩ := lift2_cases R rx ry q
  have e : mulD a b = some c := e
  unfold mulD at e
  split at e
  · split at e
    · cases e
      rename_i hc
      obtain ⟨ea, so, sl⟩ := ra
      have eb : u = _ := rb
      refine .inr (.inr (.inl ⟨_, _, ea, eb, hc, q.same R em ⟨rfl, ?_, by rw [repS_len]; exact hc.2.2.2⟩⟩))
      exact repS_ok _ so
    · cases e
  · split at e
    · cases e
      rename_i hc
      have ea : v = _ := ra
      have eb : u = _ := rb
      exact .inl ⟨_, _, ea, eb, hc, q.same R em rfl⟩
    · cases e
  · split at e
    · cases e
      rename_i hc
      obtain ⟨p, vs, ea, ha, _, qa⟩ := ra.lst
      have eb : u = _ := rb
      have l1 := qa.length
      exact .inr <| .inl ⟨p, _, vs, ea, eb, ha, by omega, hc.2.1, by rw [← l1]; exact hc.2.2, fun t n => q.newL R em (rep_rep qa _) n⟩
    · cases e
  · split at e
    · cases e
      rename_i hc
      obtain ⟨p, vs, ea, sa, qa⟩ := ra.tup
      have eb : u = _ := rb
      have l1 := qa.length
      exact .inr <| .inr <| .inr ⟨p, _, vs, ea, eb, sa, (fun z => hc.1 (List.eq_nil_of_length_eq_zero (by rw [l1, z]; rfl))), hc.2.1, hc.2.2.1, by rw [← l1]; exact hc.2.2.2, fun t n => q.newT R em (rep_rep qa _) n⟩
    · cases e
  · cases e

/-! ### comparisons -/
mutual
theorem toP_ok {K : PySem.W.Frag} {A : Addr → Prop} : ∀ (d : D) (v : V) (p : PyData), RdD K H A d v → toP d = some p → Dp K H v p ∧ p.canLay0 = true
  | .non, v, p, r, e => by cases (Option.some.inj e); cases (show v = _ from r); exact ⟨.non, rfl⟩
  | .bl b, v, p, r, e => by cases (Option.some.inj e); cases (show v = _ from r); exact ⟨.bl b, rfl⟩
  | .int i, v, p, r, e => by cases (Option.some.inj e); cases (show v = _ from r); exact ⟨.int i, rfl⟩
  | .str x, v, p, r, e => by
    cases (Option.some.inj e)
    obtain ⟨r1, r2, _⟩ := r
    cases r1
    exact ⟨.str x, r2⟩
  | .tup xs, v, p, r, e => by
    obtain ⟨a, vs, e1, s, q⟩ := r.tup
    have e : (toPs xs).map PyData.tuple = some p := e
    cases hp : toPs xs with
    | none => rw [hp] at e; cases e
    | some ps =>
      rw [hp] at e
      cases (Option.some.inj e)
      obtain ⟨h1, h2⟩ := toPs_ok xs vs ps q hp
      rw [e1]
      exact ⟨.tup s h1, h2⟩
  | .lst xs, v, p, r, e => by
    obtain ⟨a, vs, e1, _, s, q⟩ := r.lst
    have e : (toPs xs).map PyData.list = some p := e
    cases hp : toPs xs with
    | none => rw [hp] at e; cases e
    | some ps =>
      rw [hp] at e
      cases (Option.some.inj e)
      obtain ⟨h1, h2⟩ := toPs_ok xs vs ps q hp
      rw [e1]
      exact ⟨.lst s h1, h2⟩
  | .dic _ _, v, p, r, e => nomatch (show none = some p from e)
  | .dit _ _, v, p, r, e => nomatch (show none = some p from e)
theorem toPs_ok {K : PySem.W.Frag} {A : Addr → Prop} : ∀ (ds : List D) (vs : List V) (ps : List PyData), RepDs K H A ds vs → toPs ds = some ps → DpAll K H vs ps ∧ PyData.canLayAll0 ps = true
  | [], vs, ps, r, e => by cases (show vs = [] from r); cases (Option.some.inj e); exact ⟨.nil, rfl⟩
  | x :: xs, vs, ps, r, e => by
    obtain ⟨v, t, e1, r1, r2⟩ := r
    unfold toPs at e
    cases h1 : toP x with
    | none => rw [h1] at e; cases e
    | some p =>
      cases h2 : toPs xs with
      | none => rw [h1, h2] at e; cases e
      | some qs =>
        rw [h1, h2] at e
        cases (Option.some.inj e)
        obtain ⟨a1, a2⟩ := toP_ok x v p r1.read h1
        obtain ⟨b1, b2⟩ := toPs_ok xs t qs r2 h2
        subst e1
        exact ⟨.cons a1 b1, by unfold PyData.canLayAll0; rw [a2, b2]; rfl⟩
end
theorem shaped_of {p : PyData} (h1 : p.canLay0 = true) (h2 : p.depth ≤ 64) : SeqAt.shaped p = true := by
  unfold SeqAt.shaped
  rw [h1, decide_eq_true h2]
  rfl
theorem eqD_ok {K : PySem.W.Frag} {A : Addr → Prop} {a b : D} {v u : V} {k : Bool} (ra : RdD K H A a v) (rb : RdD K H A b u) (e : eqD a b = some k) :
    ∃ p q, Dp K H v p ∧ Dp K H u q ∧ SeqAt.shaped p = true ∧ SeqAt.shaped q = true ∧ k = PyData.eqv p q := by
  unfold eqD at e
  split at e
  · rename_i p q hp hq
    split at e
    · rename_i hd
      cases (Option.some.inj e)
      obtain ⟨a1, a2⟩ := toP_ok a v p ra hp
      obtain ⟨b1, b2⟩ := toP_ok b u q rb hq
      exact ⟨p, q, a1, b1, shaped_of a2 hd.1, shaped_of b2 hd.2, rfl⟩
    · cases e
  · cases e
theorem cmpM_cases {op : CmpOp} {x y : Val} {v u : V} {Q : VK} (R : Rel C σ H ρ h) (rx : RepV C σ ρ H x v) (ry : RepV C σ ρ H y u) (q : tV C (cmpM op x y) ρ h σ H Q) :
    ∃ a b k, RdD C.K H (Av C σ ρ) a v ∧ RdD C.K H (Av C σ ρ) b u ∧ cmpD op a b = some k ∧ Q (.bl k) H ∧ (∀ xs, a = .tup xs → RepD C.K H (Av C σ ρ) (.tup xs) v) := by
  have nk : ∀ ys, x ≠ .kon ys := fun ys z => by
    subst z
    obtain ⟨_, _, _, e⟩ := q.get
    cases e
  have q : tV C (lift2 (fun a b => (cmpD op a b).map .bl) x y) ρ h σ H Q := by
    cases x <;> first | exact q | exact absurd rfl (nk _)
  obtain ⟨w, ρ', h', e0⟩ := q.get
  obtain ⟨a, b, c, e1, e2, e, e4, e5, e6⟩ := lift2_ok e0
  subst e4; subst e5; subst e6
  have ra := rd_ok R rx e1
  have rb := rd_ok R ry e2
  have em := e0
  cases hc : cmpD op a b with
  | none => rw [hc] at e; cases e
  | some k =>
    rw [hc] at e
    cases (Option.some.inj e)
    exact ⟨a, b, k, ra, rb, hc, q.same R em rfl, fun xs z => by subst z; exact rd_tup R rx e1 nk⟩
theorem s_eq {x y : Val} {v u : V} {Q : VK} (R : Rel C σ H ρ h) (rx : RepV C σ ρ H x v) (ry : RepV C σ ρ H y u) (q : tV C (cmpM .Eq x y) ρ h σ H Q) : rEqD C.K v u H Q := by
  obtain ⟨a, b, k, ra, rb, e, q, _⟩ := cmpM_cases R rx ry q
  obtain ⟨p, p2, h1, h2, h3, h4, ek⟩ := eqD_ok ra rb e
  subst ek
  exact ⟨p, p2, h1, h2, h3, h4, q⟩
theorem s_ne {x y : Val} {v u : V} {Q : VK} (R : Rel C σ H ρ h) (rx : RepV C σ ρ H x v) (ry : RepV C σ ρ H y u) (q : tV C (cmpM .NotEq x y) ρ h σ H Q) : rNeD C.K v u H Q := by
  obtain ⟨a, b, k, ra, rb, e, q, _⟩ := cmpM_cases R rx ry q
  have e : (eqD a b).map (!·) = some k := e
  cases hk : eqD a b with
  | none => rw [hk] at e; cases e
  | some k' =>
    rw [hk] at e
    obtain ⟨p, p2, h1, h2, h3, h4, ek⟩ := eqD_ok ra rb hk
    subst ek
    cases (Option.some.inj e)
    exact ⟨p, p2, h1, h2, h3, h4, q⟩
def rLtE : R2 := fun x y H Q => rI0 (fun i j => .bl (decide (i < j))) x y H Q ∨ ∃ i j, x = .str i ∧ y = .str j ∧ Q (.bl (decide (i.cps.toList < j.cps.toList))) H
theorem op_ltE {X : Cx} : OpR X (compareOp .Lt) rLtE := op_lt.or op_lt_str
theorem s_lt {x y : Val} {v u : V} {Q : VK} (R : Rel C σ H ρ h) (rx : RepV C σ ρ H x v) (ry : RepV C σ ρ H y u) (q : tV C (cmpM .Lt x y) ρ h σ H Q) : rLtE v u H Q := by
  obtain ⟨a, b, k, ra, rb, e, q, _⟩ := cmpM_cases R rx ry q
  cases a <;> cases b <;> first | cases (Option.some.inj e) | (cases e; done)
  · exact .inl ⟨_, _, ra, rb, q⟩
  · exact .inr ⟨_, _, ra.1, rb.1, q⟩
theorem s_le {x y : Val} {v u : V} {Q : VK} (R : Rel C σ H ρ h) (rx : RepV C σ ρ H x v) (ry : RepV C σ ρ H y u) (q : tV C (cmpM .LtE x y) ρ h σ H Q) : rI0 (fun i j => .bl (decide (i ≤ j))) v u H Q := by
  obtain ⟨a, b, k, ra, rb, e, q, _⟩ := cmpM_cases R rx ry q
  cases a <;> cases b <;> first | cases (Option.some.inj e) | (cases e; done)
  exact ⟨_, _, ra, rb, q⟩
theorem s_gt {x y : Val} {v u : V} {Q : VK} (R : Rel C σ H ρ h) (rx : RepV C σ ρ H x v) (ry : RepV C σ ρ H y u) (q : tV C (cmpM .Gt x y) ρ h σ H Q) : rI0 (fun i j => .bl (decide (j < i))) v u H Q := by
  obtain ⟨a, b, k, ra, rb, e, q, _⟩ := cmpM_cases R rx ry q
  cases a <;> cases b <;> first | cases (Option.some.inj e) | (cases e; done)
  exact ⟨_, _, ra, rb, q⟩
theorem s_ge {x y : Val} {v u : V} {Q : VK} (R : Rel C σ H ρ h) (rx : RepV C σ ρ H x v) (ry : RepV C σ ρ H y u) (q : tV C (cmpM .GtE x y) ρ h σ H Q) : rI0 (fun i j => .bl (decide (j ≤ i))) v u H Q := by
  obtain ⟨a, b, k, ra, rb, e, q, _⟩ := cmpM_cases R rx ry q
  cases a <;> cases b <;> first | cases (Option.some.inj e) | (cases e; done)
  exact ⟨_, _, ra, rb, q⟩
theorem RdD.isNon {K : PySem.W.Frag} {A : Addr → Prop} {a : D} {v : V} (r : RdD K H A a v) : decide (v = .non) = isNonD a := by
  cases a with
  | non => have e : v = V.non := r; subst e; rfl
  | bl b => have e : v = V.bl b := r; subst e; rfl
  | int i => have e : v = V.int i := r; subst e; rfl
  | str x => have e : v = V.str x := r.1; subst e; rfl
  | tup xs => obtain ⟨_, _, e, _⟩ := r; subst e; rfl
  | lst xs => obtain ⟨_, _, e, _⟩ := r; subst e; rfl
  | dic ks ds => obtain ⟨_, _, e, _⟩ := r; subst e; rfl
  | dit ks ds => obtain ⟨_, _, e, _⟩ := r; subst e; rfl
def rIsN : R2 := fun x y H Q => y = .non ∧ Q (.bl (decide (x = .non))) H
def rNotN : R2 := fun x y H Q => y = .non ∧ Q (.bl (!decide (x = .non))) H
theorem s_is {x y : Val} {v u : V} {Q : VK} (R : Rel C σ H ρ h) (rx : RepV C σ ρ H x v) (ry : RepV C σ ρ H y u) (q : tV C (cmpM .Is x y) ρ h σ H Q) : rIsN v u H Q := by
  obtain ⟨a, b, k, ra, rb, e, q, _⟩ := cmpM_cases R rx ry q
  have e2 := ra.isNon
  cases b <;> first | (cases e; done) | skip
  refine ⟨rb, ?_⟩
  rw [e2]
  cases (Option.some.inj e)
  exact q
theorem s_isnot {x y : Val} {v u : V} {Q : VK} (R : Rel C σ H ρ h) (rx : RepV C σ ρ H x v) (ry : RepV C σ ρ H y u) (q : tV C (cmpM .IsNot x y) ρ h σ H Q) : rNotN v u H Q := by
  obtain ⟨a, b, k, ra, rb, e, q, _⟩ := cmpM_cases R rx ry q
  have e2 := ra.isNon
  cases b <;> first | (cases e; done) | skip
  refine ⟨rb, ?_⟩
  rw [e2]
  cases (Option.some.inj e)
  exact q
end
end EV

set_option maxRecDepth 100000
set_option maxHeartbeats 1000000
/-! EvE: in, subscripts, slices, built-ins. -/
namespace EV
open PySem PySem.Spec PyProof.Rows L2

section
variable {C : Ct} {σ : L2.St} {H : Hp} {ρ : Ev} {h : Hh}
/-! ### flat things, keys -/
theorem flatD_ok {K : PySem.W.Frag} {A : Addr → Prop} {d : D} {v w : V} (r : RdD K H A d v) (e : flatD d = some w) : v = w ∧ flatV w = true := by
  cases d with
  | non => cases (Option.some.inj e); exact ⟨r, rfl⟩
  | bl b => cases (Option.some.inj e); exact ⟨r, rfl⟩
  | int i => cases (Option.some.inj e); exact ⟨r, rfl⟩
  | str x => cases (Option.some.inj e); exact ⟨r.1, rfl⟩
  | _ => cases e
theorem flats_ok {K : PySem.W.Frag} {A : Addr → Prop} : ∀ {ds : List D} {vs ws : List V}, RepDs K H A ds vs → flats ds = some ws → vs = ws ∧ ws.all flatV = true
  | [], vs, ws, r, e => by cases (show vs = [] from r); cases (Option.some.inj e); exact ⟨rfl, rfl⟩
  | x :: xs, vs, ws, r, e => by
    obtain ⟨v, t, e1, r1, r2⟩ := r
    unfold flats at e
    cases h1 : flatD x with
    | none => rw [h1] at e; cases e
    | some p =>
      cases h2 : flats xs with
      | none => rw [h1, h2] at e; cases e
      | some qs =>
        rw [h1, h2] at e
        cases (Option.some.inj e)
        obtain ⟨a1, a2⟩ := flatD_ok r1.read h1
        obtain ⟨b1, b2⟩ := flats_ok r2 h2
        subst e1; subst a1; subst b1
        exact ⟨rfl, by rw [List.all_cons, a2, b2]; rfl⟩
theorem keyD_ok {K : PySem.W.Frag} {A : Addr → Prop} {d : D} {v : V} {k : Key} (r : RdD K H A d v) (e : keyD d = some k) : v = kV k := by
  cases d with
  | int i => cases (Option.some.inj e); exact r
  | str x => cases (Option.some.inj e); exact r.1
  | _ => cases e
theorem keyDs_ok {K : PySem.W.Frag} {A : Addr → Prop} : ∀ {ds : List D} {vs : List V} {ks : List Key}, RepDs K H A ds vs → keyDs ds = some ks → vs = ks.map kV
  | [], vs, ks, r, e => by cases (show vs = [] from r); cases (Option.some.inj e); rfl
  | x :: xs, vs, ks, r, e => by
    obtain ⟨v, t, e1, r1, r2⟩ := r
    unfold keyDs at e
    cases h1 : keyD x with
    | none => rw [h1] at e; cases e
    | some p =>
      cases h2 : keyDs xs with
      | none => rw [h1, h2] at e; cases e
      | some qs =>
        rw [h1, h2] at e
        cases (Option.some.inj e)
        rw [e1, keyD_ok r1.read h1, keyDs_ok r2 h2]
        rfl
theorem keyT_ok {K : PySem.W.Frag} {A : Addr → Prop} {xs : List D} {v : V} {k : List Key} (r : RepD K H A (.tup xs) v) (e : keyDs xs = some k) : ∃ b, v = .ref b ∧ H b = some (.tup (k.map kV)) := by
  obtain ⟨a, vs, e1, e2, q⟩ := r
  exact ⟨a, e1, by rw [← keyDs_ok q e]; exact e2⟩
theorem look_ok {κ : Type} [DecidableEq κ] {K : PySem.W.Frag} {A : Addr → Prop} : ∀ {ks : List κ} {ds : List D} {kvs : List (κ × V)} {k : κ}, kvs.map (·.1) = ks → RepDs K H A ds (kvs.map (·.2)) →
    (∀ d, look ks ds k = some d → ∃ v, valV kvs k = some v ∧ RepD K H A d v) ∧ (look ks ds k = none → valV kvs k = none)
  | ks, ds, [], k, e, r => by
    subst e
    cases ds with
    | nil => exact ⟨(fun d z => nomatch (show none = some d from z)), (fun _ => rfl)⟩
    | cons x xs => obtain ⟨_, _, z, _⟩ := r; cases z
  | ks, ds, (k', v') :: kvs, k, e, r => by
    subst e
    cases ds with
    | nil => cases (show _ = [] from r)
    | cons x xs =>
      obtain ⟨v, t, z, r1, r2⟩ := r
      injection z with z1 z2
      subst z1; subst z2
      by_cases hk : k' = k
      · subst hk
        have e1 : valV ((k', v') :: kvs) k' = some v' := by unfold valV; simp
        have e2 : look (((k', v') :: kvs).map (·.1)) (x :: xs) k' = some x := by
          show (if k' = k' then some x else _) = some x
          rw [if_pos rfl]
        refine ⟨fun d q => ?_, fun q => ?_⟩
        · rw [e2] at q; cases q; exact ⟨v', e1, r1⟩
        · rw [e2] at q; cases q
      · have e1 : valV ((k', v') :: kvs) k = valV kvs k := by unfold valV; simp [hk]
        have e2 : look (((k', v') :: kvs).map (·.1)) (x :: xs) k = look (kvs.map (·.1)) xs k := by
          show (if k' = k then some x else _) = _
          rw [if_neg hk]
        rw [e1, e2]
        exact look_ok rfl r2
theorem look_some {κ : Type} [DecidableEq κ] {K : PySem.W.Frag} {A : Addr → Prop} {ks : List κ} {ds : List D} {kvs : List (κ × V)} {k : κ} (e : kvs.map (·.1) = ks) (r : RepDs K H A ds (kvs.map (·.2))) : (look ks ds k).isSome = (valV kvs k).isSome := by
  obtain ⟨a, b⟩ := look_ok (k := k) e r
  cases q : look ks ds k with
  | none => rw [b q]; rfl
  | some d => obtain ⟨v, q1, _⟩ := a d q; rw [q1]; rfl

/-! ### in -/
def rInD (neg : Bool) : R2 := fun y x H Q => ∃ a o, x = .ref a ∧ DGet H a y o ∧ Q (.bl (if neg then !o.isSome else o.isSome)) H
theorem op_inDict {X : Cx} (hu : X.A.units + 1 < cLine) : OpR X (compareOp .In) (rInD false) := by
  intro pins s σ H y x u v Q I ry rx h
  obtain ⟨a, o, e, g, q⟩ := h
  subst e
  obtain rfl : v = Value.ref a := rx
  exact d_in hu I g ry fun s3 I3 => ⟨.bl o.isSome, H, I3, rfl, q⟩
theorem op_notInDict {X : Cx} (hu : X.A.units + 1 < cLine) : OpR X (compareOp .NotIn) (rInD true) := by
  intro pins s σ H y x u v Q I ry rx h
  obtain ⟨a, o, e, g, q⟩ := h
  subst e
  obtain rfl : v = Value.ref a := rx
  exact d_notIn hu I g ry fun s3 I3 => ⟨.bl (!o.isSome), H, I3, rfl, q⟩
def rInS (neg : Bool) : R2 := fun x y H Q => ∃ (c : Nat) (z : Str), x = .str ⟨#[c]⟩ ∧ y = .str z ∧ Q (.bl (if neg then !decide (c ∈ z.cps.toList) else decide (c ∈ z.cps.toList))) H
def rInT (neg : Bool) : R2 := fun x y H Q => ∃ i j, x = .str i ∧ y = .str j ∧ Q (.bl (if neg then !(!(Builtin.Str.occurrences j i 0 j.length 1).isEmpty) else !(Builtin.Str.occurrences j i 0 j.length 1).isEmpty)) H
def rInE (K : PySem.W.Frag) (neg : Bool) : R2 := fun x y H Q => rIn K neg x y H Q ∨ rInS neg x y H Q ∨ rInT neg x y H Q ∨ rInD neg x y H Q
theorem op_inE {X : Cx} (hu : X.A.units + 1 < cLine) : OpR X (compareOp .In) (rInE X.K false) := op_in_seq.or (OpR.or op_in_sign (OpR.or op_in_str (op_inDict hu)))
theorem op_notInE {X : Cx} (hu : X.A.units + 1 < cLine) : OpR X (compareOp .NotIn) (rInE X.K true) := op_notIn_seq.or (OpR.or op_notIn_sign (OpR.or op_notIn_str (op_notInDict hu)))
theorem in_core {a b : D} {v u : V} {k neg : Bool} {Q : VK} (ra : RdD C.K H (Av C σ ρ) a v) (rb : RdD C.K H (Av C σ ρ) b u) (e : inD a b = some k) (q : Q (.bl (if neg then !k else k)) H)
    (nt : ∀ xs, a = .tup xs → RepD C.K H (Av C σ ρ) (.tup xs) v) : rInE C.K neg v u H Q := by
  have seq : ∀ {ys : List D} {p : Addr} {us : List V}, u = .ref p → (SqL C.K H p us ∨ SqT C.K H p us) → RepDs C.K H (Av C σ ρ) ys us → (match flatD a, flats ys with
    | some v, some vs => some (inV v vs)
    | _, _ => none) = some k → rInE C.K neg v u H Q := fun {ys p us} eu hs rs e => by
    cases h1 : flatD a with
    | none => rw [h1] at e; cases e
    | some w =>
      cases h2 : flats ys with
      | none => rw [h1, h2] at e; cases e
      | some ws =>
        rw [h1, h2] at e
        cases (Option.some.inj e)
        obtain ⟨a1, a2⟩ := flatD_ok ra h1
        obtain ⟨b1, b2⟩ := flats_ok rs h2
        subst a1; subst b1
        exact .inl ⟨p, us, eu, hs, a2, b2, q⟩
  cases b with
  | lst ys => obtain ⟨p, us, eu, _, s, rs⟩ := rb.lst; exact seq eu (.inl s) rs e
  | tup ys => obtain ⟨p, us, eu, s, rs⟩ := rb.tup; exact seq eu (.inr s) rs e
  | str z =>
    cases a <;> first | (cases e; done) | skip
    rename_i y
    have e : (match y.cps.toList with
      | [c] => some (decide (c ∈ z.cps.toList))
      | _ => some (!(Builtin.Str.occurrences z y 0 z.length 1).isEmpty)) = some k := e
    split at e
    · rename_i c hc
      cases (Option.some.inj e)
      have ey : y = ⟨#[c]⟩ := by
        cases y with
        | mk cps =>
          have : cps = #[c] := by rw [← Array.toList_inj]; exact hc
          rw [this]
      exact .inr (.inl ⟨c, z, by rw [← ey]; exact ra.1, rb.1, q⟩)
    · cases (Option.some.inj e)
      exact .inr (.inr (.inl ⟨y, z, ra.1, rb.1, q⟩))
  | dic ks ds =>
    obtain ⟨p, kvs, eu, hR, ek, rs⟩ := rb
    have e : (keyD a).map (fun k => (look ks ds k).isSome) = some k := e
    cases hk : keyD a with
    | none => rw [hk] at e; cases e
    | some y =>
      rw [hk] at e
      cases (Option.some.inj e)
      refine .inr (.inr (.inr ⟨p, valV kvs y, eu, .inl ⟨kvs, y, hR, keyD_ok ra hk, rfl⟩, ?_⟩))
      rw [← look_some (k := y) ek rs]
      exact q
  | dit ks ds =>
    obtain ⟨p, kvs, eu, hR, ek, rs⟩ := rb
    have e : (keyT a).map (fun k => (look ks ds k).isSome) = some k := e
    cases hk : keyT a with
    | none => rw [hk] at e; cases e
    | some y =>
      rw [hk] at e
      cases (Option.some.inj e)
      cases a <;> first | (cases hk; done) | skip
      rename_i xs
      obtain ⟨b, eb, hb⟩ := keyT_ok (nt xs rfl) hk
      refine .inr (.inr (.inr ⟨p, valV kvs y, eu, .inr ⟨kvs, y, b, hR, eb, hb, rfl⟩, ?_⟩))
      rw [← look_some (k := y) ek rs]
      exact q
  | _ => cases e
theorem s_in {x y : Val} {v u : V} {Q : VK} (R : Rel C σ H ρ h) (rx : RepV C σ ρ H x v) (ry : RepV C σ ρ H y u) (q : tV C (cmpM .In x y) ρ h σ H Q) : rInE C.K false v u H Q := by
  obtain ⟨a, b, k, ra, rb, e, q, nt⟩ := cmpM_cases R rx ry q
  exact in_core ra rb e q nt
theorem s_notin {x y : Val} {v u : V} {Q : VK} (R : Rel C σ H ρ h) (rx : RepV C σ ρ H x v) (ry : RepV C σ ρ H y u) (q : tV C (cmpM .NotIn x y) ρ h σ H Q) : rInE C.K true v u H Q := by
  obtain ⟨a, b, k, ra, rb, e, q, nt⟩ := cmpM_cases R rx ry q
  have e : (inD a b).map (!·) = some k := e
  cases hk : inD a b with
  | none => rw [hk] at e; cases e
  | some k' =>
    rw [hk] at e
    cases (Option.some.inj e)
    exact in_core ra rb hk q nt

/-! ### subscripts -/
def rIxD : R2 := fun x y H Q => ∃ a v, x = .ref a ∧ DGet H a y (some v) ∧ Q v H
theorem ix_dict {X : Cx} (hu : X.A.units + 1 < cLine) : IxR X rIxD := by
  intro value slice pins s σ H x y v u Q I rx ry hq hs
  obtain ⟨a, z, e, g, q⟩ := hq
  subst e
  obtain rfl : v = Value.ref a := rx
  exact tail_any (dict_typeIs I g) PySem.F.slot_dict_getitem.lookup (d_getItem hu I g ry fun w' s3 I3 rw' => ⟨z, H, I3, rw', q⟩) hs
def rIxE (K : PySem.W.Frag) : R2 := fun x y H Q => rIx K x y H Q ∨ rIxD x y H Q
theorem ix_E {X : Cx} (hu : X.A.units + 1 < cLine) : IxR X (rIxE X.K) := ix_seq.or (ix_dict hu)
theorem atI_rep {K : PySem.W.Frag} {A : Addr → Prop} {ds : List D} {vs : List V} {i : Int} {d : D} (r : RepDs K H A ds vs) (e : atI ds i = some d) : ∃ v, atI vs i = some v ∧ RepD K H A d v := by
  unfold atI at e ⊢
  rw [← r.length]
  cases hi : ixN ds.length i with
  | none => rw [hi] at e; cases e
  | some j =>
    rw [hi] at e
    exact r.get e
theorem atI_mem {α : Type} {xs : List α} {i : Int} {x : α} (e : atI xs i = some x) : x ∈ xs := by
  obtain ⟨j, _, e2, _⟩ := atI_get e
  exact List.mem_of_getElem? e2
theorem s_ix {x y : Val} {v u : V} {Q : VK} (R : Rel C σ H ρ h) (rx : RepV C σ ρ H x v) (ry : RepV C σ ρ H y u) (q : tV C (ixM x y) ρ h σ H Q) : rIxE C.K v u H Q := by
  have main : (∀ ys, y ≠ .kon ys) → tV C (lift2 ixD x y) ρ h σ H Q → rIxE C.K v u H Q := fun nk q => by
    obtain ⟨w0, ρ0, h0, e0⟩ := q.get
    obtain ⟨a, b, c, e1, e2, e, e4, e5, e6⟩ := lift2_ok e0
    subst e4; subst e5; subst e6
    have ra := rd_ok R rx e1
    have rb := rd_ok R ry e2
    cases a with
    | lst xs =>
      cases b <;> first | (cases e; done) | skip
      obtain ⟨p, vs, ev, _, s, rs⟩ := ra.lst
      obtain ⟨z, ez, rz⟩ := atI_rep rs e
      exact .inl (.inl ⟨p, vs, _, z, ev, rb, s, ez, q.same R e0 rz⟩)
    | tup xs =>
      cases b <;> first | (cases e; done) | skip
      obtain ⟨p, vs, ev, s, rs⟩ := ra.tup
      obtain ⟨z, ez, rz⟩ := atI_rep rs e
      exact .inl (.inr (.inl ⟨p, vs, _, z, ev, rb, s, ez, q.same R e0 rz⟩))
    | str z =>
      cases b <;> first | (cases e; done) | skip
      rename_i i
      obtain ⟨r1, r2, r3⟩ := ra
      have e : (atI z.cps.toList i).map (fun c => D.str ⟨#[c]⟩) = some c := e
      cases hc : atI z.cps.toList i with
      | none => rw [hc] at e; cases e
      | some n =>
        rw [hc] at e
        cases (Option.some.inj e)
        refine .inl (.inr (.inr ⟨z, i, n, r1, rb, r3, hc, q.same R e0 ⟨rfl, ?_, ?_⟩⟩))
        · have hm : n ∈ z.cps := Array.mem_def.mpr (atI_mem hc)
          unfold PyData.strOk at r2 ⊢
          rw [Array.all_eq_true_iff_forall_mem] at r2
          simpa using r2 n hm
        · show (#[n] : Array Nat).size ≤ sizeLine
          have : sizeLine = 16777216 := sizeLine_eq
          rw [this]; show 1 ≤ 16777216; decide
    | dic ks ds =>
      obtain ⟨p, kvs, eu, hR, ek, rs⟩ := ra
      have e : (keyD b).bind (look ks ds) = some c := e
      cases hk : keyD b with
      | none => rw [hk] at e; cases e
      | some y =>
        rw [hk] at e
        obtain ⟨z, ez, rz⟩ := (look_ok (k := y) ek rs).1 c e
        exact .inr ⟨p, z, eu, .inl ⟨kvs, y, hR, keyD_ok rb hk, ez.symm⟩, q.same R e0 rz⟩
    | dit ks ds =>
      obtain ⟨p, kvs, eu, hR, ek, rs⟩ := ra
      have e : (keyT b).bind (look ks ds) = some c := e
      cases hk : keyT b with
      | none => rw [hk] at e; cases e
      | some y =>
        rw [hk] at e
        obtain ⟨z, ez, rz⟩ := (look_ok (k := y) ek rs).1 c e
        cases b <;> first | (cases hk; done) | skip
        obtain ⟨b', eb, hb⟩ := keyT_ok (rd_tup R ry e2 nk) hk
        exact .inr ⟨p, z, eu, .inr ⟨kvs, y, b', hR, eb, hb, ez.symm⟩, q.same R e0 rz⟩
    | _ => cases e
  have nk : ∀ ys, y ≠ .kon ys := fun ys z => by
    subst z
    obtain ⟨_, _, _, e⟩ := q.get
    cases x <;> cases e
  cases x with
  | scr ns =>
    obtain ⟨w', ρ', h', e'⟩ := q.get
    have e' : (match scrIx ns y with
      | some n => (Out.ok (Val.d (.int n)) ρ h : Out Val)
      | none => .bad) = .ok w' ρ' h' := e'
    cases hn : scrIx ns y with
    | none => rw [hn] at e'; cases e'
    | some n =>
      obtain ⟨a, ea, hf⟩ := rx
      have key : ∃ i, y = .d (.int i) ∧ atI ns i = some n := by
        cases y with
        | d yd =>
          cases yd with
          | int i => exact ⟨i, rfl, hn⟩
          | _ => cases hn
        | _ => cases hn
      obtain ⟨i, ey, hi⟩ := key
      subst ey
      have ez : atI (ns.map V.int) i = some (.int n) := by
        unfold atI at hi ⊢
        rw [List.length_map]
        cases hj : ixN ns.length i with
        | none => rw [hj] at hi; cases hi
        | some m =>
          rw [hj] at hi
          show (ns.map V.int)[m]? = _
          rw [List.getElem?_map, show ns[m]? = some n from hi]
          rfl
      refine .inl (.inl ⟨a, _, i, _, ea, ry, hf.sq, ez, ?_⟩)
      refine q.same (w := .d (.int n)) R ?_ rfl
      show (match scrIx ns (.d (.int i)) with
        | some n => (Out.ok (Val.d (.int n)) ρ h : Out Val)
        | none => .bad) = _
      rw [hn]
  | d z => cases y <;> first | exact main nk q | exact absurd rfl (nk _)
  | ref j => cases y <;> first | exact main nk q | exact absurd rfl (nk _)
  | own i => cases y <;> first | exact main nk q | exact absurd rfl (nk _)
  | clo c caps => cases y <;> first | exact main nk q | exact absurd rfl (nk _)
  | mk c => cases y <;> first | exact main nk q | exact absurd rfl (nk _)
  | kon xs => cases y <;> first | exact main nk q | exact absurd rfl (nk _)
end
end EV

set_option maxRecDepth 100000
set_option maxHeartbeats 4000000
/-! EvQ1: rules that the hand layer lacks: t[::-1] of a tuple, index and count of data, list of a text, of a range. -/
namespace EV
open PySem PySem.Spec PyProof.Rows L2

/-! ### backwards -/
section
variable {prog : Program} {w : World} {A : Around} {E : Value → Shared → Prop} {s : Shared}
theorem adj_rev (n : Nat) : Builtin.Slice.sliceAdjust none none (-1) (n : Int) = ((n : Int) - 1, -1) := by
  unfold Builtin.Slice.sliceAdjust
  simp
theorem places_rev (n : Nat) : Builtin.Slice.slicePlaces ((n : Int) - 1) (-1) (-1) = n := by
  unfold Builtin.Slice.slicePlaces
  simp
  omega
theorem pick_rev (xs : Array Value) : ((List.range xs.size).filterMap fun (m : Nat) => xs[(((xs.size : Int) - 1) + (m : Int) * (-1)).toNat]?).toArray = xs.toList.reverse.toArray := by
  congr 1
  have fc : ∀ (f g : Nat → Option Value) (l : List Nat), (∀ m ∈ l, f m = g m) → l.filterMap f = l.filterMap g := by
    intro f g l
    induction l with
    | nil => intro _; rfl
    | cons x l ih =>
      intro h
      rw [List.filterMap_cons, List.filterMap_cons, h x List.mem_cons_self, ih fun m hm => h m (List.mem_cons_of_mem _ hm)]
  have e : ∀ m ∈ List.range xs.size, xs[(((xs.size : Int) - 1) + (m : Int) * (-1)).toNat]? = xs.toList.reverse[m]? := fun m hm => by
    have hm := List.mem_range.mp hm
    have h1 : (((xs.size : Int) - 1) + (m : Int) * (-1)).toNat = xs.size - 1 - m := by omega
    rw [h1, List.getElem?_reverse (by simpa using hm)]
    simp
  rw [fc _ _ _ e]
  have h2 : xs.size = xs.toList.reverse.length := by simp
  rw [h2]
  generalize xs.toList.reverse = L
  rw [fc (fun m => L[m]?) (fun m => some (L.getD m .none)) _ fun m hm => by
    have hm := List.mem_range.mp hm
    rw [List.getElem?_eq_getElem hm, List.getD_eq_getElem?_getD, List.getElem?_eq_getElem hm]; rfl]
  have fm : ∀ (g : Nat → Value) (l : List Nat), l.filterMap (fun m => some (g m)) = l.map g := by
    intro g l
    induction l with
    | nil => rfl
    | cons x l ih => simp [ih]
  rw [fm]
  apply List.ext_getElem
  · simp
  · intro j h1 h2
    simp [h2]
theorem sliceApplied_rev {sl : Addr} {vl vu vs : Value} {n : Nat} {Q : Int × Int × Nat → Shared → Prop} (hs : s.heap.IsSliceOf sl vl vu vs) (pl : IsPart vl none) (pu : IsPart vu none) (ps : IsPart vs (some (-1)))
    (h : Q ((n : Int) - 1, -1, n) s) : wpAny (model prog w) A (Builtin.Slice.sliceApplied (.ref sl) (pure (n : Int))) Q E s := by
  obtain ⟨os, hos, hcs, hds⟩ := id hs
  unfold Builtin.Slice.sliceApplied Builtin.Slice.sliceFields
  refine wpAny_bind (wpAny_bind (wpAny_field hos hds (x := vl) rfl (wpAny_bind (wpAny_field hos hds (x := vu) rfl (wpAny_bind (wpAny_field hos hds (x := vs) rfl (wpAny_pure ?_)))))))
  refine wpAny_bind (HT.slicePart_ ps ?_)
  show wpAny _ _ (if ((-1 : Int) == 0) = true then _ else _) _ _ s
  rw [if_neg (by decide)]
  refine wpAny_bind (HT.slicePart_ pl (wpAny_bind (HT.slicePart_ pu (wpAny_bind (wpAny_pure ?_)))))
  show wpAny _ _ (match Builtin.Slice.sliceAdjust none none (-1) (n : Int) with | (lo, hi) => pure (lo, (-1 : Int), Builtin.Slice.slicePlaces lo hi (-1))) _ _ s
  rw [adj_rev n]
  show wpAny _ _ (pure ((n : Int) - 1, (-1 : Int), Builtin.Slice.slicePlaces ((n : Int) - 1) (-1) (-1))) _ _ s
  rw [places_rev]
  exact wpAny_pure h
theorem getItem_tuple_rev {t sl : Addr} {items : Array Value} {vl vu vs : Value} {Q : Value → Shared → Prop} (ht : IsTup s.heap t items) (hs : s.heap.IsSliceOf sl vl vu vs) (pl : IsPart vl none) (pu : IsPart vu none) (ps : IsPart vs (some (-1)))
    (h : Q (.ref s.heap.objs.size) { s with heap := s.heap.push { cls := .type "tuple", data := .seq items.toList.reverse.toArray } })
    (hsz : items.size ≤ sizeLine) : wpAny (model prog w) A (getItem (.ref t) (.ref sl)) Q E s := by
  have htake : sizeOk (.seq items.toList.reverse.toArray) := by
    show items.toList.reverse.toArray.size ≤ sizeLine
    rw [List.size_toArray, List.length_reverse, Array.length_toList]; exact hsz
  obtain ⟨os, hos, hcs, hds⟩ := id hs
  have hTs : s.TypeIs (.ref sl) "slice" := ⟨os, hos, hcs⟩
  unfold getItem
  try with_reducible refine wpAny_holding ?_
  first | refine wpAny_bind (wpAny_pure ?_) | skip
  refine wpAny_bind (wpAny_sequenceKey ht.typeIs (by decide) ?_)
  refine wpAny_bind (wpAny_callSpecial?_slot (name := Str.ofString "__getitem__") ht.typeIs PyProof.Rows.slot_tuple_getitem
    (wpAny_call_entry PyProof.Rows.slot_tuple_getitem ht.typeIs entry_tuple_getitem ?_ (args_tuple_getitem _ _)))
  show wpAny _ _ (Builtin.Tuple.tupleItemsOf (.ref t) >>= _) _ _ s
  refine wpAny_bind (tupleItemsOf_ ht ?_)
  refine wpAny_bind (wpAny_typeOf hTs ?_)
  rw [if_pos (by decide)]
  refine wpAny_bind (sliceApplied_rev hs pl pu ps ?_)
  have hno : ¬ ((((items.size : Int) - 1) == 0 && (-1 : Int) == 1 && items.size == items.size) = true) := by
    intro q
    rw [Bool.and_eq_true, Bool.and_eq_true] at q
    exact absurd q.1.2 (by decide)
  show wpAny _ _ (if (((items.size : Int) - 1) == 0 && (-1 : Int) == 1 && items.size == items.size) = true then _ else _) _ _ s
  rw [if_neg hno, pick_rev]
  first
    | exact wpAny_bind (m := Builtin.Tuple.tupleExact _) (wpAny_newObj_type (wpAny_pure ⟨_, rfl, wpAny_pure h⟩) htake)
    | exact wpAny_bind (m := Builtin.Tuple.tupleExact _) (wpAny_newObj_type (wpAny_bind (wpAny_pure (wpAny_pure ⟨_, rfl, wpAny_pure h⟩))) htake)
    | exact wpAny_bind (wpAny_bind (m := Builtin.Tuple.tupleExact _) (wpAny_newObj_type (wpAny_pure (wpAny_pure ⟨_, rfl, wpAny_pure h⟩)) htake))
    | exact wpAny_bind (wpAny_bind (m := Builtin.Tuple.tupleExact _) (wpAny_newObj_type (wpAny_pure ⟨_, rfl, wpAny_pure h⟩) htake))
end
def tRevA (K : PySem.W.Frag) (te : TE) : TE := fun σ H Q => te σ H fun x H1 => ∃ a xs, x = .ref a ∧ ((SqL K H1 a xs ∧ ∀ p, H1 p = none → Q (.ref p) (upd H1 p (.lst xs.reverse))) ∨ (SqT K H1 a xs ∧ ∀ p, H1 p = none → Q (.ref p) (upd H1 p (.tup xs.reverse))))
section
variable {X : Cx}
theorem pe_revX {e : Expr} {te : TE} {k : Nat} {p1 p2 p3 pos : Pos} (he : PE X e te) : PE X (.Subscript e (.Slice none none (some (.UnaryOp .USub (.Constant (.int 1) k p1) p2)) p3) pos) (tRevA X.K te) := by
  refine ⟨fun pins s σ H Q I h => ?_⟩
  refine Subscript_ (thn (he.run pins s σ H _ I h) fun v s1 ⟨x, H1, I1, r1, q1⟩ => ?_)
  obtain ⟨a, xs, ex, hx⟩ := q1
  subst ex
  cases r1
  have hst : PO X (some (.UnaryOp .USub (.Constant (.int 1) k p1) p2)) (tPart (tUn (rU fun i => .int (-i)) (tC (.int 1)))) := po_some (pe_un un_neg pe_int)
  refine wpAny_Slice (thn (po_none.run pins s1 σ H1 (fun o H2 => o = none ∧ H2 = H1) I1 ⟨rfl, rfl⟩) fun vl s2 ⟨l, H2, I2, pl, el, e2⟩ => ?_)
  subst el e2
  refine thn (po_none.run pins s2 σ H2 (fun o H3 => o = none ∧ H3 = H2) I2 ⟨rfl, rfl⟩) fun vu s3 ⟨u, H3, I3, pu, eu, e3⟩ => ?_
  subst eu e3
  refine thn (hst.run pins s3 σ H3 (fun o H4 => o = some (-1) ∧ H4 = H3) I3 ⟨1, rfl, -1, rfl, rfl, rfl⟩) fun vs s4 ⟨o, H4, I4, ps, eo, e4⟩ => ?_
  subst eo e4
  have I5 : Inv X pins σ H4 { s4 with heap := s4.heap.push { cls := .type "slice", data := .fields #[vl, vu, vs] } } := I4.kept (t' := s4.toks) fun b ob q => Heap.get?_push_of_some _ q
  show wpAny (model X.prog X.w) X.A (subscriptTail e (.Slice none none (some (.UnaryOp .USub (.Constant (.int 1) k p1) p2)) p3) (.ref a) (.ref s4.heap.objs.size)) (EP X pins σ Q) X.xe { s4 with heap := s4.heap.push { cls := .type "slice", data := .fields #[vl, vu, vs] } }
  rcases hx with ⟨hx, q⟩ | ⟨hx, q⟩
  · obtain ⟨its, r, ht, hz⟩ := I5.list hx
    have hlen := r.length
    refine tail_any (ops := [.ref a, .ref s4.heap.objs.size]) ht.isList.typeIs (PySem.slot_list_getitem.lookup) ?_ (by with_unfolding_all rfl)
    refine wpAny_getItem_list_slice ht.isList (Heap.IsSliceOf.new _ vl vu vs) pl pu ps (by decide) ?_ (by rw [List.size_toArray]; omega)
    rw [PySem.W.krv_pick]
    refine ⟨.ref _, _, I5.laid (t' := s4.toks) (o := .lst xs.reverse) (fun b ob q => Heap.get?_push_of_some _ q) (Nat.le_refl _) ?_, rfl, q _ (I5.hok.fresh (Nat.le_refl _))⟩
    exact ⟨by rw [List.length_reverse]; exact hz, _, 0, r.reverse, Heap.get?_push_size _ rfl⟩
  · obtain ⟨its, r, ht, hz⟩ := I5.tuple hx
    have hlen := r.length
    refine tail_any (ops := [.ref a, .ref s4.heap.objs.size]) ht.typeIs (PyProof.Rows.slot_tuple_getitem.lookup) ?_ (by with_unfolding_all rfl)
    refine getItem_tuple_rev ht (Heap.IsSliceOf.new _ vl vu vs) pl pu ps ?_ (by rw [List.size_toArray]; omega)
    refine ⟨.ref _, _, I5.laid (t' := s4.toks) (o := .tup xs.reverse) (fun b ob q => Heap.get?_push_of_some _ q) (Nat.le_refl _) ?_, rfl, q _ (I5.hok.fresh (Nat.le_refl _))⟩
    exact ⟨by rw [List.length_reverse]; exact hz, _, r.reverse, IsTup.new _ _⟩
/-! ### t.index(x), l.count(x), t.count(x): data of any depth -/
def rIndexT (K : PySem.W.Frag) : V → List V → Hp → VK → Prop := fun x xs H Q => ∃ (a : Addr) (y : V) (d : PyData) (ds : List PyData) (j : Nat) (z : PyData), x = V.ref a ∧ xs = [y] ∧ Dp K H (V.ref a) (.tuple ds) ∧ Dp K H y d ∧
  SeqAt.shaped (.tuple ds) = true ∧ SeqAt.shaped d = true ∧ ds[j]? = some z ∧ PyData.eqv z d = true ∧ (∀ (m : Nat) (z' : PyData), m < j → ds[m]? = some z' → PyData.eqv z' d = false) ∧ Q (.int (j : Nat)) H
theorem mt_indexT (hu : X.A.units + 65 < cLine) : MtR X "tuple.index" (rIndexT X.K) := by
  intro pins s σ H x xs v us Q I rx rxs h
  obtain ⟨a, y, d, ds, j, z, rfl, rfl, hl, hy, sl, sd, hz, hzj, hno, q⟩ := h
  cases rx
  cases rxs with
  | cons ry rt =>
    rename_i uy ut
    cases rt
    obtain ⟨bs, r1⟩ := Dp.reads I d y uy hy ry
    have hxs : PyData.canLayAll0 ds = true := SeqAt.canLay_of_shaped sl
    have hroom : X.A.units + 1 + min (PyData.depthAll ds) d.depth < cLine := room_in_shaped sd hu
    cases hl with
    | tup hs ha =>
      obtain ⟨its, rv, ⟨⟨cls, dd, data, sls⟩, ho, hc, n, hdt⟩, hlen⟩ := I.tuple hs
      simp only at hc hdt
      subst hc hdt
      obtain ⟨as, h4⟩ := Dp.readsAll I ds _ its ha rv
      have hn : its.length = ds.length := SeqAt.ReadsAll.length ds its as h4
      have hmap : its.map (SeqAt.readOf s.heap) = ds := SeqAt.readsAll_map ds its as hxs h4
      have hvl := rv.length
      obtain ⟨hjd, _⟩ := List.getElem?_eq_some_iff.mp hz
      have hjl : j < its.length := by omega
      have hj : j < its.toArray.size := by simpa using hjl
      have at_ : ∀ (m : Nat) (hm : m < its.toArray.size) (z' : PyData), ds[m]? = some z' → SeqAt.readOf s.heap its.toArray[m] = z' := by
        intro m hm z' hz'
        have hml : m < its.length := by simpa using hm
        rw [← hmap, List.getElem?_map, List.getElem?_eq_getElem hml] at hz'
        have e1 : SeqAt.readOf s.heap its[m] = z' := Option.some.inj (show some (SeqAt.readOf s.heap its[m]) = some z' from hz')
        simpa using e1
      refine call_meets PySem.F.slot_tuple_index ⟨_, ho, rfl⟩ PySem.F.entry_tuple_index (PySem.F.args_tuple_index_2 _ _)
        (TI.tuple_indexAt a its.toArray n dd sls uy (fun u => PyData.eqv (SeqAt.readOf s.heap u) d) j hj ?_ ?_) ⟨ho, SeqAt.items_eqAt (vs := its.toArray) (show ReadsAll s.heap its.toArray.toList ds as from h4) r1 hxs (SeqAt.canLay_of_shaped sd) hroom, ?_⟩
      · show PyData.eqv (SeqAt.readOf s.heap its.toArray[j]) d = true
        rw [at_ j hj z hz]
        exact hzj
      · intro m hm hmj
        have hmd : m < ds.length := by rw [← hn]; simpa using hm
        have hz' : ds[m]? = some ds[m] := List.getElem?_eq_getElem hmd
        show PyData.eqv (SeqAt.readOf s.heap its.toArray[m]) d = false
        rw [at_ m hm _ hz']
        exact hno m _ hmj hz'
      · exact ⟨.int (j : Nat), H, I.tok _, ⟨_, rfl⟩, q⟩
def rIndexL (K : PySem.W.Frag) : V → List V → Hp → VK → Prop := fun x xs H Q => ∃ (a : Addr) (y : V) (d : PyData) (ds : List PyData) (j : Nat) (z : PyData), x = V.ref a ∧ xs = [y] ∧ Dp K H (V.ref a) (.list ds) ∧ Dp K H y d ∧
  SeqAt.shaped (.list ds) = true ∧ SeqAt.shaped d = true ∧ d.depth ≤ 60 ∧ ds[j]? = some z ∧ PyData.eqv z d = true ∧ (∀ (m : Nat) (z' : PyData), m < j → ds[m]? = some z' → PyData.eqv z' d = false) ∧ Q (.int (j : Nat)) H
theorem mt_indexL (hu : X.A.units + 64 < cLine) : MtR X "list.index" (rIndexL X.K) := by
  intro pins s σ H x xs v us Q I rx rxs h
  obtain ⟨a, y, d, ds, j, z, rfl, rfl, hl, hy, sl, sd, sdp, hz, hzj, hno, q⟩ := h
  cases rx
  cases rxs with
  | cons ry rt =>
    rename_i uy ut
    cases rt
    obtain ⟨bs, r1⟩ := Dp.reads I d y uy hy ry
    have hxs : PyData.canLayAll0 ds = true := SeqAt.canLay_of_shaped sl
    have hroom : X.A.units + 1 + min (PyData.depthAll ds) d.depth < cLine := by have := Nat.min_le_right (PyData.depthAll ds) d.depth; omega
    cases hl with
    | lst hs ha =>
      obtain ⟨its, rv, ⟨⟨cls, dd, data, sls⟩, n, ho, hc, hdn, hdt⟩, hlen⟩ := I.list hs
      simp only at hc hdt
      subst hc hdt
      obtain ⟨as, h4⟩ := Dp.readsAll I ds _ its ha rv
      have hn : its.length = ds.length := SeqAt.ReadsAll.length ds its as h4
      have hmap : its.map (SeqAt.readOf s.heap) = ds := SeqAt.readsAll_map ds its as hxs h4
      have hvl := rv.length
      have hsl := sizeLine_eq
      obtain ⟨hjd, _⟩ := List.getElem?_eq_some_iff.mp hz
      have hjl : j < its.length := by omega
      have hj : j < its.toArray.size := by simpa using hjl
      have at_ : ∀ (m : Nat) (hm : m < its.toArray.size) (z' : PyData), ds[m]? = some z' → SeqAt.readOf s.heap its.toArray[m] = z' := by
        intro m hm z' hz'
        have hml : m < its.length := by simpa using hm
        rw [← hmap, List.getElem?_map, List.getElem?_eq_getElem hml] at hz'
        have e1 : SeqAt.readOf s.heap its[m] = z' := Option.some.inj (show some (SeqAt.readOf s.heap its[m]) = some z' from hz')
        simpa using e1
      refine call_meets PySem.F.slot_list_index ⟨_, ho, rfl⟩ PySem.F.entry_list_index (PySem.F.args_list_index_2 _ _)
        (SeqAt.list_indexAt a its.toArray n dd sls uy (fun u => PyData.eqv (SeqAt.readOf s.heap u) d) j hj (by omega) ?_ ?_) ⟨ho, SeqAt.items_eqAt (vs := its.toArray) (show ReadsAll s.heap its.toArray.toList ds as from h4) r1 hxs (SeqAt.canLay_of_shaped sd) hroom, ?_⟩
      · show PyData.eqv (SeqAt.readOf s.heap its.toArray[j]) d = true
        rw [at_ j hj z hz]
        exact hzj
      · intro m hm hmj
        have hmd : m < ds.length := by rw [← hn]; simpa using hm
        have hz' : ds[m]? = some ds[m] := List.getElem?_eq_getElem hmd
        show PyData.eqv (SeqAt.readOf s.heap its.toArray[m]) d = false
        rw [at_ m hm _ hz']
        exact hno m _ hmj hz'
      · exact ⟨.int (j : Nat), H, I.tok _, ⟨_, rfl⟩, q⟩
def rCountL (K : PySem.W.Frag) : V → List V → Hp → VK → Prop := fun x xs H Q => ∃ (a : Addr) (y : V) (d : PyData) (ds : List PyData), x = V.ref a ∧ xs = [y] ∧ Dp K H (V.ref a) (.list ds) ∧ Dp K H y d ∧
  SeqAt.shaped (.list ds) = true ∧ SeqAt.shaped d = true ∧ d.depth ≤ 60 ∧ Q (.int (ds.countP fun z => PyData.eqv z d : Nat)) H
theorem mt_countL (hu : X.A.units + 64 < cLine) : MtR X "list.count" (rCountL X.K) := by
  intro pins s σ H x xs v us Q I rx rxs h
  obtain ⟨a, y, d, ds, rfl, rfl, hl, hy, sl, sd, sdp, q⟩ := h
  cases rx
  cases rxs with
  | cons ry rt =>
    rename_i uy ut
    cases rt
    obtain ⟨bs, r1⟩ := Dp.reads I d y uy hy ry
    have hxs : PyData.canLayAll0 ds = true := SeqAt.canLay_of_shaped sl
    have hroom : X.A.units + 1 + min (PyData.depthAll ds) d.depth < cLine := by have := Nat.min_le_right (PyData.depthAll ds) d.depth; omega
    cases hl with
    | lst hs ha =>
      obtain ⟨its, rv, ⟨⟨cls, dd, data, sls⟩, n, ho, hc, hdn, hdt⟩, hlen⟩ := I.list hs
      simp only at hc hdt
      subst hc hdt
      obtain ⟨as, h4⟩ := Dp.readsAll I ds _ its ha rv
      have hmap : its.map (SeqAt.readOf s.heap) = ds := SeqAt.readsAll_map ds its as hxs h4
      refine call_meets PySem.F.slot_list_count ⟨_, ho, rfl⟩ PySem.F.entry_list_count (PySem.F.args_list_count_2 _ _)
        (SeqAt.list_countAt a its.toArray n dd sls uy (fun u => PyData.eqv (SeqAt.readOf s.heap u) d)) ⟨ho, SeqAt.items_eqAt (vs := its.toArray) (show ReadsAll s.heap its.toArray.toList ds as from h4) r1 hxs (SeqAt.canLay_of_shaped sd) hroom, ?_⟩
      have e : (its.toArray.toList.countP fun u => PyData.eqv (SeqAt.readOf s.heap u) d) = ds.countP fun z => PyData.eqv z d := by
        rw [← hmap, List.countP_map]; rfl
      rw [e]
      exact ⟨.int (ds.countP fun z => PyData.eqv z d : Nat), H, I.tok _, ⟨_, rfl⟩, q⟩
def rCountT (K : PySem.W.Frag) : V → List V → Hp → VK → Prop := fun x xs H Q => ∃ (a : Addr) (y : V) (d : PyData) (ds : List PyData), x = V.ref a ∧ xs = [y] ∧ Dp K H (V.ref a) (.tuple ds) ∧ Dp K H y d ∧
  SeqAt.shaped (.tuple ds) = true ∧ SeqAt.shaped d = true ∧ d.depth ≤ 60 ∧ Q (.int (ds.countP fun z => PyData.eqv z d : Nat)) H
theorem mt_countT (hu : X.A.units + 64 < cLine) : MtR X "tuple.count" (rCountT X.K) := by
  intro pins s σ H x xs v us Q I rx rxs h
  obtain ⟨a, y, d, ds, rfl, rfl, hl, hy, sl, sd, sdp, q⟩ := h
  cases rx
  cases rxs with
  | cons ry rt =>
    rename_i uy ut
    cases rt
    obtain ⟨bs, r1⟩ := Dp.reads I d y uy hy ry
    have hxs : PyData.canLayAll0 ds = true := SeqAt.canLay_of_shaped sl
    have hroom : X.A.units + 1 + min (PyData.depthAll ds) d.depth < cLine := by have := Nat.min_le_right (PyData.depthAll ds) d.depth; omega
    cases hl with
    | tup hs ha =>
      obtain ⟨its, rv, ⟨⟨cls, dd, data, sls⟩, ho, hc, n, hdt⟩, hlen⟩ := I.tuple hs
      simp only at hc hdt
      subst hc hdt
      obtain ⟨as, h4⟩ := Dp.readsAll I ds _ its ha rv
      have hmap : its.map (SeqAt.readOf s.heap) = ds := SeqAt.readsAll_map ds its as hxs h4
      refine call_meets PySem.F.slot_tuple_count ⟨_, ho, rfl⟩ PySem.F.entry_tuple_count (PySem.F.args_tuple_count_2 _ _)
        (SeqAt.tuple_countAt a its.toArray n dd sls uy (fun u => PyData.eqv (SeqAt.readOf s.heap u) d)) ⟨ho, SeqAt.items_eqAt (vs := its.toArray) (show ReadsAll s.heap its.toArray.toList ds as from h4) r1 hxs (SeqAt.canLay_of_shaped sd) hroom, ?_⟩
      have e : (its.toArray.toList.countP fun u => PyData.eqv (SeqAt.readOf s.heap u) d) = ds.countP fun z => PyData.eqv z d := by
        rw [← hmap, List.countP_map]; rfl
      rw [e]
      exact ⟨.int (ds.countP fun z => PyData.eqv z d : Nat), H, I.tok _, ⟨_, rfl⟩, q⟩
/-! ### list of a text, of a range -/
theorem vals_by : ∀ {xs : List V} {us : List Value}, xs.length = us.length → (∀ (i : Nat) (x : V) (u : Value), xs[i]? = some x → us[i]? = some u → RelV x u) → Vals xs us
  | [], [], _, _ => .nil
  | [], _ :: _, h, _ => by cases h
  | _ :: _, [], h, _ => by cases h
  | x :: xs, u :: us, h, k => .cons (k 0 x u rfl rfl) (vals_by (Nat.succ.inj h) fun i x u e1 e2 => k (i + 1) x u e1 e2)
def rListS : List V → Hp → VK → Prop := fun vs H Q => ∃ x : Str, vs = [.str x] ∧ x.length ≤ sizeLine ∧ ∀ p, H p = none → Q (.ref p) (upd H p (.lst (x.cps.toList.map fun c => V.str ⟨#[c]⟩)))
theorem cr_listS (hc : X.calm = true) : CallR X (.type "list") rListS := by
  intro pins s σ H vs us Q I r h
  obtain ⟨x, ev, hz, q⟩ := h
  subst ev
  cases r with
  | cons r1 r2 =>
    cases r2
    obtain ⟨t, rfl⟩ := r1
    refine call_list_str (I.ok.hd hc) x t (fun h' tk acc c hk hS hacc => ?_) hz
    have hv : Vals (x.cps.toList.map fun c => V.str ⟨#[c]⟩) acc.toList := vals_by (by rw [List.length_map, Array.length_toList, Array.length_toList, hacc.1]) fun i y u e1 e2 => by
      rw [Array.getElem?_toList] at e2
      obtain ⟨c', t', h1, h2⟩ := hacc.2 i u e2
      rw [List.getElem?_map, Array.getElem?_toList, h1] at e1
      cases e1
      exact ⟨t', h2⟩
    exact ⟨.ref _, upd H s.heap.objs.size (.lst (x.cps.toList.map fun c => V.str ⟨#[c]⟩)), I.laid (t' := tk) hk (Nat.le_refl _) ⟨by rw [List.length_map, Array.length_toList]; exact hz, acc.toList, c, hv, by rw [Array.toArray_toList]; exact hS⟩, rfl, q _ (I.hok.fresh (Nat.le_refl _))⟩
/-- list(range(a)) -/
def upV (lo : Int) (n : Nat) : List V := (List.range n).map fun k => V.int (lo + (k : Nat))
theorem list_rng {pins : List (Addr × Obj)} {σ : L2.St} {H : Hp} {s : Shared} {Q : VK} {lo hi : Int} {t u v : Tok} {tk : Nat} (hc : X.calm = true) (I : Inv X pins σ H s) (h1 : -(2 ^ 62) ≤ lo) (h2 : lo < 2 ^ 62) (h3 : -(2 ^ 62) ≤ hi) (h4 : hi < 2 ^ 62) (h5 : (hi - lo).toNat ≤ 2 ^ 24)
    (q : ∀ p, H p = none → Q (.ref p) (upd H p (.lst (upV lo (hi - lo).toNat)))) :
    wpAny (model X.prog X.w) X.A (call (.type "list") [.ref s.heap.objs.size]) (EP X pins σ Q) X.xe { s with heap := s.heap.push { cls := .type "range", data := .fields #[.int lo t, .int hi u, .int 1 v] }, toks := tk } := by
  have I1 : Inv X pins σ H { s with heap := s.heap.push { cls := .type "range", data := .fields #[.int lo t, .int hi u, .int 1 v] }, toks := tk } := I.kept fun b o e => Heap.get?_push_of_some _ e
  refine call_list_range (s := { s with heap := s.heap.push { cls := .type "range", data := .fields #[.int lo t, .int hi u, .int 1 v] }, toks := tk }) (n := (hi - lo).toNat) (I1.ok.hd hc) (IsRange.new ..) (small_one h1 h2 h3 h4) (by rw [rangeSize_one]; split <;> omega) h5 fun h' tk2 acc c hk hS hacc => ?_
  have hv : Vals (upV lo (hi - lo).toNat) acc.toList := vals_by (by unfold upV; rw [List.length_map, List.length_range, Array.length_toList, hacc.1]) fun i y u e1 e2 => by
    rw [Array.getElem?_toList] at e2
    obtain ⟨t', h2⟩ := hacc.2 i u e2
    unfold upV at e1
    rw [List.getElem?_map] at e1
    cases e3 : (List.range (hi - lo).toNat)[i]? with
    | none => rw [e3] at e1; cases e1
    | some k =>
      rw [e3] at e1
      have : k = i := by
        obtain ⟨w1, w2⟩ := List.getElem?_eq_some_iff.mp e3
        rw [List.getElem_range] at w2; exact w2.symm
      subst this
      cases e1
      exact ⟨t', by rw [h2]; congr 1; omega⟩
  have hsz : (2 : Nat) ^ 24 ≤ sizeLine := by decide
  exact ⟨.ref _, upd H _ (.lst (upV lo (hi - lo).toNat)), I1.laid (t' := tk2) hk (Nat.le_refl _) ⟨by unfold upV; rw [List.length_map, List.length_range]; omega, acc.toList, c, hv, by rw [Array.toArray_toList]; exact hS⟩, rfl, q _ (I1.hok.fresh (Nat.le_refl _))⟩
def tListR1 (ta : TA) : TE := fun σ H Q => ta σ H fun vs H1 => ∃ j : Int, vs = [.int j] ∧ -(2 ^ 62) ≤ j ∧ j < 2 ^ 62 ∧ j.toNat ≤ 2 ^ 24 ∧ ∀ p, H1 p = none → Q (.ref p) (upd H1 p (.lst (upV 0 j.toNat)))
def tListR2 (ta : TA) : TE := fun σ H Q => ta σ H fun vs H1 => ∃ i j : Int, vs = [.int i, .int j] ∧ (-(2 ^ 62) ≤ i ∧ i < 2 ^ 62 ∧ -(2 ^ 62) ≤ j ∧ j < 2 ^ 62) ∧ (j - i).toNat ≤ 2 ^ 24 ∧ ∀ p, H1 p = none → Q (.ref p) (upd H1 p (.lst (upV i (j - i).toNat)))
theorem boot_list : bootBuiltins ("list" : Str) = some (.type "list") := by decide +kernel
theorem pe_listR1 {a : Expr} {ta : TA} {p p2 pos2 pos : Pos} (hc : X.calm = true) (hgl : Gl X "list") (hml : X.mg "list" = none) (hg : Gl X "range") (hm : X.mg "range" = none) (ha : PA X [a] ta) (hs : starEach [a] X.env = [(false, eval a X.env)]) :
    PE X (.Call (.Name "list" p) [.Call (.Name "range" p2) [a] [] pos2] [] pos) (tListR1 ta) := by
  refine ⟨fun pins s σ H Q I h => ?_⟩
  refine Call_ (ld_blt I hgl hml boot_list ?_)
  refine PyProof.Rows.callWith_type1 (PyProof.Rows.args_cons ?_ rfl) rfl rfl
  refine Call_ (ld_blt I hg hm boot_range (PyProof.Rows.callWith_type1 (thn (ha.run pos2 pins s σ H _ I h) fun us s1 ⟨vs, H1, I1, r1, q1⟩ => ?_) hs rfl))
  obtain ⟨j, e, b1, b2, b3, q⟩ := q1
  subst e
  cases r1 with
  | cons r rr =>
    cases rr
    obtain ⟨t, rfl⟩ := r
    refine call_range_1 ?_
    refine PyProof.Rows.args_nil ?_
    exact list_rng hc I1 (by omega) (by omega) b1 b2 (by simpa using b3) (by simpa using q)
theorem pe_listR2 {a b : Expr} {ta : TA} {p p2 pos2 pos : Pos} (hc : X.calm = true) (hgl : Gl X "list") (hml : X.mg "list" = none) (hg : Gl X "range") (hm : X.mg "range" = none) (ha : PA X [a, b] ta) (hs : starEach [a, b] X.env = (false, eval a X.env) :: starEach [b] X.env) (hs2 : starEach [b] X.env = [(false, eval b X.env)]) :
    PE X (.Call (.Name "list" p) [.Call (.Name "range" p2) [a, b] [] pos2] [] pos) (tListR2 ta) := by
  refine ⟨fun pins s σ H Q I h => ?_⟩
  refine Call_ (ld_blt I hgl hml boot_list ?_)
  refine PyProof.Rows.callWith_type1 (PyProof.Rows.args_cons ?_ rfl) rfl rfl
  refine Call_ (ld_blt I hg hm boot_range (PyProof.Rows.callWith_type1 (thn (ha.run pos2 pins s σ H _ I h) fun us s1 ⟨vs, H1, I1, r1, q1⟩ => ?_) hs (by rw [hs2]; rfl)))
  obtain ⟨i, j, e, ⟨b1, b2, b3, b4⟩, b5, q⟩ := q1
  subst e
  cases r1 with
  | cons r rr =>
    cases rr with
    | cons r' rr =>
      cases rr
      obtain ⟨t, rfl⟩ := r
      obtain ⟨t', rfl⟩ := r'
      refine call_range_2 ?_
      refine PyProof.Rows.args_nil ?_
      exact list_rng hc I1 b1 b2 b3 b4 b5 q
end
end EV

set_option maxRecDepth 100000
set_option maxHeartbeats 1000000
/-! EvF: slices, built-ins, truth, own things changed. -/
namespace EV
open PySem PySem.Spec PyProof.Rows L2

section
variable {C : Ct} {σ : L2.St} {H : Hp} {ρ : Ev} {h : Hh}
/-! ### slices -/
theorem cut_rep {K : PySem.W.Frag} {A : Addr → Prop} {ds : List D} {vs : List V} (r : RepDs K H A ds vs) (lo hi : Option Int) : RepDs K H A (cutD ds lo hi) (cutV vs lo hi) := by
  unfold cutD cutV
  rw [r.length]
  exact (r.drop _).take _
theorem cut_whole {ds : List D} {lo hi : Option Int} (w : HT.sIx ds.length 0 lo = 0 ∧ HT.sIx ds.length ds.length hi = ds.length) : cutD ds lo hi = ds := by
  unfold cutD
  rw [w.1, w.2, List.drop_zero, Nat.sub_zero, List.take_length]
theorem cutS_ok {z : Str} {lo hi : Option Int} (h1 : PyData.strOk z = true) (h2 : z.length ≤ sizeLine) : PyData.strOk (cutS z lo hi) = true ∧ (cutS z lo hi).length ≤ sizeLine := by
  constructor
  · unfold PyData.strOk at h1 ⊢
    rw [Array.all_eq_true_iff_forall_mem] at h1 ⊢
    intro x hx
    unfold cutS at hx
    have hx : x ∈ (List.take (HT.sIx z.length z.length hi - HT.sIx z.length 0 lo) (List.drop (HT.sIx z.length 0 lo) z.cps.toList)) := by simpa using hx
    exact h1 x (Array.mem_def.mpr (List.mem_of_mem_drop (List.mem_of_mem_take hx)))
  · have : (cutS z lo hi).length ≤ z.length := by
      unfold cutS Str.length
      simp only [List.size_toArray, List.length_take, List.length_drop, Array.length_toList]
      omega
    exact Nat.le_trans this h2
def rSlE (K : PySem.W.Frag) : V → Option Int → Option Int → Hp → VK → Prop := fun x lo hi H Q => rSlL K x lo hi H Q ∨ rSlA K x lo hi H Q ∨ rSlS x lo hi H Q
theorem sl_E {X : Cx} : SlR X (rSlE X.K) := sl_list.or (sl_tupA.or sl_str)
theorem slM_lift {x : Val} {lo hi : Option Int} {w : Val} {ρ' : Ev} {h' : Hh} (e : slM x lo hi ρ h = .ok w ρ' h') : (∃ ns, x = .scr ns ∧ w = .d (.lst (cutD (ns.map .int) lo hi)) ∧ ρ' = ρ ∧ h' = h) ∨
    ((∀ ys, x ≠ .kon ys) ∧ slM x lo hi = lift1 (fun a => slD a lo hi) x) := by
  cases x with
  | scr ns =>
    have e : Out.ok (Val.d (.lst (cutD (ns.map .int) lo hi))) ρ h = .ok w ρ' h' := e
    injection e with e1 e2 e3
    exact .inl ⟨ns, rfl, e1.symm, e2.symm, e3.symm⟩
  | kon ys => cases e
  | _ => exact .inr ⟨(fun _ z => by cases z), rfl⟩
theorem reps_int {K : PySem.W.Frag} {A : Addr → Prop} : ∀ ns : List Int, RepDs K H A (ns.map .int) (ns.map V.int)
  | [] => rfl
  | n :: r => ⟨_, _, rfl, rfl, reps_int r⟩
theorem s_sl {x : Val} {v : V} {lo hi : Option Int} {Q : VK} (R : Rel C σ H ρ h) (rx : RepV C σ ρ H x v) (q : tV C (slM x lo hi) ρ h σ H Q) : rSlE C.K v lo hi H Q := by
  obtain ⟨w0, ρ0, h0, e0⟩ := q.get
  rcases slM_lift e0 with ⟨ns, ex, e1, e2, e3⟩ | ⟨nk, el⟩
  · subst ex; subst e1; subst e2; subst e3
    obtain ⟨a, ea, hf⟩ := rx
    exact .inl ⟨a, _, ea, hf.sq, fun p n => q.newL R e0 (cut_rep (reps_int ns) lo hi) n⟩
  · have e' := e0
    rw [el] at e'
    obtain ⟨a, c, e1, e2, e3, e4, e5⟩ := lift1_ok e'
    subst e3; subst e4; subst e5
    have ra := rd_ok R rx e1
    cases a with
    | lst xs =>
      cases (Option.some.inj e2)
      obtain ⟨p, vs, ev, _, s, rs⟩ := ra.lst
      exact .inl ⟨p, vs, ev, s, fun t n => q.newL R e0 (cut_rep rs lo hi) n⟩
    | tup xs =>
      cases (Option.some.inj e2)
      obtain ⟨p, vs, ev, s, rs⟩ := ra.tup
      refine .inr (.inl ⟨p, vs, ev, s, fun w => ?_, fun _ t n => q.newT R e0 (cut_rep rs lo hi) n⟩)
      rw [← rs.length] at w
      rw [cut_whole w] at e0
      rw [← ev]
      exact q.same R e0 (rd_tup R rx e1 nk)
    | str z =>
      cases (Option.some.inj e2)
      obtain ⟨r1, r2, r3⟩ := ra
      exact .inr (.inr ⟨z, r1, r3, q.same R e0 ⟨rfl, cutS_ok r2 r3⟩⟩)
    | _ => cases e2

/-! ### built-ins -/
theorem CallR.or {X : Cx} {f : Value} {r r' : List V → Hp → VK → Prop} (a : CallR X f r) (b : CallR X f r') : CallR X f (fun xs H Q => r xs H Q ∨ r' xs H Q) := by
  intro pins s σ H xs us Q I rv q
  rcases q with q | q
  · exact a pins s σ H xs us Q I rv q
  · exact b pins s σ H xs us Q I rv q
def rLenD : List V → Hp → VK → Prop := fun xs H Q => ∃ a kvs, xs = [V.ref a] ∧ Rd H a (.dK kvs) ∧ Q (.int (kvs.length : Nat)) H
theorem call_lenDR {X : Cx} : CallR X (.builtin "len") rLenD := by
  intro pins s σ H xs us Q I r q
  obtain ⟨a, kvs, e, ha, q⟩ := q
  subst e
  obtain ⟨u, e, ru⟩ := vals1 r
  subst e
  cases ru
  exact d_len I ha fun t s' I' => ⟨.int kvs.length, H, I', ⟨t, rfl⟩, q⟩
def rLenE (K : PySem.W.Frag) : List V → Hp → VK → Prop := fun xs H Q => (∃ x n, xs = [x] ∧ LenV K x H n ∧ Q (.int (n : Nat)) H) ∨ rLenD xs H Q
theorem call_lenE {X : Cx} : CallR X (.builtin "len") (rLenE X.K) := call_len.or call_lenDR
theorem boolsD_ok {K : PySem.W.Frag} {A : Addr → Prop} : ∀ {ds : List D} {vs : List V} {bs : List Bool}, RepDs K H A ds vs → boolsD ds = some bs → vs = bs.map V.bl
  | [], vs, bs, r, e => by cases (show vs = [] from r); cases (Option.some.inj e); rfl
  | x :: xs, vs, bs, r, e => by
    obtain ⟨v, t, e1, r1, r2⟩ := r
    cases x <;> first | (cases e; done) | skip
    rename_i b
    have e : (boolsD xs).map (b :: ·) = some bs := e
    cases hb : boolsD xs with
    | none => rw [hb] at e; cases e
    | some cs =>
      rw [hb] at e
      cases (Option.some.inj e)
      rw [e1, show v = V.bl b from r1, boolsD_ok r2 hb]
      rfl
theorem intsD_ok {K : PySem.W.Frag} {A : Addr → Prop} : ∀ {ds : List D} {vs : List V} {bs : List Int}, RepDs K H A ds vs → intsD ds = some bs → vs = bs.map V.int
  | [], vs, bs, r, e => by cases (show vs = [] from r); cases (Option.some.inj e); rfl
  | x :: xs, vs, bs, r, e => by
    obtain ⟨v, t, e1, r1, r2⟩ := r
    cases x <;> first | (cases e; done) | skip
    rename_i b
    have e : (intsD xs).map (b :: ·) = some bs := e
    cases hb : intsD xs with
    | none => rw [hb] at e; cases e
    | some cs =>
      rw [hb] at e
      cases (Option.some.inj e)
      rw [e1, show v = V.int b from r1, intsD_ok r2 hb]
      rfl
theorem fold_min : ∀ (xs : List Int) (x : Int), (xs.foldl (fun a b => if b < a then b else a) x ∈ x :: xs) ∧ ∀ y ∈ x :: xs, xs.foldl (fun a b => if b < a then b else a) x ≤ y
  | [], x => ⟨List.mem_singleton.mpr rfl, fun y hy => by rw [List.mem_singleton.mp hy]; exact Int.le_refl _⟩
  | z :: zs, x => by
    obtain ⟨a, b⟩ := fold_min zs (if z < x then z else x)
    show (List.foldl _ (if z < x then z else x) zs ∈ _) ∧ _
    refine ⟨?_, fun y hy => ?_⟩
    · rcases List.mem_cons.mp a with e | e
      · rw [e]; split <;> simp
      · exact List.mem_cons_of_mem _ (List.mem_cons_of_mem _ e)
    · have h0 := b _ List.mem_cons_self
      show List.foldl _ (if z < x then z else x) zs ≤ y
      rcases List.mem_cons.mp hy with e | hy
      · subst e; exact Int.le_trans h0 (by split <;> omega)
      · rcases List.mem_cons.mp hy with e | hy
        · subst e; exact Int.le_trans h0 (by split <;> omega)
        · exact b y (List.mem_cons_of_mem _ hy)
theorem fold_max : ∀ (xs : List Int) (x : Int), (xs.foldl (fun a b => if a < b then b else a) x ∈ x :: xs) ∧ ∀ y ∈ x :: xs, y ≤ xs.foldl (fun a b => if a < b then b else a) x
  | [], x => ⟨List.mem_singleton.mpr rfl, fun y hy => by rw [List.mem_singleton.mp hy]; exact Int.le_refl _⟩
  | z :: zs, x => by
    obtain ⟨a, b⟩ := fold_max zs (if x < z then z else x)
    show (List.foldl _ (if x < z then z else x) zs ∈ _) ∧ _
    refine ⟨?_, fun y hy => ?_⟩
    · rcases List.mem_cons.mp a with e | e
      · rw [e]; split <;> simp
      · exact List.mem_cons_of_mem _ (List.mem_cons_of_mem _ e)
    · have h0 := b _ List.mem_cons_self
      show y ≤ List.foldl _ (if x < z then z else x) zs
      rcases List.mem_cons.mp hy with e | hy
      · subst e; exact Int.le_trans (by split <;> omega) h0
      · rcases List.mem_cons.mp hy with e | hy
        · subst e; exact Int.le_trans (by split <;> omega) h0
        · exact b y (List.mem_cons_of_mem _ hy)
theorem minL_is {ns : List Int} {m k : Int} (e : minL ns = some k) (h1 : m ∈ ns) (h2 : ∀ y, y ∈ ns → m ≤ y) : m = k := by
  cases ns with
  | nil => cases e
  | cons x xs =>
    cases (Option.some.inj e)
    obtain ⟨a, b⟩ := fold_min xs x
    exact Int.le_antisymm (h2 _ a) (b m h1)
theorem maxL_is {ns : List Int} {m k : Int} (e : maxL ns = some k) (h1 : m ∈ ns) (h2 : ∀ y, y ∈ ns → y ≤ m) : m = k := by
  cases ns with
  | nil => cases e
  | cons x xs =>
    cases (Option.some.inj e)
    obtain ⟨a, b⟩ := fold_max xs x
    exact Int.le_antisymm (b m h1) (h2 _ a)
theorem minL_pos {ns : List Int} {k : Int} (e : minL ns = some k) : 0 < ns.length := by
  cases ns with
  | nil => cases e
  | cons x xs => exact Nat.succ_pos _
theorem maxL_pos {ns : List Int} {k : Int} (e : maxL ns = some k) : 0 < ns.length := by
  cases ns with
  | nil => cases e
  | cons x xs => exact Nat.succ_pos _

/-- what is handed to a built-in, read -/
def RdDs (K : PySem.W.Frag) (H : Hp) (A : Addr → Prop) : List D → List V → Prop
  | [], vs => vs = []
  | d :: ds, vs => ∃ v r, vs = v :: r ∧ RdD K H A d v ∧ RdDs K H A ds r
theorem rds_ok (R : Rel C σ H ρ h) : ∀ {xs : List Val} {vs : List V} {ds : List D}, RepVs C σ ρ H xs vs → rds ρ h xs = some ds → RdDs C.K H (Av C σ ρ) ds vs
  | [], vs, ds, r, e => by cases (show vs = [] from r); cases (Option.some.inj e); rfl
  | x :: xs, vs, ds, r, e => by
    obtain ⟨v, t, e1, r1, r2⟩ := r
    unfold rds at e
    cases h1 : rd ρ h x with
    | none => rw [h1] at e; cases e
    | some d =>
      cases h2 : rds ρ h xs with
      | none => rw [h1, h2] at e; cases e
      | some ds' =>
        rw [h1, h2] at e
        cases (Option.some.inj e)
        exact ⟨v, t, e1, rd_ok R r1 h1, rds_ok R r2 h2⟩
def rTup (K : PySem.W.Frag) : List V → Hp → VK → Prop := fun xs H Q => ∃ p ys, xs = [V.ref p] ∧ ((SqL K H p ys ∧ ∀ (l : Addr), H l = none → Q (V.ref l) (upd H l (HO.tup ys))) ∨ SqT K H p ys ∧ Q (V.ref p) H)
def rLst (K : PySem.W.Frag) : List V → Hp → VK → Prop := fun xs H Q => ∃ p ys, xs = [V.ref p] ∧ (SqL K H p ys ∨ SqT K H p ys) ∧ ∀ (l : Addr), H l = none → Q (V.ref l) (upd H l (HO.lst ys))
def rLstD : List V → Hp → VK → Prop := fun xs H Q => ∃ (a : Addr) (kvs : List (Key × V)), xs = [.ref a] ∧ Rd H a (.dK kvs) ∧ ∀ p, H p = none → Q (.ref p) (upd H p (.lst (kvs.map fun kv => kV kv.1)))
def rLstE (K : PySem.W.Frag) : List V → Hp → VK → Prop := fun vs H Q => rLst K vs H Q ∨ rListS vs H Q ∨ rLstD vs H Q
theorem call_listE {X : Cx} (hc : X.calm = true) : CallR X (.type "list") (rLstE X.K) := call_list_of.or ((cr_listS hc).or (call_listD hc))
theorem chr_ok {x : Str} (h : PyData.strOk x = true) {c : Nat} (hc : c ∈ x.cps.toList) : PyData.strOk ⟨#[c]⟩ = true ∧ (⟨#[c]⟩ : Str).length ≤ sizeLine := by
  have h : x.cps.all (· < 0x110000) = true := h
  rw [← Array.all_toList, List.all_eq_true] at h
  refine ⟨?_, by show 1 ≤ sizeLine; decide⟩
  show (#[c] : Array Nat).all (· < 0x110000) = true
  rw [← Array.all_toList]
  simpa using h c hc
theorem chars_reps {K : PySem.W.Frag} {A : Addr → Prop} : ∀ {cs : List Nat}, (∀ c ∈ cs, PyData.strOk ⟨#[c]⟩ = true ∧ (⟨#[c]⟩ : Str).length ≤ sizeLine) → RepDs K H A (cs.map fun c => .str ⟨#[c]⟩) (cs.map fun c => V.str ⟨#[c]⟩)
  | [], _ => rfl
  | c :: cs, h => ⟨_, _, rfl, ⟨rfl, h c List.mem_cons_self⟩, chars_reps fun c hc => h c (List.mem_cons_of_mem _ hc)⟩
theorem keys_reps {K : PySem.W.Frag} {A : Addr → Prop} : ∀ {ks : List Key}, ks.all keyOkB = true → RepDs K H A (ks.map kD) (ks.map kV)
  | [], _ => rfl
  | k :: ks, h => by
    rw [List.all_cons, Bool.and_eq_true] at h
    refine ⟨_, _, rfl, ?_, keys_reps h.2⟩
    cases k with
    | inl i => rfl
    | inr x =>
      have h1 : (PyData.strOk x && decide (x.length ≤ sizeLine)) = true := h.1
      rw [Bool.and_eq_true, decide_eq_true_eq] at h1
      exact ⟨rfl, h1⟩
def rMin2 : List V → Hp → VK → Prop := fun xs H Q => ∃ i j, xs = [V.int i, V.int j] ∧ Q (V.int (if j < i then j else i)) H
def rMax2 : List V → Hp → VK → Prop := fun xs H Q => ∃ i j, xs = [V.int i, V.int j] ∧ Q (V.int (if j > i then j else i)) H
def rAbs : List V → Hp → VK → Prop := fun xs H Q => ∃ i, xs = [V.int i] ∧ Q (V.int (if i < 0 then -i else i)) H
def rInt1 : List V → Hp → VK → Prop := fun xs H Q => (∃ i, xs = [V.int i] ∧ Q (V.int i) H) ∨ ∃ k, xs = [V.bl k] ∧ Q (V.int (if k = true then 1 else 0)) H
def rDivm : List V → Hp → VK → Prop := fun xs H Q => ∃ i j, xs = [V.int i, V.int j] ∧ CDiv i j ∧ ∀ (p : Addr), H p = none → Q (V.ref p) (upd H p (HO.tup [V.int (i / j), V.int (i % j)]))
/-! sums, the least and the greatest of a tuple of ints -/
def rSumT (K : PySem.W.Frag) : List V → Hp → VK → Prop := fun vs H Q => ∃ (a : Addr) (ns : List Int), vs = [V.ref a] ∧ SqT K H a (ns.map V.int) ∧ Q (.int ns.sum) H
def rMaxT (K : PySem.W.Frag) : List V → Hp → VK → Prop := fun vs H Q => ∃ (a : Addr) (ns : List Int), vs = [V.ref a] ∧ SqT K H a (ns.map V.int) ∧ 0 < ns.length ∧ ∀ m, m ∈ ns → (∀ y, y ∈ ns → y ≤ m) → Q (.int m) H
def rMinT (K : PySem.W.Frag) : List V → Hp → VK → Prop := fun vs H Q => ∃ (a : Addr) (ns : List Int), vs = [V.ref a] ∧ SqT K H a (ns.map V.int) ∧ 0 < ns.length ∧ ∀ m, m ∈ ns → (∀ y, y ∈ ns → m ≤ y) → Q (.int m) H
theorem cr_sumT {X : Cx} (hc : X.calm = true) : CallR X (.builtin "sum") (rSumT X.K) := by
  intro pins s σ H vs us Q I r h
  obtain ⟨a, ns, rfl, hs, q⟩ := h
  obtain ⟨its, rv, hl, _⟩ := I.tuple hs
  rw [Vals.ref1 r]
  have hi := rv.ints
  obtain ⟨xs, e⟩ := hi.allInts.items
  have hn : numsOf (intItems xs).toList = ns := by rw [← e]; exact hi.numsOf
  rw [nums_intItems] at hn
  rw [e] at hl
  refine PySem.W.ktm_sumG (I.ok.hd hc) hl fun h' tk t' hk => ?_
  rw [preSum_eq, List.take_of_length_le (by simp), hn]
  exact ⟨.int _, H, I.kept hk, ⟨_, rfl⟩, q⟩
section
variable {prog : Program} {w : World} {A : Around} {E : Value → Shared → Prop} {s : Shared} {t : Addr} {xs : Array (Int × Tok)}
theorem tup_kept {h' : Heap} {o : Obj} (hk : ∀ b u, b ∉ [s.heap.objs.size] → (s.heap.push o).get? b = some u → h'.get? b = some u) : ∀ b u, s.heap.get? b = some u → h'.get? b = some u := fun b u e => by
  refine hk b u (fun hm => ?_) (Heap.get?_push_of_some _ e)
  exact absurd (Heap.lt_size e) ((List.mem_singleton.mp hm) ▸ Nat.lt_irrefl _)
theorem max_intTup {Q : Value → Shared → Prop} (hh : A.handled = none) (ht : s.heap.IsTuple t (intItems xs)) (hne : 0 < xs.size)
    (h : ∀ v h' tk, (intItems xs)[argBest (fun i j => decide (numAt xs i > numAt xs j)) (xs.size - 1)]? = some v → (∀ b o, s.heap.get? b = some o → h'.get? b = some o) → Q v { s with heap := h', toks := tk }) :
    wpAny (model prog w) A (call (.builtin "max") [.ref t]) Q E s := by
  obtain ⟨o, ho, hc, n, hd⟩ := id ht
  have hnt : t ≠ s.heap.objs.size := Nat.ne_of_lt (Heap.lt_size ho)
  refine call_max_walk (wpAny_pyIter_tuple ht ?_)
  refine ⟨s.heap.objs.size, _, _, _, _, _, _, rfl, Walks.tuple (A := A.in1) hh s.heap.objs.size t hnt (intItems xs), ⟨⟨_, Heap.get?_push_size _ rfl, rfl, rfl⟩, ht.at fun o e => Heap.get?_push_of_some _ e⟩, fun b hb => ?_, by simpa [intItems] using hne, CmpOf.ints_gt (numAt xs) (fun _ _ => intItems_at), fun v h' tk hP hk => ?_⟩
  · rcases List.mem_cons.mp hb with rfl | hb
    · exact Heap.lt_size (Heap.get?_push_size _ rfl)
    · obtain rfl := List.mem_singleton.mp hb
      exact Heap.lt_size (Heap.get?_push_of_some _ ho)
  · exact h v h' tk (by simpa [intItems] using hP) (tup_kept hk)
theorem min_intTup {Q : Value → Shared → Prop} (hh : A.handled = none) (ht : s.heap.IsTuple t (intItems xs)) (hne : 0 < xs.size)
    (h : ∀ v h' tk, (intItems xs)[argBest (fun i j => decide (numAt xs i < numAt xs j)) (xs.size - 1)]? = some v → (∀ b o, s.heap.get? b = some o → h'.get? b = some o) → Q v { s with heap := h', toks := tk }) :
    wpAny (model prog w) A (call (.builtin "min") [.ref t]) Q E s := by
  obtain ⟨o, ho, hc, n, hd⟩ := id ht
  have hnt : t ≠ s.heap.objs.size := Nat.ne_of_lt (Heap.lt_size ho)
  refine call_min_walk (wpAny_pyIter_tuple ht ?_)
  refine ⟨s.heap.objs.size, _, _, _, _, _, _, rfl, Walks.tuple (A := A.in1) hh s.heap.objs.size t hnt (intItems xs), ⟨⟨_, Heap.get?_push_size _ rfl, rfl, rfl⟩, ht.at fun o e => Heap.get?_push_of_some _ e⟩, fun b hb => ?_, by simpa [intItems] using hne, CmpOf.ints_lt (numAt xs) (fun _ _ => intItems_at), fun v h' tk hP hk => ?_⟩
  · rcases List.mem_cons.mp hb with rfl | hb
    · exact Heap.lt_size (Heap.get?_push_size _ rfl)
    · obtain rfl := List.mem_singleton.mp hb
      exact Heap.lt_size (Heap.get?_push_of_some _ ho)
  · exact h v h' tk (by simpa [intItems] using hP) (tup_kept hk)
end
theorem cr_maxT {X : Cx} (hc : X.calm = true) : CallR X (.builtin "max") (rMaxT X.K) := by
  intro pins s σ H vs us Q I r h
  obtain ⟨a, ns, rfl, hs, hne, q⟩ := h
  obtain ⟨its, rv, hl, _⟩ := I.tuple hs
  rw [Vals.ref1 r]
  have hi := rv.ints
  obtain ⟨xs, e⟩ := hi.allInts.items
  have hn : numsOf (intItems xs).toList = ns := by rw [← e]; exact hi.numsOf
  rw [nums_intItems] at hn
  subst hn
  rw [e] at hl
  have hsz : 0 < xs.size := by simpa using hne
  refine max_intTup (I.ok.hd hc) hl hsz fun v h' tk hv hk => ?_
  obtain ⟨t, rfl⟩ := intItems_at hv
  obtain ⟨h1, h2⟩ := argBest_gt (numAt xs) (xs.size - 1)
  refine ⟨.int _, H, I.kept hk, ⟨_, rfl⟩, q _ ?_ fun a ha => ?_⟩
  · rw [numAt_eq]; exact PySem.getD_mem (by rw [List.length_map, Array.length_toList]; omega)
  · obtain ⟨j, hj, rfl⟩ := mem_getD ha
    rw [List.length_map, Array.length_toList] at hj
    rw [← numAt_eq]; exact h2 j (by omega)
theorem cr_minT {X : Cx} (hc : X.calm = true) : CallR X (.builtin "min") (rMinT X.K) := by
  intro pins s σ H vs us Q I r h
  obtain ⟨a, ns, rfl, hs, hne, q⟩ := h
  obtain ⟨its, rv, hl, _⟩ := I.tuple hs
  rw [Vals.ref1 r]
  have hi := rv.ints
  obtain ⟨xs, e⟩ := hi.allInts.items
  have hn : numsOf (intItems xs).toList = ns := by rw [← e]; exact hi.numsOf
  rw [nums_intItems] at hn
  subst hn
  rw [e] at hl
  have hsz : 0 < xs.size := by simpa using hne
  refine min_intTup (I.ok.hd hc) hl hsz fun v h' tk hv hk => ?_
  obtain ⟨t, rfl⟩ := intItems_at hv
  obtain ⟨h1, h2⟩ := argBest_lt (numAt xs) (xs.size - 1)
  refine ⟨.int _, H, I.kept hk, ⟨_, rfl⟩, q _ ?_ fun a ha => ?_⟩
  · rw [numAt_eq]; exact PySem.getD_mem (by rw [List.length_map, Array.length_toList]; omega)
  · obtain ⟨j, hj, rfl⟩ := mem_getD ha
    rw [List.length_map, Array.length_toList] at hj
    rw [← numAt_eq]; exact h2 j (by omega)
/-- what each built-in asks -/
def rBi (K : PySem.W.Frag) : Blt → List V → Hp → VK → Prop
  | .len => rLenE K | .all => rAll K | .any => rAny K | .sum => fun vs H Q => rSum K vs H Q ∨ rSumT K vs H Q | .min1 => fun vs H Q => rMin K vs H Q ∨ rMinT K vs H Q | .max1 => fun vs H Q => rMax K vs H Q ∨ rMaxT K vs H Q
  | .min2 => rMin2 | .max2 => rMax2 | .abs => rAbs | .int => rInt1 | .tuple => rTup K | .list => rLstE K
  | .divmod => rDivm | .sorted => fun _ _ _ => False
def vBi : Blt → Value
  | .len => .builtin "len" | .all => .builtin "all" | .any => .builtin "any" | .sum => .builtin "sum" | .min1 => .builtin "min" | .max1 => .builtin "max"
  | .min2 => .builtin "min" | .max2 => .builtin "max" | .abs => .builtin "abs" | .int => .type "int" | .tuple => .type "tuple" | .list => .type "list"
  | .divmod => .builtin "divmod" | .sorted => .builtin "sorted"
theorem call_bi {X : Cx} (hc : X.calm = true) : ∀ b : Blt, CallR X (vBi b) (rBi X.K b)
  | .len => call_lenE | .all => cr_all hc | .any => cr_any hc | .sum => (cr_sum hc).or (cr_sumT hc) | .min1 => (cr_min hc).or (cr_minT hc) | .max1 => (cr_max hc).or (cr_maxT hc)
  | .min2 => call_min2 hc | .max2 => call_max2 hc | .abs => call_abs | .int => call_int1 | .tuple => call_tuple_of | .list => call_listE hc
  | .divmod => call_divmod | .sorted => fun _ _ _ _ _ _ _ _ _ q => q.elim
theorem s_bi {b : Blt} {xs : List Val} {vs : List V} {Q : VK} (R : Rel C σ H ρ h) (rx : RepVs C σ ρ H xs vs) (q : tV C (biM b xs) ρ h σ H Q) : rBi C.K b vs H Q := by
  have main : (∀ ys, b = .tuple → xs ≠ [.kon ys]) → (biM b xs = fun ρ h => (match rds ρ h xs with
    | some ds => (match biD b ds with
      | some c => .ok (.d c) ρ h
      | none => .bad)
    | none => .bad)) → rBi C.K b vs H Q := fun nk em => by
    obtain ⟨w0, ρ0, h0, e0⟩ := q.get
    have e1 := e0
    rw [em] at e1
    cases hd : rds ρ h xs with
    | none => simp only [hd] at e1; cases e1
    | some ds =>
      simp only [hd] at e1
      cases hb : biD b ds with
      | none => simp only [hb] at e1; cases e1
      | some c =>
        simp only [hb] at e1
        injection e1 with z1 z2 z3
        subst z1; subst z2; subst z3
        have rr := rds_ok R rx hd
        unfold biD at hb
        split at hb
        · -- len of a list
          cases (Option.some.inj hb)
          obtain ⟨v, t, ev, r1, r2⟩ := rr
          cases (show t = [] from r2)
          obtain ⟨p, us, eu, _, s, rs⟩ := r1.lst
          subst ev; subst eu
          exact .inl ⟨_, us.length, rfl, .inl ⟨us, s, rfl⟩, q.same R e0 (by show _ = _; rw [rs.length])⟩
        · cases (Option.some.inj hb)
          obtain ⟨v, t, ev, r1, r2⟩ := rr
          cases (show t = [] from r2)
          obtain ⟨p, us, eu, s, rs⟩ := r1.tup
          subst ev; subst eu
          exact .inl ⟨_, us.length, rfl, .inr ⟨us, s, rfl⟩, q.same R e0 (by show _ = _; rw [rs.length])⟩
        · cases (Option.some.inj hb)
          obtain ⟨v, t, ev, r1, r2⟩ := rr
          cases (show t = [] from r2)
          obtain ⟨q1, q2, q3⟩ := r1
          subst ev; subst q1
          exact .inl ⟨_, _, rfl, ⟨q3, rfl⟩, q.same R e0 rfl⟩
        · cases (Option.some.inj hb)
          obtain ⟨v, t, ev, r1, r2⟩ := rr
          cases (show t = [] from r2)
          obtain ⟨p, kvs, eu, hR, ek, rs⟩ := r1
          subst ev; subst eu; subst ek
          exact .inr ⟨p, kvs, rfl, hR, q.same R e0 (by show _ = _; rw [List.length_map])⟩
        · rename_i ds0
          obtain ⟨v, t, ev, r1, r2⟩ := rr
          cases (show t = [] from r2)
          obtain ⟨p, us, eu, _, s, rs⟩ := r1.lst
          cases hbs : boolsD ds0 with
          | none => rw [hbs] at hb; cases hb
          | some bs =>
            rw [hbs] at hb
            cases (Option.some.inj hb)
            subst ev; subst eu
            exact ⟨p, bs, rfl, by rw [← boolsD_ok rs hbs]; exact s, q.same R e0 rfl⟩
        · rename_i ds0
          obtain ⟨v, t, ev, r1, r2⟩ := rr
          cases (show t = [] from r2)
          obtain ⟨p, us, eu, _, s, rs⟩ := r1.lst
          cases hbs : boolsD ds0 with
          | none => rw [hbs] at hb; cases hb
          | some bs =>
            rw [hbs] at hb
            cases (Option.some.inj hb)
            subst ev; subst eu
            exact ⟨p, bs, rfl, by rw [← boolsD_ok rs hbs]; exact s, q.same R e0 rfl⟩
        · rename_i ds0
          obtain ⟨v, t, ev, r1, r2⟩ := rr
          cases (show t = [] from r2)
          obtain ⟨p, us, eu, _, s, rs⟩ := r1.lst
          cases hbs : intsD ds0 with
          | none => rw [hbs] at hb; cases hb
          | some bs =>
            rw [hbs] at hb
            cases (Option.some.inj hb)
            subst ev; subst eu
            exact .inl ⟨p, bs, rfl, by rw [← intsD_ok rs hbs]; exact s, q.same R e0 rfl⟩
        · rename_i ds0
          obtain ⟨v, t, ev, r1, r2⟩ := rr
          cases (show t = [] from r2)
          obtain ⟨p, us, eu, s, rs⟩ := r1.tup
          cases hbs : intsD ds0 with
          | none => rw [hbs] at hb; cases hb
          | some bs =>
            rw [hbs] at hb
            cases (Option.some.inj hb)
            subst ev; subst eu
            exact .inr ⟨p, bs, rfl, by rw [← intsD_ok rs hbs]; exact s, q.same R e0 rfl⟩
        · rename_i ds0
          obtain ⟨v, t, ev, r1, r2⟩ := rr
          cases (show t = [] from r2)
          obtain ⟨p, us, eu, s, rs⟩ := r1.tup
          cases hbs : intsD ds0 with
          | none => rw [hbs] at hb; cases hb
          | some bs =>
            rw [hbs] at hb
            cases hm : minL bs with
            | none => simp only [Option.bind_some, hm] at hb; cases hb
            | some m0 =>
              simp only [Option.bind_some, hm] at hb
              cases (Option.some.inj hb)
              subst ev; subst eu
              exact .inr ⟨p, bs, rfl, by rw [← intsD_ok rs hbs]; exact s, minL_pos hm, fun m h1 h2 => by rw [minL_is hm h1 h2]; exact q.same R e0 rfl⟩
        · rename_i ds0
          obtain ⟨v, t, ev, r1, r2⟩ := rr
          cases (show t = [] from r2)
          obtain ⟨p, us, eu, s, rs⟩ := r1.tup
          cases hbs : intsD ds0 with
          | none => rw [hbs] at hb; cases hb
          | some bs =>
            rw [hbs] at hb
            cases hm : maxL bs with
            | none => simp only [Option.bind_some, hm] at hb; cases hb
            | some m0 =>
              simp only [Option.bind_some, hm] at hb
              cases (Option.some.inj hb)
              subst ev; subst eu
              exact .inr ⟨p, bs, rfl, by rw [← intsD_ok rs hbs]; exact s, maxL_pos hm, fun m h1 h2 => by rw [maxL_is hm h1 h2]; exact q.same R e0 rfl⟩
        · rename_i ds0
          obtain ⟨v, t, ev, r1, r2⟩ := rr
          cases (show t = [] from r2)
          obtain ⟨p, us, eu, _, s, rs⟩ := r1.lst
          cases hbs : intsD ds0 with
          | none => rw [hbs] at hb; cases hb
          | some bs =>
            rw [hbs] at hb
            cases hm : minL bs with
            | none => simp only [Option.bind_some, hm] at hb; cases hb
            | some m0 =>
              simp only [Option.bind_some, hm] at hb
              cases (Option.some.inj hb)
              subst ev; subst eu
              exact .inl ⟨p, bs, rfl, by rw [← intsD_ok rs hbs]; exact s, minL_pos hm, fun m h1 h2 => by rw [minL_is hm h1 h2]; exact q.same R e0 rfl⟩
        · rename_i ds0
          obtain ⟨v, t, ev, r1, r2⟩ := rr
          cases (show t = [] from r2)
          obtain ⟨p, us, eu, _, s, rs⟩ := r1.lst
          cases hbs : intsD ds0 with
          | none => rw [hbs] at hb; cases hb
          | some bs =>
            rw [hbs] at hb
            cases hm : maxL bs with
            | none => simp only [Option.bind_some, hm] at hb; cases hb
            | some m0 =>
              simp only [Option.bind_some, hm] at hb
              cases (Option.some.inj hb)
              subst ev; subst eu
              exact .inl ⟨p, bs, rfl, by rw [← intsD_ok rs hbs]; exact s, maxL_pos hm, fun m h1 h2 => by rw [maxL_is hm h1 h2]; exact q.same R e0 rfl⟩
        · cases (Option.some.inj hb)
          obtain ⟨v, t, ev, r1, v2, t2, ev2, r2, r3⟩ := rr
          cases (show t2 = [] from r3)
          subst ev; subst ev2
          exact ⟨_, _, by rw [show v = _ from r1, show v2 = _ from r2], q.same R e0 rfl⟩
        · cases (Option.some.inj hb)
          obtain ⟨v, t, ev, r1, v2, t2, ev2, r2, r3⟩ := rr
          cases (show t2 = [] from r3)
          subst ev; subst ev2
          exact ⟨_, _, by rw [show v = _ from r1, show v2 = _ from r2], q.same R e0 rfl⟩
        · cases (Option.some.inj hb)
          obtain ⟨v, t, ev, r1, r2⟩ := rr
          cases (show t = [] from r2)
          subst ev
          exact ⟨_, by rw [show v = _ from r1], q.same R e0 rfl⟩
        · cases (Option.some.inj hb)
          obtain ⟨v, t, ev, r1, r2⟩ := rr
          cases (show t = [] from r2)
          subst ev
          exact .inl ⟨_, by rw [show v = _ from r1], q.same R e0 rfl⟩
        · cases (Option.some.inj hb)
          obtain ⟨v, t, ev, r1, r2⟩ := rr
          cases (show t = [] from r2)
          subst ev
          exact .inr ⟨_, by rw [show v = _ from r1], q.same R e0 rfl⟩
        · cases (Option.some.inj hb)
          obtain ⟨v, t, ev, r1, r2⟩ := rr
          cases (show t = [] from r2)
          obtain ⟨p, us, eu, _, s, rs⟩ := r1.lst
          subst ev; subst eu
          exact ⟨p, us, rfl, .inl ⟨s, fun l n => q.newT R e0 rs n⟩⟩
        · cases (Option.some.inj hb)
          obtain ⟨v, t, ev, r1, r2⟩ := rr
          cases (show t = [] from r2)
          cases xs with
          | nil => cases hd
          | cons x0 xs0 =>
            cases xs0 with
            | cons _ _ =>
              unfold rds at hd
              cases g1 : rd ρ h x0 with
              | none => rw [g1] at hd; cases hd
              | some _ =>
                unfold rds at hd
                rename_i x1 xs1 _
                cases g2 : rd ρ h x1 with
                | none => rw [g1, g2] at hd; cases hd
                | some _ =>
                  cases g3 : rds ρ h xs1 with
                  | none => rw [g1, g2, g3] at hd; cases hd
                  | some _ => rw [g1, g2, g3] at hd; cases hd
            | nil =>
              obtain ⟨v', t', ev', rx0, _⟩ := rx
              rw [ev] at ev'
              injection ev' with ev1 ev2
              subst ev1
              unfold rds at hd
              cases g1 : rd ρ h x0 with
              | none => rw [g1] at hd; cases hd
              | some y0 =>
                rw [g1] at hd
                injection hd with hd
                injection hd with hd1 hd2
                subst hd1
                obtain ⟨p, us, eu, s, rs⟩ := r1.tup
                have rt := rd_tup R rx0 g1 (fun ys z => nk ys rfl (by rw [z]))
                subst ev; subst eu
                exact ⟨p, us, rfl, .inr ⟨s, q.same R e0 rt⟩⟩
        · cases (Option.some.inj hb)
          obtain ⟨v, t, ev, r1, r2⟩ := rr
          cases (show t = [] from r2)
          obtain ⟨p, us, eu, _, s, rs⟩ := r1.lst
          subst ev; subst eu
          exact .inl ⟨p, us, rfl, .inl s, fun l n => q.newL R e0 rs n⟩
        · cases (Option.some.inj hb)
          obtain ⟨v, t, ev, r1, r2⟩ := rr
          cases (show t = [] from r2)
          obtain ⟨p, us, eu, s, rs⟩ := r1.tup
          subst ev; subst eu
          exact .inl ⟨p, us, rfl, .inr s, fun l n => q.newL R e0 rs n⟩
        · cases (Option.some.inj hb)
          obtain ⟨v, t, ev, r1, r2⟩ := rr
          cases (show t = [] from r2)
          obtain ⟨q1, q2, q3⟩ := r1
          subst ev; subst q1
          exact .inr (.inl ⟨_, rfl, q3, fun l n => q.newL R e0 (chars_reps fun c hc => chr_ok q2 hc) n⟩)
        · split at hb
          · rename_i ok
            cases (Option.some.inj hb)
            obtain ⟨v, t, ev, r1, r2⟩ := rr
            cases (show t = [] from r2)
            obtain ⟨p, kvs, eu, hR, ek, rs⟩ := r1
            subst ev; subst eu; subst ek
            refine .inr (.inr ⟨p, kvs, rfl, hR, fun l n => ?_⟩)
            have kr := keys_reps (K := C.K) (H := H) (A := Av C σ ρ) ok
            have em2 : (kvs.map (·.1)).map kV = kvs.map fun kv => kV kv.1 := by rw [List.map_map]; rfl
            rw [em2] at kr
            exact q.newL R e0 kr n
          · cases hb
        · split at hb
          · cases (Option.some.inj hb)
            obtain ⟨v, t, ev, r1, v2, t2, ev2, r2, r3⟩ := rr
            cases (show t2 = [] from r3)
            subst ev; subst ev2
            rename_i hc
            exact ⟨_, _, by rw [show v = _ from r1, show v2 = _ from r2], hc, fun p n => q.newT R e0 ⟨_, _, rfl, rfl, _, _, rfl, rfl, rfl⟩ n⟩
          · cases hb
        · cases hb
  by_cases h1 : ∃ ns, b = .len ∧ xs = [.scr ns]
  · obtain ⟨ns, e1, e2⟩ := h1
    subst e1; subst e2
    obtain ⟨v, t, ev, ⟨a, ea, hf⟩, r2⟩ := rx
    cases (show t = [] from r2)
    subst ev; subst ea
    refine .inl ⟨_, (ns.map V.int).length, rfl, .inl ⟨_, hf.sq, rfl⟩, ?_⟩
    rw [List.length_map]
    exact q.same (w := .d (.int ns.length)) R rfl rfl
  · by_cases h2 : ∃ ys, b = .tuple ∧ xs = [.kon ys]
    · obtain ⟨ys, e1, e2⟩ := h2
      subst e1; subst e2
      obtain ⟨_, _, _, e⟩ := q.get
      cases e
    · refine main (fun ys e1 e2 => h2 ⟨ys, e1, e2⟩) ?_
      unfold biM
      split
      · rename_i ns
        exact absurd ⟨ns, rfl, rfl⟩ h1
      · rename_i ys
        exact absurd ⟨ys, rfl, rfl⟩ h2
      · rfl
end
end EV

set_option maxRecDepth 100000
set_option maxHeartbeats 4000000
/-! EvF2: sorted, repr, dict of pairs; backwards; dict(zip): over values. -/
namespace EV
open PySem PySem.Spec PyProof.Rows L2

/-! ### insertion sort -/
section
variable {α : Type} {lt : α → α → Bool}
theorem insD_perm (x : α) : ∀ l : List α, (insD lt x l).Perm (x :: l)
  | [] => List.Perm.refl _
  | y :: r => by
    unfold insD
    by_cases h : lt y x = true
    · rw [if_pos h]
      exact ((insD_perm x r).cons y).trans (List.Perm.swap x y r)
    · rw [if_neg h]
theorem isort_perm : ∀ l : List α, (isort lt l).Perm l
  | [] => List.Perm.refl _
  | x :: r => (insD_perm x _).trans ((isort_perm r).cons x)
theorem insD_srtd (O : SrtO.Swo lt) (x : α) : ∀ l : List α, SrtO.Srtd lt l → SrtO.Srtd lt (insD lt x l)
  | [], _ => List.pairwise_singleton _ _
  | y :: r, h => by
    obtain ⟨h1, h2⟩ := List.pairwise_cons.mp h
    unfold insD
    by_cases q : lt y x = true
    · rw [if_pos q]
      refine List.pairwise_cons.mpr ⟨fun z hz => ?_, insD_srtd O x r h2⟩
      rcases List.mem_cons.mp ((insD_perm x r).mem_iff.mp hz) with e | hz
      · rw [e]; exact O.asym _ _ q
      · exact h1 z hz
    · rw [if_neg q]
      refine List.pairwise_cons.mpr ⟨fun z hz => ?_, h⟩
      have q : lt y x = false := by cases e : lt y x with | true => exact absurd e q | false => rfl
      rcases List.mem_cons.mp hz with e | hz
      · rw [e]; exact q
      · exact O.tr _ _ _ q (h1 z hz)
theorem isort_srtd (O : SrtO.Swo lt) : ∀ l : List α, SrtO.Srtd lt (isort lt l)
  | [] => List.Pairwise.nil
  | x :: r => insD_srtd O x _ (isort_srtd O r)
theorem srt_uniq : ∀ {l m : List α}, l.Perm m → SrtO.Srtd lt l → SrtO.Srtd lt m → (∀ x ∈ l, ∀ y ∈ l, lt x y = false → lt y x = false → x = y) → l = m
  | [], m, p, _, _, _ => (List.Perm.eq_nil p.symm).symm
  | x :: l, [], p, _, _, _ => absurd p.length_eq (by simp)
  | x :: l, y :: m, p, hl, hm, tt => by
    have hy : y ∈ x :: l := p.mem_iff.mpr List.mem_cons_self
    have hx : x ∈ y :: m := p.mem_iff.mp List.mem_cons_self
    have e : x = y := by
      rcases List.mem_cons.mp hy with e | hy'
      · exact e.symm
      · rcases List.mem_cons.mp hx with e | hx'
        · exact e
        · exact tt x List.mem_cons_self y hy ((List.pairwise_cons.mp hm).1 x hx') ((List.pairwise_cons.mp hl).1 y hy')
    subst e
    rw [srt_uniq (p.cons_inv) (List.pairwise_cons.mp hl).2 (List.pairwise_cons.mp hm).2 fun a ha b hb => tt a (List.mem_cons_of_mem _ ha) b (List.mem_cons_of_mem _ hb)]
end
theorem ltD_swo : SrtO.Swo ltD := ltKs_swo kyD
section
variable {K : PySem.W.Frag} {H : Hp} {A : Addr → Prop}
/-- a rearrangement below is one above -/
theorem RepDs.perm {ds : List D} : ∀ {vs us : List V}, vs.Perm us → RepDs K H A ds vs → ∃ es, es.Perm ds ∧ RepDs K H A es us := by
  intro vs us p
  induction p generalizing ds with
  | nil => exact fun r => ⟨ds, List.Perm.refl _, r⟩
  | cons x _ ih =>
    intro r
    cases ds with
    | nil => cases (show _ = [] from r)
    | cons d ds =>
      obtain ⟨v, t, e, r1, r2⟩ := r
      injection e with e1 e2
      subst e1; subst e2
      obtain ⟨es, p1, r3⟩ := ih r2
      exact ⟨d :: es, p1.cons d, _, _, rfl, r1, r3⟩
  | swap x y l =>
    intro r
    cases ds with
    | nil => cases (show _ = [] from r)
    | cons d ds =>
      obtain ⟨v, t, e, r1, r2⟩ := r
      injection e with e1 e2
      subst e1; subst e2
      cases ds with
      | nil => cases (show _ = [] from r2)
      | cons d2 ds =>
        obtain ⟨v2, t2, e, r3, r4⟩ := r2
        injection e with e1 e2
        subst e1; subst e2
        exact ⟨d2 :: d :: ds, List.Perm.swap d d2 ds, _, _, rfl, r3, _, _, rfl, r1, r4⟩
  | trans _ _ ih1 ih2 =>
    intro r
    obtain ⟨es, p1, r1⟩ := ih1 r
    obtain ⟨fs, p2, r2⟩ := ih2 r1
    exact ⟨fs, p2.trans p1, r2⟩
theorem all_int {xs : List D} (h : xs.all isIntD = true) : ∃ ns : List Int, xs = ns.map .int := by
  induction xs with
  | nil => exact ⟨[], rfl⟩
  | cons x r ih =>
    rw [List.all_cons, Bool.and_eq_true] at h
    obtain ⟨ns, e⟩ := ih h.2
    cases x <;> first | (cases h.1; done) | skip
    exact ⟨_ :: ns, by rw [e]; rfl⟩
theorem all_str {xs : List D} (h : xs.all isStrD = true) : ∃ ns : List Str, xs = ns.map .str := by
  induction xs with
  | nil => exact ⟨[], rfl⟩
  | cons x r ih =>
    rw [List.all_cons, Bool.and_eq_true] at h
    obtain ⟨ns, e⟩ := ih h.2
    cases x <;> first | (cases h.1; done) | skip
    exact ⟨_ :: ns, by rw [e]; rfl⟩
theorem reps_strs : ∀ {ns : List Str} {vs : List V}, RepDs K H A (ns.map .str) vs → vs = ns.map V.str ∧ ∀ n ∈ ns, PyData.strOk n = true ∧ n.length ≤ sizeLine
  | [], vs, r => ⟨r, fun _ h => by cases h⟩
  | n :: ns, vs, r => by
    obtain ⟨v, t, e, r1, r2⟩ := r
    obtain ⟨q1, q2⟩ := reps_strs r2
    obtain ⟨r1, r3⟩ := r1
    refine ⟨by rw [e, r1, q1]; rfl, fun m hm => ?_⟩
    rcases List.mem_cons.mp hm with z | z
    · rw [z]; exact r3
    · exact q2 m z
theorem strs_reps : ∀ {ns : List Str}, (∀ n ∈ ns, PyData.strOk n = true ∧ n.length ≤ sizeLine) → RepDs K H A (ns.map .str) (ns.map V.str)
  | [], _ => rfl
  | n :: ns, h => ⟨_, _, rfl, ⟨rfl, h n List.mem_cons_self⟩, strs_reps fun m hm => h m (List.mem_cons_of_mem _ hm)⟩
theorem lt1_int (a b : Int) : ltD (.int a) (.int b) = decide (a < b) := by
  show (if (Sum.inl a : Key) = .inl b then ltKs [] [] else ltK1 (.inl a) (.inl b)) = _
  by_cases h : a = b
  · subst h; rw [if_pos rfl]; exact (decide_eq_false (Int.lt_irrefl a)).symm
  · rw [if_neg (fun z => h (Sum.inl.inj z))]; rfl
theorem lt1_str (a b : Str) : ltD (.str a) (.str b) = decide (a.cps.toList < b.cps.toList) := by
  show (if (Sum.inr a : Key) = .inr b then ltKs [] [] else ltK1 (.inr a) (.inr b)) = _
  by_cases h : a = b
  · subst h; rw [if_pos rfl]; exact (decide_eq_false (List.lt_irrefl _)).symm
  · rw [if_neg (fun z => h (Sum.inr.inj z))]; rfl
/-- what sorted sees tells the datum -/
def kyOk : D → Bool
  | .int _ => true
  | .str _ => true
  | .tup xs => (keyDs xs).isSome
  | _ => false
theorem keyD_inj {a b : D} {k : Key} (h1 : keyD a = some k) (h2 : keyD b = some k) : a = b := by
  cases a <;> first | (cases h1; done) | skip
  all_goals cases b <;> first | (cases h2; done) | skip
  all_goals (cases h1; cases h2 <;> rfl)
theorem keyDs_inj : ∀ {a b : List D} {k : List Key}, keyDs a = some k → keyDs b = some k → a = b
  | [], [], _, _, _ => rfl
  | [], y :: b, k, h1, h2 => by
    cases h1
    unfold keyDs at h2
    split at h2 <;> cases h2
  | x :: a, [], k, h1, h2 => by
    cases h2
    unfold keyDs at h1
    split at h1 <;> cases h1
  | x :: a, y :: b, k, h1, h2 => by
    have h1 : (match keyD x, keyDs a with
      | some k, some ks => some (k :: ks)
      | _, _ => none) = some k := h1
    have h2 : (match keyD y, keyDs b with
      | some k, some ks => some (k :: ks)
      | _, _ => none) = some k := h2
    cases e1 : keyD x with
    | none => rw [e1] at h1; cases h1
    | some k1 =>
      cases e2 : keyDs a with
      | none => rw [e1, e2] at h1; cases h1
      | some ks1 =>
        rw [e1, e2] at h1
        cases e3 : keyD y with
        | none => rw [e3] at h2; cases h2
        | some k2 =>
          cases e4 : keyDs b with
          | none => rw [e3, e4] at h2; cases h2
          | some ks2 =>
            rw [e3, e4] at h2
            have h1 : some (k1 :: ks1) = some k := h1
            have h2 : some (k2 :: ks2) = some k := h2
            rw [← h2] at h1
            injection h1 with h1
            injection h1 with z1 z2
            subst z1; subst z2
            rw [keyD_inj e1 e3, keyDs_inj e2 e4]
theorem intsD_map : ∀ ns : List Int, intsD (ns.map .int) = some ns
  | [] => rfl
  | n :: ns => by show (intsD (ns.map .int)).map (n :: ·) = _; rw [intsD_map ns]; rfl
theorem tupShp_ok {sh : List Bool} {d : D} (h : tupShp sh d = true) : ∃ xs ks, d = .tup xs ∧ keyDs xs = some ks ∧ ks.map isS = sh ∧ kyD d = ks := by
  cases d <;> first | (cases h; done) | skip
  rename_i xs
  have h : (match keyDs xs with
    | some ks => decide (ks.map isS = sh)
    | none => false) = true := h
  cases e : keyDs xs with
  | none => rw [e] at h; cases h
  | some ks =>
    rw [e] at h
    exact ⟨xs, ks, rfl, e, of_decide_eq_true h, by show (keyDs xs).getD [] = ks; rw [e]; rfl⟩
theorem sort_total {xs : List D} (h : sortOk xs = true) : ∀ x ∈ xs, ∀ y ∈ xs, ltD x y = false → ltD y x = false → x = y := by
  intro x hx y hy h1 h2
  have ek : kyD x = kyD y := ltKs_total h1 h2
  unfold sortOk at h
  rcases Bool.or_eq_true _ _ |>.mp h with h | h
  · obtain ⟨ns, e⟩ := all_int h
    rw [e] at hx hy
    obtain ⟨a, _, rfl⟩ := List.mem_map.mp hx
    obtain ⟨b, _, rfl⟩ := List.mem_map.mp hy
    injection ek with ek _
    injection ek with ek
    rw [ek]
  · rcases Bool.or_eq_true _ _ |>.mp h with h | h
    · obtain ⟨ns, e⟩ := all_str (Bool.and_eq_true _ _ |>.mp h).1
      rw [e] at hx hy
      obtain ⟨a, _, rfl⟩ := List.mem_map.mp hx
      obtain ⟨b, _, rfl⟩ := List.mem_map.mp hy
      injection ek with ek _
      injection ek with ek
      rw [ek]
    · cases xs with
      | nil => cases hx
      | cons x0 xs0 =>
        have h := (Bool.and_eq_true _ _ |>.mp h).2
        obtain ⟨as, k1, e1, e2, _, e3⟩ := tupShp_ok (List.all_eq_true.mp h x hx)
        obtain ⟨bs, k2, e4, e5, _, e6⟩ := tupShp_ok (List.all_eq_true.mp h y hy)
        rw [e3, e6] at ek
        rw [e1, e4, keyDs_inj e2 (by rw [ek]; exact e5)]
end

theorem cps_lt (a b : Str) : ltCps a.cps.toList b.cps.toList = decide (a.cps.toList < b.cps.toList) := ltCps_eq _ _
theorem rising_pw : ∀ {r : List Str} {p : Str}, risingS p r = true → (p :: r).Pairwise (fun a b => ltD (.str b) (.str a) = false)
  | [], _, _ => List.pairwise_singleton _ _
  | x :: r, p, h => by
    have h : (!ltCps x.cps.toList p.cps.toList && risingS x r) = true := h
    rw [Bool.and_eq_true, Bool.not_eq_true', cps_lt] at h
    have ih := rising_pw h.2
    have h1 : ltD (.str x) (.str p) = false := by rw [lt1_str]; exact h.1
    refine List.pairwise_cons.mpr ⟨fun z hz => ?_, ih⟩
    rcases List.mem_cons.mp hz with e | hz
    · rw [e]; exact h1
    · exact ltD_swo.tr _ _ _ h1 ((List.pairwise_cons.mp ih).1 z hz)
theorem sortedS_pw : ∀ {r : List Str}, sortedS r = true → r.Pairwise (fun a b => ltD (.str b) (.str a) = false)
  | [], _ => List.Pairwise.nil
  | x :: r, h => rising_pw h

/-! ### the rules -/
def rSortE (K : PySem.W.Frag) : List V → Hp → VK → Prop := fun vs H Q => rSortedI K vs H Q ∨ rSortedS K vs H Q ∨ rSortT K vs H Q
def rDictP (K : PySem.W.Frag) : List V → Hp → VK → Prop := fun xs H Q => ∃ (a : Addr) (ps : List Addr) (kvs : List (Key × V)), xs = [.ref a] ∧ SqL K H a (ps.map V.ref) ∧ Paired (fun p kv => SqT K H p [kV kv.1, kv.2]) ps kvs ∧
  ∀ p, H p = none → Q (.ref p) (upd H p (.dK (mergeK [] kvs)))
def rBi2 (K : PySem.W.Frag) : Blt2 → List V → Hp → VK → Prop
  | .sorted => fun vs H Q => rSortE K vs H Q ∨ (rSortIT K vs H Q ∨ rSortST K vs H Q) | .repr => fun vs H Q => rRepr K vs H Q ∨ rReprI vs H Q | .dict => rDictP K
def vBi2 : Blt2 → Value
  | .sorted => .builtin "sorted" | .repr => .builtin "repr" | .dict => .type "dict"
theorem call_bi2 {X : Cx} (hc : X.calm = true) (hg : X.A.guards = some []) (hu : X.A.units + 64 < cLine) : ∀ b : Blt2, CallR X (vBi2 b) (rBi2 X.K b)
  | .sorted => (cr_sortedI.or (cr_sortedS.or cr_sortT)).or (cr_sortIT.or cr_sortST) | .repr => (cr_repr hg hu).or SkE.call_repr_int | .dict => call_dictP hc
/-- what each makes: new, or a text -/
theorem sort_rule {K : PySem.W.Frag} {H : Hp} {A : Addr → Prop} {xs : List D} {v : V} {c : D} {Q : VK} (r : RdD K H A (.lst xs) v) (e : sortD xs = some c) (q : ∀ vs p, RepDs K H A (isort ltD xs) vs → H p = none → Q (.ref p) (upd H p (.lst vs))) : c = .lst (isort ltD xs) ∧ rSortE K [v] H Q := by
  unfold sortD at e
  by_cases so : sortOk xs = true
  · rw [if_pos so] at e
    cases (Option.some.inj e)
    refine ⟨rfl, ?_⟩
    obtain ⟨p, vs, ev, _, s, rs⟩ := r.lst
    subst ev
    have tt := sort_total so
    have fin : ∀ es : List D, es.Perm xs → SrtO.Srtd ltD es → isort ltD xs = es := fun es pe se => srt_uniq ((isort_perm xs).trans pe.symm) (isort_srtd ltD_swo xs) se fun x hx y hy => tt x ((isort_perm xs).mem_iff.mp hx) y ((isort_perm xs).mem_iff.mp hy)
    unfold sortOk at so
    rcases Bool.or_eq_true _ _ |>.mp so with h | h
    · obtain ⟨ns, ex⟩ := all_int h
      have ev : vs = ns.map V.int := by
        rw [ex] at rs
        exact intsD_ok rs (intsD_map ns)
      refine .inl ⟨p, ns, rfl, by rw [← ev]; exact s, fun ns' p' pe so hp => ?_⟩
      have := fin (ns'.map .int) (by rw [ex]; exact pe.map _) (List.pairwise_map.mpr (so.imp fun {a b} h => by rw [lt1_int]; exact decide_eq_false (by omega)))
      exact q _ _ (by rw [this]; exact reps_int ns') hp
    · rcases Bool.or_eq_true _ _ |>.mp h with h | h
      · obtain ⟨h, hl⟩ := Bool.and_eq_true _ _ |>.mp h
        obtain ⟨ns, ex⟩ := all_str h
        rw [ex] at rs
        obtain ⟨ev, ok⟩ := reps_strs rs
        refine .inr (.inl ⟨p, ns, rfl, by rw [← ev]; exact s, by have := of_decide_eq_true hl; rw [ex, List.length_map] at this; exact this, fun ns' p' pe so hp => ?_⟩)
        have sp : ns'.Pairwise (fun a b => ltD (.str b) (.str a) = false) := by
          exact sortedS_pw so
        have := fin (ns'.map .str) (by rw [ex]; exact pe.map _) (List.pairwise_map.mpr sp)
        exact q _ _ (by rw [this]; exact strs_reps fun n hn => ok n (pe.mem_iff.mp hn)) hp
      · cases xs with
        | nil =>
          refine .inl ⟨p, [], rfl, by cases (show vs = [] from rs); exact s, fun ns' p' pe so hp => ?_⟩
          have := List.Perm.eq_nil pe
          subst this
          exact q [] p' rfl hp
        | cons x0 xs0 =>
          obtain ⟨hn, h⟩ := Bool.and_eq_true _ _ |>.mp h
          have sh : ∀ x ∈ x0 :: xs0, ∃ ys ks, x = .tup ys ∧ keyDs ys = some ks ∧ ks.map isS = (kyD x0).map isS ∧ kyD x = ks := fun x hx => tupShp_ok (List.all_eq_true.mp h x hx)
          -- a value's keys, by the heap
          let k : V → List Key := fun v => match v with
            | .ref a => (match H a with
              | some (.tup us) => us.filterMap fun u => (match u with | .int i => some (Sum.inl i) | .str x => some (Sum.inr x) | _ => none)
              | _ => [])
            | _ => []
          have kk : ∀ (x : D) (v : V), RepD K H A x v → (∃ ys ks, x = .tup ys ∧ keyDs ys = some ks ∧ ks.map isS = (kyD x0).map isS ∧ kyD x = ks) → ∃ t, v = V.ref t ∧ H t = some (.tup ((k v).map kV)) ∧ (k v).map isS = (kyD x0).map isS ∧ k v = kyD x := fun x v rx ⟨ys, ks, e1, e2, e3, e4⟩ => by
            subst e1
            obtain ⟨t, ev, ht⟩ := keyT_ok rx e2
            subst ev
            have fm : ∀ l : List Key, (l.map kV).filterMap (fun u => (match u with | .int i => some (Sum.inl i) | .str x => some (Sum.inr x) | _ => none : Option Key)) = l := fun l => by
              induction l with
              | nil => rfl
              | cons a l ih =>
                cases a with
                | inl i => show _ :: _ = _; exact congrArg _ ih
                | inr i => show _ :: _ = _; exact congrArg _ ih
            have ek : k (.ref t) = ks := by
              show (match H t with
                | some (.tup us) => us.filterMap fun u => (match u with | .int i => some (Sum.inl i) | .str x => some (Sum.inr x) | _ => none)
                | _ => []) = ks
              rw [ht]
              exact fm ks
            exact ⟨t, rfl, by rw [ek]; exact ht, by rw [ek]; exact e3, by rw [ek, e4]⟩
          have all : ∀ {ds : List D} {us : List V}, (∀ x ∈ ds, x ∈ x0 :: xs0) → RepDs K H A ds us → (∀ u ∈ us, ∃ t, u = V.ref t ∧ H t = some (.tup ((k u).map kV)) ∧ (k u).map isS = (kyD x0).map isS) ∧ us.map k = ds.map kyD := fun {ds} => by
            induction ds with
            | nil => intro us _ r; cases (show us = [] from r); exact ⟨fun _ z => (by cases z), rfl⟩
            | cons d ds ih =>
              intro us hm r
              obtain ⟨u, t, eu, r1, r2⟩ := r
              subst eu
              obtain ⟨t0, c1, c2, c3, c4⟩ := kk d u r1 (sh d (hm d List.mem_cons_self))
              obtain ⟨i1, i2⟩ := ih (fun x hx => hm x (List.mem_cons_of_mem _ hx)) r2
              refine ⟨fun w hw => ?_, by rw [List.map_cons, List.map_cons, c4, i2]⟩
              rcases List.mem_cons.mp hw with e | hw
              · rw [e]; exact ⟨t0, c1, c2, c3⟩
              · exact i1 w hw
          obtain ⟨a1, _⟩ := all (fun _ h => h) rs
          refine .inr (.inr ⟨p, vs, k, (kyD x0).map isS, rfl, s, (fun z => by rw [z] at hn; cases hn), a1, fun us p' so pe hp => ?_⟩)
          obtain ⟨es, pe', re⟩ := rs.perm pe.symm
          have mem : ∀ x ∈ es, x ∈ x0 :: xs0 := fun x hx => pe'.mem_iff.mp hx
          obtain ⟨_, a2⟩ := all mem re
          have se : SrtO.Srtd ltD es := by
            have h1 : (us.map k).Pairwise (fun a b => ltKs b a = false) := List.pairwise_map.mpr so
            rw [a2] at h1
            exact List.pairwise_map.mp h1
          have := fin es pe' se
          exact q us p' (by rw [this]; exact re) hp
  · rw [if_neg so] at e; cases e
theorem sort_ruleT {K : PySem.W.Frag} {H : Hp} {A : Addr → Prop} {xs : List D} {v : V} {c : D} {Q : VK} (r : RdD K H A (.tup xs) v) (e : sortTD xs = some c) (q : ∀ vs p, RepDs K H A (isort ltD xs) vs → H p = none → Q (.ref p) (upd H p (.lst vs))) : c = .lst (isort ltD xs) ∧ (rSortIT K [v] H Q ∨ rSortST K [v] H Q) := by
  unfold sortTD at e
  by_cases so : (xs.all isIntD || xs.all isStrD) = true
  · rw [if_pos so] at e
    cases (Option.some.inj e)
    refine ⟨rfl, ?_⟩
    obtain ⟨p, vs, ev, s, rs⟩ := r.tup
    subst ev
    have fin : (∀ x ∈ xs, ∀ y ∈ xs, ltD x y = false → ltD y x = false → x = y) → ∀ es : List D, es.Perm xs → SrtO.Srtd ltD es → isort ltD xs = es := fun tt es pe se => srt_uniq ((isort_perm xs).trans pe.symm) (isort_srtd ltD_swo xs) se fun x hx y hy => tt x ((isort_perm xs).mem_iff.mp hx) y ((isort_perm xs).mem_iff.mp hy)
    rcases Bool.or_eq_true _ _ |>.mp so with h | h
    · obtain ⟨ns, ex⟩ := all_int h
      have ev : vs = ns.map V.int := by
        rw [ex] at rs
        exact intsD_ok rs (intsD_map ns)
      refine .inl ⟨p, ns, rfl, by rw [← ev]; exact s, fun ns' p' pe so hp => ?_⟩
      have := fin (fun x hx y hy h1 h2 => by
        rw [ex] at hx hy
        obtain ⟨a, _, ea⟩ := List.mem_map.mp hx
        obtain ⟨b, _, eb⟩ := List.mem_map.mp hy
        subst ea; subst eb
        rw [lt1_int] at h1 h2
        have := of_decide_eq_false h1
        have := of_decide_eq_false h2
        congr 1; omega) (ns'.map .int) (by rw [ex]; exact pe.map _) (List.pairwise_map.mpr (so.imp fun {a b} h => by rw [lt1_int]; exact decide_eq_false (by omega)))
      exact q _ _ (by rw [this]; exact reps_int ns') hp
    · obtain ⟨ns, ex⟩ := all_str h
      rw [ex] at rs
      obtain ⟨ev, ok⟩ := reps_strs rs
      refine .inr ⟨p, ns, rfl, by rw [← ev]; exact s, fun ns' p' pe so hp => ?_⟩
      have := fin (fun x hx y hy h1 h2 => by
        rw [ex] at hx hy
        obtain ⟨a, _, ea⟩ := List.mem_map.mp hx
        obtain ⟨b, _, eb⟩ := List.mem_map.mp hy
        subst ea; subst eb
        have := ltKs_total (a := [.inr a]) (b := [.inr b]) h1 h2
        cases this; rfl) (ns'.map .str) (by rw [ex]; exact pe.map _) (List.pairwise_map.mpr so)
      exact q _ _ (by rw [this]; exact strs_reps fun n hn => ok n (pe.mem_iff.mp hn)) hp
  · rw [if_neg so] at e; cases e
end EV

set_option maxRecDepth 100000
set_option maxHeartbeats 1000000
/-! EvG: displays, truth, own things and boxes changed, names stored. -/
namespace EV
open PySem PySem.Spec PyProof.Rows L2

section
variable {C : Ct} {σ : L2.St} {H : Hp} {ρ : Ev} {h : Hh}
theorem BoxAt.kind {K : PySem.W.Frag} {A : Addr → Prop} {b : D} {a : Addr} (x : BoxAt K H A b a) : ∃ o, H a = some o ∧ steady o = false ∧ Mut (some o) ∧ ∀ ps, o ≠ .tbl ps := by
  cases b <;> first | exact x.elim | skip
  · obtain ⟨vs, e, _⟩ := x; exact ⟨_, e, rfl, trivial, fun _ z => by cases z⟩
  · obtain ⟨vs, e, _⟩ := x; exact ⟨_, e, rfl, trivial, fun _ z => by cases z⟩
  · obtain ⟨vs, e, _⟩ := x; exact ⟨_, e, rfl, trivial, fun _ z => by cases z⟩
theorem tabs_kept {T : List NdefX.NTab} {H H' : Hp} (t : NdefX.TabsN T H) (k1 : ∀ a o, H a = some o → steady o = true → H' a = some o) (k2 : ∀ a ps, H a = some (.tbl ps) → H' a = some (.tbl ps)) : NdefX.TabsN T H' := fun p hp => by
  obtain ⟨ps, h1, h2, h3⟩ := t p hp
  refine ⟨ps, k2 _ _ h1, h2, fun pos cv hc => ?_⟩
  obtain ⟨c, e1, e2⟩ := h3 pos cv hc
  exact ⟨c, e1, k1 _ _ e2 rfl⟩
/-- what changes when the thing at a changes, a an own slot's or a box's -/
theorem upd_kept {a : Addr} {o u : HO} (e : H a = some u) (s : steady u = false) (nt : ∀ ps, u ≠ .tbl ps) : (∀ b w, H b = some w → steady w = true → upd H a o b = some w) ∧ (∀ b ps, H b = some (.tbl ps) → upd H a o b = some (.tbl ps)) := by
  constructor
  · intro b w q z
    have : b ≠ a := fun y => by subst y; rw [e] at q; cases q; rw [s] at z; cases z
    rw [upd_ne this]; exact q
  · intro b ps q
    have : b ≠ a := fun y => by subst y; rw [e] at q; cases q; exact nt ps rfl
    rw [upd_ne this]; exact q
/-- data that avoids a stays -/
theorem kp_upd {A : Addr → Prop} {a : Addr} {o u : HO} (e : H a = some u) (s : steady u = false) (ha : A a) : Kp H A (upd H a o) A := by
  have ne : ∀ b w, H b = some w → ¬ A b → b ≠ a := fun b w _ n y => n (by rw [y]; exact ha)
  refine ⟨fun b vs q => ?_, fun b vs q n => ?_, fun b vs q n => ?_, fun b vs q n => ?_, fun b o' u' q => ?_⟩
  · have : b ≠ a := fun y => by subst y; rw [e] at q; cases q; cases s
    rw [upd_ne this]; exact q
  · rw [upd_ne (ne b _ q n)]; exact ⟨q, n⟩
  · rcases q with q | ⟨w, q⟩
    · exact ⟨.inl (by rw [upd_ne (ne b _ q n)]; exact q), n⟩
    · exact ⟨.inr ⟨w, by rw [upd_ne (ne b _ q n)]; exact q⟩, n⟩
  · rcases q with q | ⟨w, q⟩
    · exact ⟨.inl (by rw [upd_ne (ne b _ q n)]; exact q), n⟩
    · exact ⟨.inr ⟨w, by rw [upd_ne (ne b _ q n)]; exact q⟩, n⟩
  · have : b ≠ a := fun y => by subst y; rw [e] at q; cases q; cases s
    rw [upd_ne this]; exact q
theorem set_own_shp {i : Nat} {b b' : D} (e : ρ[i]? = some (.own b)) : Shp ρ (ρ.set i (.own b')) := fun j => by
  by_cases hj : i = j
  · subst hj
    have hl := (List.getElem?_eq_some_iff.mp e).1
    exact .inr ⟨b, b', e, List.getElem?_set_self hl⟩
  · exact .inl (List.getElem?_set_ne hj)
/-- an own thing is changed -/
theorem Rel.setOwn {i : Nat} {b b' : D} {a : Addr} {o : HO} (R : Rel C σ H ρ h) (e : ρ[i]? = some (.own b)) (es : σ[i]? = some (some (.ref a))) (hb : BoxAt C.K (upd H a o) (Av C σ ρ) b' a) :
    Rel C σ (upd H a o) (ρ.set i (.own b')) h ∧ Stp C σ ρ H σ (ρ.set i (.own b')) (upd H a o) ∧ Shp ρ (ρ.set i (.own b')) := by
  have sh : Shp ρ (ρ.set i (.own b')) := set_own_shp e
  have av := sh.av (C := C) (σ := σ)
  obtain ⟨a', e1, na, bo⟩ := R.own i b e
  rw [es] at e1; cases e1
  obtain ⟨u, eu, su, mu, nt⟩ := bo.kind
  have hA : Av C σ ρ a := .inr ⟨i, b, e, es⟩
  obtain ⟨k1, k2⟩ := upd_kept (o := o) eu su nt
  have k := kp_upd (o := o) eu su hA
  have hl := (List.getElem?_eq_some_iff.mp e).1
  have S : Stp C σ ρ H σ (ρ.set i (.own b')) (upd H a o) := ⟨k1, fun c w q n1 n2 n3 => by
    have : c ≠ a := fun y => n2 (by rw [y]; exact ⟨i, b, e, es⟩)
    exact .inl (by rw [upd_ne this]; exact q), fun c q => by
      by_cases y : c = a
      · subst y; rw [upd_same] at q; cases q
      · rw [upd_ne y] at q; exact q, fun c x => .inl (sh.ow.mp x)⟩
  refine ⟨⟨by rw [List.length_set]; exact R.len, fun j w q => ?_, fun j c q => ?_, fun j j2 c c2 x q1 q2 z1 z2 => ?_, R.blen, fun j c q => ?_, R.mu, R.nod, fun c q => ?_, fun j k q => ?_, tabs_kept R.tab k1 k2⟩, S, sh⟩
  · by_cases hj : i = j
    · subst hj; rw [List.getElem?_set_self hl] at q; cases q
    · rw [List.getElem?_set_ne hj] at q
      obtain ⟨v, q1, q2⟩ := R.val j w q
      exact ⟨v, q1, q2.stp S R.mu sh⟩
  · rw [av]
    by_cases hj : i = j
    · subst hj; rw [List.getElem?_set_self hl] at q; cases q
      exact ⟨a, es, na, hb⟩
    · rw [List.getElem?_set_ne hj] at q
      obtain ⟨x, q1, q2, q3⟩ := R.own j c q
      have ne : x ≠ a := fun y => hj (R.dis i j b c a e q es (by rw [← y]; exact q1))
      exact ⟨x, q1, q2, q3.kp k fun w z => by rw [upd_ne ne]; exact z⟩
  · obtain ⟨c', q1'⟩ := sh.own' q1
    obtain ⟨c2', q2'⟩ := sh.own' q2
    exact R.dis j j2 c' c2' x q1' q2' z1 z2
  · rw [av]
    obtain ⟨x, q1, q3⟩ := R.box j c q
    have ne : x ≠ a := fun y => na (by rw [← y]; exact R.mu x (List.mem_of_getElem? q1))
    exact ⟨x, q1, q3.kp k fun w z => by rw [upd_ne ne]; exact z⟩
  · obtain ⟨w, q1⟩ := R.trk c q
    by_cases y : c = a
    · subst y; exact ⟨o, upd_same⟩
    · exact ⟨w, by rw [upd_ne y]; exact q1⟩
  · by_cases hj : i = j
    · subst hj; rw [List.getElem?_set_self hl] at q; cases q
    · rw [List.getElem?_set_ne hj] at q; exact R.noH j k q
/-- a box is changed -/
theorem Rel.setBox {j : Nat} {b b' : D} {a : Addr} {o : HO} (R : Rel C σ H ρ h) (e : h[j]? = some b) (es : C.μ[j]? = some a) (hb : BoxAt C.K (upd H a o) (Av C σ ρ) b' a) :
    Rel C σ (upd H a o) ρ (h.set j b') ∧ Stp C σ ρ H σ ρ (upd H a o) := by
  obtain ⟨a', e1, bo⟩ := R.box j b e
  rw [es] at e1; cases e1
  obtain ⟨u, eu, su, mu, nt⟩ := bo.kind
  have hm : a ∈ C.μ := List.mem_of_getElem? es
  have hA : Av C σ ρ a := .inl (R.mu a hm)
  obtain ⟨k1, k2⟩ := upd_kept (o := o) eu su nt
  have k := kp_upd (o := o) eu su hA
  have hl := (List.getElem?_eq_some_iff.mp e).1
  have S : Stp C σ ρ H σ ρ (upd H a o) := ⟨k1, fun c w q n1 n2 n3 => by
    have : c ≠ a := fun y => n1 (by rw [y]; exact hm)
    exact .inl (by rw [upd_ne this]; exact q), fun c q => by
      by_cases y : c = a
      · subst y; rw [upd_same] at q; cases q
      · rw [upd_ne y] at q; exact q, fun c x => .inl x⟩
  refine ⟨⟨R.len, fun i w q => ?_, fun i c q => ?_, R.dis, by rw [List.length_set]; exact R.blen, fun i c q => ?_, R.mu, R.nod, fun c q => ?_, R.noH, tabs_kept R.tab k1 k2⟩, S⟩
  · obtain ⟨v, q1, q2⟩ := R.val i w q
    exact ⟨v, q1, q2.stp S R.mu (.refl _)⟩
  · obtain ⟨x, q1, q2, q3⟩ := R.own i c q
    have ne : x ≠ a := fun y => q2 (by rw [y]; exact R.mu a hm)
    exact ⟨x, q1, q2, q3.kp k fun w z => by rw [upd_ne ne]; exact z⟩
  · by_cases hj : j = i
    · subst hj; rw [List.getElem?_set_self hl] at q; cases q
      exact ⟨a, es, hb⟩
    · rw [List.getElem?_set_ne hj] at q
      obtain ⟨x, q1, q3⟩ := R.box i c q
      have ne : x ≠ a := fun y => by
        subst y
        obtain ⟨l1, g1⟩ := List.getElem?_eq_some_iff.mp es
        obtain ⟨l2, g2⟩ := List.getElem?_eq_some_iff.mp q1
        exact hj ((List.getElem_inj R.nod).mp (g1.trans g2.symm))
      exact ⟨x, q1, q3.kp k fun w z => by rw [upd_ne ne]; exact z⟩
  · obtain ⟨w, q1⟩ := R.trk c q
    by_cases y : c = a
    · subst y; exact ⟨o, upd_same⟩
    · exact ⟨w, by rw [upd_ne y]; exact q1⟩

/-! ### truth -/
theorem truD_ok {K : PySem.W.Frag} {A : Addr → Prop} {d : D} {v : V} (r : RdD K H A d v) (e : truOk d = true) : TruV K v H (truD d) := by
  cases d with
  | non => have e : v = V.non := r; subst e; rfl
  | bl b => have e : v = V.bl b := r; subst e; rfl
  | int i => have e : v = V.int i := r; subst e; rfl
  | str x => obtain ⟨e, _, l⟩ := r; subst e; exact ⟨l, rfl⟩
  | tup xs =>
    obtain ⟨a, vs, e, s, q⟩ := r.tup
    subst e
    refine .inr (.inl ⟨vs, s, ?_⟩)
    have := q.length
    cases xs <;> cases vs <;> first | rfl | cases this
  | lst xs =>
    obtain ⟨a, vs, e, _, s, q⟩ := r.lst
    subst e
    refine .inl ⟨vs, s, ?_⟩
    have := q.length
    cases xs <;> cases vs <;> first | rfl | cases this
  | dic _ _ => cases e
  | dit _ _ => cases e

/-! ### displays -/
theorem plains_ok : ∀ {xs : List Val} {vs : List V} {ds : List D}, RepVs C σ ρ H xs vs → plains xs = some ds → RepDs C.K H (Av C σ ρ) ds vs
  | [], vs, ds, r, e => by cases (show vs = [] from r); cases (Option.some.inj e); rfl
  | x :: xs, vs, ds, r, e => by
    obtain ⟨v, t, e1, r1, r2⟩ := r
    cases x <;> first | (cases e; done) | skip
    rename_i a
    have e : (plains xs).map (a :: ·) = some ds := e
    cases hp : plains xs with
    | none => rw [hp] at e; cases e
    | some es =>
      rw [hp] at e
      cases (Option.some.inj e)
      exact ⟨v, t, e1, r1, plains_ok r2 hp⟩
end
end EV

set_option maxRecDepth 100000
set_option maxHeartbeats 1000000
/-! EvH: looks at the given syntax; the small language against it. -/
namespace EV
open PySem PySem.Spec PyProof.Rows L2

/-! ### looks at an expression -/
def notStar : Expr → Bool
  | .Starred .. => false
  | _ => true
def notComp : Expr → Bool
  | .ListComp .. => false | .SetComp .. => false | .DictComp .. => false
  | _ => true
def notSet : Expr → Bool
  | .Set .. => false
  | _ => true
def notSlice : Expr → Bool
  | .Slice .. => false
  | _ => true
def notCall : Expr → Bool
  | .Call .. => false
  | _ => true
def plainT : Expr → Bool
  | .UnaryOp .. => false | .BoolOp .. => false | .IfExp .. => false | .Compare .. => false
  | _ => true
theorem star_cons {e : Expr} {es : List Expr} {env : Env} (h : notStar e = true) : starEach (e :: es) env = (false, eval e env) :: starEach es env := by
  cases e <;> first | rfl | cases h
theorem star_none {pos : Pos} {env : Env} : ∀ {es : List Expr}, es.all notStar = true → (backTo pos (starEach es env)).any (·.1) = false
  | [], _ => rfl
  | e :: es, h => by
    rw [List.all_cons, Bool.and_eq_true] at h
    rw [star_cons h.1]
    show (false || (backTo pos (starEach es env)).any (·.1)) = false
    rw [star_none h.2]
    rfl
theorem star_all {pos : Pos} {env : Env} : ∀ {es : List Expr}, es.all notStar = true → (backTo pos (starEach es env)).all (fun x => !x.1) = true
  | [], _ => rfl
  | e :: es, h => by
    rw [List.all_cons, Bool.and_eq_true] at h
    rw [star_cons h.1]
    show ((!false) && (backTo pos (starEach es env)).all (fun x => !x.1)) = true
    rw [star_all h.2]
    rfl
theorem swaps_none {e : Expr} {t : Option Expr} {l : Nat} {env : Env} (h : notComp e = true) : swapsWith e t l env = pure false := by
  cases e <;> first | rfl | cases h
theorem behind_set {op : CmpOp} {b : Expr} (h : notSet b = true) : behindInMarks op b = false := by
  cases b <;> first | rfl | cases h
theorem plain_ix {b : Expr} (h : notSlice b = true) : PlainIx b := by
  intro o i
  cases b <;> first | rfl | cases h
theorem base_call {o : Expr} {name : Str} {env : Env} {w : Sem Value} (h : notCall o = true) : attributeBase o name env w = w := by
  cases o <;> first | rfl | cases h
theorem true_plain {e : Expr} {env : Env} (h : plainT e = true) : ∀ whole, isTrue e env whole = (do let v ← whole; standAt e.pos; holding [v] (truthy v)) := by
  intro whole
  cases e <;> first | rfl | cases h
theorem folded_set {e : Expr} {env : Env} (h : notSet e = true) : ∀ x, foldedSetIterable e env x = pure x := by
  intro x
  cases e <;> first | rfl | cases h
theorem asg_cons {e : Expr} {es : List Expr} {env : Env} (h : notStar e = true) : assignEach (e :: es) env = (false, assign e env) :: assignEach es env := by
  cases e <;> first | rfl | cases h
theorem asg_len {env : Env} : ∀ {es : List Expr}, es.all notStar = true → (assignEach es env).length = es.length
  | [], _ => rfl
  | e :: es, h => by
    rw [List.all_cons, Bool.and_eq_true] at h
    rw [asg_cons h.1, List.length_cons, List.length_cons, asg_len h.2]
theorem asg_find {env : Env} : ∀ {es : List Expr}, es.all notStar = true → (assignEach es env).findIdx? (·.1) = none
  | [], _ => rfl
  | e :: es, h => by
    rw [List.all_cons, Bool.and_eq_true] at h
    rw [asg_cons h.1, List.findIdx?_cons, asg_find h.2]
    rfl
theorem asg_one {e : Expr} {env : Env} (h : notStar e = true) : (assignEach [e] env).map (·.2) = [assign e env] := by
  rw [asg_cons h]; rfl

/-! ### names -/
def visB (sc : Scope) (x : Str) : Bool := match sc.names.lookup x with
  | some .local => true | some .cell => true | some .free => true
  | _ => false
theorem visB_ok {sc : Scope} {x : Str} (h : visB sc x = true) : Vis sc x := by
  unfold visB at h
  split at h <;> first | exact .inl (by assumption) | exact .inr (.inl (by assumption)) | exact .inr (.inr (by assumption)) | cases h
def locB (blk : Bool) (cel : Str → Bool) (sc : Scope) (x : Str) : Bool := match sc.names.lookup x with
  | some .local => true | some .cell => !blk || cel x
  | _ => false
theorem locB_ok {blk : Bool} {cel : Str → Bool} {sc : Scope} {x : Str} (h : locB blk cel sc x = true) : Loc sc x ∧ (blk = true → sc.names.lookup x = some .local ∨ cel x = true) := by
  unfold locB at h
  split at h
  · rename_i e; exact ⟨.inl e, fun _ => .inl e⟩
  · rename_i e; exact ⟨.inr e, fun z => .inr (by rw [z] at h; exact h)⟩
  · cases h
def glB (sc : Scope) (x : Str) : Bool := match sc.names.lookup x with
  | some .globalImplicit => true
  | _ => false
theorem glB_ok {sc : Scope} {x : Str} (h : glB sc x = true) : sc.names.lookup x = some .globalImplicit := by
  unfold glB at h
  split at h
  · assumption
  · cases h
def noDunder (x : Str) : Bool := !(x == ("__debug__" : Str)) && (!(x == ("__classdict__" : Str)) && !(decide (x = ("__name__" : Str))))
theorem noDunder_ok {x : Str} (h : noDunder x = true) : (x == ("__debug__" : Str)) = false ∧ (x == ("__classdict__" : Str)) = false ∧ x ≠ "__name__" := by
  unfold noDunder at h
  simp only [Bool.and_eq_true, Bool.not_eq_true', decide_eq_false_iff_not] at h
  exact ⟨h.1, h.2.1, h.2.2⟩

/-! ### what is known where a piece of text stands -/
structure Inf where
  N : List Str
  sc : Scope
  blk : Bool
  con : List (Str × D)
  fns : List Str
  free : List Str
  okN : Nat → NFd → Bool
  defs : Nat → Nat → Str
  /-- a comprehension's own names that are cells -/
  cel : Str → Bool := fun _ => false
  /-- names of math.gcd -/
  bf : List Str := []

def bName : Blt → Str
  | .len => "len" | .all => "all" | .any => "any" | .sum => "sum" | .min1 => "min" | .max1 => "max" | .min2 => "min" | .max2 => "max"
  | .abs => "abs" | .int => "int" | .tuple => "tuple" | .list => "list" | .sorted => "sorted" | .divmod => "divmod"
def bMany : Blt → Nat
  | .min2 => 2 | .max2 => 2 | .divmod => 2 | _ => 1
def nameIs (I : Inf) (i : Nat) (x : Str) : Bool := decide (I.N[i]? = some x) && (visB I.sc x && noDunder x)
def freeIs (I : Inf) (x : Str) : Bool := glB I.sc x && (decide (x ∈ I.free) && noDunder x)
def fnIs (I : Inf) (f : Nat) (x : Str) : Bool := decide (I.fns[f]? = some x) && (glB I.sc x && noDunder x)
def opOk : Operator → Bool
  | .Add => true | .Sub => true | .Mult => true | .FloorDiv => true | .Mod => true | .Pow => true
  | _ => false
def cmpOk : CmpOp → Bool
  | .Eq => true | .NotEq => true | .In => true | .NotIn => true | .Is => true | .IsNot => true | .Lt => true | .LtE => true | .Gt => true | .GtE => true
def blkInf (I : Inf) (scope : Scope) : Inf := { I with sc := relS scope I.sc, blk := true, cel := fun x => scope.names.lookup x == some .cell }
def inNs (vs : List Nat) : Tg → Bool
  | .nm i => vs.contains i
  | .tp ts => inNss vs ts
  | .sub _ _ => false
where inNss (vs : List Nat) : List Tg → Bool
  | [] => true
  | t :: ts => inNs vs t && inNss vs ts
def dictNo : Expr → Bool
  | .Dict [] [] _ => true
  | _ => false
def isList : Blt → Bool
  | .list => true
  | _ => false
def notRepr : Blt2 → Bool
  | .repr => false
  | _ => true
def bopOk : BoolOp → Bool → Bool
  | .And, b => b
  | .Or, b => !b
def ownN (N : List Str) (vs : List Nat) : List (Str × Nat) := vs.map fun i => (N[i]?.getD (Str.ofString ""), i)
theorem ownN_snd {N : List Str} {vs : List Nat} : (ownN N vs).map (·.2) = vs := by
  unfold ownN
  rw [List.map_map]
  exact List.map_id' vs
def baseB : Expr → Bool
  | .Call (.Name x _) [] [] _ => decide (x ≠ ("super" : Str))
  | _ => true
/-- a call of a name with these arguments alone -/
def callN : Expr → Option (Str × List Expr)
  | .Call (.Name x _) es [] _ => some (x, es)
  | _ => none
def sh1 (o : O1) (e : Expr) : Option Expr := match o with
  | .rng => (match callN e with
    | some (x, [z]) => (match callN z with
      | some (y, [a]) => if (decide (x = ("list" : Str)) && (decide (y = ("range" : Str)) && notStar a)) = true then some a else none
      | _ => none)
    | _ => none)
def ok1 (I : Inf) : O1 → Bool
  | .rng => freeIs I "list" && freeIs I "range"
def meth : O2 → Str
  | .index => "index" | .count => "count" | .join => "join" | _ => ""
def lst2 : O2 → Str
  | .lzip => "zip" | .rng2 => "range" | _ => ""
def meth1 (m : Str) : Expr → Option (Expr × Expr)
  | .Call (.Attribute o' m' apos) [e'] [] cpos => if (decide (m' = m) && (baseB o' && ((apos.endLine == cpos.line) && notStar e'))) = true then some (o', e') else none
  | _ => none
def list2 (m : Str) (e : Expr) : Option (Expr × Expr) := match callN e with
  | some (x, [z]) => (match callN z with
    | some (y, [a, b]) => if (decide (x = ("list" : Str)) && (decide (y = m) && (notStar a && notStar b))) = true then some (a, b) else none
    | _ => none)
  | _ => none
def fun2 (m : Str) (e : Expr) : Option (Expr × Expr) := match callN e with
  | some (x, [a, b]) => if (decide (x = m) && (notStar a && notStar b)) = true then some (a, b) else none
  | _ => none
def sh2 (o : O2) (e : Expr) : Option (Expr × Expr) := match o with
  | .index => meth1 "index" e | .count => meth1 "count" e | .join => meth1 "join" e
  | .lzip => list2 "zip" e | .rng2 => list2 "range" e
  | .gcd => fun2 "gcd" e
def ok2 (I : Inf) : O2 → Bool
  | .lzip => freeIs I "list" && freeIs I "zip"
  | .rng2 => freeIs I "list" && freeIs I "range"
  | .gcd => glB I.sc "gcd" && decide (("gcd" : Str) ∈ I.bf)
  | _ => true
mutual
def mE (I : Inf) : Ex → Expr → Bool
  | .non, .Constant .none _ _ => true
  | .bl b, .Constant (.bool c) _ _ => b == c
  | .int i, .Constant (.int j) _ _ => decide (i = j)
  | .str x, .Constant (.str y) _ _ => decide (x = y) && (PyData.strOk x && decide (x.length ≤ sizeLine))
  | .v i, .Name x _ => nameIs I i x
  | .g x, .Name y _ => decide (x = y) && (glB I.sc x && (noDunder x && decide (x ∈ I.con.map (·.1))))
  | .bin op a b, .BinOp a' op' b' _ => decide (op = op') && (opOk op && (mE I a a' && mE I b b'))
  | .neg a, .UnaryOp .USub a' _ => mE I a a'
  | .cmp op a b, .Compare a' [op'] [b'] _ => decide (op = op') && (notSet b' && (mE I a a' && mE I b b'))
  | .ch op op2 a b c, .Compare a' [op', op2'] [b', c'] _ => decide (op = op') && (decide (op2 = op2') && (notSet c' && (mE I a a' && (mE I b b' && mE I c c'))))
  | .bop isAnd es, .BoolOp o es' _ => bopOk o isAnd && (!es.isEmpty && mEs I es es')
  | .not a, .UnaryOp .Not a' _ => mE I a a'
  | .ife t a b, .IfExp t' a' b' _ => mE I t t' && (mE I a a' && mE I b b')
  | .tup es, .Tuple es' _ _ => mEs I es es'
  | .lst es, .List es' _ => mEs I es es'
  | .ix a b, .Subscript a' b' _ => notSlice b' && (mE I a a' && mE I b b')
  | .sl a lo hi, .Subscript a' (.Slice lo' hi' none _) _ => mE I a a' && (mO I lo lo' && mO I hi hi')
  | .call f es, .Call (.Name x _) es' [] _ => fnIs I f x && mEs I es es'
  | .bi b es, .Call (.Name x _) es' [] _ => decide (x = bName b) && (freeIs I x && (decide (es.length = bMany b) && mEs I es es'))
  | .app i e, .Call (.Attribute (.Name x _) m apos) [e'] [] cpos => decide (m = ("append" : Str)) && (nameIs I i x && ((apos.endLine == cpos.line) && (notStar e' && mE I e e')))
  | .popAt i e, .Call (.Attribute (.Name x _) m apos) [e'] [] cpos => decide (m = ("pop" : Str)) && (nameIs I i x && ((apos.endLine == cpos.line) && (notStar e' && mE I e e')))
  | .lc elt tg it ifs vs, .ListComp elt' [⟨tg', it', ifs', k⟩] scope _ => k == 0 && (notSet it' && (mI I it tg' it' && (inNs vs tg && (blkC I.N I.sc scope (ownN I.N vs) &&
      (mG (blkInf I scope) tg tg' && (mTs (blkInf I scope) ifs ifs' && mE (blkInf I scope) elt elt'))))))
  | .dnew _, .Dict [] [] _ => true
  | .calln i es, .Call (.Name x _) es' [] _ => !I.blk && (nameIs I i x && mEs I es es')
  | .callb f e, .Call (.Name x _) [e'] [] _ => fnIs I f x && (notStar e' && mF I e e')
  | .callk f es ks kes, .Call (.Name x _) es' kws _ => fnIs I f x && (mEs I es es' && mKs I ks kes kws)
  | .isi a t, .Call (.Name f _) [a', .Name x _] [] _ => decide (f = ("isinstance" : Str)) && (freeIs I f && (decide (x = Str.ofString (tyW t)) && (freeIs I x && (notStar a' && mE I a a'))))
  | .dc k e tg it ifs vs _, .DictComp k' e' [⟨tg', it', ifs', kk⟩] scope _ => kk == 0 && (notSet it' && (mI I it tg' it' && (inNs vs tg && (blkC I.N I.sc scope (ownN I.N vs) &&
      (mG (blkInf I scope) tg tg' && (mTs (blkInf I scope) ifs ifs' && (mE (blkInf I scope) k k' && mE (blkInf I scope) e e')))))))
  | .bi2 b e, .Call (.Name x _) [e'] [] _ => decide (x = b2Name b) && (freeIs I x && (notStar e' && mE I e e'))
  | .rev o, .Subscript o' (.Slice none none (some (.UnaryOp .USub (.Constant (.int i) _ _) _)) _) _ => decide (i = 1) && mE I o o'
  | .dzip a b, .Call (.Name x _) [z] [] _ => (match z with
    | .Call (.Name y _) [a', b'] [] _ => decide (x = ("dict" : Str)) && (freeIs I x && (decide (y = ("zip" : Str)) && (freeIs I y && (notStar a' && (notStar b' && (mE I a a' && mE I b b'))))))
    | _ => false)
  | .ext i e, .Call (.Attribute (.Name x _) m apos) [e'] [] cpos => decide (m = ("extend" : Str)) && (nameIs I i x && ((apos.endLine == cpos.line) && (notStar e' && mE I e e')))
  | .o1 o a, e' => (match sh1 o e' with
    | some a' => ok1 I o && mE I a a'
    | none => false)
  | .o2 o a b, e' => (match sh2 o e' with
    | some p => ok2 I o && (mE I a p.1 && mE I b p.2)
    | none => false)
  | _, _ => false
/-- keywords -/
def mKs (I : Inf) : List Str → List Ex → List Keyword → Bool
  | [], [], [] => true
  | k :: ks, e :: es, ⟨some k', e', _⟩ :: kws => decide (k = k') && (mE I e e' && mKs I ks es kws)
  | _, _, _ => false
/-- what is made anew -/
def mF (I : Inf) : Ex → Expr → Bool
  | .call f es, .Call (.Name x _) es' [] _ => fnIs I f x && mEs I es es'
  | .lst es, .List es' _ => mEs I es es'
  | .dnew _, .Dict [] [] _ => true
  | .lc elt tg it ifs vs, .ListComp elt' [⟨tg', it', ifs', k⟩] scope _ => k == 0 && (notSet it' && (mI I it tg' it' && (inNs vs tg && (blkC I.N I.sc scope (ownN I.N vs) &&
      (mG (blkInf I scope) tg tg' && (mTs (blkInf I scope) ifs ifs' && mE (blkInf I scope) elt elt'))))))
  | .dc k e tg it ifs vs _, .DictComp k' e' [⟨tg', it', ifs', kk⟩] scope _ => kk == 0 && (notSet it' && (mI I it tg' it' && (inNs vs tg && (blkC I.N I.sc scope (ownN I.N vs) &&
      (mG (blkInf I scope) tg tg' && (mTs (blkInf I scope) ifs ifs' && (mE (blkInf I scope) k k' && mE (blkInf I scope) e e')))))))
  | .bi b es, .Call (.Name x _) [e'] [] _ => isList b && (decide (x = ("list" : Str)) && (freeIs I x && (notStar e' && mEs I es [e'])))
  | .bin op a b, .BinOp a' op' b' _ => decide (op = .Mult) && (decide (op' = .Mult) && (mF I a a' && mE I b b'))
  | .bi2 b e, .Call (.Name x _) [e'] [] _ => notRepr b && (decide (x = b2Name b) && (freeIs I x && (notStar e' && mE I e e')))
  | .dzip a b, .Call (.Name x _) [z] [] _ => (match z with
    | .Call (.Name y _) [a', b'] [] _ => decide (x = ("dict" : Str)) && (freeIs I x && (decide (y = ("zip" : Str)) && (freeIs I y && (notStar a' && (notStar b' && (mE I a a' && mE I b b'))))))
    | _ => false)
  | _, _ => false
def mEs (I : Inf) : List Ex → List Expr → Bool
  | [], [] => true
  | e :: es, e' :: es' => notStar e' && (mE I e e' && mEs I es es')
  | _, _ => false
def mO (I : Inf) : Option Ex → Option Expr → Bool
  | none, none => true
  | some e, some e' => mE I e e'
  | _, _ => false
def mTs (I : Inf) : List Ex → List Expr → Bool
  | [], [] => true
  | [e], [e'] => mE I e e'
  | _, _ => false
def mI (I : Inf) : It2 → Expr → Expr → Bool
  | .seq e, _, e' => mE I e e'
  | .vals e, _, .Call (.Attribute e' m apos) [] [] cpos => decide (m = ("values" : Str)) && (baseB e' && ((apos.endLine == cpos.line) && mE I e e'))
  | .items e, .Tuple _ _ _, .Call (.Attribute e' m apos) [] [] cpos => decide (m = ("items" : Str)) && (baseB e' && ((apos.endLine == cpos.line) && mE I e e'))
  | .range1 a, _, .Call (.Name x _) [a'] [] _ => decide (x = ("range" : Str)) && (freeIs I x && (notStar a' && mE I a a'))
  | .range2 a b, _, .Call (.Name x _) [a', b'] [] _ => decide (x = ("range" : Str)) && (freeIs I x && (notStar a' && (notStar b' && (mE I a a' && mE I b b'))))
  | .enum e, .Tuple _ _ _, .Call (.Name x _) [e'] [] _ => decide (x = ("enumerate" : Str)) && (freeIs I x && (notStar e' && mE I e e'))
  | .zip a b, .Tuple _ _ _, .Call (.Name x _) [a', b'] [] _ => decide (x = ("zip" : Str)) && (freeIs I x && (notStar a' && (notStar b' && (mE I a a' && mE I b b'))))
  | _, _, _ => false
def mG (I : Inf) : Tg → Expr → Bool
  | .nm i, .Name x _ => decide (I.N[i]? = some x) && locB I.blk I.cel I.sc x
  | .tp ts, .Tuple ts' _ _ => mGs I ts ts'
  | _, _ => false
def mGs (I : Inf) : List Tg → List Expr → Bool
  | [], [] => true
  | t :: ts, t' :: ts' => notStar t' && (mG I t t' && mGs I ts ts')
  | _, _ => false
end
end EV

set_option maxRecDepth 100000
set_option maxHeartbeats 1000000
/-! EvI: each form of the small language, by the hand layer's rules. -/
namespace EV
open PySem PySem.Spec PyProof.Rows L2

section
variable {X : Cx} {C : Ct} {a b c : Expr} {ma mb mc : M Val} {pos : Pos}
theorem p_bin (hK : C.K = X.K) (op : Operator) (ho : opOk op = true) (ha : PE X a (tE C ma)) (hb : PE X b (tE C mb)) : PE X (.BinOp a op b pos) (tE C (ma.bind fun x => mb.bind fun y => binM op x y)) := by
  cases op <;> first | (cases ho; done) | skip
  · exact (pe_op op_addE ha hb).weakE fun σ H Q q => q.two fun x y v u ρ h H2 R rx ry q => hK ▸ s_add R rx ry q
  · exact (pe_op op_sub ha hb).weakE fun σ H Q q => q.two fun x y v u ρ h H2 R rx ry q => s_sub R rx ry q
  · exact (pe_op op_mulE ha hb).weakE fun σ H Q q => q.two fun x y v u ρ h H2 R rx ry q => by rw [← hK]; exact s_mul R rx ry q
  · exact (pe_op op_mod ha hb).weakE fun σ H Q q => q.two fun x y v u ρ h H2 R rx ry q => s_mod R rx ry q
  · exact (pe_op op_pow ha hb).weakE fun σ H Q q => q.two fun x y v u ρ h H2 R rx ry q => s_pow R rx ry q
  · exact (pe_op op_fdiv ha hb).weakE fun σ H Q q => q.two fun x y v u ρ h H2 R rx ry q => s_fdiv R rx ry q
/-- what each comparison asks -/
def rCm (K : PySem.W.Frag) : CmpOp → R2
  | .Eq => rEqD K | .NotEq => rNeD K | .In => rInE K false | .NotIn => rInE K true | .Is => rIsN | .IsNot => rNotN
  | .Lt => rLtE | .LtE => rI0 fun i j => .bl (decide (i ≤ j)) | .Gt => rI0 fun i j => .bl (decide (j < i)) | .GtE => rI0 fun i j => .bl (decide (j ≤ i))
theorem op_cm (hu : X.A.units + 64 < cLine) : ∀ op : CmpOp, OpR X (compareOp op) (rCm X.K op)
  | .Eq => op_eqD hu | .NotEq => op_neD hu | .In => op_inE (by omega) | .NotIn => op_notInE (by omega) | .Is => op_isN | .IsNot => op_notN
  | .Lt => op_ltE | .LtE => op_le | .Gt => op_gt | .GtE => op_ge
theorem s_cm {σ : L2.St} {H : Hp} {ρ : Ev} {h : Hh} {x y : Val} {v u : V} {Q : VK} (R : Rel C σ H ρ h) (rx : RepV C σ ρ H x v) (ry : RepV C σ ρ H y u) : ∀ op : CmpOp, tV C (cmpM op x y) ρ h σ H Q → rCm C.K op v u H Q
  | .Eq, q => s_eq R rx ry q | .NotEq, q => s_ne R rx ry q | .In, q => s_in R rx ry q | .NotIn, q => s_notin R rx ry q | .Is, q => s_is R rx ry q | .IsNot, q => s_isnot R rx ry q
  | .Lt, q => s_lt R rx ry q | .LtE, q => s_le R rx ry q | .Gt, q => s_gt R rx ry q | .GtE, q => s_ge R rx ry q
theorem p_cmp (hK : C.K = X.K) (hu : X.A.units + 64 < cLine) (op : CmpOp) (hs : notSet b = true) (ha : PE X a (tE C ma)) (hb : PE X b (tE C mb)) : PE X (.Compare a [op] [b] pos) (tE C (ma.bind fun x => mb.bind fun y => cmpM op x y)) :=
  (pe_cmpR (op_cm hu op) ha hb (behind_set hs)).weakE fun σ H Q q => q.two fun x y v u ρ h H2 R rx ry q => hK ▸ s_cm R rx ry op q
/-- a comparison's answer is a bool -/
theorem cmpM_bool {op : CmpOp} {x y w : Val} {ρ ρ' : Ev} {h h' : Hh} (e : cmpM op x y ρ h = .ok w ρ' h') : ∃ k, w = .d (.bl k) ∧ ρ' = ρ ∧ h' = h := by
  have e2 : lift2 (fun a b => (cmpD op a b).map .bl) x y ρ h = .ok w ρ' h' := by
    cases x <;> first | exact e | cases e
  obtain ⟨a, b, c, _, _, h3, h4, h5, h6⟩ := lift2_ok e2
  cases hk : cmpD op a b with
  | none => rw [hk] at h3; cases h3
  | some k =>
    rw [hk] at h3
    cases (Option.some.inj h3)
    exact ⟨k, h4, h5, h6⟩
/-- from a test over the answer to the comparison itself -/
theorem cm_bool {σ : L2.St} {H : Hp} {ρ : Ev} {h : Hh} {x y : Val} {op : CmpOp} {Q : Bool → Hp → Prop} (R : Rel C σ H ρ h) (q : tBv C ((cmpM op x y).bind truM) ρ h σ H Q) : tV C (cmpM op x y) ρ h σ H fun z H3 => ∃ k, z = .bl k ∧ Q k H3 := by
  obtain ⟨w, ρ', h', e, k⟩ := q
  obtain ⟨w1, ρ1, h1, e1, e2⟩ := M.bind_ok e
  obtain ⟨bb, ew, er, eh⟩ := cmpM_bool e1
  subst ew; subst er; subst eh
  have e3 : Out.ok (truD (.bl bb)) ρ1 h1 = .ok w ρ' h' := e2
  injection e3 with z1 z2 z3
  subst z1; subst z2; subst z3
  exact ⟨_, _, _, e1, fun v H' R' r S sh => ⟨bb, r, k H' R' S sh⟩⟩
theorem tT.two {σ : L2.St} {H : Hp} {f : Val → Val → M Bool} {Q : Bool → Hp → Prop} {R : V → V → Hp → Prop} (q : tT C (ma.bind fun x => mb.bind fun y => f x y) σ H Q)
    (hR : ∀ x y v u ρ h H2, Rel C σ H2 ρ h → RepV C σ ρ H2 x v → RepV C σ ρ H2 y u → tBv C (f x y) ρ h σ H2 Q → R v u H2) : tE C ma σ H fun v H1 => tE C mb σ H1 fun u H2 => R v u H2 := by
  obtain ⟨ρ, h, R0, w, ρ', h', e, k⟩ := q
  obtain ⟨x, ρ1, h1, e1, e2⟩ := M.bind_ok e
  obtain ⟨y, ρ2, h2, e3, e4⟩ := M.bind_ok e2
  exact ⟨ρ, h, R0, x, ρ1, h1, e1, fun v H1 R1 r1 s1 p1 => ⟨ρ1, h1, R1, y, ρ2, h2, e3, fun u H2 R2 r2 s2 p2 =>
    hR x y v u ρ2 h2 H2 R2 (r1.stp s2 R1.mu p2) r2 ⟨w, ρ', h', e4, fun H3 R3 s3 p3 => k H3 R3 ((s1.trans s2).trans s3) ((p1.trans p2).trans p3)⟩⟩⟩
theorem tT.one {σ : L2.St} {H : Hp} {f : Val → M Bool} {Q : Bool → Hp → Prop} {R : V → Hp → Prop} (q : tT C (ma.bind f) σ H Q)
    (hR : ∀ x v ρ h H1, Rel C σ H1 ρ h → RepV C σ ρ H1 x v → tBv C (f x) ρ h σ H1 Q → R v H1) : tE C ma σ H R := by
  obtain ⟨ρ, h, R0, w, ρ', h', e, k⟩ := q
  obtain ⟨x, ρ1, h1, e1, e2⟩ := M.bind_ok e
  exact ⟨ρ, h, R0, x, ρ1, h1, e1, fun v H1 R1 r1 s1 p1 => hR x v ρ1 h1 H1 R1 r1 ⟨w, ρ', h', e2, fun H3 R3 s3 p3 => k H3 R3 (s1.trans s3) (p1.trans p3)⟩⟩
theorem t_cmp (hK : C.K = X.K) (hu : X.A.units + 64 < cLine) (op : CmpOp) (hs : notSet b = true) (ha : PE X a (tE C ma)) (hb : PE X b (tE C mb)) : PT X (.Compare a [op] [b] pos) (tT C (ma.bind fun x => mb.bind fun y => (cmpM op x y).bind truM)) :=
  (pt_cmpR (op_cm hu op) ha hb (behind_set hs)).weakE fun σ H Q q => q.two fun x y v u ρ h H2 R rx ry q => hK ▸ s_cm R rx ry op (cm_bool R q)
theorem lasts {op op2 : CmpOp} {b c : Expr} (h : notSet c = true) : lastMarks [op, op2] [b, c] = false := behind_set h
def chM (op op2 : CmpOp) (mc : M Val) (x y : Val) : M Val := (cmpM op x y).bind fun k => (match k with
    | .d (.bl true) => mc.bind fun z => cmpM op2 y z
    | .d (.bl false) => M.ret (.d (.bl false))
    | _ => M.fail)
theorem p_ch (hK : C.K = X.K) (hu : X.A.units + 64 < cLine) (op op2 : CmpOp) (hs : notSet c = true) (ha : PE X a (tE C ma)) (hb : PE X b (tE C mb)) (hc : PE X c (tE C mc)) :
    PE X (.Compare a [op, op2] [b, c] pos) (tE C (ma.bind fun x => mb.bind fun y => chM op op2 mc x y)) := by
  refine (pe_chain (op_cm hu op) (op_cm hu op2) ha hb hc (lasts hs)).weakE fun σ H Q q => q.two fun x y v u ρ h H2 R rx ry q => ?_
  obtain ⟨w, ρ', h', e, k⟩ := q
  obtain ⟨w1, ρ1, h1, e1, e2⟩ := M.bind_ok e
  obtain ⟨bb, ew, er, eh⟩ := cmpM_bool e1
  subst ew; subst er; subst eh
  refine hK ▸ s_cm R rx ry op ⟨_, _, _, e1, fun v' H3 R3 r3 s3 p3 => ⟨bb, r3, ?_⟩⟩
  cases bb with
  | false =>
    have e3 : Out.ok (Val.d (.bl false)) ρ1 h1 = .ok w ρ' h' := e2
    injection e3 with z1 z2 z3
    subst z1; subst z2; subst z3
    exact k _ H3 R3 rfl s3 p3
  | true =>
    obtain ⟨z, ρ2, h2, e4, e5⟩ := M.bind_ok (show (mc.bind fun z => cmpM op2 y z) ρ1 h1 = _ from e2)
    exact ⟨ρ1, h1, R3, z, ρ2, h2, e4, fun u2 H4 R4 r4 s4 p4 => hK ▸ s_cm R4 ((ry.stp s3 R.mu p3).stp s4 R3.mu p4) r4 op2 ⟨w, ρ', h', e5, fun v5 H5 R5 r5 s5 p5 => k v5 H5 R5 r5 ((s3.trans s4).trans s5) ((p3.trans p4).trans p5)⟩⟩
def chT (op op2 : CmpOp) (mc : M Val) (x y : Val) : M Bool := (cmpM op x y).bind fun k => (match k with
    | .d (.bl true) => mc.bind fun z => (cmpM op2 y z).bind fun r => truM r
    | .d (.bl false) => M.ret false
    | _ => M.fail)
theorem t_ch (hK : C.K = X.K) (hu : X.A.units + 64 < cLine) (op op2 : CmpOp) (hs : notSet c = true) (ha : PE X a (tE C ma)) (hb : PE X b (tE C mb)) (hc : PE X c (tE C mc)) :
    PT X (.Compare a [op, op2] [b, c] pos) (tT C (ma.bind fun x => mb.bind fun y => chT op op2 mc x y)) := by
  refine (pt_chain (op_cm hu op) (op_cm hu op2) ha hb hc (lasts hs)).weakE fun σ H Q q => q.two fun x y v u ρ h H2 R rx ry q => ?_
  obtain ⟨w, ρ', h', e, k⟩ := q
  obtain ⟨w1, ρ1, h1, e1, e2⟩ := M.bind_ok e
  obtain ⟨bb, ew, er, eh⟩ := cmpM_bool e1
  subst ew; subst er; subst eh
  refine hK ▸ s_cm R rx ry op ⟨_, _, _, e1, fun v' H3 R3 r3 s3 p3 => ⟨bb, r3, ?_⟩⟩
  cases bb with
  | false =>
    have e3 : Out.ok false ρ1 h1 = .ok w ρ' h' := e2
    injection e3 with z1 z2 z3
    subst z1; subst z2; subst z3
    exact ⟨false, rfl, k H3 R3 s3 p3⟩
  | true =>
    obtain ⟨z, ρ2, h2, e4, e5⟩ := M.bind_ok (show (mc.bind fun z => (cmpM op2 y z).bind fun r => truM r) ρ1 h1 = _ from e2)
    exact ⟨ρ1, h1, R3, z, ρ2, h2, e4, fun u2 H4 R4 r4 s4 p4 => hK ▸ s_cm R4 ((ry.stp s3 R.mu p3).stp s4 R3.mu p4) r4 op2
      (cm_bool (Q := fun k H5 => Q k H5) R4 ⟨w, ρ', h', e5, fun H5 R5 s5 p5 => k H5 R5 ((s3.trans s4).trans s5) ((p3.trans p4).trans p5)⟩)⟩
theorem p_ix (hK : C.K = X.K) (hu : X.A.units + 64 < cLine) (hs : notSlice b = true) (ha : PE X a (tE C ma)) (hb : PE X b (tE C mb)) : PE X (.Subscript a b pos) (tE C (ma.bind fun x => mb.bind fun y => ixM x y)) :=
  (pe_ix (ix_E (by omega)) ha hb (plain_ix hs)).weakE fun σ H Q q => q.two fun x y v u ρ h H2 R rx ry q => hK ▸ s_ix R rx ry q
theorem p_neg (ha : PE X a (tE C ma)) : PE X (.UnaryOp .USub a pos) (tE C (ma.bind fun x => lift1 (fun d => match d with | .int i => some (.int (-i)) | _ => none) x)) := by
  refine (pe_un un_neg ha).weakE fun σ H Q q => q.one fun x v ρ h H1 R r q => ?_
  obtain ⟨w, ρ', h', e⟩ := q.get
  obtain ⟨d, c, e1, e2, e3, e4, e5⟩ := lift1_ok e
  subst e3; subst e4; subst e5
  have rd := rd_ok R r e1
  cases d <;> first | (cases e2; done) | skip
  cases (Option.some.inj e2)
  exact ⟨_, rd, q.same R e rfl⟩
/-! ### the truth of an answer -/
theorem s_tru {σ : L2.St} {H : Hp} {ρ : Ev} {h : Hh} {x : Val} {v : V} {Q : Bool → Hp → Prop} (R : Rel C σ H ρ h) (rx : RepV C σ ρ H x v) (q : tBv C (truM x) ρ h σ H Q) : ∃ k, TruV C.K v H k ∧ Q k H := by
  obtain ⟨w, ρ', h', e, k⟩ := q
  unfold truM at e
  cases hd : rd ρ h x with
  | none => rw [hd] at e; cases e
  | some d =>
    simp only [hd] at e
    by_cases ht : truOk d = true
    · rw [if_pos ht] at e
      injection e with z1 z2 z3
      subst z1; subst z2; subst z3
      exact ⟨_, truD_ok (rd_ok R rx hd) ht, k H R .refl (.refl _)⟩
    · rw [if_neg ht] at e
      cases e
theorem t_tru (hK : C.K = X.K) (hp : plainT a = true) (ha : PE X a (tE C ma)) : PT X a (tT C (ma.bind truM)) :=
  (pt_truth ha (true_plain hp)).weakE fun σ H Q q => q.one fun x v ρ h H1 R r q => hK ▸ s_tru R r q
/-! ### bools -/
theorem tA.cons {σ : L2.St} {H : Hp} {ms : M (List Val)} {Q : List V → Hp → Prop} (q : tA C (ma.bind fun x => ms.bind fun xs => M.ret (x :: xs)) σ H Q) : tCons (tE C ma) (tA C ms) σ H Q := by
  obtain ⟨ρ, h, R0, ws, ρ', h', e, k⟩ := q
  obtain ⟨x, ρ1, h1, e1, e2⟩ := M.bind_ok e
  obtain ⟨xs, ρ2, h2, e3, e4⟩ := M.bind_ok e2
  injection e4 with z1 z2 z3
  subst z1; subst z2; subst z3
  exact ⟨ρ, h, R0, x, ρ1, h1, e1, fun v H1 R1 r1 s1 p1 => ⟨ρ1, h1, R1, xs, _, _, e3, fun vs H2 R2 r2 s2 p2 => k (v :: vs) H2 R2 ⟨v, vs, rfl, r1.stp s2 R1.mu p2, r2⟩ (s1.trans s2) (p1.trans p2)⟩⟩
theorem tA.nil {σ : L2.St} {H : Hp} {Q : List V → Hp → Prop} (q : tA C (M.ret []) σ H Q) : tNil σ H Q := by
  obtain ⟨ρ, h, R0, ws, ρ', h', e, k⟩ := q
  injection e with z1 z2 z3
  subst z1; subst z2; subst z3
  exact k [] H R0 rfl .refl (.refl _)
theorem tE.args {σ : L2.St} {H : Hp} {ms : M (List Val)} {f : List Val → M Val} {Q : VK} {R : List V → Hp → Prop} (q : tE C (ms.bind f) σ H Q)
    (hR : ∀ xs vs ρ h H1, Rel C σ H1 ρ h → RepVs C σ ρ H1 xs vs → tV C (f xs) ρ h σ H1 Q → R vs H1) : tA C ms σ H R := by
  obtain ⟨ρ, h, R0, w, ρ', h', e, k⟩ := q
  obtain ⟨x, ρ1, h1, e1, e2⟩ := M.bind_ok e
  exact ⟨ρ, h, R0, x, ρ1, h1, e1, fun vs H1 R1 r1 s1 p1 => hR x vs ρ1 h1 H1 R1 r1 ⟨w, ρ', h', e2, fun v H2 R2 r2 s2 p2 => k v H2 R2 r2 (s1.trans s2) (p1.trans p2)⟩⟩
theorem p_tup {es : List Expr} {k : Nat} {ms : M (List Val)} (hs : PA X es (tA C ms)) : PE X (.Tuple es k pos) (tE C (ms.bind fun xs => (match plains xs with
    | some ds => if ds.length ≤ sizeLine then M.ret (.d (.tup ds)) else M.fail
    | none => M.fail))) := by
  refine (pe_tup hs).weakE fun σ H Q q => q.args fun xs vs ρ h H1 R rx q => ?_
  obtain ⟨w, ρ', h', e⟩ := q.get
  cases hp : plains xs with
  | none => rw [hp] at e; cases e
  | some ds =>
    have rr := plains_ok rx hp
    simp only [hp] at e q
    by_cases hl : ds.length ≤ sizeLine
    · rw [if_pos hl] at q
      exact ⟨by rw [← rr.length]; exact hl, fun p n => q.newT R rfl rr n⟩
    · rw [if_neg hl] at e; cases e
theorem p_lst {es : List Expr} {ms : M (List Val)} (hs : PA X es (tA C ms)) : PE X (.List es pos) (tE C (ms.bind fun xs => (match plains xs with
    | some ds => if ds.length ≤ sizeLine then M.ret (.d (.lst ds)) else M.fail
    | none => M.fail))) := by
  refine (pe_lst hs).weakE fun σ H Q q => q.args fun xs vs ρ h H1 R rx q => ?_
  obtain ⟨w, ρ', h', e⟩ := q.get
  cases hp : plains xs with
  | none => rw [hp] at e; cases e
  | some ds =>
    have rr := plains_ok rx hp
    simp only [hp] at e q
    by_cases hl : ds.length ≤ sizeLine
    · rw [if_pos hl] at q
      exact ⟨by rw [← rr.length]; exact hl, fun p n => q.newL R rfl rr n⟩
    · rw [if_neg hl] at e; cases e
theorem tV.ret {σ : L2.St} {H : Hp} {ρ : Ev} {h : Hh} {w : Val} {v : V} {Q : VK} (R : Rel C σ H ρ h) (q : tV C (M.ret w) ρ h σ H Q) (r : RepV C σ ρ H w v) : Q v H := q.same R rfl r
theorem tE.ret {σ : L2.St} {H : Hp} {w : Val} {v : V} {Q : VK} (q : tE C (M.ret w) σ H Q) (r : ∀ ρ, RepV C σ ρ H w v) : Q v H := by
  obtain ⟨ρ, h, R, q⟩ := q
  exact q.same R rfl (r ρ)
theorem p_non {j : Nat} : PE X (.Constant .none j pos) (tE C (M.ret (.d .non))) := pe_non.weakE fun σ H Q q => q.ret fun _ => rfl
theorem p_bl {k : Bool} {j : Nat} : PE X (.Constant (.bool k) j pos) (tE C (M.ret (.d (.bl k)))) := pe_bl.weakE fun σ H Q q => q.ret fun _ => rfl
theorem p_int {i : Int} {j : Nat} : PE X (.Constant (.int i) j pos) (tE C (M.ret (.d (.int i)))) := pe_int.weakE fun σ H Q q => q.ret fun _ => rfl
theorem p_str {x : Str} {j : Nat} (h1 : PyData.strOk x = true) (h2 : x.length ≤ sizeLine) : PE X (.Constant (.str x) j pos) (tE C (M.ret (.d (.str x)))) := pe_str.weakE fun σ H Q q => q.ret fun _ => ⟨rfl, h1, h2⟩
theorem p_v {i : Nat} {x : Str} (hN : X.N[i]? = some x) (hv : Vis X.env.scope x) (h1 : (x == ("__debug__" : Str)) = false) (h2 : (x == ("__classdict__" : Str)) = false) : PE X (.Name x pos) (tE C (nameM i)) := by
  refine (pe_var hN hv h1 h2).weakE fun σ H Q q => ?_
  obtain ⟨ρ, h, R, q⟩ := q
  obtain ⟨w, ρ', h', e⟩ := q.get
  have e0 := e
  unfold nameM at e
  split at e
  · rename_i w0 hw
    injection e with z1 z2 z3
    subst z1; subst z2; subst z3
    obtain ⟨v, hs, r⟩ := R.val i _ hw
    exact ⟨v, hs, q.same R e0 r⟩
  · rename_i b0 hw
    injection e with z1 z2 z3
    subst z1; subst z2; subst z3
    obtain ⟨ad, hs, _, _⟩ := R.own i _ hw
    exact ⟨_, hs, q.same R e0 ⟨ad, _, hw, hs, rfl⟩⟩
  · cases e
theorem p_ife {t : Expr} {mt : M Bool} (ht : PT X t (tT C mt)) (ha : PE X a (tE C ma)) (hb : PE X b (tE C mb)) : PE X (.IfExp t a b pos) (tE C (mt.bind fun c => if c = true then ma else mb)) := by
  refine (pe_ifExp ht ha hb).weakE fun σ H Q q => ?_
  obtain ⟨ρ, h, R0, w, ρ', h', e, k⟩ := q
  obtain ⟨x, ρ1, h1, e1, e2⟩ := M.bind_ok e
  refine ⟨ρ, h, R0, x, ρ1, h1, e1, fun H1 R1 s1 p1 => ?_⟩
  cases x with
  | true => exact ⟨ρ1, h1, R1, w, ρ', h', e2, fun v H2 R2 r2 s2 p2 => k v H2 R2 r2 (s1.trans s2) (p1.trans p2)⟩
  | false => exact ⟨ρ1, h1, R1, w, ρ', h', e2, fun v H2 R2 r2 s2 p2 => k v H2 R2 r2 (s1.trans s2) (p1.trans p2)⟩
/-- not, as a value: of a bool -/
theorem p_not (ha : PE X a (tE C ma)) : PE X (.UnaryOp .Not a pos) (tE C (ma.bind fun x => (match x with
    | .d (.bl b) => M.ret (.d (.bl (!b)))
    | _ => M.fail))) := by
  refine (pe_not ha).weakE fun σ H Q q => q.one fun x v ρ h H1 R r q => ?_
  obtain ⟨w, ρ', h', e⟩ := q.get
  cases x <;> first | (cases e; done) | skip
  rename_i d
  cases d <;> first | (cases e; done) | skip
  exact ⟨_, r, q.ret R rfl⟩
theorem t_not {mt : M Bool} (ht : PT X a (tT C mt)) : PT X (.UnaryOp .Not a pos) (tT C (mt.bind fun b => M.ret (!b))) := by
  refine (pt_not ht).weakE fun σ H Q q => ?_
  obtain ⟨ρ, h, R0, w, ρ', h', e, k⟩ := q
  obtain ⟨x, ρ1, h1, e1, e2⟩ := M.bind_ok e
  injection e2 with z1 z2 z3
  subst z1; subst z2; subst z3
  exact ⟨ρ, h, R0, x, _, _, e1, fun H1 R1 s1 p1 => k H1 R1 s1 p1⟩
end
end EV

set_option maxRecDepth 100000
set_option maxHeartbeats 1000000
/-! EvJ: what is gone through, targets, and / or. -/
namespace EV
open PySem PySem.Spec PyProof.Rows L2

/-- contexts that differ in what functions may be called alone -/
structure Sib (C C' : Ct) : Prop where
  K : C'.K = C.K
theorem Sib.refl (C : Ct) : Sib C C := ⟨rfl⟩
/-- J gives the items xs, from the state told on, as long as what is not in A stays -/
def ItOk (C : Ct) (A1 : Addr → Prop) (H1 : Hp) (J : It) (xs : List D) : Prop :=
  ∀ C', Sib C C' → ∀ (σ : L2.St) (ρ : Ev) (h : Hh) (H : Hp), Rel C' σ H ρ h → Kp H1 A1 H (Av C' σ ρ) →
    (∀ (i : Nat) (x : D), xs[i]? = some x → J.go i H ∧ ∀ v H', J.yld i H v H' → RepD C'.K H' (Av C' σ ρ) x v ∧ Rel C' σ H' ρ h ∧ Stp C' σ ρ H σ ρ H') ∧ J.stop xs.length H
def tI (C : Ct) (m : M (List D)) : TI := fun σ H R => ∃ ρ h xs ρ' h', Rel C σ H ρ h ∧ m ρ h = .ok xs ρ' h' ∧
  ∀ J H', Rel C σ H' ρ' h' → Stp C σ ρ H σ ρ' H' → Shp ρ ρ' → ItOk C (Av C σ ρ') H' J xs → R J H'

theorem _root_.L2.PI.weakE {X : Cx} {tg e : Expr} {t t' : TI} (p : PI X tg e t) (h : ∀ σ H R, t' σ H R → t σ H R) : PI X tg e t' := ⟨fun pins s σ H R I q => p.run pins s σ H R I (h σ H R q)⟩
theorem PI.or {X : Cx} {tg e : Expr} {t t' : TI} (p : PI X tg e t) (p' : PI X tg e t') : PI X tg e (fun σ H R => t σ H R ∨ t' σ H R) :=
  ⟨fun pins s σ H R I q => q.elim (p.run pins s σ H R I) (p'.run pins s σ H R I)⟩
section
variable {C : Ct} {σ : L2.St} {H : Hp} {ρ : Ev} {h : Hh}
theorem itok_list {A : Addr → Prop} {xs : List D} {a : Addr} {vs : List V} (e : H a = some (.lst vs)) (n : ¬ A a) (r : RepDs C.K H A xs vs) : ItOk C A H (Itl C.K a) xs := by
  intro C' sb σ ρ h H2 R k
  obtain ⟨e2, n2⟩ := k.lst a vs e n
  have r2 := r.kp k
  rw [← sb.K] at *
  refine ⟨fun i x hx => ?_, ⟨vs, .inl (.inl e2), by rw [r2.length]; exact Nat.le_refl _⟩⟩
  obtain ⟨v, hv, rv⟩ := r2.get hx
  refine ⟨⟨vs, v, .inl (.inl e2), hv⟩, fun u H' y => ?_⟩
  obtain ⟨y1, y2⟩ := y
  subst y1
  have := y2 vs (.inl (.inl e2))
  rw [hv] at this
  cases this
  exact ⟨rv, R, .refl⟩
theorem itok_tup {A : Addr → Prop} {xs : List D} {a : Addr} {vs : List V} (e : ∀ H', Kp H A H' A ∨ (∃ A', Kp H A H' A') → SqT C.K H' a vs) (r : RepDs C.K H A xs vs) : ItOk C A H (Itt C.K a) xs := by
  intro C' sb σ ρ h H2 R k
  have e2 := e H2 (.inr ⟨_, k⟩)
  have r2 := r.kp k
  rw [← sb.K] at *
  refine ⟨fun i x hx => ?_, ⟨vs, e2, by rw [r2.length]; exact Nat.le_refl _⟩⟩
  obtain ⟨v, hv, rv⟩ := r2.get hx
  refine ⟨⟨vs, v, e2, hv⟩, fun u H' y => ?_⟩
  obtain ⟨y1, y2⟩ := y
  subst y1
  have := y2 vs e2
  rw [hv] at this
  cases this
  exact ⟨rv, R, .refl⟩
theorem itok_str {A : Addr → Prop} {z : Str} (h1 : PyData.strOk z = true) : ItOk C A H (Its z) (z.cps.toList.map fun c => .str ⟨#[c]⟩) := by
  intro C' sb σ ρ h H2 R k
  refine ⟨fun i x hx => ?_, by rw [List.length_map, Array.length_toList]; exact Nat.le_refl _⟩
  rw [List.getElem?_map] at hx
  cases hc : z.cps.toList[i]? with
  | none => rw [hc] at hx; cases hx
  | some c =>
    rw [hc] at hx
    cases (Option.some.inj hx)
    have hl := (List.getElem?_eq_some_iff.mp hc).1
    rw [Array.length_toList] at hl
    refine ⟨hl, fun u H' y => ?_⟩
    obtain ⟨y1, c', y2, y3⟩ := y
    subst y1
    rw [Array.getElem?_toList] at hc
    rw [hc] at y2
    cases y2
    refine ⟨⟨y3, ?_, ?_⟩, R, .refl⟩
    · have hm : c ∈ z.cps := Array.mem_of_getElem? hc
      unfold PyData.strOk at h1 ⊢
      rw [Array.all_eq_true_iff_forall_mem] at h1
      simpa using h1 c hm
    · show (#[c] : Array Nat).size ≤ sizeLine
      have : sizeLine = 16777216 := sizeLine_eq
      rw [this]; show 1 ≤ 16777216; decide
theorem upto_get : ∀ (n : Nat) (lo : Int) (i : Nat), i < n → (upto lo n)[i]? = some (.int (lo + i))
  | n + 1, lo, 0, _ => by show some (D.int lo) = _; simp
  | n + 1, lo, i + 1, hi => by
    show (upto (lo + 1) n)[i]? = _
    rw [upto_get n (lo + 1) i (by omega)]
    congr 2
    omega
theorem upto_len : ∀ (n : Nat) (lo : Int), (upto lo n).length = n
  | 0, _ => rfl
  | n + 1, lo => congrArg (· + 1) (upto_len n (lo + 1))
theorem itok_range {A : Addr → Prop} {lo : Int} {n : Nat} : ItOk C A H (Itr lo n) (upto lo n) := by
  intro C' sb σ ρ h H2 R k
  refine ⟨fun i x hx => ?_, by rw [upto_len]; exact Nat.le_refl _⟩
  have hl := (List.getElem?_eq_some_iff.mp hx).1
  rw [upto_len] at hl
  rw [upto_get n lo i hl] at hx
  cases hx
  refine ⟨hl, fun u H' y => ?_⟩
  obtain ⟨y1, y2⟩ := y
  subst y1
  exact ⟨y2, R, .refl⟩
theorem tI.one {m : M Val} {f : Val → M (List D)} {R0 : It → Hp → Prop} {R : V → Hp → Prop} (q : tI C (m.bind f) σ H R0)
    (hR : ∀ x v ρ h H1 xs ρ' h', Rel C σ H1 ρ h → RepV C σ ρ H1 x v → f x ρ h = .ok xs ρ' h' → (∀ J H', Rel C σ H' ρ' h' → Stp C σ ρ H1 σ ρ' H' → Shp ρ ρ' → ItOk C (Av C σ ρ') H' J xs → R0 J H') → R v H1) : tE C m σ H R := by
  obtain ⟨ρ, h, xs, ρ', h', R1, e, k⟩ := q
  obtain ⟨x, ρ1, h1, e1, e2⟩ := M.bind_ok e
  exact ⟨ρ, h, R1, x, ρ1, h1, e1, fun v H1 R2 r2 s2 p2 => hR x v ρ1 h1 H1 xs ρ' h' R2 r2 e2 fun J H' R3 s3 p3 i3 => k J H' R3 (s2.trans s3) (p2.trans p3) i3⟩
end
section
variable {X : Cx} {C : Ct} {tg e : Expr} {m : M Val}
/-- a dict that nobody may change is locked for good -/
theorem Rel.lock {C : Ct} {σ : L2.St} {H : Hp} {ρ : Ev} {h : Hh} {d : Addr} {kvs : List (Key × V)} {od : Obj} (R : Rel C σ H ρ h) (e : H d = some (.dK kvs)) (n : ¬ Av C σ ρ d) : Rel C σ (upd H d (.frz od (.dK kvs))) ρ h ∧ Stp C σ ρ H σ ρ (upd H d (.frz od (.dK kvs))) := by
  obtain ⟨k1, k2⟩ := upd_kept (o := .frz od (.dK kvs)) e rfl (fun ps z => by cases z)
  have ne : ∀ a, Av C σ ρ a → a ≠ d := fun a z y => n (by rw [← y]; exact z)
  have S : Stp C σ ρ H σ ρ (upd H d (.frz od (.dK kvs))) := ⟨k1, fun a u q n1 n2 n3 => by
    by_cases y : a = d
    · subst y
      rw [e] at q
      cases q
      exact .inr ⟨fun z => n (.inl z), rfl, od, upd_same⟩
    · exact .inl (by rw [upd_ne y]; exact q), fun a q => by
      by_cases y : a = d
      · subst y; rw [upd_same] at q; cases q
      · rw [upd_ne y] at q; exact q, fun a z => .inl z⟩
  have k := S.kp R.mu
  refine ⟨⟨R.len, fun i w q => ?_, fun i b q => ?_, R.dis, R.blen, fun j b q => ?_, R.mu, R.nod, fun a q => ?_, R.noH, tabs_kept R.tab k1 k2⟩, S⟩
  · obtain ⟨v, q1, q2⟩ := R.val i w q
    exact ⟨v, q1, q2.stp S R.mu (.refl _)⟩
  · obtain ⟨a, q1, q2, q3⟩ := R.own i b q
    exact ⟨a, q1, q2, q3.kp k fun o z => by rw [upd_ne (ne a (.inr ⟨i, b, q, q1⟩))]; exact z⟩
  · obtain ⟨a, q1, q2⟩ := R.box j b q
    exact ⟨a, q1, q2.kp k fun o z => by rw [upd_ne (ne a (.inl (R.mu a (List.mem_of_getElem? q1))))]; exact z⟩
  · obtain ⟨o, q1⟩ := R.trk a q
    by_cases y : a = d
    · subst y; exact ⟨_, upd_same⟩
    · exact ⟨o, by rw [upd_ne y]; exact q1⟩
/-- .. as a reading -/
def tFz (t : TE) : TE := fun σ H Q => t σ H fun x H1 => (∃ d o kvs, x = .ref d ∧ H1 d = some (.frz o (.dK kvs)) ∧ Q x H1) ∨ ∃ d kvs, x = .ref d ∧ H1 d = some (.dK kvs) ∧ ∀ od, Q x (upd H1 d (.frz od (.dK kvs)))
theorem pe_lk {X : Cx} {e : Expr} {t : TE} (he : PE X e t) : PE X e (tFz t) := by
  refine ⟨fun pins s σ H Q I h => ?_⟩
  refine thn (he.run pins s σ H _ I h) fun u s1 ⟨x, H1, I1, rx, q⟩ => ?_
  rcases q with ⟨d, o, kvs, ex, hd, q⟩ | ⟨d, kvs, ex, hd, q⟩
  · exact ⟨x, H1, I1, rx, q⟩
  · obtain ⟨od, I2⟩ := I1.lock hd trivial
    exact ⟨x, _, I2, rx, q od⟩
theorem reps_keys {K : PySem.W.Frag} {H : Hp} {A : Addr → Prop} {k : Key} (h : keyOkB k = true) : RepD K H A (kD k) (kV k) := by
  cases k with
  | inl i => rfl
  | inr x =>
    have h : (PyData.strOk x && decide (x.length ≤ sizeLine)) = true := h
    simp only [Bool.and_eq_true, decide_eq_true_eq] at h
    exact ⟨rfl, h.1, h.2⟩
theorem itok_keys {C : Ct} {H : Hp} {A : Addr → Prop} {d : Addr} {o : Obj} {kvs : List (Key × V)} (e : H d = some (.frz o (.dK kvs))) (ok : (kvs.map (·.1)).all keyOkB = true) : ItOk C A H (Itk d o kvs) ((kvs.map (·.1)).map kD) := by
  intro C' sb σ ρ h H2 R k
  have e2 := k.frz d o _ e
  refine ⟨fun i x hx => ?_, e2, by rw [List.length_map, List.length_map]; exact Nat.le_refl _⟩
  rw [List.map_map, List.getElem?_map] at hx
  cases hk : kvs[i]? with
  | none => rw [hk] at hx; cases hx
  | some kv =>
    rw [hk] at hx
    cases (Option.some.inj hx)
    refine ⟨⟨e2, (List.getElem?_eq_some_iff.mp hk).1⟩, fun v H' y => ?_⟩
    obtain ⟨y1, k', v', y2, y3⟩ := y
    subst y1
    rw [hk] at y2
    cases y2
    subst y3
    exact ⟨reps_keys (List.all_eq_true.mp ok _ (List.mem_map.mpr ⟨_, List.mem_of_getElem? hk, rfl⟩)), R, .refl⟩
theorem p_seq (hK : C.K = X.K) (he : PE X e (tE C m)) : PI X tg e (tI C (m.bind fun x => itemsM x)) := by
  refine (PI.or (pi_list he) (PI.or (pi_tup he) (PI.or (pi_str he) (pi_keys (pe_lk he))))).weakE fun σ H R q => ?_
  obtain ⟨ρ, h, xs, ρ', h', R1, em, k⟩ := id q
  obtain ⟨x, ρ1, h1, e1, e2⟩ := M.bind_ok em
  have fin : (∀ v H1, Rel C σ H1 ρ1 h1 → RepV C σ ρ1 H1 x v → (∀ J H', Rel C σ H' ρ' h' → Stp C σ ρ1 H1 σ ρ' H' → Shp ρ1 ρ' → ItOk C (Av C σ ρ') H' J xs → R J H') →
      (∃ a, v = .ref a ∧ (∃ us, SqL X.K H1 a us) ∧ R (Itl X.K a) H1)) → iList X.K (tE C m) σ H R := fun f =>
    ⟨ρ, h, R1, x, ρ1, h1, e1, fun v H1 R2 r2 s2 p2 => f v H1 R2 r2 fun J H' R3 s3 p3 i3 => k J H' R3 (s2.trans s3) (p2.trans p3) i3⟩
  have fin2 : (∀ v H1, Rel C σ H1 ρ1 h1 → RepV C σ ρ1 H1 x v → (∀ J H', Rel C σ H' ρ' h' → Stp C σ ρ1 H1 σ ρ' H' → Shp ρ1 ρ' → ItOk C (Av C σ ρ') H' J xs → R J H') →
      (∃ a, v = .ref a ∧ (∃ us, SqT X.K H1 a us) ∧ R (Itt X.K a) H1)) → iTup X.K (tE C m) σ H R := fun f =>
    ⟨ρ, h, R1, x, ρ1, h1, e1, fun v H1 R2 r2 s2 p2 => f v H1 R2 r2 fun J H' R3 s3 p3 i3 => k J H' R3 (s2.trans s3) (p2.trans p3) i3⟩
  cases x with
  | d a =>
    cases a with
    | lst ys =>
      injection e2 with z1 z2 z3
      subst z1; subst z2; subst z3
      refine .inl (fin fun v H1 R2 r2 k2 => ?_)
      obtain ⟨a, vs, ev, ea, na, rs⟩ := r2
      exact ⟨a, ev, ⟨vs, .inl (.inl ea)⟩, hK ▸ k2 _ H1 R2 .refl (.refl _) (itok_list ea na rs)⟩
    | tup ys =>
      injection e2 with z1 z2 z3
      subst z1; subst z2; subst z3
      refine .inr (.inl (fin2 fun v H1 R2 r2 k2 => ?_))
      obtain ⟨a, vs, ev, ea, rs⟩ := r2
      exact ⟨a, ev, ⟨vs, .inl (.inl ea)⟩, hK ▸ k2 _ H1 R2 .refl (.refl _) (itok_tup (vs := vs) (fun H' z => .inl (.inl (z.elim (fun y => y.tup a vs ea) fun ⟨_, y⟩ => y.tup a vs ea))) rs)⟩
    | str z =>
      injection e2 with z1 z2 z3
      subst z1; subst z2; subst z3
      refine .inr <| .inr <| .inl (⟨ρ, h, R1, .d (.str z), ρ1, h1, e1, fun v H1 R2 r2 s2 p2 => ?_⟩)
      exact ⟨z, r2.1, k _ H1 R2 s2 p2 (itok_str r2.2.1)⟩
    | dic ks ds =>
      have e2 : (match (if ks.all keyOkB = true then some (ks.map kD) else none) with
        | some xs => Out.ok xs ρ1 h1
        | none => .bad) = Out.ok xs ρ' h' := e2
      by_cases ok : ks.all keyOkB = true
      · rw [if_pos ok] at e2
        injection e2 with z1 z2 z3
        subst z1; subst z2; subst z3
        refine .inr <| .inr <| .inr ⟨ρ, h, R1, .d (.dic ks ds), ρ1, h1, e1, fun v H1 R2 r2 s2 p2 => ?_⟩
        obtain ⟨a, kvs, ev, hr, na, ek, rs⟩ := r2
        subst ek
        rcases hr with hr | ⟨o, hr⟩
        · refine .inr ⟨a, kvs, ev, hr, fun od => ⟨a, od, ev, .inl ⟨kvs, upd_same, ?_⟩⟩⟩
          obtain ⟨R3, S3⟩ := R2.lock (od := od) hr na
          exact k _ _ R3 (s2.trans S3) p2 (itok_keys upd_same ok)
        · exact .inl ⟨a, o, kvs, ev, hr, a, o, ev, .inl ⟨kvs, hr, k _ _ R2 s2 p2 (itok_keys hr ok)⟩⟩
      · rw [if_neg ok] at e2; cases e2
    | _ => cases e2
  | kon ys =>
    injection e2 with z1 z2 z3
    subst z1; subst z2; subst z3
    refine .inr (.inl (fin2 fun v H1 R2 r2 k2 => ?_))
    obtain ⟨a, vs, ev, ea, rs⟩ := r2
    exact ⟨a, ev, ⟨vs, .inr (hK ▸ ea)⟩, hK ▸ k2 _ H1 R2 .refl (.refl _) (itok_tup (vs := vs) (fun H' z => .inr ea) rs)⟩
  | _ => cases e2
theorem rangeM_ok {x y : Val} {ρ ρ' : Ev} {h h' : Hh} {xs : List D} (e : rangeM x y ρ h = .ok xs ρ' h') : ∃ i j, x = .d (.int i) ∧ y = .d (.int j) ∧ (-(2 ^ 62) ≤ i ∧ i < 2 ^ 62 ∧ -(2 ^ 62) ≤ j ∧ j < 2 ^ 62) ∧ xs = upto i (j - i).toNat ∧ ρ' = ρ ∧ h' = h := by
  cases x with
  | d a =>
    cases a with
    | int i =>
      cases y with
      | d b =>
        cases b with
        | int j =>
          have e : (if -(2 ^ 62) ≤ i ∧ i < 2 ^ 62 ∧ -(2 ^ 62) ≤ j ∧ j < 2 ^ 62 then (M.ret (upto i (j - i).toNat) : M (List D)) else M.fail) ρ h = .ok xs ρ' h' := e
          by_cases hb : -(2 ^ 62) ≤ i ∧ i < 2 ^ 62 ∧ -(2 ^ 62) ≤ j ∧ j < 2 ^ 62
          · rw [if_pos hb] at e
            injection e with z1 z2 z3
            exact ⟨i, j, rfl, rfl, hb, z1.symm, z2.symm, z3.symm⟩
          · rw [if_neg hb] at e; cases e
        | _ => cases e
      | _ => cases e
    | _ => cases e
  | _ => cases e
theorem p_range1 {p pos : Pos} {a : Expr} (hg : Gl X "range") (hm : X.mg "range" = none) (hs : notStar a = true) (ha : PE X a (tE C m)) : PI X tg (.Call (.Name "range" p) [a] [] pos) (tI C (m.bind fun x => rangeM (.d (.int 0)) x)) := by
  refine (pi_range1 hg hm (pa_cons ha pa_nil (star_cons hs)) (star_cons hs)).weakE fun σ H R q => ?_
  refine q.one fun x v ρ h H1 xs ρ' h' R1 r e k => ?_
  obtain ⟨i, j, e1, e2, e3, e4, e5, e6⟩ := rangeM_ok e
  cases e1
  subst e2; subst e4; subst e5; subst e6
  refine ⟨j, by rw [show v = _ from r], e3.2.2.1, e3.2.2.2, ?_⟩
  have := k (Itr 0 (j - 0).toNat) H1 R1 .refl (.refl _) itok_range
  rw [show j - 0 = j by omega] at this
  exact this
theorem p_range2 {p pos : Pos} {a b : Expr} {mb : M Val} (hg : Gl X "range") (hm : X.mg "range" = none) (hs : notStar a = true) (hs2 : notStar b = true) (ha : PE X a (tE C m)) (hb : PE X b (tE C mb)) : PI X tg (.Call (.Name "range" p) [a, b] [] pos) (tI C (m.bind fun x => mb.bind fun y => rangeM x y)) := by
  refine (pi_range2 hg hm (pa_cons ha (pa_cons hb pa_nil (star_cons hs2)) (star_cons hs)) (by rw [star_cons hs, star_cons hs2]; rfl) (star_cons hs2)).weakE fun σ H R q => ?_
  refine q.one fun x v ρ h H1 xs ρ' h' R1 r e k => ?_
  obtain ⟨y, ρ2, h2, e1, e2⟩ := M.bind_ok e
  obtain ⟨i, j, f1, f2, f3, f4, f5, f6⟩ := rangeM_ok e2
  subst f1; subst f2; subst f4; subst f5; subst f6
  refine ⟨ρ, h, R1, .d (.int j), _, _, e1, fun u H2 R2 r2 s2 p2 => ?_⟩
  exact ⟨i, j, by rw [show v = _ from r, show u = _ from r2], f3, k (Itr i (j - i).toNat) H2 R2 s2 p2 itok_range⟩
end

/-! ### targets -/
mutual
def tix : Tg → List Nat
  | .nm i => [i]
  | .tp ts => tixs ts
  | .sub _ _ => []
def tixs : List Tg → List Nat
  | [] => []
  | t :: ts => tix t ++ tixs ts
end
/-- the slots' kinds off js stay -/
def ShO (ρ ρ' : Ev) (js : List Nat) : Prop := ∀ j : Nat, j ∉ js → ρ'[j]? = ρ[j]? ∨ ∃ b b', ρ[j]? = some (.own b) ∧ ρ'[j]? = some (.own b')
theorem ShO.refl (ρ : Ev) (js : List Nat) : ShO ρ ρ js := fun _ _ => .inl rfl
theorem ShO.mono {ρ ρ' : Ev} {js ks : List Nat} (o : ShO ρ ρ' js) (h : ∀ j ∈ js, j ∈ ks) : ShO ρ ρ' ks := fun j hj => o j fun z => hj (h j z)
theorem ShO.trans {ρ ρ1 ρ2 : Ev} {js : List Nat} (s : ShO ρ ρ1 js) (t : ShO ρ1 ρ2 js) : ShO ρ ρ2 js := fun i hi => by
  rcases s i hi with z | ⟨b, b', z1, z2⟩
  · rcases t i hi with y | ⟨c, c', y1, y2⟩
    · exact .inl (y.trans z)
    · exact .inr ⟨c, c', z.symm.trans y1, y2⟩
  · rcases t i hi with y | ⟨c, c', y1, y2⟩
    · exact .inr ⟨b, b', z1, y.trans z2⟩
    · exact .inr ⟨b, c', z1, y2⟩
def OffS (σ σ' : L2.St) (js : List Nat) : Prop := σ'.length = σ.length ∧ ∀ j : Nat, j ∉ js → σ'[j]? = σ[j]?
def tG (C : Ct) (js : List Nat) (f : Val → M Unit) : TG := fun v σ H Q => ∃ ρ h w ρ' h', Rel C σ H ρ h ∧ RepV C σ ρ H w v ∧ f w ρ h = .ok () ρ' h' ∧
  ∀ σ' H', Rel C σ' H' ρ' h' → Stp C σ ρ H σ' ρ' H' → OffS σ σ' js → ShO ρ ρ' js → Q σ' H'
def tGs (C : Ct) (js : List Nat) (f : List D → M Unit) : TGs := fun vs σ H Q => ∃ ρ h ws ρ' h', Rel C σ H ρ h ∧ RepDs C.K H (Av C σ ρ) ws vs ∧ f ws ρ h = .ok () ρ' h' ∧
  ∀ σ' H', Rel C σ' H' ρ' h' → Stp C σ ρ H σ' ρ' H' → OffS σ σ' js → ShO ρ ρ' js → Q σ' H'
theorem _root_.L2.PG.weakE {X : Cx} {tg : Expr} {t t' : TG} (p : PG X tg t) (h : ∀ v σ H Q, t' v σ H Q → t v σ H Q) : PG X tg t' := ⟨fun pins s σ H v u Q I r q => p.run pins s σ H v u Q I r (h v σ H Q q)⟩
theorem _root_.L2.PGs.weakE {X : Cx} {tg : List Expr} {t t' : TGs} (p : PGs X tg t) (h : ∀ v σ H Q, t' v σ H Q → t v σ H Q) : PGs X tg t' := ⟨fun pins s σ H v u Q I r q => p.run pins s σ H v u Q I r (h v σ H Q q)⟩
section
variable {C : Ct} {σ : L2.St} {H : Hp} {ρ : Ev} {h : Hh}
/-- a name is stored: no handle -/
theorem Rel.setVal {i : Nat} {w : Val} {v : V} (R : Rel C σ H ρ h) (hi : i < ρ.length) (nw : ∀ j, w ≠ .own j) (r : RepV C σ ρ H w v) : Rel C (σ.set i (some v)) H (ρ.set i (.val w)) h ∧ Stp C σ ρ H (σ.set i (some v)) (ρ.set i (.val w)) H ∧ OffS σ (σ.set i (some v)) [i] := by
  have hs : i < σ.length := by rw [R.len]; exact hi
  have ow : ∀ a, Ow (σ.set i (some v)) (ρ.set i (.val w)) a → Ow σ ρ a := fun a ⟨j, b, e1, e2⟩ => by
    by_cases hj : i = j
    · subst hj; rw [List.getElem?_set_self hi] at e1; cases e1
    · rw [List.getElem?_set_ne hj] at e1 e2; exact ⟨j, b, e1, e2⟩
  have k : Kp H (Av C σ ρ) H (Av C (σ.set i (some v)) (ρ.set i (.val w))) := by
    have av : ∀ a, ¬ Av C σ ρ a → ¬ Av C (σ.set i (some v)) (ρ.set i (.val w)) a := fun a n z => n (z.imp id (ow a))
    exact ⟨fun _ _ e => e, fun a _ e n => ⟨e, av a n⟩, fun a _ e n => ⟨e, av a n⟩, fun a _ e n => ⟨e, av a n⟩, fun _ _ _ e => e⟩
  have rv : ∀ {w' : Val} {v' : V}, (∀ j, w' ≠ .own j) → RepV C σ ρ H w' v' → RepV C (σ.set i (some v)) (ρ.set i (.val w)) H w' v' := fun {w' v'} n r => by
    cases w' with
    | d x => exact r.kp k _ _
    | ref j => exact r
    | own j => exact absurd rfl (n j)
    | clo c caps =>
      obtain ⟨b0, n, f, F, ws, h1, h2, h3, h4, h5, h6, h7, h8⟩ := r
      exact ⟨b0, n, f, F, ws, h1, h2, h3, h4, h5, h6, h7, h8.kp k⟩
    | mk c => exact r
    | scr ns => exact r
    | kon xs => obtain ⟨a, vs, e1, e2, e3⟩ := r; exact ⟨a, vs, e1, e2, e3.kp k⟩
  refine ⟨⟨by rw [List.length_set, List.length_set]; exact R.len, fun j w' e => ?_, fun j b e => ?_, fun j j2 b b2 a e1 e2 z1 z2 => ?_, R.blen, fun j b e => ?_, R.mu, R.nod, R.trk, fun j k e => ?_, R.tab⟩,
    ⟨fun _ _ e _ => e, fun _ _ e _ _ _ => .inl e, fun _ e => e, fun a z => .inl (ow a z)⟩, ⟨List.length_set, fun j hj => List.getElem?_set_ne (fun z => hj (by simp [z]))⟩⟩
  · by_cases hj : i = j
    · subst hj
      rw [List.getElem?_set_self hi] at e; cases e
      exact ⟨v, List.getElem?_set_self hs, rv nw r⟩
    · rw [List.getElem?_set_ne hj] at e ⊢
      obtain ⟨v', e1, r1⟩ := R.val j w' e
      by_cases ho : ∃ k, w' = .own k
      · obtain ⟨k0, ek⟩ := ho
        subst ek
        -- a handle is never held by a name
        exact (R.noH j k0 e).elim
      · exact ⟨v', e1, rv (fun k z => ho ⟨k, z⟩) r1⟩
  · by_cases hj : i = j
    · subst hj; rw [List.getElem?_set_self hi] at e; cases e
    · rw [List.getElem?_set_ne hj] at e ⊢
      obtain ⟨a, e1, e2, e3⟩ := R.own j b e
      exact ⟨a, e1, e2, e3.kp k fun o z => z⟩
  · have n1 : i ≠ j := fun z => by subst z; rw [List.getElem?_set_self hi] at e1; cases e1
    have n2 : i ≠ j2 := fun z => by subst z; rw [List.getElem?_set_self hi] at e2; cases e2
    rw [List.getElem?_set_ne n1] at e1 z1
    rw [List.getElem?_set_ne n2] at e2 z2
    exact R.dis j j2 b b2 a e1 e2 z1 z2
  · obtain ⟨a, e1, e2⟩ := R.box j b e
    exact ⟨a, e1, e2.kp k fun o z => z⟩
  · by_cases hj : i = j
    · subst hj; rw [List.getElem?_set_self hi] at e; cases e; exact nw _ rfl
    · rw [List.getElem?_set_ne hj] at e; exact R.noH j k e
end
end EV

set_option maxRecDepth 100000
set_option maxHeartbeats 1000000
/-! EvK: targets, and / or, comprehensions, built-in calls, methods of own lists. -/
namespace EV
open PySem PySem.Spec PyProof.Rows L2

section
variable {X : Cx} {C : Ct}
theorem OffS.mono {σ σ' : L2.St} {js ks : List Nat} (o : OffS σ σ' js) (h : ∀ j ∈ js, j ∈ ks) : OffS σ σ' ks := ⟨o.1, fun j hj => o.2 j fun z => hj (h j z)⟩
theorem OffS.trans {σ σ1 σ2 : L2.St} {js : List Nat} (a : OffS σ σ1 js) (b : OffS σ1 σ2 js) : OffS σ σ2 js := ⟨b.1.trans a.1, fun j hj => (b.2 j hj).trans (a.2 j hj)⟩
theorem g_nm {i : Nat} {x : Str} {pos : Pos} (hN : X.N.Nodup) (hi : X.N[i]? = some x) (hx : Loc X.env.scope x) (hf : X.fn x = true ∨ X.env.scope.names.lookup x = some .local) : PG X (.Name x pos) (tG C [i] (setM i)) := by
  refine (pg_name hN hi hx hf).weakE fun v σ H Q q => ?_
  obtain ⟨ρ, h, w, ρ', h', R, r, e, k⟩ := q
  have key : i < ρ.length ∧ (∀ j, w ≠ .own j) ∧ ρ' = ρ.set i (.val w) ∧ h' = h := by
    unfold setM at e
    cases w with
    | own j => cases e
    | _ =>
      dsimp only at e
      by_cases hl : i < ρ.length
      · rw [if_pos hl] at e
        injection e with z1 z2 z3
        exact ⟨hl, (fun _ z => by cases z), z2.symm, z3.symm⟩
      · rw [if_neg hl] at e; cases e
  obtain ⟨hl, nw, e1, e2⟩ := key
  subst e1; subst e2
  obtain ⟨R2, S2, O2⟩ := R.setVal hl nw r
  exact k _ _ R2 S2 O2 fun j hj => .inl (List.getElem?_set_ne (fun z => hj (by simp [z])))
theorem gs_nil : PGs X [] (tGs C [] fun ds => (match ds with | [] => M.ret () | _ => M.fail)) := by
  refine pgs_nil.weakE fun vs σ H Q q => ?_
  obtain ⟨ρ, h, ws, ρ', h', R, r, e, k⟩ := q
  cases ws with
  | cons _ _ => cases e
  | nil =>
    injection e with z1 z2 z3
    subst z2; subst z3
    exact ⟨r, k σ H R .refl ⟨rfl, fun _ _ => rfl⟩ (.refl _ _)⟩
theorem gs_cons {t : Expr} {ts : List Expr} {js ks : List Nat} {f : Val → M Unit} {g : List D → M Unit} (hs : notStar t = true) (h1 : PG X t (tG C js f)) (h2 : PGs X ts (tGs C ks g)) :
    PGs X (t :: ts) (tGs C (js ++ ks) fun ds => (match ds with | x :: xs => (f (.d x)).bind fun _ => g xs | [] => M.fail)) := by
  refine (pgs_cons h1 h2 (by rw [asg_cons hs]; rfl)).weakE fun vs σ H Q q => ?_
  obtain ⟨ρ, h, ws, ρ', h', R, r, e, k⟩ := q
  cases ws with
  | nil => cases e
  | cons x xs =>
    obtain ⟨v, t, ev, r1, r2⟩ := r
    obtain ⟨_, ρ1, h1, e1, e2⟩ := M.bind_ok e
    refine ⟨v, t, ev, ρ, h, .d x, ρ1, h1, R, r1, e1, fun σ1 H1 R1 S1 O1 P1 => ⟨ρ1, h1, xs, ρ', h', R1, r2.kp (S1.kp R.mu), e2, fun σ2 H2 R2 S2 O2 P2 => ?_⟩⟩
    exact k σ2 H2 R2 (S1.trans S2) ((O1.mono fun j hj => List.mem_append_left _ hj).trans (O2.mono fun j hj => List.mem_append_right _ hj)) ((P1.mono fun j hj => List.mem_append_left _ hj).trans (P2.mono fun j hj => List.mem_append_right _ hj))
theorem g_tp {ts : List Expr} {js : List Nat} {g : List D → M Unit} {n k0 : Nat} {pos : Pos} (hK : C.K = X.K) (hc : X.calm = true) (hs : ts.all notStar = true) (hn : ts.length = n) (hl : ∀ ds ρ h ρ' h', g ds ρ h = .ok () ρ' h' → ds.length = n) (h2 : PGs X ts (tGs C js g)) :
    PG X (.Tuple ts k0 pos) (tG C js fun x => (match x with | .d (.tup xs) => g xs | _ => M.fail)) := by
  refine (pg_tup hc h2 (n := n) (by rw [asg_len hs]; exact hn) (asg_find hs)).weakE fun v σ H Q q => ?_
  obtain ⟨ρ, h, w, ρ', h', R, r, e, k⟩ := q
  cases w <;> first | (cases e; done) | skip
  rename_i d
  cases d <;> first | (cases e; done) | skip
  rename_i xs
  obtain ⟨a, vs, ev, ha, rs⟩ := r
  exact ⟨a, vs, ev, .inl (.inl ha), by rw [← rs.length]; exact hl xs ρ h ρ' h' e, ρ, h, xs, ρ', h', R, rs, e, k⟩

/-! ### and, or -/
variable {a b : Expr} {ma : M Val} {pos : Pos}
theorem bind_ret (m : M Val) : (m.bind fun x => M.ret x) = m := by
  funext ρ h
  unfold M.bind M.ret
  cases m ρ h <;> rfl
theorem p_bone {op : BoolOp} (ha : PE X a (tE C ma)) : PE X (.BoolOp op [a] pos) (tE C (ma.bind fun x => M.ret x)) := by
  rw [bind_ret]
  exact pe_one ha
def bopM (isAnd : Bool) (mr : M Val) (x : Val) : M Val := (match x with
      | .d (.bl b) => if b = isAnd then mr else M.ret (.d (.bl b))
      | _ => M.fail)
theorem p_and {rest : List Expr} {mr : M Val} (ha : PE X a (tE C ma)) (hb : PE X (.BoolOp .And (b :: rest) pos) (tE C mr)) : PE X (.BoolOp .And (a :: b :: rest) pos) (tE C (ma.bind (bopM true mr))) := by
  refine (pe_and ha hb).weakE fun σ H Q q => q.one fun x v ρ h H1 R r q => ?_
  obtain ⟨w, ρ', h', e⟩ := q.get
  cases x <;> first | (cases e; done) | skip
  rename_i d
  cases d <;> first | (cases e; done) | skip
  rename_i k
  refine ⟨k, r, ?_⟩
  cases k with
  | true => exact ⟨ρ, h, R, q⟩
  | false => exact q.ret R rfl
theorem p_or {rest : List Expr} {mr : M Val} (ha : PE X a (tE C ma)) (hb : PE X (.BoolOp .Or (b :: rest) pos) (tE C mr)) : PE X (.BoolOp .Or (a :: b :: rest) pos) (tE C (ma.bind (bopM false mr))) := by
  refine (pe_or ha hb).weakE fun σ H Q q => q.one fun x v ρ h H1 R r q => ?_
  obtain ⟨w, ρ', h', e⟩ := q.get
  cases x <;> first | (cases e; done) | skip
  rename_i d
  cases d <;> first | (cases e; done) | skip
  rename_i k
  refine ⟨k, r, ?_⟩
  cases k with
  | true => exact q.ret R rfl
  | false => exact ⟨ρ, h, R, q⟩
theorem tT.then {σ : L2.St} {H : Hp} {m : M Bool} {f : Bool → M Bool} {Q : Bool → Hp → Prop} {R : Bool → Hp → Prop} (q : tT C (m.bind f) σ H Q)
    (hR : ∀ x ρ h H1, Rel C σ H1 ρ h → tBv C (f x) ρ h σ H1 Q → R x H1) : tT C m σ H R := by
  obtain ⟨ρ, h, R0, w, ρ', h', e, k⟩ := q
  obtain ⟨x, ρ1, h1, e1, e2⟩ := M.bind_ok e
  exact ⟨ρ, h, R0, x, ρ1, h1, e1, fun H1 R1 s1 p1 => hR x ρ1 h1 H1 R1 ⟨w, ρ', h', e2, fun H3 R3 s3 p3 => k H3 R3 (s1.trans s3) (p1.trans p3)⟩⟩
theorem tBv.ret {σ : L2.St} {H : Hp} {ρ : Ev} {h : Hh} {w : Bool} {Q : Bool → Hp → Prop} (R : Rel C σ H ρ h) (q : tBv C (M.ret w) ρ h σ H Q) : Q w H := by
  obtain ⟨w', ρ', h', e, k⟩ := q
  injection e with z1 z2 z3
  subst z1; subst z2; subst z3
  exact k H R .refl (.refl _)
theorem w_and1 {mt : M Bool} (ha : PT X a (tT C mt)) : PW X (.BoolOp .And [a] pos) (tT C (mt.bind fun b => if b = true then M.ret true else M.ret b)) :=
  (pw_and1 ha).weakE fun σ H Q q => q.then fun x ρ h H1 R q => by cases x <;> exact q.ret R
theorem w_or1 {mt : M Bool} (ha : PT X a (tT C mt)) : PW X (.BoolOp .Or [a] pos) (tT C (mt.bind fun b => if b = false then M.ret false else M.ret b)) :=
  (pw_or1 ha).weakE fun σ H Q q => q.then fun x ρ h H1 R q => by cases x <;> exact q.ret R
theorem w_and {rest : List Expr} {mt mr : M Bool} (ha : PT X a (tT C mt)) (hb : PW X (.BoolOp .And (b :: rest) pos) (tT C mr)) : PW X (.BoolOp .And (a :: b :: rest) pos) (tT C (mt.bind fun b => if b = true then mr else M.ret b)) :=
  (pw_and ha hb).weakE fun σ H Q q => q.then fun x ρ h H1 R q => by
    cases x with
    | true => exact ⟨ρ, h, R, q⟩
    | false => exact q.ret R
theorem w_or {rest : List Expr} {mt mr : M Bool} (ha : PT X a (tT C mt)) (hb : PW X (.BoolOp .Or (b :: rest) pos) (tT C mr)) : PW X (.BoolOp .Or (a :: b :: rest) pos) (tT C (mt.bind fun b => if b = false then mr else M.ret b)) :=
  (pw_or ha hb).weakE fun σ H Q q => q.then fun x ρ h H1 R q => by
    cases x with
    | true => exact q.ret R
    | false => exact ⟨ρ, h, R, q⟩

/-! ### slices -/
def tO (C : Ct) (m : M (Option Int)) : TO := fun σ H Q => ∃ ρ h w ρ' h', Rel C σ H ρ h ∧ m ρ h = .ok w ρ' h' ∧ ∀ H', Rel C σ H' ρ' h' → Stp C σ ρ H σ ρ' H' → Shp ρ ρ' → Q w H'
theorem _root_.L2.PO.weakE {e : Option Expr} {t t' : TO} (p : PO X e t) (h : ∀ σ H Q, t' σ H Q → t σ H Q) : PO X e t' := ⟨fun pins s σ H Q I q => p.run pins s σ H Q I (h σ H Q q)⟩
theorem o_none : PO X none (tO C (M.ret none)) := po_none.weakE fun σ H Q q => by
  obtain ⟨ρ, h, w, ρ', h', R, e, k⟩ := q
  injection e with z1 z2 z3
  subst z1; subst z2; subst z3
  exact k H R .refl (.refl _)
theorem o_some (ha : PE X a (tE C ma)) : PO X (some a) (tO C (ma.bind fun x => (match partI x with
    | some i => M.ret (some i)
    | none => M.fail))) := (po_some ha).weakE fun σ H Q q => by
  obtain ⟨ρ, h, w, ρ', h', R, e, k⟩ := q
  obtain ⟨x, ρ1, h1, e1, e2⟩ := M.bind_ok e
  refine ⟨ρ, h, R, x, ρ1, h1, e1, fun v H1 R1 r1 s1 p1 => ?_⟩
  cases x <;> first | (cases e2; done) | skip
  rename_i d
  cases d <;> first | (cases e2; done) | skip
  rename_i i
  injection e2 with z1 z2 z3
  subst z1; subst z2; subst z3
  exact ⟨i, r1, k H1 R1 s1 p1⟩
theorem p_sl {lo hi : Option Expr} {ml mh : M (Option Int)} {p2 : Pos} (hK : C.K = X.K) (ha : PE X a (tE C ma)) (hl : PO X lo (tO C ml)) (hh : PO X hi (tO C mh)) :
    PE X (.Subscript a (.Slice lo hi none p2) pos) (tE C (ma.bind fun x => ml.bind fun l => mh.bind fun u => slM x l u)) := by
  refine (pe_slice sl_E ha hl hh).weakE fun σ H Q q => q.one fun x v ρ h H1 R r q => ?_
  obtain ⟨w, ρ', h', e, k⟩ := q
  obtain ⟨l, ρ1, h1, e1, e2⟩ := M.bind_ok e
  obtain ⟨u, ρ2, h2, e3, e4⟩ := M.bind_ok e2
  refine ⟨ρ, h, l, ρ1, h1, R, e1, fun H2 R2 s2 p2 => ⟨ρ1, h1, u, ρ2, h2, R2, e3, fun H3 R3 s3 p3 => ?_⟩⟩
  exact hK ▸ s_sl R3 ((r.stp s2 R.mu p2).stp s3 R2.mu p3) ⟨w, ρ', h', e4, fun v4 H4 R4 r4 s4 p4 => k v4 H4 R4 r4 ((s2.trans s3).trans s4) ((p2.trans p3).trans p4)⟩

/-! ### calls of built-ins -/
theorem boot_b : ∀ b : Blt, bootBuiltins (bName b) = some (vBi b)
  | .len => by decide +kernel | .all => by decide +kernel | .any => by decide +kernel | .sum => by decide +kernel | .min1 => by decide +kernel | .max1 => by decide +kernel
  | .min2 => by decide +kernel | .max2 => by decide +kernel | .abs => by decide +kernel | .int => by decide +kernel | .tuple => by decide +kernel | .list => by decide +kernel
  | .sorted => by decide +kernel | .divmod => by decide +kernel
theorem p_bi {b : Blt} {x : Str} {e : Expr} {es : List Expr} {p : Pos} {ms : M (List Val)} (hK : C.K = X.K) (hc : X.calm = true) (hx : x = bName b) (hg : Gl X x) (hm : X.mg x = none) (hd : noDunder x = true) (hs : (e :: es).all notStar = true) (ha : PA X (e :: es) (tA C ms)) :
    PE X (.Call (.Name x p) (e :: es) [] pos) (tE C (ms.bind fun xs => biM b xs)) := by
  obtain ⟨d1, d2, d3⟩ := noDunder_ok hd
  have hv : bootBuiltins x = some (vBi b) := by rw [hx]; exact boot_b b
  have s1 : notStar e = true ∧ es.all notStar = true := by rw [List.all_cons, Bool.and_eq_true] at hs; exact hs
  have fin : ∀ {r : List V → Hp → VK → Prop}, r = rBi X.K b → PE X (.Call (.Name x p) (e :: es) [] pos) (tCB r (tA C ms)) → PE X (.Call (.Name x p) (e :: es) [] pos) (tE C (ms.bind fun xs => biM b xs)) := fun {r} er pp => by
    subst er
    exact pp.weakE fun σ H Q q => q.args fun xs vs ρ h H1 R rx q => hK ▸ s_bi R rx q
  have hcl := call_bi hc b
  cases b <;> first
    | exact fin rfl (pe_callB hcl hg hm hv ha d3 d1 (star_cons s1.1) (star_none s1.2))
    | exact fin rfl (pe_callTy hcl hg hm hv ha d3 d1 (star_cons s1.1) (star_none s1.2))

/-! ### xs.append(e), xs.pop(i), xs a name -/
theorem m_few {e : Expr} {cpos : Pos} (hs : notStar e = true) : ((backTo cpos (starEach [e] X.env)).all (fun x => !x.1) && (backToKw cpos (keywordEach [] X.env)).all (fun x => x.1.isSome) &&
    decide (([e] : List Expr).length + ([] : List Keyword).length + (if ([] : List Keyword).isEmpty then 0 else 1) < 30)) = true := by
  rw [star_cons hs]; rfl
theorem isOwn_ok {i : Nat} {ρ ρ' : Ev} {h h' : Hh} (e : isOwn i ρ h = .ok () ρ' h') : (∃ xs, ρ[i]? = some (.own (.lst xs))) ∧ ρ' = ρ ∧ h' = h := by
  unfold isOwn at e
  split at e
  · rename_i xs hx
    injection e with z1 z2 z3
    exact ⟨⟨xs, hx⟩, z2.symm, z3.symm⟩
  · cases e
/-- the shape of a method call upon an own list: its address, and the list as it stands behind the argument -/
theorem own_meth {i : Nat} {σ : L2.St} {H : Hp} {m : M Val} {f : Val → M Val} {Q : VK} {r : V → List V → Hp → VK → Prop} (q : tE C ((isOwn i).bind fun _ => m.bind f) σ H Q)
    (hr : ∀ a y v ρ h H1 xs vs, Rel C σ H1 ρ h → RepV C σ ρ H1 y v → ρ[i]? = some (.own (.lst xs)) → σ[i]? = some (some (.ref a)) → H1 a = some (.lst vs) → RepDs C.K H1 (Av C σ ρ) xs vs → tV C (f y) ρ h σ H1 Q → r (.ref a) [v] H1 Q)
    (hf : ∀ y ρ h w ρ' h', f y ρ h = .ok w ρ' h' → ∃ xs, ρ[i]? = some (.own (.lst xs))) : tBM C.K "list" r (tVar i) (tCons (tE C m) tNil) σ H Q := by
  obtain ⟨ρ, h, R, w, ρ', h', em, k⟩ := q
  obtain ⟨_, ρ0, h0, e0, em2⟩ := M.bind_ok em
  obtain ⟨⟨xs, hx⟩, z1, z2⟩ := isOwn_ok e0
  subst z1; subst z2
  have em3 : (m.bind f) ρ0 h0 = .ok w ρ' h' := em2
  obtain ⟨y, ρ1, h1', e1, e2⟩ := M.bind_ok em3
  obtain ⟨a, ha, na, vs, hl, rs⟩ := R.own i _ hx
  refine ⟨.ref a, ha, .inl ⟨rfl, vs, .inl (.inl hl)⟩, ρ0, h0, R, y, ρ1, h1', e1, fun v H1 R1 r1 s1 p1 => ?_⟩
  obtain ⟨xs1, hx1⟩ := hf y ρ1 h1' w ρ' h' e2
  obtain ⟨a1, ha1, _, vs1, hl1, rs1⟩ := R1.own i _ hx1
  rw [ha] at ha1; cases ha1
  exact hr a y v ρ1 h1' H1 xs1 vs1 R1 r1 hx1 ha hl1 rs1 ⟨w, ρ', h', e2, fun v2 H2 R2 r2 s2 p2 => k v2 H2 R2 r2 (s1.trans s2) (p1.trans p2)⟩
theorem appM_ok {i : Nat} {y w : Val} {ρ ρ' : Ev} {h h' : Hh} (e : appM i y ρ h = .ok w ρ' h') : ∃ xs d, ρ[i]? = some (.own (.lst xs)) ∧ y = .d d ∧ xs.length < sizeLine ∧ w = .d .non ∧ ρ' = ρ.set i (.own (.lst (xs ++ [d]))) ∧ h' = h := by
  unfold appM at e
  split at e
  · rename_i xs d hx
    by_cases hz : xs.length < sizeLine
    · rw [if_pos hz] at e
      injection e with z1 z2 z3
      exact ⟨xs, d, hx, rfl, hz, z1.symm, z2.symm, z3.symm⟩
    · rw [if_neg hz] at e; cases e
  · cases e
theorem popM_ok {i : Nat} {y w : Val} {ρ ρ' : Ev} {h h' : Hh} (e : popM i y ρ h = .ok w ρ' h') : ∃ xs k j d, ρ[i]? = some (.own (.lst xs)) ∧ y = .d (.int k) ∧ ixN xs.length k = some j ∧ xs[j]? = some d ∧ (-(2 ^ 63) ≤ k ∧ k < 2 ^ 63) ∧ w = .d d ∧ ρ' = ρ.set i (.own (.lst (xs.eraseIdx j))) ∧ h' = h := by
  unfold popM at e
  split at e
  · rename_i xs k hx
    split at e
    · rename_i j hj
      split at e
      · rename_i d hd
        by_cases hb : -(2 ^ 63) ≤ k ∧ k < 2 ^ 63
        · rw [if_pos hb] at e
          injection e with z1 z2 z3
          exact ⟨xs, k, j, d, hx, rfl, hj, hd, hb, z1.symm, z2.symm, z3.symm⟩
        · rw [if_neg hb] at e; cases e
      · cases e
    · cases e
  · cases e
/-- the own list at a changed, the answer told -/
theorem own_done {i : Nat} {a : Addr} {σ : L2.St} {H : Hp} {ρ : Ev} {h : Hh} {f : M Val} {xs ys : List D} {vs us : List V} {w : Val} {v : V} {Q : VK} (R : Rel C σ H ρ h) (hx : ρ[i]? = some (.own (.lst xs))) (ha : σ[i]? = some (some (.ref a)))
    (hl : H a = some (.lst vs)) (ry : RepDs C.K H (Av C σ ρ) ys us) (e : f ρ h = .ok w (ρ.set i (.own (.lst ys))) h) (q : tV C f ρ h σ H Q) (rw : ∀ H', (∀ d v, RepD C.K H (Av C σ ρ) d v → RepD C.K H' (Av C σ ρ) d v) → RepV C σ (ρ.set i (.own (.lst ys))) H' w v) :
    Q v (upd H a (.lst us)) := by
  obtain ⟨w', ρ', h', e', k⟩ := q
  rw [e] at e'
  injection e' with z1 z2 z3
  subst z1; subst z2; subst z3
  have hA : Av C σ ρ a := .inr ⟨i, _, hx, ha⟩
  have kk := kp_upd (o := .lst us) hl rfl hA
  obtain ⟨R2, S2, P2⟩ := R.setOwn (b' := .lst ys) (o := .lst us) hx ha ⟨us, upd_same, ry.kp kk⟩
  exact k v _ R2 (rw _ fun d v r => r.kp kk _ _) S2 P2
theorem p_app {i : Nat} {x : Str} {e : Expr} {p apos cpos : Pos} {m : M Val} (hK : C.K = X.K) (hN : X.N[i]? = some x) (hv : Vis X.env.scope x) (h1 : (x == ("__debug__" : Str)) = false) (h2 : (x == ("__classdict__" : Str)) = false)
    (hl : (apos.endLine == cpos.line) = true) (hs : notStar e = true) (he : PE X e (tE C m)) : PE X (.Call (.Attribute (.Name x p) "append" apos) [e] [] cpos) (tE C ((isOwn i).bind fun _ => m.bind fun y => appM i y)) := by
  refine (pe_bm PySem.F.plainAttrs_list PySem.F.slot_list_append PySem.F.type_list_append mt_append (pe_var hN hv h1 h2) (pa_cons he pa_nil (star_cons hs)) rfl (m_few hs) hl (star_cons hs) rfl).weakE fun σ H Q q => ?_
  rw [← hK]
  refine own_meth q (fun a y v ρ h H1 xs vs R r hx ha hl rs q => ?_) fun y ρ h w ρ' h' e => by obtain ⟨xs, _, hx, _⟩ := appM_ok e; exact ⟨xs, hx⟩
  obtain ⟨w, ρ', h', e⟩ := q.get
  obtain ⟨xs', d, g1, g2, g3, g4, g5, g6⟩ := appM_ok e
  rw [hx] at g1; cases g1
  subst g2; subst g4; subst g5; subst g6
  exact ⟨a, vs, v, rfl, rfl, hl, by rw [← rs.length]; exact g3, own_done R hx ha hl (rs.app (.one r)) e q fun _ _ => rfl⟩
theorem p_pop {i : Nat} {x : Str} {e : Expr} {p apos cpos : Pos} {m : M Val} (hK : C.K = X.K) (hN : X.N[i]? = some x) (hv : Vis X.env.scope x) (h1 : (x == ("__debug__" : Str)) = false) (h2 : (x == ("__classdict__" : Str)) = false)
    (hl : (apos.endLine == cpos.line) = true) (hs : notStar e = true) (he : PE X e (tE C m)) : PE X (.Call (.Attribute (.Name x p) "pop" apos) [e] [] cpos) (tE C ((isOwn i).bind fun _ => m.bind fun y => popM i y)) := by
  refine (pe_bm PySem.F.plainAttrs_list PySem.F.slot_list_pop PySem.F.type_list_pop mt_popAt (pe_var hN hv h1 h2) (pa_cons he pa_nil (star_cons hs)) rfl (m_few hs) hl (star_cons hs) rfl).weakE fun σ H Q q => ?_
  rw [← hK]
  refine own_meth q (fun a y v ρ h H1 xs vs R r hx ha hl rs q => ?_) fun y ρ h w ρ' h' e => by obtain ⟨xs, _, _, _, hx, _⟩ := popM_ok e; exact ⟨xs, hx⟩
  obtain ⟨w, ρ', h', e⟩ := q.get
  obtain ⟨xs', k, j, d, g1, g2, g3, g4, gb, g5, g6, g7⟩ := popM_ok e
  rw [hx] at g1; cases g1
  subst g2; subst g5; subst g6; subst g7
  obtain ⟨u, hu, ru⟩ := rs.get g4
  rw [rs.length] at g3
  obtain ⟨s1, s2, s3, s4⟩ := ixN_seq g3
  refine ⟨a, vs, k, j, u, rfl, by rw [show v = V.int k from r], hl, gb.1, gb.2, s1, hu, own_done R hx ha hl (rs.erase j) e q fun _ g => ?_⟩
  show RepD C.K _ (Av C σ (ρ.set i _)) d u
  rw [(set_own_shp hx).av]
  exact g d u ru
end
end EV

set_option maxRecDepth 100000
set_option maxHeartbeats 4000000
/-! EvEn: enumerate(tuple), over the hand layer. -/
namespace EV
open PySem PySem.Spec PyProof.Rows L2

theorem meets_enumT {v : Value} {o : Obj} {H : Heap → Prop} (B : Begins v o H) :
    Meets (Builtin.«enumerate.__new__» ⟨[.type "enumerate", v], []⟩) (fun _ R s => H s.heap ∧
      R (.ok (.ret (.ref (s.heap.push o).objs.size))) { s with heap := (s.heap.push o).push { cls := .type "enumerate", data := .fields #[.none, .bool false, .ref s.heap.objs.size, rawInt 0, .none, .none] } }) :=
  .of_wp fun prog w A R s h => by
    obtain ⟨hp, g, d, tk, os⟩ := s; obtain ⟨h1, h⟩ := h
    have hsub := sub_enumerate
    have q1 : ∀ {A' : Around} {E : Value → Shared → Prop} {Q : Value → Shared → Prop}, Q (.ref hp.objs.size) ⟨hp.push o, g, d, tk, os⟩ → wpAny (model prog w) A' (pyIter v) Q E ⟨hp, g, d, tk, os⟩ :=
      fun q => B.iter prog w _ _ ⟨hp, g, d, tk, os⟩ _ h1 q
    wp_walk using q1
    refine wpAny_stack_any fun st => wpAny_pure ?_
    split
    · rename_i c _ _ _ _ _
      cases (c == Value.type "enumerate")
      · wp_walk using q1
        exact ⟨_, rfl, h⟩
      · wp_walk using q1
        exact ⟨_, rfl, h⟩
    · wp_walk using q1
      exact ⟨_, rfl, h⟩
theorem call_enumT {prog : Program} {w : World} {A : Around} {E : Value → Shared → Prop} {s : Shared} {v : Value} {o : Obj} {H : Heap → Prop} {Q : Value → Shared → Prop} (B : Begins v o H) (h1 : H s.heap)
    (h : ∀ h', IsEnum h' (s.heap.objs.size + 1) s.heap.objs.size 0 .none → h'.get? s.heap.objs.size = some o → h'.objs.size = s.heap.objs.size + 2 →
      (∀ b o, s.heap.get? b = some o → h'.get? b = some o) → Q (.ref (s.heap.objs.size + 1)) { s with heap := h' }) :
    wpAny (model prog w) A (call (.type "enumerate") [v]) Q E s := by
  refine callType_new F.called_enumerate (by decide) (F.typeCall_enumerate_1 _) (F.newCall_enumerate_1 _) (fun obj => F.args_object_init_2 obj _) F.entry_enumerate_new
    (meets_enumT B) ⟨h1, ?_⟩
  have hz : (s.heap.push o).objs.size = s.heap.objs.size + 1 := Heap.size_push ..
  show _ ∧ _
  rw [hz]
  have he : IsEnum ((s.heap.push o).push { cls := .type "enumerate", data := .fields #[.none, .bool false, .ref s.heap.objs.size, rawInt 0, .none, .none] }) (s.heap.objs.size + 1) s.heap.objs.size 0 .none := by
    have := Heap.get?_push_size (s.heap.push o) (o := { cls := .type "enumerate", data := .fields #[.none, .bool false, .ref s.heap.objs.size, rawInt 0, .none, .none] }) rfl
    rw [hz] at this; exact this
  exact ⟨⟨_, he, rfl⟩, h _ he (Heap.get?_push_of_some _ (Heap.get?_push_size _ B.free)) (by rw [Heap.size_push, hz]) fun b o x => Heap.get?_push_of_some _ (Heap.get?_push_of_some _ x)⟩
/-- the tuple at a, each item in a new pair -/
def IteT (K : PySem.W.Frag) (a : Addr) : It :=
  ⟨fun i H => ∃ (xs : List V) (x : V), SqT K H a xs ∧ xs[i]? = some x, fun i H v H' => ∃ T x, v = .ref T ∧ H T = none ∧ H' = upd H T (.tup [.int (i : Nat), x]) ∧ ∀ xs, SqT K H a xs → xs[i]? = some x, fun i H => ∃ xs : List V, SqT K H a xs ∧ xs.length = i⟩
theorem turn_enumT {P : Program} {w : World} {K : PySem.W.Frag} {elts : List Expr} {kk : Nat} {tpos : Pos} (a e it : Addr) (hae : a ≠ e) (hai : a ≠ it) :
    Turn P w K (.Tuple elts kk tpos) (IteT K a) [e, it] e (fun i h => (∃ old, IsEnum h e it ((i : Nat) : Int) old) ∧ h.IsTupleIter it a i ∧ e ≠ it) where
  mem := by simp
  obj := fun i h st b hb => by
    obtain ⟨⟨old, he⟩, ⟨o, ho, hc, hd⟩, _⟩ := st
    have e' : b = e ∨ b = it := by simpa using hb
    rcases e' with z | z
    · rw [z]; exact ⟨_, he, fun v q => nomatch q⟩
    · rw [z]; exact ⟨o, ho, fun v q => by rw [hd] at q; cases q⟩
  keep := fun i h h' st k => let ⟨⟨old, he⟩, hi, hne⟩ := st; ⟨⟨old, k e (by simp) _ he⟩, hi.at fun o q => k it (by simp) o q, hne⟩
  item := by
    intro X hP hw hK hc i pins s σ H E I hf st hg
    subst hP hw hK
    obtain ⟨⟨old, he⟩, hit, hne⟩ := st
    obtain ⟨xs, x, hq, hx⟩ := hg
    obtain ⟨its, rv, p, hz⟩ := I.tuple hq
    obtain ⟨u, hu, ru⟩ := rv.get hx
    have hel : e < s.heap.objs.size := Heap.lt_size he
    have hil : it < s.heap.objs.size := by obtain ⟨_, q, _⟩ := hit; exact Heap.lt_size q
    have D : Draws X.prog X.w X.A.in1 it [it, a] its.toArray.size (fun i v => its.toArray[i]? = some v) (fun i h => h.IsTupleIter it a i ∧ h.IsTuple a its.toArray) := Draws.tuple (by exact I.ok.hd hc) it a hai its.toArray
    have hlt : i < its.toArray.size := by simpa using (List.getElem?_eq_some_iff.mp hu).1
    refine wpAny_pyNext_enum_itemC D he ⟨hit, p⟩ hlt hne (by simp; exact ⟨hne, fun z => hae z.symm⟩) fun y h' tk hy ho hs' hT hsz hk => ?_
    have ey : y = u := by
      have z : its.toArray[i]? = some u := by simpa using hu
      rw [z] at hy; exact (Option.some.inj hy).symm
    subst ey
    refine ⟨_, rfl, wpAny_letOwnedTupleGo_enum (s := { s with heap := h', toks := tk + 1 }) ho fun h'' he' sb => ?_⟩
    have hT2 : h''.get? s.heap.objs.size = some { cls := .type "tuple", data := .seq #[.int i tk, y] } := (sb.2 _ (Nat.ne_of_gt hel)).trans hT
    have new : ObjOk X.prog X.w (upd H s.heap.objs.size (.tup [.int (i : Nat), x])) h'' s.heap.objs.size (.tup [.int (i : Nat), x]) :=
      ⟨by show 2 ≤ sizeLine; decide, [.int i tk, y], .cons ⟨_, rfl⟩ (.cons ru .nil), ⟨_, hT2, rfl, _, rfl⟩⟩
    have I1 : Inv X pins σ (upd H s.heap.objs.size (.tup [.int (i : Nat), x])) { s with heap := h'', toks := tk + 1 } :=
      I.turnedNew (ch := [e, it]) (fun b ob hb q => (sb.2 b (fun z => hb (by simp [z]))).trans (hk b ob (fun z => hb (by simp [z])) (fun z => hb (by simp [z])) q)) hf (Nat.le_refl _) new
    refine ⟨.ref s.heap.objs.size, _, I1, rfl, ⟨_, x, rfl, I.hok.fresh (Nat.le_refl _), rfl, fun ys hy => ?_⟩, ⟨⟨y, ?_⟩, hs'.1.at fun o q => (sb.2 it (Ne.symm hne)).trans q, hne⟩, fun b hb => ?_⟩
    · obtain ⟨its2, rv2, p2, _⟩ := I.tuple hy
      obtain ⟨o1, q1, _, n1, d1⟩ := p
      obtain ⟨o2, q2, _, n2, d2⟩ := p2
      rw [q1] at q2
      cases q2
      rw [d1] at d2
      injection d2 with d3 _
      have e3 : its = its2 := by simpa using d3
      subst e3
      rw [L2.Vals.inj rv2 rv]
      exact hx
    · have e1 : ((i + 1 : Nat) : Int) = (i : Int) + 1 := by omega
      rw [e1]; exact he'
    · have hb' : b < s.heap.objs.size := by
        have e' : b = e ∨ b = it := by simpa using hb
        rcases e' with z | z
        · rw [z]; exact hel
        · rw [z]; exact hil
      rw [upd_ne (Nat.ne_of_lt hb')]
      exact (hf b hb).1
  done := by
    intro X hP hw hK hc i pins s σ H E I hf st hg
    subst hP hw hK
    obtain ⟨⟨old, he⟩, hit, hne⟩ := st
    obtain ⟨xs, hq, hx⟩ := hg
    obtain ⟨its, rv, p, hz⟩ := I.tuple hq
    obtain ⟨f0, f1, f2, f3, f4, f5⟩ := hf it (by simp)
    have hl := rv.length
    have D : Draws X.prog X.w X.A.in1 it [it, a] its.toArray.size (fun i v => its.toArray[i]? = some v) (fun i h => h.IsTupleIter it a i ∧ h.IsTuple a its.toArray) := Draws.tuple (by exact I.ok.hd hc) it a hai its.toArray
    have ei : its.toArray.size = i := by rw [List.size_toArray, ← hl, hx]
    exact wpAny_pyNext_enum_endD D he (by rw [ei]; exact ⟨hit, p⟩) fun h' eb => ⟨rfl, I.turned (t' := s.toks) (fun b o hb q => eb b o hb q) f0 f1 f3 f4 f5⟩
  self := fun A i s Q E st h => let ⟨⟨_, he⟩, _⟩ := st; wpAny_pyIter_enum he h
def iEnumT (K : PySem.W.Frag) (ta : TA) : TI := fun σ H R => ta σ H fun vs H1 => ∃ a xs, vs = [.ref a] ∧ SqT K H1 a xs ∧ R (IteT K a) H1
theorem pi_enumT {X : Cx} {e : Expr} {ta : TA} {p pos tpos : Pos} {elts : List Expr} {kk : Nat} (hg : Gl X "enumerate") (hm : X.mg "enumerate" = none) (ha : PA X [e] ta) (hs : starEach [e] X.env = [(false, eval e X.env)]) :
    PI X (.Tuple elts kk tpos) (.Call (.Name "enumerate" p) [e] [] pos) (iEnumT X.K ta) := by
  refine ⟨fun pins s σ H R I h => ?_⟩
  refine Call_ (ld_blt I hg hm boot_enumerate (PyProof.Rows.callWith_type1 (thn (ha.run pos pins s σ H _ I h) fun us s1 ⟨vs, H1, I1, r1, q1⟩ => ?_) hs rfl))
  obtain ⟨a, xs, ex, hq, q⟩ := q1
  subst ex
  cases r1 with
  | cons r rr =>
    cases rr
    cases r
    obtain ⟨its, rv, p', hz⟩ := I1.tuple hq
    have hal : a < s1.heap.objs.size := by obtain ⟨o, ho, _⟩ := id p'; exact Heap.lt_size ho
    refine call_enumT (begins_tuple a its.toArray) p' fun h' he hit hsz hk => wpAny_pyIter_enum he ?_
    have I2 : Inv X pins σ H1 { s1 with heap := h' } := I1.kept (t' := s1.toks) hk
    refine ⟨s1.heap.objs.size + 1, [s1.heap.objs.size + 1, s1.heap.objs.size], _, _, H1, rfl, I2, turn_enumT a (s1.heap.objs.size + 1) s1.heap.objs.size (Nat.ne_of_lt (Nat.lt_succ_of_lt hal)) (Nat.ne_of_lt hal), ⟨⟨.none, he⟩, ⟨_, hit, rfl, rfl⟩, Nat.succ_ne_self _⟩, fun b hb => ?_, q⟩
    have e' : b = s1.heap.objs.size + 1 ∨ b = s1.heap.objs.size := by simpa using hb
    have hle : s1.heap.objs.size ≤ b := by
      rcases e' with z | z
      · rw [z]; exact Nat.le_add_right _ _
      · rw [z]; exact Nat.le_refl _
    exact I1.fpOk hle (I1.hok.fresh hle)
end EV

set_option maxRecDepth 100000
set_option maxHeartbeats 4000000
/-! EvJ2: enumerate, zip, isinstance. -/
namespace EV
open PySem PySem.Spec PyProof.Rows L2 RZ

theorem number_len : ∀ (xs : List D) (n : Nat), (number n xs).length = xs.length
  | [], _ => rfl
  | x :: xs, n => by show (number (n + 1) xs).length + 1 = _; rw [number_len xs (n + 1)]; rfl
theorem number_get : ∀ (xs : List D) (n i : Nat) (y : D), (number n xs)[i]? = some y → ∃ x, xs[i]? = some x ∧ y = .tup [.int ((n + i : Nat) : Int), x]
  | [], _, _, _, e => by simp [number] at e
  | x :: xs, n, 0, y, e => by
    cases (Option.some.inj (show some (D.tup [.int n, x]) = some y from e))
    exact ⟨x, rfl, by simp⟩
  | x :: xs, n, i + 1, y, e => by
    obtain ⟨z, h1, h2⟩ := number_get xs (n + 1) i y (show (number (n + 1) xs)[i]? = some y from e)
    exact ⟨z, h1, by rw [h2]; congr 3; omega⟩
theorem zip_len : ∀ (xs ys : List D), (zipD xs ys).length = min xs.length ys.length
  | [], ys => by simp [zipD]
  | _ :: _, [] => by simp [zipD]
  | x :: xs, y :: ys => by show (zipD xs ys).length + 1 = _; rw [zip_len xs ys, List.length_cons, List.length_cons]; omega
theorem zip_get : ∀ (xs ys : List D) (i : Nat) (z : D), (zipD xs ys)[i]? = some z → ∃ x y, xs[i]? = some x ∧ ys[i]? = some y ∧ z = .tup [x, y]
  | [], ys, _, _, e => by simp [zipD] at e
  | _ :: _, [], _, _, e => by simp [zipD] at e
  | x :: xs, y :: ys, 0, z, e => by
    cases (Option.some.inj (show some (D.tup [x, y]) = some z from e))
    exact ⟨x, y, rfl, rfl, rfl⟩
  | x :: xs, y :: ys, i + 1, z, e => zip_get xs ys i z (show (zipD xs ys)[i]? = some z from e)
section
variable {C : Ct} {σ : L2.St} {H : Hp} {ρ : Ev} {h : Hh} {X : Cx} {pos : Pos}
/-- a new tuple of two known things -/
theorem pair_new {T : Addr} {x y : D} {u v : V} (R : Rel C σ H ρ h) (n : H T = none) (rx : RepD C.K H (Av C σ ρ) x u) (ry : RepD C.K H (Av C σ ρ) y v) :
    RepD C.K (upd H T (.tup [u, v])) (Av C σ ρ) (.tup [x, y]) (.ref T) ∧ Rel C σ (upd H T (.tup [u, v])) ρ h ∧ Stp C σ ρ H σ ρ (upd H T (.tup [u, v])) := by
  obtain ⟨R1, S1⟩ := R.laid (o := .tup [u, v]) n (fun ps z => by cases z)
  have k := S1.kp R.mu
  exact ⟨⟨T, [u, v], rfl, upd_same, ⟨u, [v], rfl, rx.kp k _ _, ⟨v, [], rfl, ry.kp k _ _, rfl⟩⟩⟩, R1, S1⟩
/-- where the items stand, for good: a frozen list, a tuple -/
def SrcL (K : PySem.W.Frag) (H : Hp) (A : Addr → Prop) (a : Addr) (xs : List D) (vs : List V) : Prop := H a = some (.lst vs) ∧ ¬ A a ∧ RepDs K H A xs vs
def SrcT (K : PySem.W.Frag) (H : Hp) (A : Addr → Prop) (a : Addr) (xs : List D) (vs : List V) : Prop := (H a = some (.tup vs) ∨ KTup K a vs) ∧ RepDs K H A xs vs
theorem SrcL.kp {K : PySem.W.Frag} {H' : Hp} {A A' : Addr → Prop} {a : Addr} {xs : List D} {vs : List V} (s : SrcL K H A a xs vs) (k : Kp H A H' A') : SrcL K H' A' a xs vs := ⟨(k.lst a vs s.1 s.2.1).1, (k.lst a vs s.1 s.2.1).2, s.2.2.kp k⟩
theorem SrcT.kp {K : PySem.W.Frag} {H' : Hp} {A A' : Addr → Prop} {a : Addr} {xs : List D} {vs : List V} (s : SrcT K H A a xs vs) (k : Kp H A H' A') : SrcT K H' A' a xs vs := ⟨s.1.imp (k.tup a vs) id, s.2.kp k⟩
theorem SrcL.sq {K : PySem.W.Frag} {A : Addr → Prop} {a : Addr} {xs : List D} {vs : List V} (s : SrcL K H A a xs vs) : SqL K H a vs := .inl (.inl s.1)
theorem SrcT.sq {K : PySem.W.Frag} {A : Addr → Prop} {a : Addr} {xs : List D} {vs : List V} (s : SrcT K H A a xs vs) : SqT K H a vs := s.1.elim (fun z => .inl (.inl z)) .inr
theorem itok_enumL {A : Addr → Prop} {xs : List D} {a : Addr} {vs : List V} (s : SrcL C.K H A a xs vs) : ItOk C A H (Ite C.K a) (number 0 xs) := by
  intro C' sb σ ρ h H2 R k
  have s2 := s.kp k
  rw [← sb.K] at *
  refine ⟨fun i y hy => ?_, ⟨vs, s2.sq, by rw [number_len, s2.2.2.length]; exact Nat.le_refl _⟩⟩
  obtain ⟨x, hx, ey⟩ := number_get xs 0 i y hy
  obtain ⟨v, hv, rv⟩ := s2.2.2.get hx
  refine ⟨⟨vs, v, s2.sq, hv⟩, fun u H' z => ?_⟩
  obtain ⟨T, x', e1, e2, e3, e4⟩ := z
  have := e4 vs s2.sq
  rw [hv] at this
  cases this
  subst e1; subst e3; subst ey
  rw [Nat.zero_add]
  exact pair_new R e2 (show RepD C'.K H2 _ (.int (i : Nat)) (.int (i : Nat)) from rfl) rv
theorem itok_enumT {A : Addr → Prop} {xs : List D} {a : Addr} {vs : List V} (s : SrcT C.K H A a xs vs) : ItOk C A H (IteT C.K a) (number 0 xs) := by
  intro C' sb σ ρ h H2 R k
  have s2 := s.kp k
  rw [← sb.K] at *
  refine ⟨fun i y hy => ?_, ⟨vs, s2.sq, by rw [number_len, s2.2.length]⟩⟩
  obtain ⟨x, hx, ey⟩ := number_get xs 0 i y hy
  obtain ⟨v, hv, rv⟩ := s2.2.get hx
  refine ⟨⟨vs, v, s2.sq, hv⟩, fun u H' z => ?_⟩
  obtain ⟨T, x', e1, e2, e3, e4⟩ := z
  have := e4 vs s2.sq
  rw [hv] at this
  cases this
  subst e1; subst e3; subst ey
  rw [Nat.zero_add]
  exact pair_new R e2 (show RepD C'.K H2 _ (.int (i : Nat)) (.int (i : Nat)) from rfl) rv
theorem itok_zipL {A : Addr → Prop} {xs ys : List D} {a b : Addr} {vs us : List V} (s : SrcL C.K H A a xs vs) (t : SrcL C.K H A b ys us) : ItOk C A H (Itz C.K a b) (zipD xs ys) := by
  intro C' sb σ ρ h H2 R k
  have s2 := s.kp k
  have t2 := t.kp k
  rw [← sb.K] at *
  refine ⟨fun i y hy => ?_, ⟨vs, us, s2.sq, t2.sq, ?_⟩⟩
  · obtain ⟨x, z, hx, hz, ey⟩ := zip_get xs ys i y hy
    obtain ⟨v, hv, rv⟩ := s2.2.2.get hx
    obtain ⟨u, hu, ru⟩ := t2.2.2.get hz
    refine ⟨⟨vs, us, v, u, s2.sq, t2.sq, hv, hu⟩, fun w H' q => ?_⟩
    obtain ⟨T, x', y', e1, e2, e3, e4, e5⟩ := q
    have g1 := e4 vs s2.sq
    rw [hv] at g1
    cases g1
    have g2 := e5 us t2.sq
    rw [hu] at g2
    cases g2
    subst e1; subst e3; subst ey
    exact pair_new R e2 rv ru
  · rw [zip_len, s2.2.2.length, t2.2.2.length]; omega
theorem p_enum {e : Expr} {p tpos : Pos} {elts : List Expr} {kk : Nat} {m : M Val} (hK : C.K = X.K) (hg : Gl X "enumerate") (hm : X.mg "enumerate" = none) (hs : notStar e = true) (he : PE X e (tE C m)) :
    PI X (.Tuple elts kk tpos) (.Call (.Name "enumerate" p) [e] [] pos) (tI C (m.bind fun x => (seqM x).bind fun xs => M.ret (number 0 xs))) := by
  refine (PI.or (pi_enum (pos := pos) hg hm (pa_cons he pa_nil (star_cons hs)) (star_cons hs)) (pi_enumT (pos := pos) hg hm (pa_cons he pa_nil (star_cons hs)) (star_cons hs))).weakE fun σ H R q => ?_
  obtain ⟨ρ, h, xs, ρ', h', R1, em, k⟩ := id q
  obtain ⟨x, ρ1, h1, e1, e2⟩ := M.bind_ok em
  obtain ⟨ys, ρ2, h2, e3, e4⟩ := M.bind_ok e2
  injection e4 with z1 z2 z3
  subst z1; subst z2; subst z3
  cases x with
  | d a =>
    cases a with
    | lst zs =>
      injection e3 with z1 z2 z3
      subst z1; subst z2; subst z3
      refine .inl ⟨ρ, h, R1, .d (.lst zs), _, _, e1, fun v H1 R2 r2 S2 P2 => ?_⟩
      obtain ⟨a, vs, ev, ea, na, rs⟩ := r2
      exact ⟨a, vs, by rw [ev], hK ▸ (SrcL.sq (K := C.K) ⟨ea, na, rs⟩), hK ▸ k _ H1 R2 S2 P2 (itok_enumL ⟨ea, na, rs⟩)⟩
    | tup zs =>
      injection e3 with z1 z2 z3
      subst z1; subst z2; subst z3
      refine .inr ⟨ρ, h, R1, .d (.tup zs), _, _, e1, fun v H1 R2 r2 S2 P2 => ?_⟩
      obtain ⟨a, vs, ev, ea, rs⟩ := r2
      exact ⟨a, vs, by rw [ev], hK ▸ (SrcT.sq (K := C.K) ⟨.inl ea, rs⟩), hK ▸ k _ H1 R2 S2 P2 (itok_enumT ⟨.inl ea, rs⟩)⟩
    | _ => cases e3
  | kon zs =>
    injection e3 with z1 z2 z3
    subst z1; subst z2; subst z3
    refine .inr ⟨ρ, h, R1, .kon zs, _, _, e1, fun v H1 R2 r2 S2 P2 => ?_⟩
    obtain ⟨a, vs, ev, ea, rs⟩ := r2
    exact ⟨a, vs, by rw [ev], hK ▸ (SrcT.sq (K := C.K) ⟨.inr ea, rs⟩), hK ▸ k _ H1 R2 S2 P2 (itok_enumT ⟨.inr ea, rs⟩)⟩
  | _ => cases e3
theorem itok_zipT {A : Addr → Prop} {xs ys : List D} {a b : Addr} {vs us : List V} (s : SrcT C.K H A a xs vs) (t : SrcT C.K H A b ys us) : ItOk C A H (ItzT C.K a b) (zipD xs ys) := by
  intro C' sb σ ρ h H2 R k
  have s2 := s.kp k
  have t2 := t.kp k
  rw [← sb.K] at *
  refine ⟨fun i y hy => ?_, ⟨vs, us, s2.sq, t2.sq, ?_⟩⟩
  · obtain ⟨x, z, hx, hz, ey⟩ := zip_get xs ys i y hy
    obtain ⟨v, hv, rv⟩ := s2.2.get hx
    obtain ⟨u, hu, ru⟩ := t2.2.get hz
    refine ⟨⟨vs, us, v, u, s2.sq, t2.sq, hv, hu⟩, fun w H' q => ?_⟩
    obtain ⟨T, x', y', e1, e2, e3, e4, e5⟩ := q
    have g1 := e4 vs s2.sq
    rw [hv] at g1
    cases g1
    have g2 := e5 us t2.sq
    rw [hu] at g2
    cases g2
    subst e1; subst e3; subst ey
    exact pair_new R e2 rv ru
  · rw [zip_len, s2.2.length, t2.2.length]; omega
theorem p_zip {a b : Expr} {p tpos : Pos} {elts : List Expr} {kk : Nat} {ma mb : M Val} (hK : C.K = X.K) (hg : Gl X "zip") (hm : X.mg "zip" = none) (hs : notStar a = true) (hs2 : notStar b = true) (ha : PE X a (tE C ma)) (hb : PE X b (tE C mb)) :
    PI X (.Tuple elts kk tpos) (.Call (.Name "zip" p) [a, b] [] pos) (tI C (ma.bind fun x => mb.bind fun y => zipM x y)) := by
  refine (pi_zipA (pos := pos) hg hm (pa_cons ha (pa_cons hb pa_nil (star_cons hs2)) (star_cons hs)) (star_cons hs) (by rw [star_cons hs2]; rfl)).weakE fun σ H R q => ?_
  obtain ⟨ρ, h, xs, ρ', h', R1, em, k⟩ := id q
  obtain ⟨x, ρ1, h1, e1, e2⟩ := M.bind_ok em
  obtain ⟨y, ρ2, h2, e3, e4⟩ := M.bind_ok e2
  have go : (∀ v u H2, Rel C σ H2 ρ2 h2 → RepV C σ ρ2 H2 x v → RepV C σ ρ2 H2 y u → Stp C σ ρ H σ ρ2 H2 → Shp ρ ρ2 →
      ∃ a b xs ys, [v, u] = [V.ref a, .ref b] ∧ ((SqL X.K H2 a xs ∧ SqL X.K H2 b ys ∧ R (Itz X.K a b) H2) ∨ (SqT X.K H2 a xs ∧ SqT X.K H2 b ys ∧ R (ItzT X.K a b) H2))) → iZipA X.K (tCons (tE C ma) (tCons (tE C mb) tNil)) σ H R := fun f =>
    ⟨ρ, h, R1, x, ρ1, h1, e1, fun v H1 R2 r2 S2 P2 => ⟨ρ1, h1, R2, y, ρ2, h2, e3, fun u H2 R3 r3 S3 P3 => f v u H2 R3 (r2.stp S3 R2.mu P3) r3 (S2.trans S3) (P2.trans P3)⟩⟩
  have tt : ∀ {v u : V} {H2 : Hp} {as bs : List D} {a b : Addr} {vs us : List V}, v = .ref a → u = .ref b → SrcT C.K H2 (Av C σ ρ2) a as vs → SrcT C.K H2 (Av C σ ρ2) b bs us → R (ItzT C.K a b) H2 →
      ∃ a b xs ys, [v, u] = [V.ref a, .ref b] ∧ ((SqL X.K H2 a xs ∧ SqL X.K H2 b ys ∧ R (Itz X.K a b) H2) ∨ (SqT X.K H2 a xs ∧ SqT X.K H2 b ys ∧ R (ItzT X.K a b) H2)) := fun {v u H2 as bs a b vs us} ev eu s t q => by
    subst ev; subst eu
    exact ⟨a, b, vs, us, rfl, .inr ⟨hK ▸ s.sq, hK ▸ t.sq, hK ▸ q⟩⟩
  unfold zipM at e4
  split at e4
  · injection e4 with z1 z2 z3
    subst z1; subst z2; subst z3
    refine go fun v u H2 R2 rv ru S2 P2 => ?_
    obtain ⟨a, vs, ev, ea, na, rs⟩ := rv
    obtain ⟨b, us, eu, eb, nb, ss⟩ := ru
    subst ev; subst eu
    exact ⟨a, b, vs, us, rfl, .inl ⟨.inl (.inl ea), .inl (.inl eb), hK ▸ k _ H2 R2 S2 P2 (itok_zipL ⟨ea, na, rs⟩ ⟨eb, nb, ss⟩)⟩⟩
  · injection e4 with z1 z2 z3
    subst z1; subst z2; subst z3
    refine go fun v u H2 R2 rv ru S2 P2 => ?_
    obtain ⟨a, vs, ev, ea, rs⟩ := rv
    obtain ⟨b, us, eu, eb, ss⟩ := ru
    exact tt ev eu ⟨.inl ea, rs⟩ ⟨.inl eb, ss⟩ (k _ H2 R2 S2 P2 (itok_zipT ⟨.inl ea, rs⟩ ⟨.inl eb, ss⟩))
  · injection e4 with z1 z2 z3
    subst z1; subst z2; subst z3
    refine go fun v u H2 R2 rv ru S2 P2 => ?_
    obtain ⟨a, vs, ev, ea, rs⟩ := rv
    obtain ⟨b, us, eu, eb, ss⟩ := ru
    exact tt ev eu ⟨.inr ea, rs⟩ ⟨.inl eb, ss⟩ (k _ H2 R2 S2 P2 (itok_zipT ⟨.inr ea, rs⟩ ⟨.inl eb, ss⟩))
  · injection e4 with z1 z2 z3
    subst z1; subst z2; subst z3
    refine go fun v u H2 R2 rv ru S2 P2 => ?_
    obtain ⟨a, vs, ev, ea, rs⟩ := rv
    obtain ⟨b, us, eu, eb, ss⟩ := ru
    exact tt ev eu ⟨.inl ea, rs⟩ ⟨.inr eb, ss⟩ (k _ H2 R2 S2 P2 (itok_zipT ⟨.inl ea, rs⟩ ⟨.inr eb, ss⟩))
  · cases e4
/-! ### isinstance -/
def tyN : D → String
  | .non => "NoneType" | .bl _ => "bool" | .int _ => "int" | .str _ => "str" | .tup _ => "tuple" | .lst _ => "list" | .dic _ _ => "dict" | .dit _ _ => "dict"
theorem tyx_of {K : PySem.W.Frag} {A : Addr → Prop} {d : D} {v : V} {t : Ty} {c : D} (e : isiO t d = some c) (r : RdD K H A d v) : TyX K H v (.type (tyN d)) ∧ c = .bl (isiD t d) := by
  cases d with
  | non => cases (show v = V.non from r); exact ⟨.base .non, (Option.some.inj e).symm⟩
  | bl b => cases (show v = V.bl b from r); exact ⟨.base (.bl b), (Option.some.inj e).symm⟩
  | int i => cases (show v = V.int i from r); exact ⟨.base (.int i), (Option.some.inj e).symm⟩
  | str x => obtain ⟨e1, _⟩ := r; cases e1; exact ⟨.base (.str x), (Option.some.inj e).symm⟩
  | tup xs =>
    obtain ⟨a, vs, e1, s, _⟩ := r.tup
    subst e1
    refine ⟨?_, (Option.some.inj e).symm⟩
    rcases s with (s | ⟨o, s⟩) | ⟨o, its, n, s1, s2, _⟩
    · exact .base (.tup s)
    · exact .fTuple s
    · exact .kTuple s1 s2
  | lst xs =>
    obtain ⟨a, vs, e1, s, _⟩ := r.lst
    subst e1
    exact ⟨.base (.lst s), (Option.some.inj e).symm⟩
  | dic ks ds =>
    obtain ⟨a, kvs, e1, s, _⟩ := r
    subst e1
    refine ⟨?_, (Option.some.inj e).symm⟩
    rcases s with s | ⟨o, s⟩
    · exact .base (.dK s)
    · exact .fDict s
  | dit ks ds => cases e
theorem kit_all : ∀ (d : D) (t : Ty), (∀ ks ds, d ≠ .dit ks ds) → kitB (tyN d) (tyW t) = some (isiD t d) := by
  intro d t n
  have h : ∀ t : Ty, kitB "NoneType" (tyW t) = some (isiD t .non) ∧ kitB "bool" (tyW t) = some (isiD t (.bl true)) ∧ kitB "int" (tyW t) = some (isiD t (.int 0)) ∧ kitB "str" (tyW t) = some (isiD t (.str ⟨#[]⟩)) ∧
      kitB "tuple" (tyW t) = some (isiD t (.tup [])) ∧ kitB "list" (tyW t) = some (isiD t (.lst [])) ∧ kitB "dict" (tyW t) = some (isiD t (.dic [] [])) := by
    intro t
    cases t <;> refine ⟨?_, ?_, ?_, ?_, ?_, ?_, ?_⟩ <;> decide +kernel
  obtain ⟨h1, h2, h3, h4, h5, h6, h7⟩ := h t
  cases d with
  | non => exact h1
  | bl b => rw [show isiD t (.bl b) = isiD t (.bl true) from by cases t <;> rfl]; exact h2
  | int i => rw [show isiD t (.int i) = isiD t (.int 0) from by cases t <;> rfl]; exact h3
  | str x => rw [show isiD t (.str x) = isiD t (.str ⟨#[]⟩) from by cases t <;> rfl]; exact h4
  | tup xs => rw [show isiD t (.tup xs) = isiD t (.tup []) from by cases t <;> rfl]; exact h5
  | lst xs => rw [show isiD t (.lst xs) = isiD t (.lst []) from by cases t <;> rfl]; exact h6
  | dic ks ds => rw [show isiD t (.dic ks ds) = isiD t (.dic [] []) from by cases t <;> rfl]; exact h7
  | dit ks ds => exact absurd rfl (n ks ds)
theorem boot_ty : ∀ t : Ty, bootBuiltins (Str.ofString (tyW t)) = some (.type (tyW t)) := by intro t; cases t <;> decide +kernel
theorem boot_isi : bootBuiltins ("isinstance" : Str) = some (.builtin "isinstance") := by decide +kernel
theorem p_isi {a : Expr} {p p2 : Pos} {t : Ty} {x : Str} {m : M Val} (hK : C.K = X.K) (hx : x = Str.ofString (tyW t)) (hg : Gl X "isinstance") (hm : X.mg "isinstance" = none) (hg2 : Gl X x) (hm2 : X.mg x = none) (hd : noDunder x = true) (hs : notStar a = true) (ha : PE X a (tE C m)) :
    PE X (.Call (.Name "isinstance" p) [a, .Name x p2] [] pos) (tE C (m.bind fun y => lift1 (isiO t) y)) := by
  obtain ⟨d1, d2, d3⟩ := noDunder_ok hd
  have pt : PE X (.Name x p2) (tC (.ty (tyW t))) := pe_bltn hg2 hm2 (by rw [hx]; exact boot_ty t) (show RelV (.ty (tyW t)) (.type (tyW t)) from rfl) d3 d1
  refine (pe_callB call_isi hg hm boot_isi (pa_cons ha (pa_cons pt pa_nil rfl) (star_cons hs)) (by decide) (by decide) (star_cons hs) rfl).weakE fun σ H Q q => ?_
  refine q.one fun y v ρ h H1 R ry q => ?_
  obtain ⟨w, ρ', h', e⟩ := q.get
  obtain ⟨d, c, e1, e2, e3, e4, e5⟩ := lift1_ok e
  subst e3; subst e4; subst e5
  have rr := rd_ok R ry e1
  obtain ⟨ty, ec⟩ := tyx_of e2 rr
  subst ec
  refine ⟨v, .ty (tyW t), .type (tyN d), .type (tyW t), isiD t d, rfl, .ty _, ?_, kit_ty (kit_all d t fun ks ds z => by subst z; cases e2), q.same R e rfl⟩
  exact hK ▸ ty
end
end EV

set_option maxRecDepth 100000
set_option maxHeartbeats 1000000
/-! EvJ3: a dict's values and items gone through. -/
namespace EV
open PySem PySem.Spec PyProof.Rows L2

section
variable {C : Ct} {σ : L2.St} {H : Hp} {ρ : Ev} {h : Hh} {X : Cx} {tg e : Expr} {m : M Val}
theorem base_of {o : Expr} {name : Str} {env : Env} {w : Sem Value} (h : baseB o = true) : attributeBase o name env w = w := by
  unfold attributeBase
  split
  · rename_i id _ pos
    have h : decide (id ≠ ("super" : Str)) = true := h
    have hn := of_decide_eq_true h
    have e : (id != ("super" : Str)) = true := bne_iff_ne.mpr hn
    rw [e]
    simp only [Bool.true_or, if_true]
    try rfl
    try simp
  · rfl
theorem itok_vals {A : Addr → Prop} {d : Addr} {o : Obj} {kvs : List (Key × V)} {ds : List D} (e : H d = some (.frz o (.dK kvs))) (r : RepDs C.K H A ds (kvs.map (·.2))) : ItOk C A H (Itd d o kvs) ds := by
  intro C' sb σ ρ h H2 R k
  have e2 := k.frz d o _ e
  have r2 := r.kp k
  rw [← sb.K] at r2
  have hl : ds.length = kvs.length := by rw [r2.length, List.length_map]
  refine ⟨fun i x hx => ?_, e2, by rw [hl]; exact Nat.le_refl _⟩
  obtain ⟨v, hv, rv⟩ := r2.get hx
  rw [List.getElem?_map] at hv
  cases hk : kvs[i]? with
  | none => rw [hk] at hv; cases hv
  | some kv =>
    rw [hk] at hv
    cases (Option.some.inj hv)
    refine ⟨⟨e2, (List.getElem?_eq_some_iff.mp hk).1⟩, fun v H' y => ?_⟩
    obtain ⟨y1, k', y2⟩ := y
    subst y1
    rw [hk] at y2
    cases y2
    exact ⟨rv, R, .refl⟩
theorem zipW_get {ks : List Key} {ds : List D} {i : Nat} {x : D} (h : (List.zipWith (fun k d => D.tup [kD k, d]) ks ds)[i]? = some x) : ∃ k d, ks[i]? = some k ∧ ds[i]? = some d ∧ x = .tup [kD k, d] := by
  rw [List.getElem?_zipWith] at h
  cases h1 : ks[i]? with
  | none => rw [h1] at h; cases h
  | some k =>
    cases h2 : ds[i]? with
    | none => rw [h1, h2] at h; cases h
    | some d => rw [h1, h2] at h; exact ⟨k, d, rfl, rfl, (Option.some.inj h).symm⟩
theorem itok_items {A : Addr → Prop} {d : Addr} {o : Obj} {kvs : List (Key × V)} {ds : List D} (e : H d = some (.frz o (.dK kvs))) (ok : (kvs.map (·.1)).all keyOkB = true) (r : RepDs C.K H A ds (kvs.map (·.2))) :
    ItOk C A H (Iti d o kvs) (List.zipWith (fun k d => .tup [kD k, d]) (kvs.map (·.1)) ds) := by
  intro C' sb σ ρ h H2 R k
  have e2 := k.frz d o _ e
  have r2 := r.kp k
  rw [← sb.K] at r2
  have hl : ds.length = kvs.length := by rw [r2.length, List.length_map]
  refine ⟨fun i x hx => ?_, e2, by rw [List.length_zipWith, List.length_map, hl]; omega⟩
  obtain ⟨k1, d1, g1, g2, g3⟩ := zipW_get hx
  obtain ⟨v, hv, rv⟩ := r2.get g2
  rw [List.getElem?_map] at hv g1
  cases hk : kvs[i]? with
  | none => rw [hk] at hv; cases hv
  | some kv =>
    rw [hk] at hv g1
    cases (Option.some.inj hv)
    cases (Option.some.inj g1)
    refine ⟨⟨e2, (List.getElem?_eq_some_iff.mp hk).1⟩, fun w H' y => ?_⟩
    obtain ⟨T, k', v', y2, y3, y4, y5⟩ := y
    subst y3; subst y5; subst g3
    rw [hk] at y2
    cases y2
    have rk : RepD C'.K H2 (Av C' σ ρ) (kD k') (kV k') := reps_keys (List.all_eq_true.mp ok _ (List.mem_map.mpr ⟨_, List.mem_of_getElem? hk, rfl⟩))
    exact pair_new R y4 rk rv
theorem dicM_ok {f : D → Option (List D)} {x : Val} {ρ ρ' : Ev} {h h' : Hh} {xs : List D} (e : dicM f x ρ h = .ok xs ρ' h') : ∃ a, x = .d a ∧ f a = some xs ∧ ρ' = ρ ∧ h' = h := by
  unfold dicM at e
  split at e
  · rename_i a
    cases hf : f a with
    | none => rw [hf] at e; cases e
    | some ys =>
      rw [hf] at e
      injection e with z1 z2 z3
      exact ⟨a, rfl, by rw [z1] at hf; exact hf, z2.symm, z3.symm⟩
  · cases e
/-- what is read of a dict that is locked -/
theorem dic_read {f : D → Option (List D)} {R : It → Hp → Prop} (q : tI C (m.bind fun x => dicM f x) σ H R)
    (g : ∀ ks ds xs d o kvs H1 (A : Addr → Prop), f (.dic ks ds) = some xs → H1 d = some (.frz o (.dK kvs)) → kvs.map (·.1) = ks → RepDs C.K H1 A ds (kvs.map (·.2)) → ∃ J, ItOk C A H1 J xs ∧ (R J H1 → True) ∧ True)
    (fd : ∀ a xs, f a = some xs → ∃ ks ds, a = .dic ks ds) (P : V → Hp → Prop)
    (fin : ∀ d o kvs H1, H1 d = some (.frz o (.dK kvs)) → (∃ ks ds xs ρ' h' , f (.dic ks ds) = some xs ∧ kvs.map (·.1) = ks ∧ Rel C σ H1 ρ' h' ∧ RepDs C.K H1 (Av C σ ρ') ds (kvs.map (·.2)) ∧ ∀ J, ItOk C (Av C σ ρ') H1 J xs → R J H1) → P (.ref d) H1) :
    tFz (tE C m) σ H P := by
  obtain ⟨ρ, h, xs, ρ', h', R1, em, k⟩ := q
  obtain ⟨x, ρ1, h1, e1, e2⟩ := M.bind_ok em
  obtain ⟨a, ex, ef, z1, z2⟩ := dicM_ok e2
  subst ex; subst z1; subst z2
  obtain ⟨ks, ds, ea⟩ := fd a xs ef
  subst ea
  refine ⟨ρ, h, R1, .d (.dic ks ds), ρ', h', e1, fun v H1 R2 r2 s2 p2 => ?_⟩
  obtain ⟨a, kvs, ev, hr, na, ek, rs⟩ := r2
  rcases hr with hr | ⟨o, hr⟩
  · refine .inr ⟨a, kvs, ev, hr, fun od => ?_⟩
    obtain ⟨R3, S3⟩ := R2.lock (od := od) hr na
    rw [ev]
    exact fin a od kvs _ upd_same ⟨ks, ds, xs, ρ', h', ef, ek, R3, rs.kp (S3.kp R2.mu), fun J ij => k J _ R3 (s2.trans S3) p2 ij⟩
  · refine .inl ⟨a, o, kvs, ev, hr, ?_⟩
    rw [ev]
    exact fin a o kvs _ hr ⟨ks, ds, xs, ρ', h', ef, ek, R2, rs, fun J ij => k J _ R2 s2 p2 ij⟩
theorem p_vals {apos cpos : Pos} (he : PE X e (tE C m)) (hb : baseB e = true) (hl : (apos.endLine == cpos.line) = true) : PI X tg (.Call (.Attribute e "values" apos) [] [] cpos) (tI C (m.bind fun x => dicM valsD x)) := by
  refine (pi_values (pe_lk he) (base_of hb) hl).weakE fun σ H R q => ?_
  refine dic_read q (fun ks ds xs d o kvs H1 A e1 e2 e3 r => ⟨Itd d o kvs, by cases (Option.some.inj e1); exact itok_vals e2 r, fun _ => trivial, trivial⟩) (fun a xs e => by cases a <;> first | (cases e; done) | exact ⟨_, _, rfl⟩) _ fun d o kvs H1 e2 ⟨ks, ds, xs, ρ', h', e1, e3, R3, r, k⟩ => ?_
  cases (Option.some.inj e1)
  exact ⟨d, o, kvs, rfl, e2, k _ (itok_vals e2 r)⟩
theorem p_items {apos cpos : Pos} {elts : List Expr} {kk : Nat} {tpos : Pos} (he : PE X e (tE C m)) (hb : baseB e = true) (hl : (apos.endLine == cpos.line) = true) : PI X (.Tuple elts kk tpos) (.Call (.Attribute e "items" apos) [] [] cpos) (tI C (m.bind fun x => dicM itemsPD x)) := by
  refine (pi_items (pe_lk he) (base_of hb) hl).weakE fun σ H R q => ?_
  have sp : ∀ {ks : List Key} {ds xs : List D}, itemsPD (.dic ks ds) = some xs → ks.all keyOkB = true ∧ xs = List.zipWith (fun k d => .tup [kD k, d]) ks ds := fun {ks ds xs} e => by
    have e : (if ks.all keyOkB = true then some (List.zipWith (fun k d => D.tup [kD k, d]) ks ds) else none) = some xs := e
    by_cases ok : ks.all keyOkB = true
    · rw [if_pos ok] at e; exact ⟨ok, (Option.some.inj e).symm⟩
    · rw [if_neg ok] at e; cases e
  refine dic_read q (fun ks ds xs d o kvs H1 A e1 e2 e3 r => ⟨Iti d o kvs, ?_, fun _ => trivial, trivial⟩) (fun a xs e => by cases a <;> first | (cases e; done) | exact ⟨_, _, rfl⟩) _ fun d o kvs H1 e2 ⟨ks, ds, xs, ρ', h', e1, e3, R3, r, k⟩ => ?_
  · obtain ⟨ok, ex⟩ := sp e1
    subst ex; subst e3
    exact itok_items e2 ok r
  · obtain ⟨ok, ex⟩ := sp e1
    subst ex; subst e3
    exact ⟨d, o, kvs, rfl, e2, k _ (itok_items e2 ok r)⟩
end
end EV

set_option maxRecDepth 100000
set_option maxHeartbeats 2000000
/-! EvL: list comprehensions. -/
namespace EV
open PySem PySem.Spec PyProof.Rows L2

theorem wipe_get {σ : L2.St} {j : Nat} : ∀ {vs : List Nat}, (wipe σ vs)[j]? = if j ∈ vs ∧ j < σ.length then some none else σ[j]?
  | [] => by rw [if_neg (by simp)]; rfl
  | v :: vs => by
    show ((wipe σ vs).set v none)[j]? = _
    by_cases hv : v = j
    · subst hv
      by_cases hl : v < σ.length
      · rw [List.getElem?_set_self (by rw [wipe_length]; exact hl), if_pos ⟨List.mem_cons_self, hl⟩]
      · rw [if_neg (fun z => hl z.2), List.getElem?_eq_none (by rw [List.length_set, wipe_length]; omega), List.getElem?_eq_none (by omega)]
    · rw [List.getElem?_set_ne hv, wipe_get (vs := vs)]
      by_cases hj : j ∈ vs ∧ j < σ.length
      · rw [if_pos hj, if_pos ⟨List.mem_cons_of_mem _ hj.1, hj.2⟩]
      · rw [if_neg hj, if_neg (fun z => hj ⟨(List.mem_cons.mp z.1).resolve_left (fun y => hv y.symm), z.2⟩)]
theorem wipeE_len {ρ : Ev} : ∀ {vs : List Nat}, (wipeE ρ vs).length = ρ.length
  | [] => rfl
  | v :: vs => by unfold wipeE; rw [List.length_set, wipeE_len]
theorem wipeE_get {ρ : Ev} {j : Nat} : ∀ {vs : List Nat}, (wipeE ρ vs)[j]? = if j ∈ vs ∧ j < ρ.length then some .no else ρ[j]?
  | [] => by rw [if_neg (by simp)]; rfl
  | v :: vs => by
    show ((wipeE ρ vs).set v .no)[j]? = _
    by_cases hv : v = j
    · subst hv
      by_cases hl : v < ρ.length
      · rw [List.getElem?_set_self (by rw [wipeE_len]; exact hl), if_pos ⟨List.mem_cons_self, hl⟩]
      · rw [if_neg (fun z => hl z.2), List.getElem?_eq_none (by rw [List.length_set, wipeE_len]; omega), List.getElem?_eq_none (by omega)]
    · rw [List.getElem?_set_ne hv, wipeE_get (vs := vs)]
      by_cases hj : j ∈ vs ∧ j < ρ.length
      · rw [if_pos hj, if_pos ⟨List.mem_cons_of_mem _ hj.1, hj.2⟩]
      · rw [if_neg hj, if_neg (fun z => hj ⟨(List.mem_cons.mp z.1).resolve_left (fun y => hv y.symm), z.2⟩)]
theorem wipe_off {σ σ2 : L2.St} {js vs : List Nat} (o : OffS (wipe σ vs) σ2 js) (h : ∀ j ∈ js, j ∈ vs) : wipe σ2 vs = wipe σ vs := by
  apply List.ext_getElem?
  intro j
  rw [wipe_get, wipe_get]
  have hl : σ2.length = σ.length := by rw [o.1, wipe_length]
  rw [hl]
  by_cases hj : j ∈ vs ∧ j < σ.length
  · rw [if_pos hj, if_pos hj]
  · rw [if_neg hj, if_neg hj]
    by_cases hv : j ∈ vs
    · have : ¬ j < σ.length := fun z => hj ⟨hv, z⟩
      rw [List.getElem?_eq_none (by omega), List.getElem?_eq_none (by omega)]
    · rw [o.2 j (fun z => hv (h j z)), wipe_get, if_neg hj]
theorem noOwn_get {ρ : Ev} {vs : List Nat} (n : noOwn ρ vs = true) {j : Nat} (hj : j ∈ vs) {b : D} : ρ[j]? ≠ some (.own b) := fun e => by
  have := List.all_eq_true.mp n j hj
  rw [e] at this
  cases this
theorem noOwn_lt {ρ : Ev} {vs : List Nat} (n : noOwn ρ vs = true) {j : Nat} (hj : j ∈ vs) : j < ρ.length := by
  have := List.all_eq_true.mp n j hj
  cases e : ρ[j]? with
  | none => rw [e] at this; cases this
  | some s => exact (List.getElem?_eq_some_iff.mp e).1
section
variable {C : Ct} {σ : L2.St} {H : Hp} {ρ : Ev} {h : Hh}
theorem RepD.less {K : PySem.W.Frag} {A A' : Addr → Prop} {d : D} {v : V} (r : RepD K H A d v) (s : ∀ a, A' a → A a) : RepD K H A' d v :=
  r.kp ⟨fun _ _ e => e, fun a _ e n => ⟨e, fun z => n (s a z)⟩, fun a _ e n => ⟨e, fun z => n (s a z)⟩, fun a _ e n => ⟨e, fun z => n (s a z)⟩, fun _ _ _ e => e⟩ _ _
theorem Kp.less {A A' : Addr → Prop} (s : ∀ a, A' a → A a) : Kp H A H A' :=
  ⟨fun _ _ e => e, fun a _ e n => ⟨e, fun z => n (s a z)⟩, fun a _ e n => ⟨e, fun z => n (s a z)⟩, fun a _ e n => ⟨e, fun z => n (s a z)⟩, fun _ _ _ e => e⟩
/-- the context of the block: the list that is made is put aside -/
def Ct.inF (C : Ct) (d : Addr) : Ct := { C with A1 := fun a => C.A1 a ∨ a = d }
def Ct.inB (C : Ct) (d : Addr) : Ct := { C.inF d with blk := true }
/-- values that are no functions of the frame mean the same in the block -/
theorem RepV.blk {d : Addr} {σ' : L2.St} {ρ' : Ev} {H' : Hp} {w : Val} {v : V} (r : RepV C σ ρ H w v) (k : Kp H (Av C σ ρ) H' (Av (C.inB d) σ' ρ')) (st : ∀ a o, H a = some o → steady o = true → H' a = some o) (n1 : ∀ c cs, w ≠ .clo c cs) (n2 : ∀ c, w ≠ .mk c) (n3 : ∀ i, w ≠ .own i) : RepV (C.inB d) σ' ρ' H' w v := by
  cases w with
  | d x => exact r.kp k _ _
  | ref j => exact r
  | own i => exact absurd rfl (n3 i)
  | clo c cs => exact absurd rfl (n1 c cs)
  | mk c => exact absurd rfl (n2 c)
  | scr ns => obtain ⟨a, h1, h2⟩ := r; exact ⟨a, h1, h2.st st⟩
  | kon xs => obtain ⟨a, vs, h1, h2, h3⟩ := r; exact ⟨a, vs, h1, h2, h3.kp k⟩
theorem blkE_get {vs : List Nat} {j : Nat} {s : Sl} (e : (blkE ρ vs)[j]? = some s) : s = .no ∨ (j ∉ vs ∧ ρ[j]? = some s ∧ (∀ c cs, s ≠ .val (.clo c cs)) ∧ ∀ c, s ≠ .val (.mk c)) := by
  unfold blkE at e
  rw [wipeE_get, List.length_map] at e
  by_cases hj : j ∈ vs ∧ j < ρ.length
  · rw [if_pos hj] at e; exact .inl (Option.some.inj e).symm
  · rw [if_neg hj, List.getElem?_map] at e
    cases hr : ρ[j]? with
    | none => rw [hr] at e; cases e
    | some t =>
      rw [hr] at e
      have e : dropF t = s := Option.some.inj e
      have hv : j ∉ vs := fun z => hj ⟨z, (List.getElem?_eq_some_iff.mp hr).1⟩
      cases t with
      | no => exact .inl e.symm
      | own b => subst e; exact .inr ⟨hv, rfl, (fun _ _ z => by cases z), (fun _ z => by cases z)⟩
      | val w =>
        cases w <;> first
          | exact .inl e.symm
          | (subst e; exact .inr ⟨hv, rfl, (fun _ _ z => by cases z), (fun _ z => by cases z)⟩)
theorem blkE_own {vs : List Nat} {j : Nat} {b : D} (n : noOwn ρ vs = true) (e : ρ[j]? = some (.own b)) : (blkE ρ vs)[j]? = some (.own b) := by
  unfold blkE
  rw [wipeE_get, List.length_map, if_neg (fun z => noOwn_get n z.1 e), List.getElem?_map, e]
  rfl
/-- the block begins -/
theorem Rel.enter {vs : List Nat} {d : Addr} {o : HO} (R : Rel C σ H ρ h) (no : noOwn ρ vs = true) (nd : H d = none) : Rel (C.inB d) (wipe σ vs) (upd H d o) (blkE ρ vs) h ∧
    Kp H (Av C σ ρ) (upd H d o) (Av (C.inB d) (wipe σ vs) (blkE ρ vs)) := by
  have ex : ∀ a u, H a = some u → upd H d o a = some u := fun a u e => by rw [upd_ne (ne_of_none e nd)]; exact e
  have ow : ∀ a, Ow (wipe σ vs) (blkE ρ vs) a → Ow σ ρ a := fun a ⟨j, b, e1, e2⟩ => by
    rcases blkE_get e1 with z | ⟨hv, z, _⟩
    · cases z
    · exact ⟨j, b, z, (wipe_some e2).1⟩
  have av : ∀ a u, H a = some u → ¬ Av C σ ρ a → ¬ Av (C.inB d) (wipe σ vs) (blkE ρ vs) a := fun a u e n z => by
    rcases z with (z | z) | z
    · exact n (.inl z)
    · rw [z, nd] at e; cases e
    · exact n (.inr (ow a z))
  have k : Kp H (Av C σ ρ) (upd H d o) (Av (C.inB d) (wipe σ vs) (blkE ρ vs)) := by
    refine ⟨fun a _ e => ex a _ e, fun a _ e n => ⟨ex a _ e, av a _ e n⟩, fun a _ e n => ?_, fun a _ e n => ?_, fun a _ _ e => ex a _ e⟩
    · rcases e with e | ⟨o, e⟩
      · exact ⟨.inl (ex a _ e), av a _ e n⟩
      · exact ⟨.inr ⟨o, ex a _ e⟩, av a _ e n⟩
    · rcases e with e | ⟨o, e⟩
      · exact ⟨.inl (ex a _ e), av a _ e n⟩
      · exact ⟨.inr ⟨o, ex a _ e⟩, av a _ e n⟩
  have sg : ∀ {j : Nat} {v : V}, j ∉ vs → σ[j]? = some (some v) → (wipe σ vs)[j]? = some (some v) := fun {j v} hv e => by rw [wipe_get, if_neg (fun z => hv z.1)]; exact e
  refine ⟨⟨by rw [wipe_length]; show σ.length = (wipeE _ vs).length; rw [wipeE_len, List.length_map]; exact R.len, fun j w e => ?_, fun j b e => ?_, fun i j b b' a e1 e2 z1 z2 => ?_, R.blen, fun j b e => ?_, fun a ha => .inl (R.mu a ha), R.nod, fun a ha => ?_, fun j i e => ?_, NdefX.TabsN.ext R.tab ex⟩, k⟩
  · rcases blkE_get e with z | ⟨hv, z, n1, n2⟩
    · cases z
    · obtain ⟨v, e1, r⟩ := R.val j w z
      exact ⟨v, sg hv e1, r.blk k (fun a o q _ => ex a o q) (fun c cs y => n1 c cs (by rw [y])) (fun c y => n2 c (by rw [y])) (fun i y => R.noH j i (by rw [← y]; exact z))⟩
  · rcases blkE_get e with z | ⟨hv, z, _⟩
    · cases z
    · obtain ⟨a, e1, e2, e3⟩ := R.own j b z
      refine ⟨a, sg hv e1, fun y => ?_, e3.kp k (ex a)⟩
      rcases y with y | y
      · exact e2 y
      · obtain ⟨o, eo, _⟩ := e3.here
        rw [y, nd] at eo; cases eo
  · rcases blkE_get e1 with z | ⟨_, q1, _⟩
    · cases z
    · rcases blkE_get e2 with z | ⟨_, q2, _⟩
      · cases z
      · exact R.dis i j b b' a q1 q2 (wipe_some z1).1 (wipe_some z2).1
  · obtain ⟨a, e1, e2⟩ := R.box j b e
    exact ⟨a, e1, e2.kp k (ex a)⟩
  · rcases ha with ha | ha
    · obtain ⟨o, e⟩ := R.trk a ha; exact ⟨o, ex a o e⟩
    · rw [ha]; exact ⟨_, upd_same⟩
  · rcases blkE_get e with z | ⟨_, z, _⟩
    · cases z
    · exact R.noH j i z
/-- a turn's end: the names of the block are put aside again -/
theorem Rel.wipe {vs : List Nat} (R : Rel C σ H ρ h) (no : noOwn ρ vs = true) : Rel C (L2.wipe σ vs) H (wipeE ρ vs) h ∧ (∀ a, Av C (L2.wipe σ vs) (wipeE ρ vs) a ↔ Av C σ ρ a) := by
  have wg : ∀ {j : Nat} {s : Sl}, (wipeE ρ vs)[j]? = some s → s = .no ∨ (j ∉ vs ∧ ρ[j]? = some s) := fun {j s} e => by
    rw [wipeE_get] at e
    by_cases hj : j ∈ vs ∧ j < ρ.length
    · rw [if_pos hj] at e; exact .inl (Option.some.inj e).symm
    · rw [if_neg hj] at e
      exact .inr ⟨fun z => hj ⟨z, (List.getElem?_eq_some_iff.mp e).1⟩, e⟩
  have sg : ∀ {j : Nat} {v : V}, j ∉ vs → σ[j]? = some (some v) → (L2.wipe σ vs)[j]? = some (some v) := fun {j v} hv e => by rw [wipe_get, if_neg (fun z => hv z.1)]; exact e
  have ow : ∀ a, Ow (L2.wipe σ vs) (wipeE ρ vs) a ↔ Ow σ ρ a := fun a => ⟨fun ⟨j, b, e1, e2⟩ => by
    rcases wg e1 with z | ⟨_, z⟩
    · cases z
    · exact ⟨j, b, z, (wipe_some e2).1⟩, fun ⟨j, b, e1, e2⟩ => by
    have hv : j ∉ vs := fun z => noOwn_get no z e1
    exact ⟨j, b, by rw [wipeE_get, if_neg (fun z => hv z.1)]; exact e1, sg hv e2⟩⟩
  have av : ∀ a, Av C (L2.wipe σ vs) (wipeE ρ vs) a ↔ Av C σ ρ a := fun a => ⟨fun z => z.imp id (ow a).mp, fun z => z.imp id (ow a).mpr⟩
  have ave : Av C (L2.wipe σ vs) (wipeE ρ vs) = Av C σ ρ := by funext a; exact propext (av a)
  refine ⟨⟨by rw [wipe_length, wipeE_len]; exact R.len, fun j w e => ?_, fun j b e => ?_, fun i j b b' a e1 e2 z1 z2 => ?_, R.blen, fun j b e => ?_, R.mu, R.nod, R.trk, fun j i e => ?_, R.tab⟩, av⟩
  · rcases wg e with z | ⟨hv, z⟩
    · cases z
    · obtain ⟨v, e1, r⟩ := R.val j w z
      refine ⟨v, sg hv e1, ?_⟩
      cases w with
      | d x => show RepD _ _ _ _ _; rw [ave]; exact r
      | ref j => exact r
      | own i => exact (R.noH j i z).elim
      | clo c cs => show CloAt _ _ _ _ _ _; rw [ave]; exact r
      | mk c => exact r
      | scr ns => exact r
      | kon xs => obtain ⟨a, us, q1, q2, q3⟩ := r; exact ⟨a, us, q1, q2, by rw [ave]; exact q3⟩
  · rcases wg e with z | ⟨hv, z⟩
    · cases z
    · obtain ⟨a, e1, e2, e3⟩ := R.own j b z
      exact ⟨a, sg hv e1, e2, by rw [ave]; exact e3⟩
  · rcases wg e1 with z | ⟨_, q1⟩
    · cases z
    · rcases wg e2 with z | ⟨_, q2⟩
      · cases z
      · exact R.dis i j b b' a q1 q2 (wipe_some z1).1 (wipe_some z2).1
  · obtain ⟨a, e1, e2⟩ := R.box j b e
    exact ⟨a, e1, by rw [ave]; exact e2⟩
  · rcases wg e with z | ⟨_, z⟩
    · cases z
    · exact R.noH j i z
end
end EV

set_option maxRecDepth 100000
set_option maxHeartbeats 4000000
/-! EvM: a list comprehension's reading. -/
namespace EV
open PySem PySem.Spec PyProof.Rows L2

section
variable {C : Ct} {σ : L2.St} {H : Hp} {ρ : Ev} {h : Hh}
/-- a list put aside is changed -/
theorem Rel.aside {a : Addr} {u o : HO} (R : Rel C σ H ρ h) (hA : C.A1 a) (hm : a ∉ C.μ) (e : H a = some u) (su : steady u = false) (nt : ∀ ps, u ≠ .tbl ps) : Rel C σ (upd H a o) ρ h ∧ Kp H (Av C σ ρ) (upd H a o) (Av C σ ρ) := by
  have hAv : Av C σ ρ a := .inl hA
  obtain ⟨k1, k2⟩ := upd_kept (o := o) e su nt
  have k := kp_upd (o := o) e su hAv
  refine ⟨⟨R.len, fun j w q => ?_, fun j b q => ?_, R.dis, R.blen, fun j b q => ?_, R.mu, R.nod, fun c q => ?_, R.noH, tabs_kept R.tab k1 k2⟩, k⟩
  · obtain ⟨v, e1, r⟩ := R.val j w q
    refine ⟨v, e1, ?_⟩
    cases w with
    | d x => exact r.kp k _ _
    | ref i => exact r
    | own i => exact r
    | clo c cs => obtain ⟨b0, n, f, F, ws, h1, h2, h3, h4, h5, h6, h7, h8⟩ := r; exact ⟨b0, n, f, F, ws, h1, h2, k1 _ _ h3 rfl, k1 _ _ h4 rfl, h5, h6, h7, h8.kp k⟩
    | mk c => obtain ⟨b0, n, f, F, h1, h2, h3, h4, h5⟩ := r; exact ⟨b0, n, f, F, h1, h2, k1 _ _ h3 rfl, k1 _ _ h4 rfl, h5⟩
    | scr ns => obtain ⟨x, h1, h2⟩ := r; exact ⟨x, h1, h2.st k1⟩
    | kon xs => obtain ⟨x, vs, h1, h2, h3⟩ := r; exact ⟨x, vs, h1, h2, h3.kp k⟩
  · obtain ⟨x, e1, e2, e3⟩ := R.own j b q
    have : x ≠ a := fun y => e2 (by rw [y]; exact hA)
    exact ⟨x, e1, e2, e3.kp k fun o z => by rw [upd_ne this]; exact z⟩
  · obtain ⟨x, e1, e3⟩ := R.box j b q
    have : x ≠ a := fun y => hm (by rw [← y]; exact List.mem_of_getElem? e1)
    exact ⟨x, e1, e3.kp k fun o z => by rw [upd_ne this]; exact z⟩
  · obtain ⟨o, eo⟩ := R.trk c q
    by_cases y : c = a
    · rw [y]; exact ⟨_, upd_same⟩
    · exact ⟨o, by rw [upd_ne y]; exact eo⟩
theorem outE_get {ρ1 ρb : Ev} {j : Nat} (hl : ρb.length = ρ1.length) : (outE ρ1 ρb)[j]? = match ρ1[j]?, ρb[j]? with
    | some s, some s' => some (pick s s')
    | _, _ => none := by
  unfold outE
  rw [List.getElem?_zipWith]
  cases ρ1[j]? <;> cases ρb[j]? <;> rfl
theorem out_nown {ρ1 ρb : Ev} {j : Nat} {s : Sl} (hl : ρb.length = ρ1.length) (e : (outE ρ1 ρb)[j]? = some s) (n : ∀ b, s ≠ .own b) (pb : ∀ b, ρ1[j]? = some (.own b) → ∃ b', ρb[j]? = some (.own b')) : ρ1[j]? = some s := by
  rw [outE_get hl] at e
  cases h1 : ρ1[j]? with
  | none => rw [h1] at e; cases e
  | some t =>
    cases h2 : ρb[j]? with
    | none => rw [h1, h2] at e; cases e
    | some t' =>
      rw [h1, h2] at e
      cases t with
      | own b =>
        obtain ⟨b', q⟩ := pb b h1
        rw [h2] at q
        cases q
        cases e
        exact absurd rfl (n b')
      | no => cases e; rfl
      | val w => cases e; rfl
theorem out_own {ρ1 ρb : Ev} {j : Nat} {b : D} (hl : ρb.length = ρ1.length) (e : (outE ρ1 ρb)[j]? = some (.own b)) : (∃ b0, ρ1[j]? = some (.own b0)) ∧ ρb[j]? = some (.own b) := by
  rw [outE_get hl] at e
  cases h1 : ρ1[j]? with
  | none => rw [h1] at e; cases e
  | some t =>
    cases h2 : ρb[j]? with
    | none => rw [h1, h2] at e; cases e
    | some t' =>
      rw [h1, h2] at e
      cases t with
      | own b0 => cases e; exact ⟨⟨b0, rfl⟩, rfl⟩
      | no => cases e
      | val w => cases e
theorem out_of_own {ρ1 ρb : Ev} {j : Nat} {b b' : D} (hl : ρb.length = ρ1.length) (e1 : ρ1[j]? = some (.own b)) (e2 : ρb[j]? = some (.own b')) : (outE ρ1 ρb)[j]? = some (.own b') := by
  rw [outE_get hl, e1, e2]; rfl
/-- a value as it was, what is new put aside -/
theorem RepV.inF {d : Addr} {σ' : L2.St} {ρ' : Ev} {H' : Hp} {w : Val} {v : V} (r : RepV C σ ρ H w v) (k : Kp H (Av C σ ρ) H' (Av (C.inF d) σ' ρ')) (st : ∀ a o, H a = some o → steady o = true → H' a = some o) (n3 : ∀ i, w ≠ .own i) : RepV (C.inF d) σ' ρ' H' w v := by
  cases w with
  | d x => exact r.kp k _ _
  | ref j => exact r
  | own i => exact absurd rfl (n3 i)
  | clo c cs => obtain ⟨b0, n, f, F, ws, h1, h2, h3, h4, h5, h6, h7, h8⟩ := r; exact ⟨b0, n, f, F, ws, h1, h2, st _ _ h3 rfl, st _ _ h4 rfl, h5, h6, h7, h8.kp k⟩
  | mk c => obtain ⟨b0, n, f, F, h1, h2, h3, h4, h5⟩ := r; exact ⟨b0, n, f, F, h1, h2, st _ _ h3 rfl, st _ _ h4 rfl, h5⟩
  | scr ns => obtain ⟨a, h1, h2⟩ := r; exact ⟨a, h1, h2.st st⟩
  | kon xs => obtain ⟨a, vs, h1, h2, h3⟩ := r; exact ⟨a, vs, h1, h2, h3.kp k⟩
/-- .. and no longer -/
theorem RepV.outF {d : Addr} {w : Val} {v : V} (r : RepV (C.inF d) σ ρ H w v) : RepV C σ ρ H w v := by
  have s : ∀ a, Av C σ ρ a → Av (C.inF d) σ ρ a := fun a z => z.imp .inl id
  cases w with
  | d x => exact RepD.less r s
  | ref j => exact r
  | own i => exact r
  | clo c cs => obtain ⟨b0, n, f, F, ws, h1, h2, h3, h4, h5, h6, h7, h8⟩ := r; exact ⟨b0, n, f, F, ws, h1, h2, h3, h4, h5, h6, h7, h8.kp (Kp.less s)⟩
  | mk c => exact r
  | scr ns => exact r
  | kon xs => obtain ⟨a, vs, h1, h2, h3⟩ := r; exact ⟨a, vs, h1, h2, h3.kp (Kp.less s)⟩
theorem Rel.outF {d : Addr} (R : Rel (C.inF d) σ H ρ h) (hm : ∀ a ∈ C.μ, C.A1 a) : Rel C σ H ρ h := by
  have s : ∀ a, Av C σ ρ a → Av (C.inF d) σ ρ a := fun a z => z.imp .inl id
  refine ⟨R.len, fun j w e => ?_, fun j b e => ?_, R.dis, R.blen, fun j b e => ?_, hm, R.nod, fun a z => R.trk a (.inl z), R.noH, R.tab⟩
  · obtain ⟨v, e1, r⟩ := R.val j w e; exact ⟨v, e1, r.outF⟩
  · obtain ⟨a, e1, e2, e3⟩ := R.own j b e; exact ⟨a, e1, fun z => e2 (.inl z), e3.kp (Kp.less s) fun o z => z⟩
  · obtain ⟨a, e1, e3⟩ := R.box j b e; exact ⟨a, e1, e3.kp (Kp.less s) fun o z => z⟩
/-- data is made whose thing is put aside: nobody else has it -/
def tFr (C : Ct) (m : M Val) : TE := fun σ H Q => ∃ ρ h b ρ' h', Rel C σ H ρ h ∧ m ρ h = .ok (.d b) ρ' h' ∧
  ∀ a H', H a = none → Rel (C.inF a) σ H' ρ' h' → BoxAt C.K H' (Av (C.inF a) σ ρ') b a → Stp C σ ρ H σ ρ' H' → Shp ρ ρ' → Q (.ref a) H'
theorem tE.fresh {m : M Val} {Q : VK} (q : tE C m σ H Q) (hd : ∀ ρ h w ρ' h', m ρ h = .ok w ρ' h' → ∃ b, w = .d b) : tFr C m σ H Q := by
  obtain ⟨ρ, h, R, w, ρ', h', e, k⟩ := q
  obtain ⟨b, eb⟩ := hd _ _ _ _ _ e
  subst eb
  refine ⟨ρ, h, b, ρ', h', R, e, fun a H' n R' bx S P => k (.ref a) H' (R'.outF R.mu) ?_ S P⟩
  have s : ∀ x, Av C σ ρ' x → Av (C.inF a) σ ρ' x := fun x z => z.imp .inl id
  have bx2 : BoxAt C.K H' (Av C σ ρ') b a := bx.kp (Kp.less s) fun o z => z
  refine bx2.frozen fun z => ?_
  rcases z with z | z
  · obtain ⟨o, eo⟩ := R.trk a z; rw [n] at eo; cases eo
  · obtain ⟨i, c, z1, z2⟩ := P.ow.mp z
    obtain ⟨x, y1, _, y3⟩ := R.own i c z1
    rw [z2] at y1; cases y1
    obtain ⟨o, eo, _⟩ := y3.here
    rw [n] at eo; cases eo
/-- behind the block -/
theorem Rel.leave {vs : List Nat} {d : Addr} {ρ1 ρb : Ev} {h1 hb : Hh} {H1 : Hp} (R1 : Rel C σ H1 ρ1 h1) (nd : H1 d = none) (no : noOwn ρ1 vs = true) (Rb : Rel (C.inB d) (L2.wipe σ vs) H ρb hb) (S : Stp C σ ρ1 H1 σ ρ1 H) (pb : Shp (blkE ρ1 vs) ρb) :
    Rel (C.inF d) σ H (outE ρ1 ρb) hb ∧ Shp ρ1 (outE ρ1 ρb) ∧ (∀ a, Av (C.inF d) σ (outE ρ1 ρb) a → Av (C.inB d) (L2.wipe σ vs) ρb a) := by
  have hl : ρb.length = ρ1.length := by rw [← Rb.len, wipe_length, R1.len]
  have po : ∀ {j : Nat} {b : D}, ρ1[j]? = some (.own b) → ∃ b', ρb[j]? = some (.own b') := fun e => pb.own (blkE_own no e)
  have sh : Shp ρ1 (outE ρ1 ρb) := fun j => by
    cases e1 : ρ1[j]? with
    | none =>
      left
      rw [outE_get hl, e1]
    | some t =>
      have hj : j < ρb.length := by rw [hl]; exact (List.getElem?_eq_some_iff.mp e1).1
      have e2 := List.getElem?_eq_getElem hj
      cases t with
      | own b => obtain ⟨b', q⟩ := po e1; exact .inr ⟨b, b', rfl, out_of_own hl e1 q⟩
      | no => left; rw [outE_get hl, e1, e2]; rfl
      | val w => left; rw [outE_get hl, e1, e2]; rfl
  have S' : Stp C σ ρ1 H1 σ (outE ρ1 ρb) H := ⟨S.st, S.keep, S.there, fun a z => .inl (sh.ow.mp z)⟩
  have kF : Kp H1 (Av C σ ρ1) H (Av (C.inF d) σ (outE ρ1 ρb)) := by
    have k0 := S'.kp R1.mu
    have nx : ∀ a u, H1 a = some u → ¬ Av C σ (outE ρ1 ρb) a → ¬ Av (C.inF d) σ (outE ρ1 ρb) a := fun a u e n z => by
      rcases z with (z | z) | z
      · exact n (.inl z)
      · rw [z, nd] at e; cases e
      · exact n (.inr z)
    refine ⟨k0.tup, fun a _ e n => ⟨(k0.lst a _ e n).1, nx a _ e (k0.lst a _ e n).2⟩, fun a _ e n => ⟨(k0.dK a _ e n).1, ?_⟩, fun a _ e n => ⟨(k0.dT a _ e n).1, ?_⟩, k0.frz⟩
    · rcases id e with e2 | ⟨o, e2⟩ <;> exact nx a _ e2 (k0.dK a _ e n).2
    · rcases id e with e2 | ⟨o, e2⟩ <;> exact nx a _ e2 (k0.dT a _ e n).2
  have avs : ∀ a, Av (C.inF d) σ (outE ρ1 ρb) a → Av (C.inB d) (L2.wipe σ vs) ρb a := fun a z => by
    rcases z with z | ⟨j, b, e1, e2⟩
    · exact .inl z
    · obtain ⟨⟨b0, q0⟩, q1⟩ := out_own hl e1
      have hv : j ∉ vs := fun y => noOwn_get no y q0
      exact .inr ⟨j, b, q1, by rw [wipe_get, if_neg (fun y => hv y.1)]; exact e2⟩
  refine ⟨⟨by rw [R1.len]; unfold outE; rw [List.length_zipWith, hl, Nat.min_self], fun j w e => ?_, fun j b e => ?_, fun i j b b' a e1 e2 z1 z2 => ?_, Rb.blen, fun j b e => ?_, fun a ha => .inl (R1.mu a ha), R1.nod, fun a ha => Rb.trk a ha, fun j i e => ?_, Rb.tab⟩, sh, avs⟩
  · have e0 := out_nown hl e (fun b z => by cases z) fun b q => po q
    obtain ⟨v, e1, r⟩ := R1.val j w e0
    exact ⟨v, e1, r.inF kF S.st fun i z => R1.noH j i (by rw [← z]; exact e0)⟩
  · obtain ⟨⟨b0, q0⟩, q1⟩ := out_own hl e
    obtain ⟨a, e1, e2, e3⟩ := R1.own j b0 q0
    obtain ⟨a', f1, f2, f3⟩ := Rb.own j b q1
    have hv : j ∉ vs := fun y => noOwn_get no y q0
    rw [wipe_get, if_neg (fun y => hv y.1), e1] at f1
    cases f1
    exact ⟨a, e1, f2, f3.kp (Kp.less avs) fun o z => z⟩
  · obtain ⟨⟨c1, q1⟩, _⟩ := out_own hl e1
    obtain ⟨⟨c2, q2⟩, _⟩ := out_own hl e2
    exact R1.dis i j c1 c2 a q1 q2 z1 z2
  · obtain ⟨a, e1, e2⟩ := Rb.box j b e
    exact ⟨a, e1, e2.kp (Kp.less avs) fun o z => z⟩
  · exact R1.noH j i (out_nown hl e (fun b z => by cases z) fun b q => po q)

def gX (C : Ct) (js : List Nat) (f : Val → M Unit) : TG := fun v σ H Q => ∃ d, tG (C.inB d) js f v σ H Q
def ttX (C : Ct) (m : M Bool) : TT := fun σ H Q => ∃ d, tT (C.inB d) m σ H Q
def teX (C : Ct) (m : M Val) : TE := fun σ H Q => ∃ d, tE (C.inB d) m σ H Q
theorem lcM_ok {vs : List Nat} {f : Val → M Unit} {test : M Bool} {elt : M Val} {xs : List D} {ρ1 ρ' : Ev} {h1 h' : Hh} {w : Val} (e : lcM vs f test elt xs ρ1 h1 = .ok w ρ' h') :
    noOwn ρ1 vs = true ∧ ∃ ys ρ2, lcLoop vs f test elt xs [] (blkE ρ1 vs) h1 = .ok ys ρ2 h' ∧ w = .d (.lst ys) ∧ ρ' = outE ρ1 ρ2 := by
  unfold lcM at e
  by_cases no : noOwn ρ1 vs = true
  · rw [if_pos no] at e
    split at e
    · rename_i ys ρ2 h2 e3
      injection e with z1 z2 z3
      exact ⟨no, ys, ρ2, by rw [e3, z3], z1.symm, z2.symm⟩
    · cases e
  · rw [if_neg no] at e; cases e
theorem plainV_ok {y : Val} {d : D} {ρ ρ' : Ev} {h h' : Hh} (e : plainV y ρ h = .ok d ρ' h') : y = .d d ∧ ρ' = ρ ∧ h' = h := by
  cases y with
  | d a => injection e with z1 z2 z3; exact ⟨by rw [z1], z2.symm, z3.symm⟩
  | _ => cases e
theorem lc_read {vs js : List Nat} {mI : M (List D)} {f : Val → M Unit} {test : M Bool} {elt : M Val} {Q : VK} (hjs : ∀ j ∈ js, j ∈ vs) (q : tFr C (mI.bind (lcM vs f test elt)) σ H Q) :
    tLc (tI C mI) (gX C js f) (ttX C test) (teX C elt) vs σ H Q := by
  obtain ⟨ρ, h, b0, ρ', h', R, e, k⟩ := q
  obtain ⟨xs, ρ1, h1, e1, e2⟩ := M.bind_ok e
  obtain ⟨no, ys, ρ2, e3, ew, er⟩ := lcM_ok e2
  injection ew with ew
  subst ew; subst er
  refine ⟨ρ, h, xs, ρ1, h1, R, e1, fun J H1 R1 S1 P1 it D nD => ?_⟩
  have hDm : D ∉ C.μ := fun z => by obtain ⟨o, eo⟩ := R1.trk D (R1.mu D z); rw [nD] at eo; cases eo
  obtain ⟨RE, kE⟩ := R1.enter (o := .lst []) no nD
  have exD : ∀ a u, H1 a = some u → upd H1 D (.lst []) a = some u := fun a u e => by rw [upd_ne (ne_of_none e nD)]; exact e
  refine ⟨fun i m H => m = xs.length - i ∧ i ≤ xs.length ∧ ∃ ρb hb acc us, Rel (C.inB D) (L2.wipe σ vs) H ρb hb ∧ Stp C σ ρ1 H1 σ ρ1 H ∧ H D = some (.lst us) ∧ RepDs C.K H (Av (C.inB D) (L2.wipe σ vs) ρb) acc us ∧
    lcLoop vs f test elt (xs.drop i) acc ρb hb = .ok ys ρ2 h' ∧ Shp (blkE ρ1 vs) ρb, ⟨xs.length, rfl, Nat.zero_le _, blkE ρ1 vs, h1, [], [], RE, ?_, upd_same, rfl, by rw [List.drop_zero]; exact e3, .refl _⟩, ?_⟩
  · exact ⟨fun a u e _ => exD a u e, fun a u e _ _ _ => .inl (exD a u e), fun a e => by
      by_cases q : a = D
      · rw [q]; exact nD
      · rw [upd_ne q] at e; exact e, fun a z => .inl z⟩
  rintro i m H ⟨rfl, hi, ρb, hb, acc, us, Rb, Sb, hD, ra, el, pb⟩
  have owb : ∀ a, Ow (L2.wipe σ vs) ρb a → Ow σ ρ1 a := fun a ⟨j, b, z1, z2⟩ => by
    obtain ⟨b', z3⟩ := pb.own' z1
    rcases blkE_get z3 with z | ⟨_, z, _⟩
    · cases z
    · exact ⟨j, b', z, (wipe_some z2).1⟩
  have avb : ∀ a u, H1 a = some u → ¬ Av C σ ρ1 a → ¬ Av (C.inB D) (L2.wipe σ vs) ρb a := fun a u e n z => by
    rcases z with (z | z) | z
    · exact n (.inl z)
    · rw [z, nD] at e; cases e
    · exact n (.inr (owb a z))
  have kb : Kp H1 (Av C σ ρ1) H (Av (C.inB D) (L2.wipe σ vs) ρb) := by
    have k0 := Sb.kp R1.mu
    refine ⟨k0.tup, fun a _ e n => ⟨(k0.lst a _ e n).1, avb a _ e n⟩, fun a _ e n => ⟨(k0.dK a _ e n).1, ?_⟩, fun a _ e n => ⟨(k0.dT a _ e n).1, ?_⟩, k0.frz⟩
    · rcases e with e | ⟨o, e⟩ <;> exact avb a _ e n
    · rcases e with e | ⟨o, e⟩ <;> exact avb a _ e n
  have hDA : (C.inB D).A1 D := .inr rfl
  have nOwD : ∀ {σ' : L2.St} {H' : Hp} {ρ'' : Ev} {h'' : Hh}, Rel (C.inB D) σ' H' ρ'' h'' → ¬ Ow σ' ρ'' D := fun R' ⟨j, b, z1, z2⟩ => by
    obtain ⟨a, y1, y2, _⟩ := R'.own j b z1
    rw [z2] at y1; cases y1
    exact y2 hDA
  have itk := it (C.inB D) ⟨rfl⟩ (L2.wipe σ vs) ρb hb H Rb kb
  by_cases hlt : i < xs.length
  · have hd : xs.drop i = xs[i] :: xs.drop (i + 1) := List.drop_eq_getElem_cons hlt
    have hx : xs[i]? = some xs[i] := List.getElem?_eq_getElem hlt
    rw [hd] at el
    obtain ⟨_, ρt, ht, et, el2⟩ := M.bind_ok (show ((f (.d xs[i])).bind fun _ => test.bind fun b => if b = true then
      elt.bind fun y => (plainV y).bind fun d => fun ρ h => if acc.length < sizeLine ∧ noOwn ρ vs = true then lcLoop vs f test elt (xs.drop (i + 1)) (acc ++ [d]) (wipeE ρ vs) h else .bad
      else fun ρ h => if noOwn ρ vs = true then lcLoop vs f test elt (xs.drop (i + 1)) acc (wipeE ρ vs) h else .bad) ρb hb = .ok ys ρ2 h' from el)
    obtain ⟨b, ρ3, h3, e4, el3⟩ := M.bind_ok el2
    refine .inr ⟨(itk.1 i _ hx).1, fun H' => i + 1 ≤ xs.length ∧ ∃ ρb hb acc us, Rel (C.inB D) (L2.wipe σ vs) H' ρb hb ∧ Stp C σ ρ1 H1 σ ρ1 H' ∧ H' D = some (.lst us) ∧ RepDs C.K H' (Av (C.inB D) (L2.wipe σ vs) ρb) acc us ∧
      lcLoop vs f test elt (xs.drop (i + 1)) acc ρb hb = .ok ys ρ2 h' ∧ Shp (blkE ρ1 vs) ρb, fun H' n => ⟨xs.length - (i + 1), by omega, rfl, n⟩, fun v H' y => ?_⟩
    obtain ⟨rv, Ry, Sy⟩ := (itk.1 i _ hx).2 v H' y
    refine ⟨D, ρb, hb, .d xs[i], ρt, ht, Ry, rv, et, fun σ2 H2 R2 S2 O2 P2 => ⟨wipe_off O2 hjs, D, ρt, ht, R2, b, ρ3, h3, e4, fun H3 R3 S3 P3 => ?_⟩⟩
    have we := wipe_off O2 hjs
    have S := Sy.trans (S2.trans S3)
    -- the slots' kinds at a turn's end
    have shp : ∀ {ρ4 : Ev}, Shp ρ3 ρ4 → ρ4.length = ρ1.length → Shp (blkE ρ1 vs) (wipeE ρ4 vs) := fun {ρ4} p4 hlen j => by
      by_cases hj : j ∈ vs ∧ j < ρ1.length
      · left
        rw [wipeE_get, if_pos ⟨hj.1, by rw [hlen]; exact hj.2⟩]
        unfold blkE
        rw [wipeE_get, List.length_map, if_pos hj]
      · rw [wipeE_get, if_neg (fun z => hj ⟨z.1, by rw [← hlen]; exact z.2⟩)]
        by_cases hv : j ∈ vs
        · have h0 : ¬ j < ρ1.length := fun z => hj ⟨hv, z⟩
          left
          rw [List.getElem?_eq_none (by omega), List.getElem?_eq_none (by unfold blkE; rw [wipeE_len, List.length_map]; omega)]
        · have s1 := pb j
          have s2 := P2 j (fun z => hv (hjs j z))
          have s3 := (P3.trans p4) j
          have c1 : ρt[j]? = (blkE ρ1 vs)[j]? ∨ ∃ b b', (blkE ρ1 vs)[j]? = some (.own b) ∧ ρt[j]? = some (.own b') := by
            rcases s1 with z | ⟨b1, b2, z1, z2⟩
            · rcases s2 with y | ⟨c1, c2, y1, y2⟩
              · exact .inl (y.trans z)
              · exact .inr ⟨c1, c2, z.symm.trans y1, y2⟩
            · rcases s2 with y | ⟨c1, c2, y1, y2⟩
              · exact .inr ⟨b1, b2, z1, y.trans z2⟩
              · exact .inr ⟨b1, c2, z1, y2⟩
          rcases c1 with z | ⟨b1, b2, z1, z2⟩
          · rcases s3 with y | ⟨c1, c2, y1, y2⟩
            · exact .inl (y.trans z)
            · exact .inr ⟨c1, c2, z.symm.trans y1, y2⟩
          · rcases s3 with y | ⟨c1, c2, y1, y2⟩
            · exact .inr ⟨b1, b2, z1, y.trans z2⟩
            · exact .inr ⟨b1, c2, z1, y2⟩
    have stb : ∀ {H4 : Hp} {σ4 : L2.St} {ρ4 : Ev}, Stp (C.inB D) (L2.wipe σ vs) ρb H σ4 ρ4 H4 → Stp C σ ρ1 H1 σ ρ1 H4 := fun S4 =>
      ⟨fun a o e s => S4.st a o (Sb.st a o e s) s, fun a o e n1 n2 n3 => (Sb.keep a o e n1 n2 n3).then S4.st (fun e1 => (S4.keep a o e1 n1 (fun z => n2 (owb a z)) n3).mono .inl), fun a e => Sb.there a (S4.there a e), fun a z => .inl z⟩
    have lens : ∀ {σ4 : L2.St} {H4 : Hp} {ρ4 : Ev} {h4 : Hh}, Rel (C.inB D) σ4 H4 ρ4 h4 → σ4.length = σ.length → ρ4.length = ρ1.length := fun R4 hl => by rw [← R4.len, hl, R1.len]
    have hl2 : σ2.length = σ.length := by rw [O2.1, wipe_length]
    cases b with
    | false =>
      show _ ∧ _
      by_cases no3 : noOwn ρ3 vs = true
      · have el4 : lcLoop vs f test elt (xs.drop (i + 1)) acc (wipeE ρ3 vs) h3 = .ok ys ρ2 h' := by
          have z : (if noOwn ρ3 vs = true then lcLoop vs f test elt (xs.drop (i + 1)) acc (wipeE ρ3 vs) h3 else .bad) = Out.ok ys ρ2 h' := el3
          rw [if_pos no3] at z; exact z
        obtain ⟨R4, av4⟩ := R3.wipe no3
        rw [we] at R4 av4
        have ave : Av (C.inB D) (L2.wipe σ vs) (wipeE ρ3 vs) = Av (C.inB D) σ2 ρ3 := by funext a; exact propext (av4 a)
        exact ⟨hlt, wipeE ρ3 vs, h3, acc, us, R4, stb S, (S.keep D _ hD hDm (nOwD Rb) (fun ps z => by cases z)).plain rfl, by rw [ave]; exact ra.kp (S.kp Rb.mu), el4, shp (.refl _) (lens R3 hl2)⟩
      · have z : (if noOwn ρ3 vs = true then lcLoop vs f test elt (xs.drop (i + 1)) acc (wipeE ρ3 vs) h3 else .bad) = Out.ok ys ρ2 h' := el3
        rw [if_neg no3] at z; cases z
    | true =>
      obtain ⟨y4, ρ4, h4, e5, el4⟩ := M.bind_ok (show (elt.bind fun y => (plainV y).bind fun d => fun ρ h => if acc.length < sizeLine ∧ noOwn ρ vs = true then lcLoop vs f test elt (xs.drop (i + 1)) (acc ++ [d]) (wipeE ρ vs) h else .bad) ρ3 h3 = .ok ys ρ2 h' from el3)
      obtain ⟨d, ρ5, h5, e6, el5⟩ := M.bind_ok el4
      obtain ⟨ey, z1, z2⟩ := plainV_ok e6
      subst ey; subst z1; subst z2
      by_cases hc : acc.length < sizeLine ∧ noOwn ρ5 vs = true
      · have el6 : lcLoop vs f test elt (xs.drop (i + 1)) (acc ++ [d]) (wipeE ρ5 vs) h5 = .ok ys ρ2 h' := by
          have z : (if acc.length < sizeLine ∧ noOwn ρ5 vs = true then lcLoop vs f test elt (xs.drop (i + 1)) (acc ++ [d]) (wipeE ρ5 vs) h5 else .bad) = Out.ok ys ρ2 h' := el5
          rw [if_pos hc] at z; exact z
        show teX C elt σ2 H3 _
        refine ⟨D, ρ3, h3, R3, .d d, ρ5, h5, e5, fun v4 H4 R4 r4 S4 P4 => ?_⟩
        have S5 := S.trans S4
        have hD4 : H4 D = some (.lst us) := (S5.keep D _ hD hDm (nOwD Rb) (fun ps z => by cases z)).plain rfl
        refine ⟨us, hD4, by rw [← ra.length]; exact hc.1, hlt, ?_⟩
        obtain ⟨R5, k5⟩ := R4.aside (o := .lst (us ++ [v4])) hDA hDm hD4 rfl (fun ps z => by cases z)
        obtain ⟨R6, av6⟩ := R5.wipe hc.2
        rw [we] at R6 av6
        have ave : Av (C.inB D) (L2.wipe σ vs) (wipeE ρ5 vs) = Av (C.inB D) σ2 ρ5 := by funext a; exact propext (av6 a)
        refine ⟨wipeE ρ5 vs, h5, acc ++ [d], us ++ [v4], R6, ?_, upd_same, by rw [ave]; exact ((ra.kp (S5.kp Rb.mu)).app (.one r4)).kp k5, el6, shp P4 (lens R4 hl2)⟩
        have S7 := stb S5
        refine ⟨fun a o e s => ?_, fun a o e n1 n2 n3 => ?_, fun a e => ?_, fun a z => .inl z⟩
        · rw [upd_ne (ne_of_none e nD)]; exact S7.st a o e s
        · exact (S7.keep a o e n1 n2 n3).upd (ne_of_none e nD)
        · by_cases y : a = D
          · rw [y]; exact nD
          · rw [upd_ne y] at e; exact S7.there a e
      · have z : (if acc.length < sizeLine ∧ noOwn ρ5 vs = true then lcLoop vs f test elt (xs.drop (i + 1)) (acc ++ [d]) (wipeE ρ5 vs) h5 else .bad) = Out.ok ys ρ2 h' := el5
        rw [if_neg hc] at z; cases z
  · have ei : i = xs.length := by omega
    subst ei
    rw [List.drop_length] at el
    have z : Out.ok acc ρb hb = Out.ok ys ρ2 h' := el
    injection z with z1 z2 z3
    subst z1; subst z2; subst z3
    obtain ⟨RL, shL, avL⟩ := R1.leave nD no Rb Sb pb
    have SL : Stp C σ ρ1 H1 σ (outE ρ1 ρb) H := ⟨Sb.st, Sb.keep, Sb.there, fun a z => .inl (shL.ow.mp z)⟩
    exact .inl ⟨itk.2, k D H (S1.there D nD) RL ⟨us, hD, ra.kp (Kp.less avL)⟩ (S1.trans SL) (P1.trans shL)⟩
theorem lc_data {vs : List Nat} {mI : M (List D)} {f : Val → M Unit} {test : M Bool} {elt : M Val} {ρ ρ' : Ev} {h h' : Hh} {w : Val} (e : (mI.bind (lcM vs f test elt)) ρ h = .ok w ρ' h') : ∃ b, w = .d b := by
  obtain ⟨xs, ρ1, h1, e1, e2⟩ := M.bind_ok e
  obtain ⟨_, ys, ρ2, _, ew, _⟩ := lcM_ok e2
  exact ⟨_, ew⟩
end
end EV

set_option maxRecDepth 100000
set_option maxHeartbeats 4000000
/-! EvM2: a dict comprehension's reading. -/
namespace EV
open PySem PySem.Spec PyProof.Rows L2

theorem dcM_ok {vs : List Nat} {f : Val → M Unit} {test : M Bool} {key val : M Val} {xs : List D} {ρ1 ρ' : Ev} {h1 h' : Hh} {w : Val} (e : dcM vs f test key val xs ρ1 h1 = .ok w ρ' h') :
    noOwn ρ1 vs = true ∧ ∃ p ρ2, dcLoop vs f test key val xs [] [] (blkE ρ1 vs) h1 = .ok p ρ2 h' ∧ w = .d (.dic p.1 p.2) ∧ ρ' = outE ρ1 ρ2 := by
  unfold dcM at e
  by_cases no : noOwn ρ1 vs = true
  · rw [if_pos no] at e
    split at e
    · rename_i ys ρ2 h2 e3
      injection e with z1 z2 z3
      exact ⟨no, ys, ρ2, by rw [e3, z3], z1.symm, z2.symm⟩
    · cases e
  · rw [if_neg no] at e; cases e
section
variable {C : Ct} {σ : L2.St} {H : Hp} {ρ : Ev} {h : Hh}
theorem putK_ok {κ : Type} [DecidableEq κ] {K : PySem.W.Frag} {A : Addr → Prop} {k : κ} {d : D} {v : V} (rv : RepD K H A d v) : ∀ {kvs : List (κ × V)} {ds : List D}, RepDs K H A ds (kvs.map (·.2)) →
    (putK kvs k v).map (·.1) = putKs (kvs.map (·.1)) k ∧ RepDs K H A (putDs (kvs.map (·.1)) ds k d) ((putK kvs k v).map (·.2)) := by
  have mp : ∀ {kvs : List (κ × V)} {ds : List D}, RepDs K H A ds (kvs.map (·.2)) → RepDs K H A (List.zipWith (fun k' d' => if k' = k then d else d') (kvs.map (·.1)) ds) ((kvs.map fun kv => if kv.1 = k then (kv.1, v) else kv).map (·.2)) := by
    intro kvs
    induction kvs with
    | nil =>
      intro ds r
      cases ds with
      | nil => rfl
      | cons _ _ => obtain ⟨_, _, z, _⟩ := r; cases z
    | cons p r ih =>
      intro ds rr
      cases ds with
      | nil => cases (show _ = [] from rr)
      | cons x xs =>
        obtain ⟨u, t, e, r1, r2⟩ := rr
        injection e with e1 e2
        subst e1; subst e2
        refine ⟨_, _, rfl, ?_, ih r2⟩
        by_cases hk : p.1 = k
        · simp only [hk, if_true]; exact rv
        · simp only [if_neg hk]; exact r1
  intro kvs ds r
  have ha : (kvs.any fun kv => decide (kv.1 = k)) = true ↔ k ∈ kvs.map (·.1) := by
    rw [List.any_eq_true, List.mem_map]
    constructor
    · rintro ⟨p, h1, h2⟩; exact ⟨p, h1, of_decide_eq_true h2⟩
    · rintro ⟨p, h1, h2⟩; exact ⟨p, h1, decide_eq_true h2⟩
  unfold putK putKs putDs
  by_cases hm : k ∈ kvs.map (·.1)
  · rw [if_pos (ha.mpr hm), if_pos hm, if_pos hm]
    refine ⟨?_, mp r⟩
    rw [List.map_map]
    apply List.map_congr_left
    intro p _
    show (if p.1 = k then (p.1, v) else p).1 = p.1
    split <;> rfl
  · rw [if_neg (fun z => hm (ha.mp z)), if_neg hm, if_neg hm]
    exact ⟨by rw [List.map_append]; rfl, by rw [List.map_append]; exact r.app (.one rv)⟩
theorem dc_read {vs js : List Nat} {mI : M (List D)} {f : Val → M Unit} {test : M Bool} {key val : M Val} {Q : VK} (hjs : ∀ j ∈ js, j ∈ vs) (q : tFr C (mI.bind (dcM vs f test key val)) σ H Q) :
    tDc (tI C mI) (gX C js f) (ttX C test) (teX C key) (teX C val) vs σ H Q := by
  obtain ⟨ρ, h, b0, ρ', h', R, e, k⟩ := q
  obtain ⟨xs, ρ1, h1, e1, e2⟩ := M.bind_ok e
  obtain ⟨no, ys, ρ2, e3, ew, er⟩ := dcM_ok e2
  injection ew with ew
  subst ew; subst er
  refine ⟨ρ, h, xs, ρ1, h1, R, e1, fun J H1 R1 S1 P1 it D nD => ?_⟩
  have hDm : D ∉ C.μ := fun z => by obtain ⟨o, eo⟩ := R1.trk D (R1.mu D z); rw [nD] at eo; cases eo
  obtain ⟨RE, kE⟩ := R1.enter (o := .dK []) no nD
  have exD : ∀ a u, H1 a = some u → upd H1 D (.dK []) a = some u := fun a u e => by rw [upd_ne (ne_of_none e nD)]; exact e
  refine ⟨fun i m H => m = xs.length - i ∧ i ≤ xs.length ∧ ∃ ρb hb ks ds us, Rel (C.inB D) (L2.wipe σ vs) H ρb hb ∧ Stp C σ ρ1 H1 σ ρ1 H ∧ H D = some (.dK us) ∧ us.map (·.1) = ks ∧ RepDs C.K H (Av (C.inB D) (L2.wipe σ vs) ρb) ds (us.map (·.2)) ∧
    dcLoop vs f test key val (xs.drop i) ks ds ρb hb = .ok ys ρ2 h' ∧ Shp (blkE ρ1 vs) ρb, ⟨xs.length, rfl, Nat.zero_le _, blkE ρ1 vs, h1, [], [], [], RE, ?_, upd_same, rfl, rfl, by rw [List.drop_zero]; exact e3, .refl _⟩, ?_⟩
  · exact ⟨fun a u e _ => exD a u e, fun a u e _ _ _ => .inl (exD a u e), fun a e => by
      by_cases q : a = D
      · rw [q]; exact nD
      · rw [upd_ne q] at e; exact e, fun a z => .inl z⟩
  rintro i m H ⟨rfl, hi, ρb, hb, ks, ds, us, Rb, Sb, hD, rk, ra, el, pb⟩
  have owb : ∀ a, Ow (L2.wipe σ vs) ρb a → Ow σ ρ1 a := fun a ⟨j, b, z1, z2⟩ => by
    obtain ⟨b', z3⟩ := pb.own' z1
    rcases blkE_get z3 with z | ⟨_, z, _⟩
    · cases z
    · exact ⟨j, b', z, (wipe_some z2).1⟩
  have avb : ∀ a u, H1 a = some u → ¬ Av C σ ρ1 a → ¬ Av (C.inB D) (L2.wipe σ vs) ρb a := fun a u e n z => by
    rcases z with (z | z) | z
    · exact n (.inl z)
    · rw [z, nD] at e; cases e
    · exact n (.inr (owb a z))
  have kb : Kp H1 (Av C σ ρ1) H (Av (C.inB D) (L2.wipe σ vs) ρb) := by
    have k0 := Sb.kp R1.mu
    refine ⟨k0.tup, fun a _ e n => ⟨(k0.lst a _ e n).1, avb a _ e n⟩, fun a _ e n => ⟨(k0.dK a _ e n).1, ?_⟩, fun a _ e n => ⟨(k0.dT a _ e n).1, ?_⟩, k0.frz⟩
    · rcases e with e | ⟨o, e⟩ <;> exact avb a _ e n
    · rcases e with e | ⟨o, e⟩ <;> exact avb a _ e n
  have hDA : (C.inB D).A1 D := .inr rfl
  have nOwD : ∀ {σ' : L2.St} {H' : Hp} {ρ'' : Ev} {h'' : Hh}, Rel (C.inB D) σ' H' ρ'' h'' → ¬ Ow σ' ρ'' D := fun R' ⟨j, b, z1, z2⟩ => by
    obtain ⟨a, y1, y2, _⟩ := R'.own j b z1
    rw [z2] at y1; cases y1
    exact y2 hDA
  have itk := it (C.inB D) ⟨rfl⟩ (L2.wipe σ vs) ρb hb H Rb kb
  by_cases hlt : i < xs.length
  · have hd : xs.drop i = xs[i] :: xs.drop (i + 1) := List.drop_eq_getElem_cons hlt
    have hx : xs[i]? = some xs[i] := List.getElem?_eq_getElem hlt
    rw [hd] at el
    obtain ⟨_, ρt, ht, et, el2⟩ := M.bind_ok (show ((f (.d xs[i])).bind fun _ => test.bind fun b => if b = true then
      key.bind fun y => val.bind fun z => (plainV z).bind fun d => fun ρ h => (match keyV y with
        | some k => if ks.length < sizeLine ∧ noOwn ρ vs = true then dcLoop vs f test key val (xs.drop (i + 1)) (putKs ks k) (putDs ks ds k d) (wipeE ρ vs) h else .bad
        | none => .bad)
      else fun ρ h => if noOwn ρ vs = true then dcLoop vs f test key val (xs.drop (i + 1)) ks ds (wipeE ρ vs) h else .bad) ρb hb = .ok ys ρ2 h' from el)
    obtain ⟨b, ρ3, h3, e4, el3⟩ := M.bind_ok el2
    refine .inr ⟨(itk.1 i _ hx).1, fun H' => i + 1 ≤ xs.length ∧ ∃ ρb hb ks ds us, Rel (C.inB D) (L2.wipe σ vs) H' ρb hb ∧ Stp C σ ρ1 H1 σ ρ1 H' ∧ H' D = some (.dK us) ∧ us.map (·.1) = ks ∧ RepDs C.K H' (Av (C.inB D) (L2.wipe σ vs) ρb) ds (us.map (·.2)) ∧
      dcLoop vs f test key val (xs.drop (i + 1)) ks ds ρb hb = .ok ys ρ2 h' ∧ Shp (blkE ρ1 vs) ρb, fun H' n => ⟨xs.length - (i + 1), by omega, rfl, n⟩, fun v H' y => ?_⟩
    obtain ⟨rv, Ry, Sy⟩ := (itk.1 i _ hx).2 v H' y
    refine ⟨D, ρb, hb, .d xs[i], ρt, ht, Ry, rv, et, fun σ2 H2 R2 S2 O2 P2 => ⟨wipe_off O2 hjs, D, ρt, ht, R2, b, ρ3, h3, e4, fun H3 R3 S3 P3 => ?_⟩⟩
    have we := wipe_off O2 hjs
    have S := Sy.trans (S2.trans S3)
    -- the slots' kinds at a turn's end
    have shp : ∀ {ρ4 : Ev}, Shp ρ3 ρ4 → ρ4.length = ρ1.length → Shp (blkE ρ1 vs) (wipeE ρ4 vs) := fun {ρ4} p4 hlen j => by
      by_cases hj : j ∈ vs ∧ j < ρ1.length
      · left
        rw [wipeE_get, if_pos ⟨hj.1, by rw [hlen]; exact hj.2⟩]
        unfold blkE
        rw [wipeE_get, List.length_map, if_pos hj]
      · rw [wipeE_get, if_neg (fun z => hj ⟨z.1, by rw [← hlen]; exact z.2⟩)]
        by_cases hv : j ∈ vs
        · have h0 : ¬ j < ρ1.length := fun z => hj ⟨hv, z⟩
          left
          rw [List.getElem?_eq_none (by omega), List.getElem?_eq_none (by unfold blkE; rw [wipeE_len, List.length_map]; omega)]
        · have s1 := pb j
          have s2 := P2 j (fun z => hv (hjs j z))
          have s3 := (P3.trans p4) j
          have c1 : ρt[j]? = (blkE ρ1 vs)[j]? ∨ ∃ b b', (blkE ρ1 vs)[j]? = some (.own b) ∧ ρt[j]? = some (.own b') := by
            rcases s1 with z | ⟨b1, b2, z1, z2⟩
            · rcases s2 with y | ⟨c1, c2, y1, y2⟩
              · exact .inl (y.trans z)
              · exact .inr ⟨c1, c2, z.symm.trans y1, y2⟩
            · rcases s2 with y | ⟨c1, c2, y1, y2⟩
              · exact .inr ⟨b1, b2, z1, y.trans z2⟩
              · exact .inr ⟨b1, c2, z1, y2⟩
          rcases c1 with z | ⟨b1, b2, z1, z2⟩
          · rcases s3 with y | ⟨c1, c2, y1, y2⟩
            · exact .inl (y.trans z)
            · exact .inr ⟨c1, c2, z.symm.trans y1, y2⟩
          · rcases s3 with y | ⟨c1, c2, y1, y2⟩
            · exact .inr ⟨b1, b2, z1, y.trans z2⟩
            · exact .inr ⟨b1, c2, z1, y2⟩
    have stb : ∀ {H4 : Hp} {σ4 : L2.St} {ρ4 : Ev}, Stp (C.inB D) (L2.wipe σ vs) ρb H σ4 ρ4 H4 → Stp C σ ρ1 H1 σ ρ1 H4 := fun S4 =>
      ⟨fun a o e s => S4.st a o (Sb.st a o e s) s, fun a o e n1 n2 n3 => (Sb.keep a o e n1 n2 n3).then S4.st (fun e1 => (S4.keep a o e1 n1 (fun z => n2 (owb a z)) n3).mono .inl), fun a e => Sb.there a (S4.there a e), fun a z => .inl z⟩
    have lens : ∀ {σ4 : L2.St} {H4 : Hp} {ρ4 : Ev} {h4 : Hh}, Rel (C.inB D) σ4 H4 ρ4 h4 → σ4.length = σ.length → ρ4.length = ρ1.length := fun R4 hl => by rw [← R4.len, hl, R1.len]
    have hl2 : σ2.length = σ.length := by rw [O2.1, wipe_length]
    cases b with
    | false =>
      show _ ∧ _
      by_cases no3 : noOwn ρ3 vs = true
      · have el4 : dcLoop vs f test key val (xs.drop (i + 1)) ks ds (wipeE ρ3 vs) h3 = .ok ys ρ2 h' := by
          have z : (if noOwn ρ3 vs = true then dcLoop vs f test key val (xs.drop (i + 1)) ks ds (wipeE ρ3 vs) h3 else .bad) = Out.ok ys ρ2 h' := el3
          rw [if_pos no3] at z; exact z
        obtain ⟨R4, av4⟩ := R3.wipe no3
        rw [we] at R4 av4
        have ave : Av (C.inB D) (L2.wipe σ vs) (wipeE ρ3 vs) = Av (C.inB D) σ2 ρ3 := by funext a; exact propext (av4 a)
        exact ⟨hlt, wipeE ρ3 vs, h3, ks, ds, us, R4, stb S, (S.keep D _ hD hDm (nOwD Rb) (fun ps z => by cases z)).inA (.inr rfl), rk, by rw [ave]; exact ra.kp (S.kp Rb.mu), el4, shp (.refl _) (lens R3 hl2)⟩
      · have z : (if noOwn ρ3 vs = true then dcLoop vs f test key val (xs.drop (i + 1)) ks ds (wipeE ρ3 vs) h3 else .bad) = Out.ok ys ρ2 h' := el3
        rw [if_neg no3] at z; cases z
    | true =>
      obtain ⟨y4, ρ4, h4, e5, el4⟩ := M.bind_ok (show (key.bind fun y => val.bind fun z => (plainV z).bind fun d => fun ρ h => (match keyV y with
        | some k => if ks.length < sizeLine ∧ noOwn ρ vs = true then dcLoop vs f test key val (xs.drop (i + 1)) (putKs ks k) (putDs ks ds k d) (wipeE ρ vs) h else .bad
        | none => .bad)) ρ3 h3 = .ok ys ρ2 h' from el3)
      obtain ⟨z4, ρ5, h5, e7, el5⟩ := M.bind_ok el4
      obtain ⟨d, ρ6, h6, e6, el6⟩ := M.bind_ok el5
      obtain ⟨ey, z1, z2⟩ := plainV_ok e6
      subst ey; subst z1; subst z2
      have el6 : (match keyV y4 with
        | some k => if ks.length < sizeLine ∧ noOwn ρ6 vs = true then dcLoop vs f test key val (xs.drop (i + 1)) (putKs ks k) (putDs ks ds k d) (wipeE ρ6 vs) h6 else .bad
        | none => .bad) = Out.ok ys ρ2 h' := el6
      cases hk : keyV y4 with
      | none => rw [hk] at el6; cases el6
      | some k =>
        rw [hk] at el6
        simp only at el6
        by_cases hc : ks.length < sizeLine ∧ noOwn ρ6 vs = true
        · rw [if_pos hc] at el6
          show teX C key σ2 H3 _
          refine ⟨D, ρ3, h3, R3, y4, ρ4, h4, e5, fun v4 H4 R4 r4 S4 P4 => ⟨D, ρ4, h4, R4, .d d, ρ6, h6, e7, fun v5 H5 R5 r5 S5' P5 => ?_⟩⟩
          have S5 := (S.trans S4).trans S5'
          have hD4 : H5 D = some (.dK us) := (S5.keep D _ hD hDm (nOwD Rb) (fun ps z => by cases z)).inA (.inr rfl)
          have hkv : v4 = kV k := by
            cases y4 with
            | d yd => exact keyD_ok (RepD.read r4) (show keyD yd = some k from hk)
            | _ => cases hk
          refine ⟨us, k, hkv, hD4, by rw [← List.length_map (f := (·.1)), rk]; exact hc.1, hlt, ?_⟩
          obtain ⟨R6', k5⟩ := R5.aside (o := .dK (putK us k v5)) hDA hDm hD4 rfl (fun ps z => by cases z)
          obtain ⟨R6, av6⟩ := R6'.wipe hc.2
          rw [we] at R6 av6
          have ave : Av (C.inB D) (L2.wipe σ vs) (wipeE ρ6 vs) = Av (C.inB D) σ2 ρ6 := by funext a; exact propext (av6 a)
          have r5' : RepD C.K (upd H5 D (.dK (putK us k v5))) (Av (C.inB D) σ2 ρ6) d v5 := r5.kp k5 _ _
          obtain ⟨p1, p2⟩ := putK_ok (k := k) r5' ((ra.kp (S5.kp Rb.mu)).kp k5)
          refine ⟨wipeE ρ6 vs, h6, putKs ks k, putDs ks ds k d, putK us k v5, R6, ?_, upd_same, by rw [p1, rk], by rw [ave, ← rk]; exact p2, el6, shp (P4.trans P5) (lens R5 hl2)⟩
          have S7 := stb S5
          refine ⟨fun a o e s => ?_, fun a o e n1 n2 n3 => ?_, fun a e => ?_, fun a z => .inl z⟩
          · rw [upd_ne (ne_of_none e nD)]; exact S7.st a o e s
          · exact (S7.keep a o e n1 n2 n3).upd (ne_of_none e nD)
          · by_cases y : a = D
            · rw [y]; exact nD
            · rw [upd_ne y] at e; exact S7.there a e
        · rw [if_neg hc] at el6; cases el6
  · have ei : i = xs.length := by omega
    subst ei
    rw [List.drop_length] at el
    have z : Out.ok (ks, ds) ρb hb = Out.ok ys ρ2 h' := el
    injection z with z1 z2 z3
    subst z1; subst z2; subst z3
    obtain ⟨RL, shL, avL⟩ := R1.leave nD no Rb Sb pb
    have SL : Stp C σ ρ1 H1 σ (outE ρ1 ρb) H := ⟨Sb.st, Sb.keep, Sb.there, fun a z => .inl (shL.ow.mp z)⟩
    exact .inl ⟨itk.2, k D H (S1.there D nD) RL ⟨us, hD, rk, ra.kp (Kp.less avL)⟩ (S1.trans SL) (P1.trans shL)⟩
theorem dc_data {vs : List Nat} {mI : M (List D)} {f : Val → M Unit} {test : M Bool} {key val : M Val} {ρ ρ' : Ev} {h h' : Hh} {w : Val} (e : (mI.bind (dcM vs f test key val)) ρ h = .ok w ρ' h') : ∃ b, w = .d b := by
  obtain ⟨xs, ρ1, h1, e1, e2⟩ := M.bind_ok e
  obtain ⟨_, ys, ρ2, _, ew, _⟩ := dcM_ok e2
  exact ⟨_, ew⟩
end
end EV

set_option maxRecDepth 100000
set_option maxHeartbeats 4000000
/-! EvB2: dict(list of pairs), by data. -/
namespace EV
open PySem PySem.Spec PyProof.Rows L2

section
variable {K : PySem.W.Frag} {H : Hp} {A : Addr → Prop}
theorem pairs_ok : ∀ {xs : List D} {vs : List V} {ps : List (Key × D)}, RepDs K H A xs vs → pairsD xs = some ps →
    ∃ (as : List Addr) (kvs : List (Key × V)), vs = as.map V.ref ∧ Paired (fun p kv => SqT K H p [kV kv.1, kv.2]) as kvs ∧ kvs.map (·.1) = ps.map (·.1) ∧ RepDs K H A (ps.map (·.2)) (kvs.map (·.2))
  | [], vs, ps, r, e => by
    cases (show vs = [] from r)
    cases (Option.some.inj e)
    exact ⟨[], [], rfl, .nil, rfl, rfl⟩
  | x :: xs, vs, ps, r, e => by
    obtain ⟨v, t, ev, r1, r2⟩ := r
    subst ev
    have e : (match pairD x, pairsD xs with
      | some p, some ps => some (p :: ps)
      | _, _ => none) = some ps := e
    cases h1 : pairD x with
    | none => rw [h1] at e; cases e
    | some p =>
      cases h2 : pairsD xs with
      | none => rw [h1, h2] at e; cases e
      | some qs =>
        rw [h1, h2] at e
        cases (Option.some.inj e)
        obtain ⟨as, kvs, g1, g2, g3, g4⟩ := pairs_ok r2 h2
        unfold pairD at h1
        split at h1
        · rename_i k d
          obtain ⟨a, us, e1, e2, u, t2, e3, k1, u2, t3, e4, k2, e5⟩ := r1
          cases (show t3 = [] from e5)
          subst e4; subst e3; subst e1
          cases hk : keyD k with
          | none => rw [hk] at h1; cases h1
          | some y =>
            rw [hk] at h1
            cases (Option.some.inj h1)
            have eu : u = kV y := keyD_ok k1.read hk
            subst eu
            exact ⟨a :: as, (y, u2) :: kvs, by rw [g1]; rfl, .cons (.inl (.inl e2)) g2, by rw [List.map_cons, List.map_cons, g3], u2, kvs.map (·.2), rfl, k2, g4⟩
        · cases h1
theorem fold_ok : ∀ {ps : List (Key × D)} {kvs acc : List (Key × V)} {ds : List D}, kvs.map (·.1) = ps.map (·.1) → RepDs K H A (ps.map (·.2)) (kvs.map (·.2)) → RepDs K H A ds (acc.map (·.2)) →
    (mergeK acc kvs).map (·.1) = (foldK ps (acc.map (·.1)) ds).1 ∧ RepDs K H A (foldK ps (acc.map (·.1)) ds).2 ((mergeK acc kvs).map (·.2))
  | [], kvs, acc, ds, h, r, ra => by
    cases kvs with
    | nil => exact ⟨rfl, ra⟩
    | cons _ _ => cases h
  | p :: ps, [], acc, ds, h, r, ra => by cases h
  | p :: ps, kv :: kvs, acc, ds, h, r, ra => by
    rw [List.map_cons, List.map_cons] at h
    injection h with h1 h2
    obtain ⟨v, t, ev, r1, r2⟩ := r
    injection ev with e1 e2
    subst e1; subst e2
    obtain ⟨q1, q2⟩ := putK_ok (k := kv.1) r1 ra
    have ih := fold_ok (ps := ps) (kvs := kvs) (acc := putK acc kv.1 kv.2) h2 r2 q2
    rw [q1] at ih
    have e : foldK (p :: ps) (acc.map (·.1)) ds = foldK ps (putKs (acc.map (·.1)) kv.1) (putDs (acc.map (·.1)) ds kv.1 p.2) := by
      show foldK ps (putKs (acc.map (·.1)) p.1) (putDs (acc.map (·.1)) ds p.1 p.2) = _
      rw [h1]
    rw [e]
    exact ih
end
end EV

set_option maxRecDepth 100000
set_option maxHeartbeats 4000000
/-! EvZp: zip of two sequences of any kind (list, tuple), given to dict. -/
namespace EV
open PySem PySem.Spec PyProof.Rows L2

/-! ### next of a zip whose last tuple is still there -/
section
variable {prog : Program} {w : World} {A : Around} {E : Value → Shared → Prop} {s : Shared} {z TI TO T i1 i2 : Addr} {f : Bool} {oT : Obj} {g1 g2 : List Addr} {n1 n2 i : Nat} {P1 P2 : Nat → Value → Prop} {St1 St2 : Nat → Heap → Prop}
theorem held_item {Q : Value → Shared → Prop} (S : ZipSep2 z TI TO i1 i2 g1 g2) (D1 : Draws prog w A i1 g1 n1 P1 St1) (D2 : Draws prog w A i2 g2 n2 P2 St2)
    (hz : IsZipHeld s.heap z TI TO T f) (hT : s.heap.get? T = some oT) (hTI : IsTupOf2 s.heap TI (.ref i1) (.ref i2)) (st1 : St1 i s.heap) (st2 : St2 i s.heap) (l1 : i < n1) (l2 : i < n2)
    (k : ∀ x y h' tk, P1 i x → P2 i y → IsZipHeld h' z TI TO T true → St1 (i + 1) h' → St2 (i + 1) h' → IsTupOf2 h' s.heap.objs.size x y → (∀ c o, c ≠ z → c ≠ i1 → c ≠ i2 → s.heap.get? c = some o → h'.get? c = some o) → Q (.ref s.heap.objs.size) { s with heap := h', toks := tk }) :
    wpAny (model prog w) A (Builtin.«zip.__next__» ⟨[.ref z], []⟩) (fun fin s' => ∃ v, fin = .done (.ret v) ∧ Q v s') E s := by
  obtain ⟨hp, gs, dr, tk0, os⟩ := s
  show wpAny _ _ (field (.ref z) 2 >>= _) _ _ _
  refine wpAny_bind (wpAny_field hz rfl (x := .bool false) rfl ?_)
  show wpAny _ _ (field (.ref z) 3 >>= _) _ _ _
  refine wpAny_bind (wpAny_field hz rfl (x := .ref TI) rfl ?_)
  refine wpAny_bind (wpAny_seqItems hTI rfl ?_)
  show wpAny _ _ (Builtin.SmallTypes.ownedTupleIsFree (.ref z) >>= _) _ _ _
  refine wpAny_bind (wpAny_tupleHeld_zip hz hT fun ha za sa => ?_)
  replace sa : Heap.SameBut z hp ha := sa
  simp only [Bool.false_eq_true, if_false]
  refine wpAny_bind ?_
  rw [← Array.forIn_toList]
  simp only [List.forIn_cons, List.forIn_nil]
  refine wpAny_bind (wpAny_bind (wpAny_holding ?_))
  show wpAny _ _ (Builtin.SmallTypes.nextOf (.ref i1) >>= _) _ _ ⟨ha, gs, dr, tk0, os⟩
  refine wpAny_bind (D1.item i ⟨ha, gs, dr, tk0, os⟩ _ _ l1 (D1.over st1 sa S.zf1) fun x hb tb px sb kb => wpAny_pure ?_)
  replace kb : Heap.SameBut i1 ha hb := kb
  refine wpAny_pure ?_
  refine wpAny_bind (wpAny_bind (wpAny_holding ?_))
  show wpAny _ _ (Builtin.SmallTypes.nextOf (.ref i2) >>= _) _ _ ⟨hb, gs, dr, tb, os⟩
  refine wpAny_bind (D2.item i ⟨hb, gs, dr, tb, os⟩ _ _ l2 (D2.over (D2.over st2 sa S.zf2) kb S.sep1_2) fun y hc tc py sc kc => wpAny_pure ?_)
  replace kc : Heap.SameBut i2 hb hc := kc
  refine wpAny_pure (wpAny_pure ?_)
  show wpAny _ _ (newTuple [x, y] >>= _) _ _ ⟨hc, gs, dr, tc, os⟩
  refine wpAny_bind (wpAny_newTuple ?_)
  have sz : hc.objs.size = hp.objs.size := by rw [kc.1, kb.1, sa.1]
  have zc : IsZipHeld hc z TI TO T true := kc.extBut _ _ S.zi2 (kb.extBut _ _ S.zi1 za)
  have keep : ∀ c o, c ≠ z → c ≠ i1 → c ≠ i2 → hp.get? c = some o → hc.get? c = some o := fun c o c1 c2 c3 e => kc.extBut _ _ c3 (kb.extBut _ _ c2 (sa.extBut _ _ c1 e))
  have s1 : St1 (i + 1) hc := D1.over sb kc S.sep2_1
  refine wpAny_pure ⟨_, rfl, ?_⟩
  show Q (.ref hc.objs.size) _
  have tp : IsTupOf2 (hc.push { cls := .type "tuple", data := .seq #[x, y] }) hc.objs.size x y := Heap.get?_push_size _ rfl
  rw [sz] at tp ⊢
  exact k x y _ tc px py (Heap.get?_push_of_some _ zc) (D1.frame _ _ _ s1 fun b _ o e => Heap.get?_push_of_some _ e) (D2.frame _ _ _ sc fun b _ o e => Heap.get?_push_of_some _ e) tp fun c o c1 c2 c3 e => Heap.get?_push_of_some _ (keep c o c1 c2 c3 e)
theorem held_end {Q : Fin → Shared → Prop} (S : ZipSep2 z TI TO i1 i2 g1 g2) (D1 : Draws prog w A i1 g1 n1 P1 St1) (D2 : Draws prog w A i2 g2 n2 P2 St2)
    (hz : IsZipHeld s.heap z TI TO T f) (hT : s.heap.get? T = some oT) (hTI : IsTupOf2 s.heap TI (.ref i1) (.ref i2)) (st1 : St1 i s.heap) (st2 : St2 i s.heap) (l1 : i ≤ n1) (l2 : i ≤ n2) (le : i = n1 ∨ i = n2)
    (k : ∀ h' tk e, (∀ c o, c ≠ z → c ≠ i1 → c ≠ i2 → s.heap.get? c = some o → h'.get? c = some o) → (∃ o, h'.get? e = some o ∧ o.cls = .type "StopIteration") → E (.ref e) { s with heap := h', toks := tk }) :
    wpAny (model prog w) A (Builtin.«zip.__next__» ⟨[.ref z], []⟩) Q E s := by
  obtain ⟨hp, gs, dr, tk0, os⟩ := s
  show wpAny _ _ (field (.ref z) 2 >>= _) _ _ _
  refine wpAny_bind (wpAny_field hz rfl (x := .bool false) rfl ?_)
  show wpAny _ _ (field (.ref z) 3 >>= _) _ _ _
  refine wpAny_bind (wpAny_field hz rfl (x := .ref TI) rfl ?_)
  refine wpAny_bind (wpAny_seqItems hTI rfl ?_)
  show wpAny _ _ (Builtin.SmallTypes.ownedTupleIsFree (.ref z) >>= _) _ _ _
  refine wpAny_bind (wpAny_tupleHeld_zip hz hT fun ha za sa => ?_)
  replace sa : Heap.SameBut z hp ha := sa
  simp only [Bool.false_eq_true, if_false]
  refine wpAny_bind ?_
  rw [← Array.forIn_toList]
  simp only [List.forIn_cons, List.forIn_nil]
  refine wpAny_bind (wpAny_bind (wpAny_holding ?_))
  show wpAny _ _ (Builtin.SmallTypes.nextOf (.ref i1) >>= _) _ _ ⟨ha, gs, dr, tk0, os⟩
  by_cases lt : i < n1
  · refine wpAny_bind (D1.item i ⟨ha, gs, dr, tk0, os⟩ _ _ lt (D1.over st1 sa S.zf1) fun x hb tb px sb kb => wpAny_pure ?_)
    replace kb : Heap.SameBut i1 ha hb := kb
    refine wpAny_pure ?_
    refine wpAny_bind (wpAny_bind (wpAny_holding ?_))
    show wpAny _ _ (Builtin.SmallTypes.nextOf (.ref i2) >>= _) _ _ ⟨hb, gs, dr, tb, os⟩
    have ei : i = n2 := by omega
    refine wpAny_bind (D2.done ⟨hb, gs, dr, tb, os⟩ _ _ (by rw [← ei]; exact D2.over (D2.over st2 sa S.zf2) kb S.sep1_2) fun hc e kc he => ?_)
    replace kc : Heap.ExtBut i2 hb hc := kc
    exact k hc tb e (fun c o c1 c2 c3 x => kc _ _ c3 (kb.extBut _ _ c2 (sa.extBut _ _ c1 x))) he
  · have ei : i = n1 := by omega
    refine wpAny_bind (D1.done ⟨ha, gs, dr, tk0, os⟩ _ _ (by rw [← ei]; exact D1.over st1 sa S.zf1) fun hb e kb he => ?_)
    replace kb : Heap.ExtBut i1 ha hb := kb
    exact k hb tk0 e (fun c o c1 c2 c3 x => kb _ _ c2 (sa.extBut _ _ c1 x)) he
theorem held_next {Q : Option Value → Shared → Prop} (S : ZipSep2 z TI TO i1 i2 g1 g2) (D1 : Draws prog w A.in1 i1 g1 n1 P1 St1) (D2 : Draws prog w A.in1 i2 g2 n2 P2 St2)
    (hz : IsZipHeld s.heap z TI TO T f) (hT : s.heap.get? T = some oT) (hTI : IsTupOf2 s.heap TI (.ref i1) (.ref i2)) (st1 : St1 i s.heap) (st2 : St2 i s.heap) (l1 : i < n1) (l2 : i < n2)
    (k : ∀ x y h' tk, P1 i x → P2 i y → IsZipHeld h' z TI TO T true → St1 (i + 1) h' → St2 (i + 1) h' → IsTupOf2 h' s.heap.objs.size x y → (∀ c o, c ≠ z → c ≠ i1 → c ≠ i2 → s.heap.get? c = some o → h'.get? c = some o) → Q (some (.ref s.heap.objs.size)) { s with heap := h', toks := tk }) :
    wpAny (model prog w) A (pyNext (.ref z)) Q E s := by
  have ty : s.TypeIs (.ref z) "zip" := ⟨_, hz, rfl⟩
  unfold pyNext
  exact wpAny_bind (wpAny_attempt (wpAny_callSpecial?_slot (name := Str.ofString "__next__") ty F.slot_zip_next
    (wpAny_call_entry F.slot_zip_next ty F.entry_zip_next (held_item S D1 D2 hz hT hTI st1 st2 l1 l2 fun x y h' tk a1 a2 a3 a4 a5 a6 a7 => wpAny_pure (k x y h' tk a1 a2 a3 a4 a5 a6 a7)) (F.args_zip_next_1 _))))
theorem held_stop {Q : Option Value → Shared → Prop} (S : ZipSep2 z TI TO i1 i2 g1 g2) (D1 : Draws prog w A.in1 i1 g1 n1 P1 St1) (D2 : Draws prog w A.in1 i2 g2 n2 P2 St2)
    (hz : IsZipHeld s.heap z TI TO T f) (hT : s.heap.get? T = some oT) (hTI : IsTupOf2 s.heap TI (.ref i1) (.ref i2)) (st1 : St1 i s.heap) (st2 : St2 i s.heap) (l1 : i ≤ n1) (l2 : i ≤ n2) (le : i = n1 ∨ i = n2)
    (k : ∀ h' tk, (∀ c o, c ≠ z → c ≠ i1 → c ≠ i2 → s.heap.get? c = some o → h'.get? c = some o) → Q none { s with heap := h', toks := tk }) : wpAny (model prog w) A (pyNext (.ref z)) Q E s := by
  have ty : s.TypeIs (.ref z) "zip" := ⟨_, hz, rfl⟩
  unfold pyNext
  refine wpAny_bind (wpAny_attempt (wpAny_callSpecial?_slot (name := Str.ofString "__next__") ty F.slot_zip_next
    (wpAny_call_entry F.slot_zip_next ty F.entry_zip_next (held_end S D1 D2 hz hT hTI st1 st2 l1 l2 le fun h' tk e kk he => ?_) (F.args_zip_next_1 _))))
  obtain ⟨o, ho, hc⟩ := he
  exact wpAny_bind (wpAny_isInstance (T := "StopIteration") (b := true) ⟨o, ho, hc⟩ isSubtype_stop (wpAny_pure (k _ _ kk)))
end
/-! ### as dict's argument -/
section
variable {prog : Program} {w : World} {z TI TO i1 i2 : Addr} {g1 g2 : List Addr} {n1 n2 : Nat} {P1 P2 : Nat → Value → Prop} {St1 St2 : Nat → Heap → Prop}
/-- the zip at z, nothing taken yet -/
def ZipAt (z TI TO i1 i2 : Addr) (St1 St2 : Nat → Heap → Prop) (h : Heap) : Prop := IsZip h z TI TO .none ∧ IsTupOf2 h TI (.ref i1) (.ref i2) ∧ (∃ a b, IsTupOf2 h TO a b) ∧ St1 0 h ∧ St2 0 h
theorem zipArg (S : ZipSep2 z TI TO i1 i2 g1 g2) (D1 : ∀ A : Around, A.handled = none → Draws prog w A i1 g1 n1 P1 St1) (D2 : ∀ A : Around, A.handled = none → Draws prog w A i2 g2 n2 P2 St2)
    (v1 : ∀ h, St1 0 h → ∀ b ∈ g1, ∃ o, h.get? b = some o) (v2 : ∀ h, St2 0 h → ∀ b ∈ g2, ∃ o, h.get? b = some o) :
    PairArg prog w "zip" z (z :: TI :: TO :: (g1 ++ g2)) [z, TO, i1, i2] (min n1 n2) (fun i k v => P1 i k ∧ P2 i v) (ZipAt z TI TO i1 i2 St1 St2) := by
  have mem : ∀ b, b ∈ [z, TO, i1, i2] → b ∈ z :: TI :: TO :: (g1 ++ g2) := fun b hb => by
    have hb : b = z ∨ b = TO ∨ b = i1 ∨ b = i2 := by simpa using hb
    rcases hb with rfl | rfl | rfl | rfl
    · exact List.mem_cons_self
    · exact List.mem_cons_of_mem _ (List.mem_cons_of_mem _ List.mem_cons_self)
    · exact List.mem_cons_of_mem _ (List.mem_cons_of_mem _ (List.mem_cons_of_mem _ (List.mem_append_left _ S.mem1)))
    · exact List.mem_cons_of_mem _ (List.mem_cons_of_mem _ (List.mem_cons_of_mem _ (List.mem_append_right _ S.mem2)))
  have E1 := D1 { handled := none, depth := 0, frames := none, guards := none, units := 0 } rfl
  have E2 := D2 { handled := none, depth := 0, frames := none, guards := none, units := 0 } rfl
  refine { type := fun s ok => ⟨_, ok.1, rfl⟩, notDict := by decide, keep := fun h h' ok hk => ?_, there := fun h ok b hb => ?_, sub := mem, noKeys := fun A s Q E hA ok k => getAttrOr_miss_zip ok.1 rfl rfl rfl zip_no_keys (by decide +kernel) hA k, iter := fun A s d Q E hA ok hd hdf k => ?_ }
  · obtain ⟨a1, a2, ⟨a, b, a3⟩, a4, a5⟩ := ok
    exact ⟨hk _ _ a1, hk _ _ a2, ⟨a, b, hk _ _ a3⟩, E1.frame _ _ _ a4 fun b _ o e => hk b o e, E2.frame _ _ _ a5 fun b _ o e => hk b o e⟩
  · obtain ⟨a1, a2, ⟨a, c, a3⟩, a4, a5⟩ := ok
    rcases List.mem_cons.mp hb with rfl | hb
    · exact ⟨_, a1⟩
    · rcases List.mem_cons.mp hb with rfl | hb
      · exact ⟨_, a2⟩
      · rcases List.mem_cons.mp hb with rfl | hb
        · exact ⟨_, a3⟩
        · rcases List.mem_append.mp hb with hb | hb
          · exact v1 h a4 b hb
          · exact v2 h a5 b hb
  · obtain ⟨a1, a2, ⟨a, b, a3⟩, a4, a5⟩ := ok
    have dz : d ≠ z := fun e => hdf (by rw [e]; exact List.mem_cons_self)
    have dTI : d ≠ TI := fun e => hdf (by rw [e]; exact List.mem_cons_of_mem _ List.mem_cons_self)
    have dTO : d ≠ TO := fun e => hdf (by rw [e]; exact List.mem_cons_of_mem _ (List.mem_cons_of_mem _ List.mem_cons_self))
    have d1 : d ∉ g1 := fun e => hdf (List.mem_cons_of_mem _ (List.mem_cons_of_mem _ (List.mem_cons_of_mem _ (List.mem_append_left _ e))))
    have d2 : d ∉ g2 := fun e => hdf (List.mem_cons_of_mem _ (List.mem_cons_of_mem _ (List.mem_cons_of_mem _ (List.mem_append_right _ e))))
    refine wpAny_pyIter_zip a1 (k z [z, TO, i1, i2] (fun i h => IsTupOf2 h TI (.ref i1) (.ref i2) ∧ St1 i h ∧ St2 i h ∧
      ((IsZip h z TI TO .none ∧ ∃ a b, IsTupOf2 h TO a b) ∨ ∃ T f oT, IsZipHeld h z TI TO T f ∧ h.get? T = some oT ∧ T ≠ z ∧ T ≠ i1 ∧ T ≠ i2 ∧ T ≠ d)) s.heap s.toks ?_ ⟨a2, a4, a5, .inl ⟨a1, a, b, a3⟩⟩ (fun _ _ e => e) fun b hb => .inl hb)
    refine { off := fun hm => hdf (mem _ hm), frame := fun i h1 h2 st hk => ?_, item := fun i s1 Q1 E1' hi st hds hQ => ?_, done := fun s1 Q1 E1' st hQ => ?_ }
    · obtain ⟨b1, b2, b3, b4⟩ := st
      refine ⟨hk _ _ (Ne.symm dTI) b1, E1.frame _ _ _ b2 fun b hb o e => hk b o (fun z => d1 (z ▸ hb)) e, E2.frame _ _ _ b3 fun b hb o e => hk b o (fun z => d2 (z ▸ hb)) e, ?_⟩
      rcases b4 with ⟨c1, x, y, c2⟩ | ⟨T, f, oT, c1, c2, c3, c4, c5, c6⟩
      · exact .inl ⟨hk _ _ (Ne.symm dz) c1, x, y, hk _ _ (Ne.symm dTO) c2⟩
      · exact .inr ⟨T, f, oT, hk _ _ (Ne.symm dz) c1, hk _ _ c6 c2, c3, c4, c5, c6⟩
    · obtain ⟨b1, b2, b3, b4⟩ := st
      have lt : ∀ {c o}, s1.heap.get? c = some o → s1.heap.objs.size ≠ c := fun e => Nat.ne_of_gt (Heap.lt_size e)
      have m1 : s1.heap.objs.size ≠ i1 := let ⟨_, e⟩ := E1.live _ _ b2; lt e
      have m2 : s1.heap.objs.size ≠ i2 := let ⟨_, e⟩ := E2.live _ _ b3; lt e
      have hi1 : i < n1 := by omega
      have hi2 : i < n2 := by omega
      rcases b4 with ⟨c1, x, y, c2⟩ | ⟨T, f, oT, c1, c2, c3, c4, c5, c6⟩
      · refine wpAny_pyNext_zipD2_item S (D1 A.in1 hA) (D2 A.in1 hA) c1 b1 c2 b2 b3 hi1 hi2 fun x1 x2 h' tk y1 y2 w1 w2 w3 w4 w5 w6 w7 => ?_
        exact hQ s1.heap.objs.size x1 x2 h' tk ⟨y1, y2⟩ (.inl ⟨_, w5, rfl, _, rfl⟩) ⟨w7 _ _ S.TIz S.TITO S.TIi1 S.TIi2 b1, w3, w4, .inr ⟨s1.heap.objs.size, false, _, w1, w5, lt c1, m1, m2, Nat.ne_of_gt hds⟩⟩
          fun c o hc e => w7 c o (fun z => hc (by simp [z])) (fun z => hc (by simp [z])) (fun z => hc (by simp [z])) (fun z => hc (by simp [z])) e
      · refine held_next S (D1 A.in1 hA) (D2 A.in1 hA) c1 c2 b1 b2 b3 hi1 hi2 fun x1 x2 h' tk y1 y2 w1 w3 w4 w5 w7 => ?_
        exact hQ s1.heap.objs.size x1 x2 h' tk ⟨y1, y2⟩ (.inl ⟨_, w5, rfl, _, rfl⟩) ⟨w7 _ _ S.TIz S.TIi1 S.TIi2 b1, w3, w4, .inr ⟨T, true, oT, w1, w7 _ _ c3 c4 c5 c2, c3, c4, c5, c6⟩⟩
          fun c o hc e => w7 c o (fun z => hc (by simp [z])) (fun z => hc (by simp [z])) (fun z => hc (by simp [z])) e
    · obtain ⟨b1, b2, b3, b4⟩ := st
      rcases b4 with ⟨c1, x, y, c2⟩ | ⟨T, f, oT, c1, c2, c3, c4, c5, c6⟩
      · exact wpAny_pyNext_zipD2_end S (D1 A.in1 hA) (D2 A.in1 hA) c1 b1 c2 b2 b3 (by omega) (by omega) (by omega) fun h' tk hk => hQ h' tk fun c o hc e => hk c o (fun z => hc (by simp [z])) (fun z => hc (by simp [z])) (fun z => hc (by simp [z])) (fun z => hc (by simp [z])) e
      · exact held_stop S (D1 A.in1 hA) (D2 A.in1 hA) c1 c2 b1 b2 b3 (by omega) (by omega) (by omega) fun h' tk hk => hQ h' tk fun c o hc e => hk c o (fun z => hc (by simp [z])) (fun z => hc (by simp [z])) (fun z => hc (by simp [z])) e
end
end EV

set_option maxRecDepth 100000
set_option maxHeartbeats 4000000
/-! EvZq: dict(zip(a, b)) as an expression. -/
namespace EV
open PySem PySem.Spec PyProof.Rows L2

/-- a list or a tuple -/
def SeqV (K : PySem.W.Frag) (H : Hp) (x : V) (xs : List V) : Prop := ∃ a, x = .ref a ∧ (SqL K H a xs ∨ SqT K H a xs)
/-- what is drawn from: how its iterator begins, what it gives -/
structure Src (u : Value) (its : List Value) (h0 : Heap) where
  o : Obj
  φ : Heap → Prop
  a : Addr
  St : Addr → Nat → Heap → Prop
  begins : Begins u o φ
  here : φ h0
  low : a < h0.objs.size
  draws : ∀ {prog : Program} {w : World} (A : Around) (it : Addr), A.handled = none → a ≠ it → Draws prog w A it [it, a] its.length (fun i v => its[i]? = some v) (St it)
  start : ∀ it h, h.get? it = some o → φ h → St it 0 h
  live : ∀ it h, St it 0 h → ∀ b ∈ [it, a], ∃ o, h.get? b = some o
theorem off4 {b N : Nat} (h : b < N) (z : b = N + 4 ∨ b = N + 3 ∨ b = N ∨ b = N + 1) : False := by omega
theorem pairedR {α β : Type} {F : α → β → Prop} : ∀ {l : List α} {m : List β} {j : Nat} {y : β}, Paired F l m → m[j]? = some y → ∃ x, l[j]? = some x ∧ F x y
  | _, _, _, _, .nil, e => by simp at e
  | _, _, 0, _, .cons r _, e => by cases (Option.some.inj e); exact ⟨_, rfl, r⟩
  | _, _, j + 1, _, .cons _ t, e => pairedR (j := j) t e
section
variable {X : Cx} {pins : List (Addr × Obj)} {σ : L2.St} {H : Hp} {s : Shared}
theorem seq_src {x : V} {xs : List V} {u : Value} (I : Inv X pins σ H s) (hs : SeqV X.K H x xs) (r : RelV x u) : ∃ its : List Value, Vals xs its ∧ xs.length ≤ sizeLine ∧ Nonempty (Src u its s.heap) := by
  obtain ⟨a, e, hs⟩ := hs
  subst e
  have r : u = Value.ref a := r
  subst r
  rcases hs with hs | hs
  · obtain ⟨its, rv, pl, hz⟩ := I.list hs
    have hl : s.heap.IsList a its.toArray := pl.isList
    refine ⟨its, rv, hz, ⟨{ o := { cls := .type "list_iterator", data := .fields #[.ref a, .int 0 0] }, φ := fun h => h.IsList a its.toArray, a := a, St := fun it i h => h.IsListIter it a i ∧ h.IsList a its.toArray, begins := begins_list a its.toArray, here := hl, low := ?_, draws := fun A it hh hne => ?_, start := fun it h e p => ⟨⟨_, e, rfl, rfl⟩, p⟩, live := fun it h st b hb => ?_ }⟩⟩
    · obtain ⟨o, n, e, _⟩ := pl
      exact Heap.lt_size e
    · have d := Draws.list (prog := by assumption) (w := by assumption) (A := A) hh it a hne its.toArray
      simpa using d
    · have hb : b = it ∨ b = a := by simpa using hb
      rcases hb with rfl | rfl
      · obtain ⟨o, e, _⟩ := st.1; exact ⟨o, e⟩
      · obtain ⟨o, e, _⟩ := st.2; exact ⟨o, e⟩
  · obtain ⟨its, rv, ht, hz⟩ := I.tuple hs
    have hl : s.heap.IsTuple a its.toArray := ht
    refine ⟨its, rv, hz, ⟨{ o := { cls := .type "tuple_iterator", data := .fields #[.ref a, .int 0 0] }, φ := fun h => h.IsTuple a its.toArray, a := a, St := fun it i h => h.IsTupleIter it a i ∧ h.IsTuple a its.toArray, begins := begins_tuple a its.toArray, here := hl, low := ?_, draws := fun A it hh hne => ?_, start := fun it h e p => ⟨⟨_, e, rfl, rfl⟩, p⟩, live := fun it h st b hb => ?_ }⟩⟩
    · exact IsTup.lt ht
    · have d := Draws.tuple (prog := by assumption) (w := by assumption) (A := A) hh it a hne its.toArray
      simpa using d
    · have hb : b = it ∨ b = a := by simpa using hb
      rcases hb with rfl | rfl
      · obtain ⟨o, e, _⟩ := st.1; exact ⟨o, e⟩
      · obtain ⟨o, e, _⟩ := st.2; exact ⟨o, e⟩
theorem vals_zip : ∀ {ks : List Key} {us : List Value} {ys : List V} {ws : List Value}, Vals (ks.map kV) us → Vals ys ws → KV (ks.zip ys) (ks.zip ws)
  | [], _, _, _, _, _ => .nil
  | _ :: _, _, [], _, _, r => by cases r; exact .nil
  | k :: ks, _, y :: ys, _, r, q => by
    cases r with
    | cons _ r =>
      cases q with
      | cons q1 q => exact .cons ⟨rfl, q1⟩ (vals_zip r q)
/-- dict(zip(a, b)) -/
def tDzip (K : PySem.W.Frag) (ta : TA) : TE := fun σ H Q => ta σ H fun vs H1 => ∃ (x y : V) (ks : List Key) (ys : List V), vs = [x, y] ∧ SeqV K H1 x (ks.map kV) ∧ SeqV K H1 y ys ∧ ∀ p, H1 p = none → Q (.ref p) (upd H1 p (.dK (mergeK [] (ks.zip ys))))
theorem boot_dict : bootBuiltins ("dict" : Str) = some (.type "dict") := by decide +kernel
theorem pe_dzip {a b : Expr} {ta : TA} {p p2 q pos : Pos} (hg : Gl X "dict") (hm : X.mg "dict" = none) (hg2 : Gl X "zip") (hm2 : X.mg "zip" = none) (ha : PA X [a, b] ta) (hc : X.calm = true)
    (na : starEach [a, b] X.env = (false, eval a X.env) :: starEach [b] X.env) (nb : (backTo q (starEach [b] X.env)).any (·.1) = false) : PE X (.Call (.Name "dict" p) [.Call (.Name "zip" p2) [a, b] [] q] [] pos) (tDzip X.K ta) := by
  refine ⟨fun pins s σ H Q I h => ?_⟩
  refine Call_ (ld_blt I hg hm boot_dict ?_)
  refine PyProof.Rows.callWith_type1 (PyProof.Rows.args_cons ?_ rfl) rfl rfl
  refine Call_ (ld_blt I hg2 hm2 PyProof.Rows.boot_zip ?_)
  refine PyProof.Rows.callWith_type1 (thn (ha.run q pins s σ H _ I h) fun us s1 ⟨vs, H1, I1, r1, q1⟩ => ?_) na nb
  obtain ⟨x, y, ks, ys, ev, hx, hy, q1⟩ := q1
  subst ev
  obtain ⟨u1, u2, eu, g1, g2⟩ := vals2 r1
  subst eu
  obtain ⟨its1, v1, z1, ⟨S1⟩⟩ := seq_src I1 hx g1
  obtain ⟨its2, v2, z2, ⟨S2⟩⟩ := seq_src I1 hy g2
  refine zip_begins2 S1.begins S2.begins S1.here S2.here fun h' c1 c2 c3 c4 c5 c6 c7 => ?_
  refine PyProof.Rows.args_nil ?_
  have hlo1 : ∀ b ∈ [S1.a], b < s1.heap.objs.size := fun b hb => by rw [List.mem_singleton.mp hb]; exact S1.low
  have hlo2 : ∀ b ∈ [S2.a], b < s1.heap.objs.size := fun b hb => by rw [List.mem_singleton.mp hb]; exact S2.low
  have n1 : S1.a ≠ s1.heap.objs.size := Nat.ne_of_lt S1.low
  have n2 : S2.a ≠ s1.heap.objs.size + 1 := Nat.ne_of_lt (Nat.lt_succ_of_lt S2.low)
  have P := zipArg (prog := X.prog) (w := X.w) (zip_sep2 hlo1 hlo2) (fun A hh => S1.draws A _ hh n1) (fun A hh => S2.draws A _ hh n2) (S1.live _) (S2.live _)
  have hln : min its1.length its2.length ≤ sizeLine := by
    have := v1.length
    rw [this] at z1
    exact Nat.le_trans (Nat.min_le_left _ _) z1
  have hsz : (ks.zip its2).length = min its1.length its2.length := by
    rw [List.length_zip, ← v1.length, List.length_map]
  refine call_dict_pairs (knd := mixKind X.prog X.w) (kvs := ks.zip its2) P (I1.ok.hd hc) ⟨c1, c2, ⟨_, _, c3⟩, S1.start _ _ c4 (S1.begins.keeps _ _ S1.here c7), S2.start _ _ c5 (S2.begins.keeps _ _ S2.here c7)⟩ ⟨hsz, fun i key v rel => ?_⟩ hln fun h2 tk hd k => ?_
  · obtain ⟨e1, e2⟩ := rel
    obtain ⟨x', ex, rx⟩ := pairedR v1 e1
    rw [List.getElem?_map] at ex
    cases ek : ks[i]? with
    | none => rw [ek] at ex; cases ex
    | some k0 =>
      rw [ek] at ex
      cases (Option.some.inj ex)
      exact ⟨k0, by rw [List.getElem?_zip_eq_some]; exact ⟨ek, e2⟩, kV_is rx⟩
  · have big : s1.heap.objs.size ≤ h'.objs.size := by
      have := c6
      omega
    have hm' : (h'.objs.size == sysModules) = false := beq_eq_false_iff_ne.mpr (Nat.ne_of_gt (Nat.lt_of_lt_of_le I1.big big))
    have keep : ∀ b u, s1.heap.get? b = some u → h2.get? b = some u := fun b u e => by
      refine k b u (fun z => ?_) (c7 b u e)
      have lb := Heap.lt_size e
      have z : b = s1.heap.objs.size + 4 ∨ b = s1.heap.objs.size + 3 ∨ b = s1.heap.objs.size ∨ b = s1.heap.objs.size + 1 := by simpa using z
      exact off4 lb z
    have hlen : (mergeK [] (ks.zip ys)).length ≤ sizeLine := by
      refine Nat.le_trans (length_mergeK _ _) ?_
      rw [List.length_nil, Nat.zero_add, List.length_zip, ← List.length_map (f := kV) (as := ks)]
      exact Nat.le_trans (Nat.min_le_left _ _) z1
    have hf : H1 h'.objs.size = none := I1.hok.fresh big
    exact ⟨.ref h'.objs.size, upd H1 h'.objs.size (.dK (mergeK [] (ks.zip ys))), I1.laid (t' := tk) keep big (show ObjOk X.prog X.w _ _ _ (.dK (mergeK [] (ks.zip ys))) from ⟨hlen, hm', merged [] (ks.zip its2), KV.merge (vals_zip v1 v2) .nil, hd⟩), rfl, q1 _ hf⟩
end
end EV

set_option maxRecDepth 100000
set_option maxHeartbeats 4000000
/-! EvQ2: list(zip(a, b)). -/
namespace EV
open PySem PySem.Spec PyProof.Rows L2

section
variable {prog : Program} {w : World} {A : Around} {E : Value → Shared → Prop} {s : Shared} {R : Result → Shared → Prop} {z TI TO i1 i2 S : Addr} {g1 g2 : List Addr} {n1 n2 : Nat} {P1 P2 : Nat → Value → Prop} {St1 St2 : Nat → Heap → Prop}
/-- a zip under way, while at S a list is being filled -/
def ZS (z TI TO i1 i2 S : Addr) (St1 St2 : Nat → Heap → Prop) (i : Nat) (h : Heap) : Prop := IsTupOf2 h TI (.ref i1) (.ref i2) ∧ St1 i h ∧ St2 i h ∧
  ((IsZip h z TI TO .none ∧ ∃ a b, IsTupOf2 h TO a b) ∨ ∃ T f oT, IsZipHeld h z TI TO T f ∧ h.get? T = some oT ∧ T ≠ z ∧ T ≠ i1 ∧ T ≠ i2 ∧ T ≠ S)
theorem zs_keep {i : Nat} {h h' : Heap} (D1 : ∀ A : Around, A.handled = none → Draws prog w A i1 g1 n1 P1 St1) (D2 : ∀ A : Around, A.handled = none → Draws prog w A i2 g2 n2 P2 St2) (dz : S ≠ z) (dTI : S ≠ TI) (dTO : S ≠ TO) (d1 : S ∉ g1) (d2 : S ∉ g2)
    (st : ZS z TI TO i1 i2 S St1 St2 i h) (hk : ∀ b o, b ≠ S → h.get? b = some o → h'.get? b = some o) : ZS z TI TO i1 i2 S St1 St2 i h' := by
  have E1 := D1 { handled := none, depth := 0, frames := none, guards := none, units := 0 } rfl
  have E2 := D2 { handled := none, depth := 0, frames := none, guards := none, units := 0 } rfl
  obtain ⟨b1, b2, b3, b4⟩ := st
  refine ⟨hk _ _ (Ne.symm dTI) b1, E1.frame _ _ _ b2 fun b hb o e => hk b o (fun z => d1 (z ▸ hb)) e, E2.frame _ _ _ b3 fun b hb o e => hk b o (fun z => d2 (z ▸ hb)) e, ?_⟩
  rcases b4 with ⟨c1, x, y, c2⟩ | ⟨T, f, oT, c1, c2, c3, c4, c5, c6⟩
  · exact .inl ⟨hk _ _ (Ne.symm dz) c1, x, y, hk _ _ (Ne.symm dTO) c2⟩
  · exact .inr ⟨T, f, oT, hk _ _ (Ne.symm dz) c1, hk _ _ c6 c2, c3, c4, c5, c6⟩
theorem zs_item {i : Nat} {Q : Option Value → Shared → Prop} (Sp : ZipSep2 z TI TO i1 i2 g1 g2) (D1 : ∀ A : Around, A.handled = none → Draws prog w A i1 g1 n1 P1 St1) (D2 : ∀ A : Around, A.handled = none → Draws prog w A i2 g2 n2 P2 St2) (hA : A.handled = none)
    (st : ZS z TI TO i1 i2 S St1 St2 i s.heap) (hi1 : i < n1) (hi2 : i < n2) (hds : S < s.heap.objs.size)
    (hQ : ∀ x y h' tk, P1 i x → P2 i y → ZS z TI TO i1 i2 S St1 St2 (i + 1) h' → IsTupOf2 h' s.heap.objs.size x y → (∀ c o, c ∉ [z, TO, i1, i2] → s.heap.get? c = some o → h'.get? c = some o) → Q (some (.ref s.heap.objs.size)) { s with heap := h', toks := tk }) :
    wpAny (model prog w) A (pyNext (.ref z)) Q E s := by
  have E1 := D1 { handled := none, depth := 0, frames := none, guards := none, units := 0 } rfl
  have E2 := D2 { handled := none, depth := 0, frames := none, guards := none, units := 0 } rfl
  obtain ⟨b1, b2, b3, b4⟩ := st
  have lt : ∀ {c o}, s.heap.get? c = some o → s.heap.objs.size ≠ c := fun e => Nat.ne_of_gt (Heap.lt_size e)
  have m1 : s.heap.objs.size ≠ i1 := let ⟨_, e⟩ := E1.live _ _ b2; lt e
  have m2 : s.heap.objs.size ≠ i2 := let ⟨_, e⟩ := E2.live _ _ b3; lt e
  rcases b4 with ⟨c1, x, y, c2⟩ | ⟨T, f, oT, c1, c2, c3, c4, c5, c6⟩
  · refine wpAny_pyNext_zipD2_item Sp (D1 A.in1 hA) (D2 A.in1 hA) c1 b1 c2 b2 b3 hi1 hi2 fun x1 x2 h' tk y1 y2 w1 w2 w3 w4 w5 w6 w7 => ?_
    exact hQ x1 x2 h' tk y1 y2 ⟨w7 _ _ Sp.TIz Sp.TITO Sp.TIi1 Sp.TIi2 b1, w3, w4, .inr ⟨s.heap.objs.size, false, _, w1, w5, lt c1, m1, m2, Nat.ne_of_gt hds⟩⟩ w5
      fun c o hc e => w7 c o (fun z => hc (by simp [z])) (fun z => hc (by simp [z])) (fun z => hc (by simp [z])) (fun z => hc (by simp [z])) e
  · refine held_next Sp (D1 A.in1 hA) (D2 A.in1 hA) c1 c2 b1 b2 b3 hi1 hi2 fun x1 x2 h' tk y1 y2 w1 w3 w4 w5 w7 => ?_
    exact hQ x1 x2 h' tk y1 y2 ⟨w7 _ _ Sp.TIz Sp.TIi1 Sp.TIi2 b1, w3, w4, .inr ⟨T, true, oT, w1, w7 _ _ c3 c4 c5 c2, c3, c4, c5, c6⟩⟩ w5
      fun c o hc e => w7 c o (fun z => hc (by simp [z])) (fun z => hc (by simp [z])) (fun z => hc (by simp [z])) e
theorem zs_done {i : Nat} {Q : Option Value → Shared → Prop} (Sp : ZipSep2 z TI TO i1 i2 g1 g2) (D1 : ∀ A : Around, A.handled = none → Draws prog w A i1 g1 n1 P1 St1) (D2 : ∀ A : Around, A.handled = none → Draws prog w A i2 g2 n2 P2 St2) (hA : A.handled = none)
    (st : ZS z TI TO i1 i2 S St1 St2 i s.heap) (hi : i = min n1 n2)
    (hQ : ∀ h' tk, (∀ c o, c ∉ [z, TO, i1, i2] → s.heap.get? c = some o → h'.get? c = some o) → Q none { s with heap := h', toks := tk }) :
    wpAny (model prog w) A (pyNext (.ref z)) Q E s := by
  obtain ⟨b1, b2, b3, b4⟩ := st
  rcases b4 with ⟨c1, x, y, c2⟩ | ⟨T, f, oT, c1, c2, c3, c4, c5, c6⟩
  · exact wpAny_pyNext_zipD2_end Sp (D1 A.in1 hA) (D2 A.in1 hA) c1 b1 c2 b2 b3 (by omega) (by omega) (by omega) fun h' tk hk => hQ h' tk fun c o hc e => hk c o (fun z => hc (by simp [z])) (fun z => hc (by simp [z])) (fun z => hc (by simp [z])) (fun z => hc (by simp [z])) e
  · exact held_stop Sp (D1 A.in1 hA) (D2 A.in1 hA) c1 c2 b1 b2 b3 (by omega) (by omega) (by omega) fun h' tk hk => hQ h' tk fun c o hc e => hk c o (fun z => hc (by simp [z])) (fun z => hc (by simp [z])) (fun z => hc (by simp [z])) e
/-- the tuples made so far -/
structure ZG (P1 P2 : Nat → Value → Prop) (lo : Addr) (h : Heap) (as : List Addr) : Prop where
  rise : as.Pairwise (· < ·)
  above : ∀ a ∈ as, lo < a
  pairs : ∀ (j : Nat) (a : Addr), as[j]? = some a → ∃ x y, P1 j x ∧ P2 j y ∧ IsTupOf2 h a x y
theorem ZG.there {h : Heap} {lo : Addr} {as : List Addr} (g : ZG P1 P2 lo h as) {a : Addr} (ha : a ∈ as) : a < h.objs.size := by
  obtain ⟨j, hj⟩ := List.mem_iff_getElem?.mp ha
  obtain ⟨_, _, _, _, e⟩ := g.pairs j a hj
  exact Heap.lt_size e
theorem zl_loop (hh : A.handled = none) (Sp : ZipSep2 z TI TO i1 i2 g1 g2) (D1 : ∀ A : Around, A.handled = none → Draws prog w A i1 g1 n1 P1 St1) (D2 : ∀ A : Around, A.handled = none → Draws prog w A i2 g2 n2 P2 St2)
    (low : ∀ b ∈ [z, TI, TO, i1, i2], b < S) (d1 : S ∉ g1) (d2 : S ∉ g2) (hn : min n1 n2 ≤ sizeLine) (res : Value) {h₁ : Heap}
    (hR : ∀ h' tk acc c as, (∀ b o, b ≠ S → b ∉ [z, TO, i1, i2] → h₁.get? b = some o → h'.get? b = some o) → h'.get? S = some { cls := .type "list", dict := none, data := .seq acc c, slots := #[] } → as.length = min n1 n2 → ZG P1 P2 S h' as →
      acc.toList = as.map Value.ref → R (.ok (.ret res)) { s with heap := h', toks := tk }) :
    ∀ (k i : Nat) (h : Heap) (tk c : Nat) (acc : Array Value) (as : List Addr), min n1 n2 - i = k → i ≤ min n1 n2 → ZS z TI TO i1 i2 S St1 St2 i h → (∀ b o, b ≠ S → b ∉ [z, TO, i1, i2] → h₁.get? b = some o → h.get? b = some o) →
      h.get? S = some { cls := .type "list", dict := none, data := .seq acc c, slots := #[] } → acc.toList = as.map Value.ref → as.length = i → ZG P1 P2 S h as →
      codeAny (model prog w) A (.builtin "list.extend.loop" ⟨[.ref S, .ref z, res], []⟩) R { s with heap := h, toks := tk } := by
  have sz : S ≠ z := Nat.ne_of_gt (low z (by simp))
  have sTI : S ≠ TI := Nat.ne_of_gt (low TI (by simp))
  have sTO : S ≠ TO := Nat.ne_of_gt (low TO (by simp))
  have s1 : S ≠ i1 := Nat.ne_of_gt (low i1 (by simp))
  have s2 : S ≠ i2 := Nat.ne_of_gt (low i2 (by simp))
  have Sn : S ∉ [z, TO, i1, i2] := by simp [sz, sTO, s1, s2]
  have hi' : ∀ b, S < b → b ∉ [z, TO, i1, i2] := fun b hb hm => by
    have hm : b = z ∨ b = TO ∨ b = i1 ∨ b = i2 := by simpa using hm
    have l1 := low z (by simp); have l2 := low TO (by simp); have l3 := low i1 (by simp); have l4 := low i2 (by simp)
    rcases hm with e | e | e | e <;> subst e <;> exact absurd hb (Nat.not_lt.mpr (Nat.le_of_lt (by assumption)))
  intro k
  induction k with
  | zero =>
    intro i h tk c acc as hk hi hst hkeep hS hacc hal hG
    have hin : i = min n1 n2 := by omega
    refine codeAny_builtin PySem.F.entry_extend_loop ?_
    rw [Around.under_plainId PySem.F.plain_extend_loop _]
    show wpAny _ A.in1 (pyNext (.ref z) >>= _) _ _ _
    refine wpAny_bind (zs_done (s := { s with heap := h, toks := tk }) (A := A.in1) Sp D1 D2 hh hst hin fun h' tk' he => ?_)
    refine wpAny_pure (hR h' tk' acc c as (fun b o h1 h2 e => he b o h2 (hkeep b o h1 h2 e)) (he S _ Sn hS) (by omega) ⟨hG.rise, hG.above, fun j a hj => ?_⟩ hacc)
    obtain ⟨x, y, e1, e2, e3⟩ := hG.pairs j a hj
    exact ⟨x, y, e1, e2, he a _ (hi' a (hG.above a (List.mem_of_getElem? hj))) e3⟩
  | succ k ih =>
    intro i h tk c acc as hk hi hst hkeep hS hacc hal hG
    have hlt : i < min n1 n2 := by omega
    have hsz : acc.size = i := by rw [← Array.length_toList, hacc, List.length_map, hal]
    refine codeAny_builtin PySem.F.entry_extend_loop ?_
    rw [Around.under_plainId PySem.F.plain_extend_loop _]
    show wpAny _ A.in1 (pyNext (.ref z) >>= _) _ _ _
    refine wpAny_bind (zs_item (s := { s with heap := h, toks := tk }) (A := A.in1) (S := S) Sp D1 D2 hh hst (by omega) (by omega) (Heap.lt_size hS) fun x y h' tk' p1 p2 hst' ht hkp => ?_)
    dsimp only at ht hkp ⊢
    have hS' := hkp S _ Sn hS
    have up : ∀ b o, b ≠ S → h'.get? b = some o → (h'.update S (Obj.mapSeq (·.push (Value.ref h.objs.size)))).get? b = some o := fun b o hb e => (Heap.get?_update_other _ _ (Ne.symm hb)).trans e
    have hSl : S < h.objs.size := Heap.lt_size hS
    show wpAny _ A.in1 (updateSeq S (·.push (Value.ref h.objs.size)) >>= _) _ _ _
    refine wpAny_bind ?_
    refine wpAny_updateSeq hS' rfl (wpAny_pure ⟨plainId_quiet PySem.F.plain_extend_loop _, ih (i + 1) _ tk' _ (acc.push (Value.ref h.objs.size)) (as ++ [h.objs.size]) (by omega) hlt (zs_keep D1 D2 sz sTI sTO d1 d2 hst' up)
      (fun b o h1 h2 e => up b o h1 (hkp b o h2 (hkeep b o h1 h2 e))) (Heap.get?_update_self _ hS' rfl) (by rw [Array.toList_push, hacc, List.map_append]; rfl) (by rw [List.length_append, hal]; rfl) ⟨?_, ?_, ?_⟩⟩) (by rw [hsz]; omega) (by show (acc.push (Value.ref h.objs.size)).size ≤ sizeLine + 1; rw [Array.size_push, hsz]; omega)
    · refine List.pairwise_append.mpr ⟨hG.rise, List.pairwise_singleton _ _, fun a ha b hb => ?_⟩
      rw [List.mem_singleton.mp hb]
      exact hG.there ha
    · intro a ha
      rcases List.mem_append.mp ha with ha | ha
      · exact hG.above a ha
      · rw [List.mem_singleton.mp ha]; exact hSl
    · intro j b hj
      rcases Nat.lt_trichotomy j as.length with h1 | h1 | h1
      · rw [List.getElem?_append_left h1] at hj
        obtain ⟨x', y', e1, e2, e3⟩ := hG.pairs j b hj
        have hb := hG.above b (List.mem_of_getElem? hj)
        exact ⟨x', y', e1, e2, up b _ (Nat.ne_of_gt hb) (hkp b _ (hi' b hb) e3)⟩
      · subst h1
        have hb : h.objs.size = b := by simpa using hj
        subst hb
        exact ⟨x, y, by rw [hal]; exact p1, by rw [hal]; exact p2, up _ _ (Nat.ne_of_gt hSl) ht⟩
      · have hnone : (as ++ [h.objs.size])[j]? = none := List.getElem?_eq_none (by rw [List.length_append, List.length_singleton]; omega)
        rw [hnone] at hj; cases hj
theorem zip_no_len : typeLookup (.type "zip") "__len__" = pure none := by rw [typeLookup_type, builtinLookup_eq_fast]; kernel_rfl
theorem zip_no_hint : typeLookup (.type "zip") "__length_hint__" = pure none := by rw [typeLookup_type, builtinLookup_eq_fast]; kernel_rfl
theorem zl_extend (hh : A.handled = none) (Sp : ZipSep2 z TI TO i1 i2 g1 g2) (D1 : ∀ A : Around, A.handled = none → Draws prog w A i1 g1 n1 P1 St1) (D2 : ∀ A : Around, A.handled = none → Draws prog w A i2 g2 n2 P2 St2)
    (low : ∀ b ∈ [z, TI, TO, i1, i2], b < S) (d1 : S ∉ g1) (d2 : S ∉ g2) (hn : min n1 n2 ≤ sizeLine) (res : Value) (c₀ : Nat) (hzs : ZipAt z TI TO i1 i2 St1 St2 s.heap) (hS : s.heap.get? S = some { cls := .type "list", data := .seq #[] c₀ })
    (hR : ∀ h' tk acc c as, (∀ b o, b ≠ S → b ∉ [z, TO, i1, i2] → s.heap.get? b = some o → h'.get? b = some o) → h'.get? S = some { cls := .type "list", dict := none, data := .seq acc c, slots := #[] } → as.length = min n1 n2 → ZG P1 P2 S h' as →
      acc.toList = as.map Value.ref → R (.ok (.ret res)) { s with heap := h', toks := tk }) :
    wpAny (model prog w) A.in1 (Builtin.List.listExtendWith (.ref S) (.ref z) res)
      (fun fin s' => match fin with | .done f => R (.ok f) s' | .again c' => c'.quiet = true ∧ codeAny (model prog w) A c' R s') (fun e s' => R (.error e) s') s := by
  have sz : S ≠ z := Nat.ne_of_gt (low z (by simp))
  have sTI : S ≠ TI := Nat.ne_of_gt (low TI (by simp))
  have sTO : S ≠ TO := Nat.ne_of_gt (low TO (by simp))
  obtain ⟨a1, a2, a3, a4, a5⟩ := hzs
  have hT : s.TypeIs (.ref z) "zip" := ⟨_, a1, rfl⟩
  have st0 : ZS z TI TO i1 i2 S St1 St2 0 s.heap := ⟨a2, a4, a5, .inl ⟨a1, a3⟩⟩
  unfold Builtin.List.listExtendWith
  refine wpAny_bind (wpAny_typeOf hT ?_)
  have h1 : Builtin.List.listSameRef (.ref S) (.ref z) = false := by simp [Builtin.List.listSameRef, sz]
  have h2 : (Value.type "zip" == Value.type "list") = false := by decide
  have h3 : (Value.type "zip" == Value.type "tuple") = false := by decide
  simp only [h1, h2, h3, Bool.or_false, Bool.false_eq_true, if_false]
  refine wpAny_bind (wpAny_pyIter_zip a1 ?_)
  refine wpAny_bind (wpAny_holding ?_)
  unfold Builtin.List.listLengthHint
  refine wpAny_bind (wpAny_specialOf hT zip_no_len ?_)
  show wpAny _ A.in1 (specialOf (Value.ref z) (Str.ofString "__length_hint__") >>= _) _ _ _
  refine wpAny_bind (wpAny_specialOf hT zip_no_hint ?_)
  refine wpAny_pure ?_
  show wpAny _ A.in1 (rule "list.extend.makes-room" >>= fun _ => Builtin.List.listTouch (.ref S) >>= fun _ =>
    again (.builtin "list.extend.loop" ⟨[.ref S, .ref z, res], []⟩)) _ _ _
  refine wpAny_bind (wpAny_rule ?_)
  refine wpAny_bind ?_
  show wpAny _ A.in1 (updateSeq S (·.push .none) >>= fun _ => updateSeq S (·.pop)) _ _ _
  refine wpAny_bind (wpAny_updateSeq hS rfl ?_)
  have hS₂ := Heap.get?_update_self (Obj.mapSeq (·.push Value.none)) hS rfl
  refine wpAny_updateSeq (hz := by seq_fits) hS₂ rfl ?_
  have hS₃ := Heap.get?_update_self (Obj.mapSeq (·.pop)) hS₂ rfl
  have oth : ∀ b o, b ≠ S → s.heap.get? b = some o → ((s.heap.update S (Obj.mapSeq (·.push Value.none))).update S (Obj.mapSeq (·.pop))).get? b = some o :=
    fun b o hb e => (Heap.get?_update_other _ _ (Ne.symm hb)).trans ((Heap.get?_update_other _ _ (Ne.symm hb)).trans e)
  exact wpAny_pure ⟨plainId_quiet F.plain_extend_loop _, zl_loop (s := s) (h₁ := s.heap) hh Sp D1 D2 low d1 d2 hn res hR (min n1 n2) 0 _ s.toks _ #[] [] (Nat.sub_zero _) (Nat.zero_le _) (zs_keep D1 D2 sz sTI sTO d1 d2 st0 oth) (fun b o hb _ e => oth b o hb e) hS₃ rfl rfl
    ⟨List.Pairwise.nil, (fun _ ha => nomatch ha), (fun j a hj => by simp at hj)⟩⟩
theorem zl_init (hh : A.handled = none) (Sp : ZipSep2 z TI TO i1 i2 g1 g2) (D1 : ∀ A : Around, A.handled = none → Draws prog w A i1 g1 n1 P1 St1) (D2 : ∀ A : Around, A.handled = none → Draws prog w A i2 g2 n2 P2 St2)
    (low : ∀ b ∈ [z, TI, TO, i1, i2], b < S) (d1 : S ∉ g1) (d2 : S ∉ g2) (hn : min n1 n2 ≤ sizeLine) (hzs : ZipAt z TI TO i1 i2 St1 St2 s.heap) (hS : s.heap.get? S = some { cls := .type "list", data := .seq #[] })
    (keepZ : ∀ h' : Heap, (∀ b o, b ≠ S → s.heap.get? b = some o → h'.get? b = some o) → ZipAt z TI TO i1 i2 St1 St2 h')
    (hR : ∀ h' tk acc c as, (∀ b o, b ≠ S → b ∉ [z, TO, i1, i2] → s.heap.get? b = some o → h'.get? b = some o) → h'.get? S = some { cls := .type "list", dict := none, data := .seq acc c, slots := #[] } → as.length = min n1 n2 → ZG P1 P2 S h' as →
      acc.toList = as.map Value.ref → R (.ok (.ret .none)) { s with heap := h', toks := tk }) :
    wpAny (model prog w) A.in1 (Builtin.«list.__init__» ⟨[.ref S, .ref z], []⟩)
      (fun fin s' => match fin with | .done f => R (.ok f) s' | .again c' => c'.quiet = true ∧ codeAny (model prog w) A c' R s') (fun e s' => R (.error e) s') s := by
  show wpAny _ _ (do let old ← Builtin.List.listItems (.ref S); Builtin.List.listUpdate (.ref S) (fun _ => #[]); letGo old.toList.reverse; Builtin.List.listExtendWith (.ref S) (.ref z) .none) _ _ s
  refine wpAny_bind ?_
  unfold Builtin.List.listItems
  refine wpAny_bind (wpAny_seqItems hS rfl (wpAny_pure ?_))
  show wpAny _ _ (updateSeq S (fun _ => #[]) >>= fun _ => letGo (#[] : Array Value).toList.reverse >>= fun _ => Builtin.List.listExtendWith (.ref S) (.ref z) .none) _ _ s
  refine wpAny_bind (wpAny_updateSeq hS rfl ?_)
  have hS₂ := Heap.get?_update_self (Obj.mapSeq (fun _ => (#[] : Array Value))) hS rfl
  have oth : ∀ b o, b ≠ S → s.heap.get? b = some o → (s.heap.update S (Obj.mapSeq (fun _ => (#[] : Array Value)))).get? b = some o :=
    fun b o hb e => (Heap.get?_update_other _ _ (Ne.symm hb)).trans e
  refine wpAny_bind (wpAny_letGo ?_)
  refine zl_extend hh Sp D1 D2 low d1 d2 hn .none _ (keepZ _ oth) hS₂ fun h' tk acc c as hk hS' hl hG hacc => ?_
  exact hR h' tk acc c as (fun b o hb hb2 e => hk b o hb hb2 (oth b o hb e)) hS' hl hG hacc
theorem zl_call {Q : Value → Shared → Prop} (hh : A.handled = none) (Sp : ZipSep2 z TI TO i1 i2 g1 g2) (D1 : ∀ A : Around, A.handled = none → Draws prog w A i1 g1 n1 P1 St1) (D2 : ∀ A : Around, A.handled = none → Draws prog w A i2 g2 n2 P2 St2)
    (hn : min n1 n2 ≤ sizeLine) (hzs : ZipAt z TI TO i1 i2 St1 St2 s.heap) (l1 : ∀ b ∈ g1, b < s.heap.objs.size) (l2 : ∀ b ∈ g2, b < s.heap.objs.size)
    (hQ : ∀ h' tk acc c as, (∀ b o, b ∉ [z, TO, i1, i2] → s.heap.get? b = some o → h'.get? b = some o) → h'.get? s.heap.objs.size = some { cls := .type "list", dict := none, data := .seq acc c, slots := #[] } → as.length = min n1 n2 → ZG P1 P2 s.heap.objs.size h' as →
      acc.toList = as.map Value.ref → Q (.ref s.heap.objs.size) { s with heap := h', toks := tk }) :
    wpAny (model prog w) A (call (.type "list") [.ref z]) Q E s := by
  have E1 := D1 { handled := none, depth := 0, frames := none, guards := none, units := 0 } rfl
  have E2 := D2 { handled := none, depth := 0, frames := none, guards := none, units := 0 } rfl
  have kz : ∀ h h' : Heap, ZipAt z TI TO i1 i2 St1 St2 h → (∀ b o, b ∈ z :: TI :: TO :: (g1 ++ g2) → h.get? b = some o → h'.get? b = some o) → ZipAt z TI TO i1 i2 St1 St2 h' := fun h h' ⟨a1, a2, ⟨a, b, a3⟩, a4, a5⟩ hk =>
    ⟨hk _ _ (by simp) a1, hk _ _ (by simp) a2, ⟨a, b, hk _ _ (by simp) a3⟩, E1.frame _ _ _ a4 fun b hb o e => hk b o (by simp [hb]) e, E2.frame _ _ _ a5 fun b hb o e => hk b o (by simp [hb]) e⟩
  obtain ⟨a1, a2, ⟨a, b, a3⟩, a4, a5⟩ := id hzs
  have low : ∀ b ∈ [z, TI, TO, i1, i2], b < s.heap.objs.size := fun b hb => by
    have hb : b = z ∨ b = TI ∨ b = TO ∨ b = i1 ∨ b = i2 := by simpa using hb
    rcases hb with e | e | e | e | e <;> subst e
    · exact Heap.lt_size a1
    · exact Heap.lt_size a2
    · exact Heap.lt_size a3
    · exact let ⟨_, e⟩ := E1.live _ _ a4; Heap.lt_size e
    · exact let ⟨_, e⟩ := E2.live _ _ a5; Heap.lt_size e
  have d1 : s.heap.objs.size ∉ g1 := fun h => Nat.lt_irrefl _ (l1 _ h)
  have d2 : s.heap.objs.size ∉ g2 := fun h => Nat.lt_irrefl _ (l2 _ h)
  refine callType_codes (Q₁ := fun obj s₁ => obj = .ref s.heap.objs.size ∧ s₁ = { s with heap := s.heap.push { cls := .type "list", data := .seq #[] } }) PySem.F.called_list (PySem.F.typeCall_list_1 _) PySem.F.entry_list_init
    (code_list_new _ ⟨rfl, rfl⟩) fun obj s₁ h₁ => ?_
  obtain ⟨rfl, rfl⟩ := h₁
  have hS : (s.heap.push { cls := .type "list", data := .seq #[] }).get? s.heap.objs.size = some { cls := .type "list", data := .seq #[] } := Heap.get?_push_size _ rfl
  have notS : ∀ b ∈ z :: TI :: TO :: (g1 ++ g2), b ≠ s.heap.objs.size := fun b hb e => by
    subst e
    rcases List.mem_cons.mp hb with h | hb
    · exact Nat.lt_irrefl _ (h ▸ low z (by simp))
    · rcases List.mem_cons.mp hb with h | hb
      · exact Nat.lt_irrefl _ (h ▸ low TI (by simp))
      · rcases List.mem_cons.mp hb with h | hb
        · exact Nat.lt_irrefl _ (h ▸ low TO (by simp))
        · rcases List.mem_append.mp hb with h | h
          · exact d1 h
          · exact d2 h
  have hz1 : ZipAt z TI TO i1 i2 St1 St2 (s.heap.push { cls := .type "list", data := .seq #[] }) := kz _ _ hzs fun b o _ e => Heap.get?_push_of_some _ e
  refine ⟨⟨_, hS, rfl⟩, PySem.F.args_list_init_2 _ _, zl_init (A := A.in1) hh Sp D1 D2 low d1 d2 hn hz1 hS (fun h' hk => kz _ _ hz1 fun b o hb e => hk b o (notS b hb) e) fun h' tk acc c as hk hS' hl hG hacc => ?_⟩
  exact ⟨rfl, hQ h' tk acc c as (fun b o hb e => hk b o (Nat.ne_of_lt (Heap.lt_size e)) hb (Heap.get?_push_of_some _ e)) hS' hl hG hacc⟩
end
end EV

set_option maxRecDepth 100000
set_option maxHeartbeats 4000000
/-! EvQ3: list(zip(a, b)) as an expression of the hand layer. -/
namespace EV
open PySem PySem.Spec PyProof.Rows L2

/-- new pairs at their addresses -/
def putPs : Hp → List Addr → List (V × V) → Hp
  | H, a :: as, p :: ps => putPs (upd H a (.tup [p.1, p.2])) as ps
  | H, _, _ => H
theorem putPs_off {b : Addr} : ∀ (as : List Addr) (ps : List (V × V)) (H : Hp), b ∉ as → putPs H as ps b = H b
  | [], _, _, _ => rfl
  | _ :: _, [], _, _ => rfl
  | a :: as, p :: ps, H, h => by
    show putPs (upd H a (.tup [p.1, p.2])) as ps b = H b
    rw [putPs_off as ps _ (fun z => h (List.mem_cons_of_mem _ z)), upd_ne (fun z => h (by rw [z]; exact List.mem_cons_self))]
theorem putPs_at : ∀ (as : List Addr) (ps : List (V × V)) (H : Hp), as.length = ps.length → as.Nodup → ∀ (j : Nat) (a : Addr) (p : V × V), as[j]? = some a → ps[j]? = some p → putPs H as ps a = some (.tup [p.1, p.2])
  | [], _, _, _, _, j, a, p, e, _ => by simp at e
  | _ :: _, [], _, h, _, _, _, _, _, _ => by cases h
  | a :: as, p :: ps, H, h, hn, 0, a', p', e1, e2 => by
    cases (Option.some.inj e1); cases (Option.some.inj e2)
    have hn' := List.nodup_cons.mp hn
    show putPs (upd H a (.tup [p.1, p.2])) as ps a = _
    rw [putPs_off as ps _ hn'.1, upd_same]
  | a :: as, p :: ps, H, h, hn, j + 1, a', p', e1, e2 =>
    putPs_at as ps (upd H a (.tup [p.1, p.2])) (Nat.succ.inj h) (List.nodup_cons.mp hn).2 j a' p' e1 e2
section
variable {X : Cx}
theorem zip_laid {pins : List (Addr × Obj)} {σ : L2.St} {H : Hp} {s : Shared} {h' : Heap} {tk : Nat} {S : Addr} {xs ys : List V} {its1 its2 : List Value} {acc : Array Value} {c : Nat} {as : List Addr} (I : Inv X pins σ H s) (hz : xs.length ≤ sizeLine) (v1 : Vals xs its1) (v2 : Vals ys its2)
    (hk : ∀ b o, s.heap.get? b = some o → h'.get? b = some o) (hSs : s.heap.objs.size ≤ S) (hS : h'.get? S = some { cls := .type "list", dict := none, data := .seq acc c, slots := #[] }) (hl : as.length = min its1.length its2.length)
    (hG : ZG (fun i v => its1[i]? = some v) (fun i v => its2[i]? = some v) S h' as) (hacc : acc.toList = as.map Value.ref) :
    H S = none ∧ (∀ t ∈ as, H t = none) ∧ (S :: as).Nodup ∧ as.length = (xs.zip ys).length ∧ Inv X pins σ (putPs (upd H S (.lst (as.map V.ref))) as (xs.zip ys)) { s with heap := h', toks := tk } := by
  have l1 := v1.length
  have l2 := v2.length
  have lz : as.length = (xs.zip ys).length := by rw [List.length_zip, hl, l1, l2]
  have hSn : S ∉ as := fun z => Nat.lt_irrefl _ (hG.above _ z)
  have nd : as.Nodup := List.Pairwise.imp (fun {a b} (h : a < b) => Nat.ne_of_lt h) hG.rise
  have big : ∀ t ∈ as, s.heap.objs.size ≤ t := fun t ht => Nat.le_trans hSs (Nat.le_of_lt (hG.above t ht))
  have new : ∀ t ∈ as, H t = none := fun t ht => I.hok.fresh (big t ht)
  have newS : H S = none := I.hok.fresh hSs
  have off : ∀ b, b ∉ as → b ≠ S → putPs (upd H S (.lst (as.map V.ref))) as (xs.zip ys) b = H b := fun b h1 h2 => by rw [putPs_off as _ _ h1, upd_ne h2]
  have low : ∀ b o, s.heap.get? b = some o → b ∉ as ∧ b ≠ S := fun b o e => ⟨fun z => absurd (Heap.lt_size e) (Nat.not_lt.mpr (big b z)), fun z => absurd (Heap.lt_size e) (Nat.not_lt.mpr (z ▸ hSs))⟩
  have kp : ∀ b u, H b = some u → (putPs (upd H S (.lst (as.map V.ref))) as (xs.zip ys)) b = some u := fun b u e => by
    rw [off b (fun z => by rw [new b z] at e; cases e) (fun z => by rw [z, newS] at e; cases e)]
    exact e
  have eS : putPs (upd H S (.lst (as.map V.ref))) as (xs.zip ys) S = some (.lst (as.map V.ref)) := by rw [putPs_off as _ _ hSn, upd_same]
  refine ⟨newS, new, List.nodup_cons.mpr ⟨hSn, nd⟩, lz, ?_⟩
  refine I.call' (ch := []) rfl ⟨fun b o q _ _ _ => hk b o q, fun b o q _ _ _ => ⟨o.slots, hk b o q⟩, fun b o q n _ => ?_, fun b o q _ => ⟨o, hk b o q⟩, fun b xs q => kp b _ q, fun b o u q => kp b _ q, fun b ps q => ⟨#[], by rw [kp b _ q]; simp⟩⟩ (fun b u q => ?_) I.bare fun b z => by simp at z
  · obtain ⟨z1, z2⟩ := low b o q
    rw [off b z1 z2]
    exact n
  · by_cases hb : b ∈ as
    · obtain ⟨j, hj⟩ := List.mem_iff_getElem?.mp hb
      obtain ⟨u1, u2, p1, p2, ht⟩ := hG.pairs j b hj
      obtain ⟨x1, ex, rx⟩ := pairedR v1 p1
      obtain ⟨y1, ey, ry⟩ := pairedR v2 p2
      have ep : (xs.zip ys)[j]? = some (x1, y1) := List.getElem?_zip_eq_some.mpr ⟨ex, ey⟩
      rw [putPs_at as _ _ lz nd j b _ hj ep] at q
      cases q
      exact ⟨by show 2 ≤ sizeLine; decide, [u1, u2], .cons rx (.cons ry .nil), ⟨_, ht, rfl, _, rfl⟩⟩
    · by_cases hb2 : b = S
      · rw [hb2] at q ⊢
        rw [eS] at q
        cases q
        refine ⟨by rw [List.length_map, lz, List.length_zip]; exact Nat.le_trans (Nat.min_le_left _ _) hz, acc.toList, c, by rw [hacc]; exact LiI.vals_refs as, ?_⟩
        rw [Array.toArray_toList]
        exact hS
      · rw [off b hb hb2] at q
        exact (I.hok b u q).stay (fun d v _ y => hk d v y) (fun d y => kp d _ y) fun d xs y => kp d _ y
/-- list(zip(a, b)) -/
def tLzip (K : PySem.W.Frag) (ta : TA) : TE := fun σ H Q => ta σ H fun vs H1 => ∃ (x y : V) (xs ys : List V), vs = [x, y] ∧ SeqV K H1 x xs ∧ SeqV K H1 y ys ∧
  ∀ (p : Addr) (ts : List Addr), H1 p = none → (∀ t ∈ ts, H1 t = none) → (p :: ts).Nodup → ts.length = (xs.zip ys).length → Q (.ref p) (putPs (upd H1 p (.lst (ts.map V.ref))) ts (xs.zip ys))
theorem pe_lzip {a b : Expr} {ta : TA} {p p2 q pos : Pos} (hg : Gl X "list") (hm : X.mg "list" = none) (hg2 : Gl X "zip") (hm2 : X.mg "zip" = none) (ha : PA X [a, b] ta) (hc : X.calm = true)
    (na : starEach [a, b] X.env = (false, eval a X.env) :: starEach [b] X.env) (nb : (backTo q (starEach [b] X.env)).any (·.1) = false) : PE X (.Call (.Name "list" p) [.Call (.Name "zip" p2) [a, b] [] q] [] pos) (tLzip X.K ta) := by
  refine ⟨fun pins s σ H Q I h => ?_⟩
  refine Call_ (ld_blt I hg hm boot_list ?_)
  refine PyProof.Rows.callWith_type1 (PyProof.Rows.args_cons ?_ rfl) rfl rfl
  refine Call_ (ld_blt I hg2 hm2 PyProof.Rows.boot_zip ?_)
  refine PyProof.Rows.callWith_type1 (thn (ha.run q pins s σ H _ I h) fun us s1 ⟨vs, H1, I1, r1, q1⟩ => ?_) na nb
  obtain ⟨x, y, xs, ys, ev, hx, hy, q1⟩ := q1
  subst ev
  obtain ⟨u1, u2, eu, g1, g2⟩ := vals2 r1
  subst eu
  obtain ⟨its1, v1, z1, ⟨S1⟩⟩ := seq_src I1 hx g1
  obtain ⟨its2, v2, z2, ⟨S2⟩⟩ := seq_src I1 hy g2
  refine zip_begins2 S1.begins S2.begins S1.here S2.here fun h' c1 c2 c3 c4 c5 c6 c7 => ?_
  refine PyProof.Rows.args_nil ?_
  have hlo1 : ∀ b ∈ [S1.a], b < s1.heap.objs.size := fun b hb => by rw [List.mem_singleton.mp hb]; exact S1.low
  have hlo2 : ∀ b ∈ [S2.a], b < s1.heap.objs.size := fun b hb => by rw [List.mem_singleton.mp hb]; exact S2.low
  have n1 : S1.a ≠ s1.heap.objs.size := Nat.ne_of_lt S1.low
  have n2 : S2.a ≠ s1.heap.objs.size + 1 := Nat.ne_of_lt (Nat.lt_succ_of_lt S2.low)
  have hln : min its1.length its2.length ≤ sizeLine := by
    have := v1.length
    rw [this] at z1
    exact Nat.le_trans (Nat.min_le_left _ _) z1
  have big : s1.heap.objs.size ≤ h'.objs.size := by
    have := c6
    omega
  have st1 := S1.start _ _ c4 (S1.begins.keeps _ _ S1.here c7)
  have st2 := S2.start _ _ c5 (S2.begins.keeps _ _ S2.here c7)
  refine zl_call (s := { s1 with heap := h' }) (I1.ok.hd hc) (zip_sep2 hlo1 hlo2) (fun A hh => S1.draws A _ hh n1) (fun A hh => S2.draws A _ hh n2) hln ⟨c1, c2, ⟨_, _, c3⟩, st1, st2⟩ (fun b hb => ?_) (fun b hb => ?_) fun h2 tk acc c as hk hS hl hG hacc => ?_
  · obtain ⟨o, e⟩ := S1.live _ _ st1 b (by simpa using hb); exact Heap.lt_size e
  · obtain ⟨o, e⟩ := S2.live _ _ st2 b (by simpa using hb); exact Heap.lt_size e
  have keep : ∀ b u, s1.heap.get? b = some u → h2.get? b = some u := fun b u e => by
    refine hk b u (fun z => ?_) (c7 b u e)
    have lb := Heap.lt_size e
    have z : b = s1.heap.objs.size + 4 ∨ b = s1.heap.objs.size + 3 ∨ b = s1.heap.objs.size ∨ b = s1.heap.objs.size + 1 := by simpa using z
    exact off4 lb z
  obtain ⟨k1, k2, k3, k4, k5⟩ := zip_laid (tk := tk) I1 z1 v1 v2 keep big hS hl hG hacc
  exact ⟨.ref _, _, k5, rfl, q1 _ as k1 k2 k3 k4⟩
end
end EV

set_option maxRecDepth 100000
set_option maxHeartbeats 4000000
/-! EvMF: what is made anew. -/
namespace EV
open PySem PySem.Spec PyProof.Rows L2

section
variable {C : Ct} {σ : L2.St} {H : Hp} {ρ : Ev} {h : Hh} {En : Ends} {X : Cx} {pos : Pos}
/-- a new thing is laid and put aside -/
theorem Rel.intoF {p : Addr} {o : HO} (R : Rel C σ H ρ h) (n : H p = none) (nt : ∀ ps, o ≠ .tbl ps) : Rel (C.inF p) σ (upd H p o) ρ h ∧ Kp H (Av C σ ρ) (upd H p o) (Av (C.inF p) σ ρ) ∧ Stp C σ ρ H σ ρ (upd H p o) := by
  have ex : ∀ a u, H a = some u → upd H p o a = some u := fun a u e => by rw [upd_ne (ne_of_none e n)]; exact e
  have av : ∀ a u, H a = some u → ¬ Av C σ ρ a → ¬ Av (C.inF p) σ ρ a := fun a u e m z => by
    rcases z with (z | z) | z
    · exact m (.inl z)
    · rw [z, n] at e; cases e
    · exact m (.inr z)
  have k : Kp H (Av C σ ρ) (upd H p o) (Av (C.inF p) σ ρ) := by
    refine ⟨fun a _ e => ex a _ e, fun a _ e n => ⟨ex a _ e, av a _ e n⟩, fun a _ e n => ?_, fun a _ e n => ?_, fun a _ _ e => ex a _ e⟩
    · rcases e with e | ⟨o, e⟩
      · exact ⟨.inl (ex a _ e), av a _ e n⟩
      · exact ⟨.inr ⟨o, ex a _ e⟩, av a _ e n⟩
    · rcases e with e | ⟨o, e⟩
      · exact ⟨.inl (ex a _ e), av a _ e n⟩
      · exact ⟨.inr ⟨o, ex a _ e⟩, av a _ e n⟩
  have S : Stp C σ ρ H σ ρ (upd H p o) := ⟨fun a u e _ => ex a u e, fun a u e _ _ _ => .inl (ex a u e), fun a e => by
    by_cases q : a = p
    · rw [q]; exact n
    · rw [upd_ne q] at e; exact e, fun a x => .inl x⟩
  refine ⟨⟨R.len, fun j w e => ?_, fun j b e => ?_, R.dis, R.blen, fun j b e => ?_, fun a ha => .inl (R.mu a ha), R.nod, fun a ha => ?_, R.noH, NdefX.TabsN.ext R.tab ex⟩, k, S⟩
  · obtain ⟨v, e1, r⟩ := R.val j w e
    exact ⟨v, e1, r.inF k (fun a o q _ => ex a o q) fun i z => R.noH j i (by rw [← z]; exact e)⟩
  · obtain ⟨a, e1, e2, e3⟩ := R.own j b e
    refine ⟨a, e1, fun y => ?_, e3.kp k (ex a)⟩
    rcases y with y | y
    · exact e2 y
    · obtain ⟨o, eo, _⟩ := e3.here
      rw [y, n] at eo; cases eo
  · obtain ⟨a, e1, e2⟩ := R.box j b e
    exact ⟨a, e1, e2.kp k (ex a)⟩
  · rcases ha with ha | ha
    · obtain ⟨o, e⟩ := R.trk a ha; exact ⟨o, ex a o e⟩
    · rw [ha]; exact ⟨_, upd_same⟩
/-- what stays of a fresh answer's promise, from here on -/
def FrK (C : Ct) (σ : L2.St) (ρ : Ev) (H : Hp) (b : D) (ρ' : Ev) (h' : Hh) (Q : VK) : Prop :=
  ∀ a H', H a = none → Rel (C.inF a) σ H' ρ' h' → BoxAt C.K H' (Av (C.inF a) σ ρ') b a → Stp C σ ρ H σ ρ' H' → Shp ρ ρ' → Q (.ref a) H'
theorem FrK.laidL {xs : List D} {vs : List V} {Q : VK} {p : Addr} (k : FrK C σ ρ H (.lst xs) ρ h Q) (R : Rel C σ H ρ h) (r : RepDs C.K H (Av C σ ρ) xs vs) (n : H p = none) : Q (.ref p) (upd H p (.lst vs)) := by
  obtain ⟨R1, k1, S1⟩ := R.intoF (o := .lst vs) n (fun ps z => by cases z)
  exact k p _ n R1 ⟨vs, upd_same, r.kp k1⟩ S1 (.refl _)
theorem tFr.args {ms : M (List Val)} {f : List Val → M Val} {Q : VK} {P : List V → Hp → Prop} (q : tFr C (ms.bind f) σ H Q)
    (hR : ∀ xs vs ρ1 h1 H1 b ρ' h', Rel C σ H1 ρ1 h1 → RepVs C σ ρ1 H1 xs vs → f xs ρ1 h1 = .ok (.d b) ρ' h' → FrK C σ ρ1 H1 b ρ' h' Q → P vs H1) : tA C ms σ H P := by
  obtain ⟨ρ, h, b, ρ', h', R, e, k⟩ := q
  obtain ⟨xs, ρ1, h1, e1, e2⟩ := M.bind_ok e
  exact ⟨ρ, h, R, xs, ρ1, h1, e1, fun vs H1 R1 r1 S1 P1 => hR xs vs ρ1 h1 H1 b ρ' h' R1 r1 e2 fun a H' n R' bx S' P' => k a H' (S1.there a n) R' bx (S1.trans S') (P1.trans P')⟩
theorem tFr.two {ma mb : M Val} {f : Val → Val → M Val} {Q : VK} {P : V → V → Hp → Prop} (q : tFr C (ma.bind fun x => mb.bind fun y => f x y) σ H Q)
    (hR : ∀ x y v u ρ1 h1 H1 b ρ' h', Rel C σ H1 ρ1 h1 → RepV C σ ρ1 H1 x v → RepV C σ ρ1 H1 y u → f x y ρ1 h1 = .ok (.d b) ρ' h' → FrK C σ ρ1 H1 b ρ' h' Q → P v u H1) : tE C ma σ H fun v H1 => tE C mb σ H1 fun u H2 => P v u H2 := by
  obtain ⟨ρ, h, b, ρ', h', R, e, k⟩ := q
  obtain ⟨x, ρ1, h1, e1, e2⟩ := M.bind_ok e
  obtain ⟨y, ρ2, h2, e3, e4⟩ := M.bind_ok e2
  exact ⟨ρ, h, R, x, ρ1, h1, e1, fun v H1 R1 r1 S1 P1 => ⟨ρ1, h1, R1, y, ρ2, h2, e3, fun u H2 R2 r2 S2 P2 => hR x y v u ρ2 h2 H2 b ρ' h' R2 (r1.stp S2 R1.mu P2) r2 e4 fun a H' n R' bx S' P' =>
    k a H' (S1.there a (S2.there a n)) R' bx (S1.trans (S2.trans S')) (P1.trans (P2.trans P'))⟩⟩
theorem f_lst {es : List Expr} {ms : M (List Val)} (hs : PA X es (tA C ms)) : PE X (.List es pos) (tFr C (ms.bind fun xs => (match plains xs with
    | some ds => if ds.length ≤ sizeLine then M.ret (.d (.lst ds)) else M.fail
    | none => M.fail))) := by
  refine (pe_lst hs).weakE fun σ H Q q => q.args fun xs vs ρ1 h1 H1 b ρ' h' R rx e k => ?_
  cases hp : plains xs with
  | none => rw [hp] at e; cases e
  | some ds =>
    have rr := plains_ok rx hp
    simp only [hp] at e
    by_cases hl : ds.length ≤ sizeLine
    · rw [if_pos hl] at e
      injection e with z1 z2 z3
      injection z1 with z1
      subst z1; subst z2; subst z3
      exact ⟨by rw [← rr.length]; exact hl, fun p n => k.laidL R rr n⟩
    · rw [if_neg hl] at e; cases e
theorem f_dnewK : PE X (.Dict [] [] pos) (tFr C (M.ret (.d (.dic [] [])))) := by
  refine pe_dnewK.weakE fun σ H Q q => ?_
  intro p n
  obtain ⟨ρ, h, b, ρ', h', R, e, k⟩ := q
  injection e with z1 z2 z3
  injection z1 with z1
  subst z1; subst z2; subst z3
  obtain ⟨R1, k1, S1⟩ := R.intoF (o := .dK []) n (fun ps z => by cases z)
  exact k p _ n R1 ⟨[], upd_same, rfl, rfl⟩ S1 (.refl _)
theorem f_dnewT : PE X (.Dict [] [] pos) (tFr C (M.ret (.d (.dit [] [])))) := by
  refine pe_dnewT.weakE fun σ H Q q => ?_
  intro p n
  obtain ⟨ρ, h, b, ρ', h', R, e, k⟩ := q
  injection e with z1 z2 z3
  injection z1 with z1
  subst z1; subst z2; subst z3
  obtain ⟨R1, k1, S1⟩ := R.intoF (o := .dT []) n (fun ps z => by cases z)
  exact k p _ n R1 ⟨[], upd_same, rfl, rfl⟩ S1 (.refl _)
theorem f_list {e : Expr} {p : Pos} {ms : M (List Val)} (hK : C.K = X.K) (hc : X.calm = true) (hg : Gl X "list") (hm : X.mg "list" = none) (hs : notStar e = true) (ha : PA X [e] (tA C ms)) :
    PE X (.Call (.Name "list" p) [e] [] pos) (tFr C (ms.bind fun xs => biM .list xs)) := by
  have hs' : [e].all notStar = true := by rw [List.all_cons, hs]; rfl
  refine (pe_callTy (X := X) (pos := pos) (p := p) (call_listE hc) hg hm (by decide +kernel) ha (by decide) (by decide) (star_cons hs) (star_none (pos := pos) (es := []) rfl)).weakE fun σ H Q q => ?_
  refine q.args fun xs vs ρ1 h1 H1 b ρ' h' R rx e k => ?_
  have e : (match rds ρ1 h1 xs with
      | some ds => (match biD .list ds with
        | some c => Out.ok (Val.d c) ρ1 h1
        | none => .bad)
      | none => .bad) = Out.ok (Val.d b) ρ' h' := e
  cases hd : rds ρ1 h1 xs with
  | none => rw [hd] at e; cases e
  | some ds =>
    simp only [hd] at e
    cases hb : biD .list ds with
    | none => simp only [hb] at e; cases e
    | some c =>
      simp only [hb] at e
      injection e with z1 z2 z3
      injection z1 with z1
      subst z1; subst z2; subst z3
      have rr := rds_ok R rx hd
      rw [← hK]
      unfold biD at hb
      split at hb <;> first | (rename_i zz; cases zz; done) | skip
      all_goals first | (cases hb; done) | skip
      · cases (Option.some.inj hb)
        obtain ⟨v, t, ev, r1, r2⟩ := rr
        cases (show t = [] from r2)
        obtain ⟨a, us, e1, _, e2, e3⟩ := r1.lst
        subst e1
        exact .inl ⟨a, us, ev, .inl e2, fun p n => k.laidL R e3 n⟩
      · cases (Option.some.inj hb)
        obtain ⟨v, t, ev, r1, r2⟩ := rr
        cases (show t = [] from r2)
        obtain ⟨a, us, e1, e2, e3⟩ := r1.tup
        subst e1
        exact .inl ⟨a, us, ev, .inr e2, fun p n => k.laidL R e3 n⟩
      · cases (Option.some.inj hb)
        obtain ⟨v, t, ev, r1, r2⟩ := rr
        cases (show t = [] from r2)
        obtain ⟨q1, q2, q3⟩ := r1
        subst ev; subst q1
        exact .inr (.inl ⟨_, rfl, q3, fun p n => k.laidL R (chars_reps fun c hc => chr_ok q2 hc) n⟩)
      · split at hb
        · rename_i ok
          cases (Option.some.inj hb)
          obtain ⟨v, t, ev, r1, r2⟩ := rr
          cases (show t = [] from r2)
          obtain ⟨p, kvs, eu, hR, ek, rs⟩ := r1
          subst ev; subst eu; subst ek
          refine .inr (.inr ⟨p, kvs, rfl, hR, fun l n => ?_⟩)
          have kr := keys_reps (K := C.K) (H := H1) (A := Av C σ ρ1) ok
          have em2 : (kvs.map (·.1)).map kV = kvs.map fun kv => kV kv.1 := by rw [List.map_map]; rfl
          rw [em2] at kr
          exact k.laidL R kr n
        · cases hb
theorem binM_ok {op : Operator} {x y w : Val} {ρ' : Ev} {h' : Hh} (e : binM op x y ρ h = .ok w ρ' h') : ∃ a b c, rd ρ h x = some a ∧ rd ρ h y = some b ∧ opD op a b = some c ∧ w = .d c ∧ ρ' = ρ ∧ h' = h := by
  unfold binM at e
  split at e
  · cases e
  · cases e
  · exact lift2_ok e
theorem repM_ok {x y w : Val} {ρ' : Ev} {h' : Hh} (e : repM x y ρ h = .ok w ρ' h') : (∃ xs, x = .d (.lst xs)) ∧ binM .Mult x y ρ h = .ok w ρ' h' := by
  unfold repM at e
  split at e
  · exact ⟨⟨_, rfl⟩, e⟩
  · cases e
theorem f_mul {a b : Expr} {ma mb : M Val} (ha : PE X a (tE C ma)) (hb : PE X b (tE C mb)) : PE X (.BinOp a .Mult b pos) (tFr C (ma.bind fun x => mb.bind fun y => repM x y)) :=
  (pe_op op_mulE ha hb).weakE fun σ H Q q => q.two fun x y v u ρ1 h1 H1 b ρ' h' R rx ry e k => by
    obtain ⟨⟨xs, ex⟩, e⟩ := repM_ok e
    subst ex
    obtain ⟨a, b', c, e1, e2, e3, e4, e5, e6⟩ := binM_ok e
    injection e4 with e4
    subst e4; subst e5; subst e6
    have ra := rd_ok R rx e1
    have rb := rd_ok R ry e2
    cases (Option.some.inj e1)
    have e3 : mulD (.lst xs) b' = some b := e3
    cases b' <;> first | (cases e3; done) | skip
    unfold mulD at e3
    simp only at e3
    split at e3
    · rename_i hc
      have z := Option.some.inj e3
      subst z
      obtain ⟨p, vs, ea, hx, _, qa⟩ := ra.lst
      have eb : u = _ := rb
      have l1 := qa.length
      exact .inr (.inl ⟨p, _, vs, ea, eb, hx, by omega, hc.2.1, by rw [← l1]; exact hc.2.2, fun t n => k.laidL R (rep_rep qa _) n⟩)
    · cases e3
end
end EV

set_option maxRecDepth 100000
set_option maxHeartbeats 4000000
/-! EvF3: sorted, repr, dict, backwards, dict(zip) as expressions. -/
namespace EV
open PySem PySem.Spec PyProof.Rows L2

section
variable {C : Ct} {σ : L2.St} {H : Hp} {ρ : Ev} {h : Hh} {X : Cx} {pos : Pos}
theorem dict_data {K : PySem.W.Frag} {A : Addr → Prop} {ps : List (Key × D)} {kvs : List (Key × V)} (e1 : kvs.map (·.1) = ps.map (·.1)) (r : RepDs K H A (ps.map (·.2)) (kvs.map (·.2))) :
    (mergeK [] kvs).map (·.1) = (foldK ps [] []).1 ∧ RepDs K H A (foldK ps [] []).2 ((mergeK [] kvs).map (·.2)) := fold_ok (acc := []) (ds := []) e1 r rfl
theorem tV.newDK {m : M Val} {ks : List Key} {ds : List D} {kvs : List (Key × V)} {Q : VK} {p : Addr} (R : Rel C σ H ρ h) (q : tV C m ρ h σ H Q) (e : m ρ h = .ok (.d (.dic ks ds)) ρ h) (ek : kvs.map (·.1) = ks) (r : RepDs C.K H (Av C σ ρ) ds (kvs.map (·.2))) (n : H p = none) :
    Q (.ref p) (upd H p (.dK kvs)) := by
  obtain ⟨w', ρ', h', e', k⟩ := q
  rw [e] at e'
  injection e' with e1 e2 e3
  subst e1; subst e2; subst e3
  obtain ⟨R1, S1⟩ := R.laid (o := .dK kvs) n (fun ps z => by cases z)
  exact k _ _ R1 ⟨p, kvs, rfl, .inl upd_same, R.fresh n, ek, r.kp (S1.kp R.mu)⟩ S1 (.refl _)
theorem FrK.laidD {ks : List Key} {ds : List D} {kvs : List (Key × V)} {Q : VK} {p : Addr} (k : FrK C σ ρ H (.dic ks ds) ρ h Q) (R : Rel C σ H ρ h) (ek : kvs.map (·.1) = ks) (r : RepDs C.K H (Av C σ ρ) ds (kvs.map (·.2))) (n : H p = none) : Q (.ref p) (upd H p (.dK kvs)) := by
  obtain ⟨R1, k1, S1⟩ := R.intoF (o := .dK kvs) n (fun ps z => by cases z)
  exact k p _ n R1 ⟨kvs, upd_same, ek, r.kp k1⟩ S1 (.refl _)
/-- what a datum of the second family makes -/
theorem bi2_core {b : Blt2} {a c : D} {v : V} {Q : VK} (ra : RdD C.K H (Av C σ ρ) a v) (e : bi2D b a = some c) (qs : ∀ x, c = .str x → PyData.strOk x = true → x.length ≤ sizeLine → Q (.str x) H)
    (ql : ∀ ds vs p, c = .lst ds → RepDs C.K H (Av C σ ρ) ds vs → H p = none → Q (.ref p) (upd H p (.lst vs)))
    (qd : ∀ ks ds kvs p, c = .dic ks ds → kvs.map (·.1) = ks → RepDs C.K H (Av C σ ρ) ds (kvs.map (·.2)) → H p = none → Q (.ref p) (upd H p (.dK kvs))) : rBi2 C.K b [v] H Q := by
  cases b with
  | sorted =>
    cases a <;> first | (cases e; done) | skip
    · have e : sortTD _ = some c := e
      refine .inr (sort_ruleT ra e fun vs p r n => ?_).2
      exact ql _ vs p (sort_ruleT (Q := fun _ _ => True) ra e fun _ _ _ _ => trivial).1 r n
    · have e : sortD _ = some c := e
      refine .inl (sort_rule ra e fun vs p r n => ?_).2
      exact ql _ vs p (sort_rule (Q := fun _ _ => True) ra e fun _ _ _ _ => trivial).1 r n
  | repr =>
    have e : reprD a = some c := e
    have go : ∀ (xs : List D) (p : PyData), toP a = some p → showOk p = true → c = .str p.shown → (∃ t, v = V.ref t) → rBi2 C.K .repr [v] H Q := fun xs p e1 e2 e3 ⟨t, et⟩ => by
      subst et
      obtain ⟨d1, _⟩ := toP_ok a _ p ra e1
      exact .inl ⟨t, p, rfl, d1, e2, qs p.shown e3 (ok_shown p (showOk_ok e2).1) (show_fits e2)⟩
    unfold reprD at e
    split at e
    · rename_i xs _
      cases ep : toP (.lst xs) with
      | none => rw [ep] at e; cases e
      | some p =>
        rw [ep] at e
        have e : (if showOk p = true then some (D.str p.shown) else none) = some c := e
        by_cases so : showOk p = true
        · rw [if_pos so] at e
          obtain ⟨t, _, et, _⟩ := ra.lst
          exact go xs p ep so (Option.some.inj e).symm ⟨t, et⟩
        · rw [if_neg so] at e; cases e
    · rename_i xs _
      cases ep : toP (.tup xs) with
      | none => rw [ep] at e; cases e
      | some p =>
        rw [ep] at e
        have e : (if showOk p = true then some (D.str p.shown) else none) = some c := e
        by_cases so : showOk p = true
        · rw [if_pos so] at e
          obtain ⟨t, _, et, _⟩ := ra.tup
          exact go xs p ep so (Option.some.inj e).symm ⟨t, et⟩
        · rw [if_neg so] at e; cases e
    · rename_i i _
      have e : (if i.natAbs.log2 < 1920 ∧ showOk (.int i) = true then some (D.str (PyData.int i).shown) else none) = some c := e
      by_cases so : i.natAbs.log2 < 1920 ∧ showOk (.int i) = true
      · rw [if_pos so] at e
        obtain ⟨d1, _⟩ := toP_ok (.int i) _ (.int i) ra rfl
        cases d1
        have q := qs _ (Option.some.inj e).symm (ok_shown _ (showOk_ok so.2).1) (show_fits so.2)
        simp only [PyData.shown] at q
        exact .inr ⟨i, rfl, so.1, q⟩
      · rw [if_neg so] at e; cases e
    · cases e
  | dict =>
    cases a <;> first | (cases e; done) | skip
    rename_i xs
    have e : (pairsD xs).map dictD = some c := e
    cases ep : pairsD xs with
    | none => rw [ep] at e; cases e
    | some ps =>
      rw [ep] at e
      obtain ⟨t, vs, ev, _, s, rs⟩ := ra.lst
      subst ev
      obtain ⟨as, kvs, g1, g2, g3, g4⟩ := pairs_ok rs ep
      obtain ⟨d1, d2⟩ := dict_data g3 g4
      exact ⟨t, as, kvs, rfl, by rw [← g1]; exact s, g2, fun p n => qd _ _ _ p (Option.some.inj e).symm d1 d2 n⟩
theorem s_bi2 {b : Blt2} {x : Val} {v : V} {Q : VK} (R : Rel C σ H ρ h) (rx : RepV C σ ρ H x v) (q : tV C (lift1 (bi2D b) x) ρ h σ H Q) : rBi2 C.K b [v] H Q := by
  obtain ⟨w0, ρ0, h0, e0⟩ := q.get
  obtain ⟨a, c, e1, e2, e3, e4, e5⟩ := lift1_ok e0
  subst e3; subst e4; subst e5
  exact bi2_core (rd_ok R rx e1) e2 (fun y ec o1 o2 => by subst ec; exact q.same R e0 ⟨rfl, o1, o2⟩) (fun ds vs p ec r n => by subst ec; exact q.newL R e0 r n) fun ks ds kvs p ec ek r n => by subst ec; exact q.newDK R e0 ek r n
/-! ### as expressions -/
theorem boot_b2 : ∀ b : Blt2, bootBuiltins (b2Name b) = some (vBi2 b)
  | .sorted => by decide +kernel | .repr => by decide +kernel | .dict => by decide +kernel
theorem tE.arg1 {m : M Val} {f : Val → M Val} {r : V → Hp → Prop} {σ : L2.St} {H : Hp} {Q : VK} (q : tE C (m.bind f) σ H Q) (hR : ∀ x v ρ h H1, Rel C σ H1 ρ h → RepV C σ ρ H1 x v → tV C (f x) ρ h σ H1 Q → r v H1) :
    tCons (tE C m) tNil σ H fun vs H1 => ∃ v, vs = [v] ∧ r v H1 := q.one fun x v ρ h H1 R rx q1 => ⟨v, rfl, hR x v ρ h H1 R rx q1⟩
theorem p_bi2 {b : Blt2} {x : Str} {e : Expr} {p : Pos} {m : M Val} (hK : C.K = X.K) (hc : X.calm = true) (hgd : X.A.guards = some []) (hu : X.A.units + 64 < cLine) (hx : x = b2Name b) (hg : Gl X x) (hm : X.mg x = none) (hd : noDunder x = true) (hs : notStar e = true) (ha : PE X e (tE C m)) :
    PE X (.Call (.Name x p) [e] [] pos) (tE C (m.bind fun y => lift1 (bi2D b) y)) := by
  obtain ⟨d1, d2, d3⟩ := noDunder_ok hd
  have hv : bootBuiltins x = some (vBi2 b) := by rw [hx]; exact boot_b2 b
  have pa : PA X [e] (tCons (tE C m) tNil) := pa_cons ha pa_nil (star_cons hs)
  have fin : ∀ {r : List V → Hp → VK → Prop}, r = rBi2 X.K b → PE X (.Call (.Name x p) [e] [] pos) (tCB r (tCons (tE C m) tNil)) → PE X (.Call (.Name x p) [e] [] pos) (tE C (m.bind fun y => lift1 (bi2D b) y)) := fun {r} er pp => by
    subst er
    refine pp.weakE fun σ H Q q => ?_
    exact q.one fun y v ρ h H1 R rx q1 => hK ▸ s_bi2 R rx q1
  have hcl := call_bi2 hc hgd hu b
  cases b with
  | sorted => exact fin rfl (pe_callB hcl hg hm hv pa d3 d1 (star_cons hs) rfl)
  | repr => exact fin rfl (pe_callB hcl hg hm hv pa d3 d1 (star_cons hs) rfl)
  | dict => exact fin rfl (pe_callTy hcl hg hm hv pa d3 d1 (star_cons hs) rfl)
theorem f_bi2 {b : Blt2} {x : Str} {e : Expr} {p : Pos} {m : M Val} (hb : b ≠ .repr) (hK : C.K = X.K) (hc : X.calm = true) (hgd : X.A.guards = some []) (hu : X.A.units + 64 < cLine) (hx : x = b2Name b) (hg : Gl X x) (hm : X.mg x = none) (hd : noDunder x = true) (hs : notStar e = true) (ha : PE X e (tE C m)) :
    PE X (.Call (.Name x p) [e] [] pos) (tFr C (m.bind fun y => lift1 (bi2D b) y)) := by
  obtain ⟨d1, d2, d3⟩ := noDunder_ok hd
  have hv : bootBuiltins x = some (vBi2 b) := by rw [hx]; exact boot_b2 b
  have pa : PA X [e] (tCons (tE C m) tNil) := pa_cons ha pa_nil (star_cons hs)
  have fin : ∀ {r : List V → Hp → VK → Prop}, r = rBi2 X.K b → PE X (.Call (.Name x p) [e] [] pos) (tCB r (tCons (tE C m) tNil)) → PE X (.Call (.Name x p) [e] [] pos) (tFr C (m.bind fun y => lift1 (bi2D b) y)) := fun {r} er pp => by
    subst er
    refine pp.weakE fun σ H Q q => ?_
    obtain ⟨ρ, h, c, ρ', h', R, ee, k⟩ := q
    obtain ⟨y, ρ1, h1, e1, e2⟩ := M.bind_ok ee
    obtain ⟨a, c', g1, g2, g3, g4, g5⟩ := lift1_ok e2
    injection g3 with g3
    subst g3; subst g4; subst g5
    refine ⟨ρ, h, R, y, ρ', h', e1, fun v H1 R1 r1 S1 P1 => ?_⟩
    have k' : FrK C σ ρ' H1 c ρ' h' Q := fun a' H' n R' bx S' P' => k a' H' (S1.there a' n) R' bx (S1.trans S') (P1.trans P')
    show rBi2 X.K b [v] H1 Q
    rw [← hK]
    refine bi2_core (rd_ok R1 r1 g1) g2 (fun z ec o1 o2 => ?_) (fun ds vs p' ec r n => by subst ec; exact k'.laidL R1 r n) fun ks ds kvs p' ec ek r n => by subst ec; exact k'.laidD R1 ek r n
    subst ec
    cases b with
    | repr => exact absurd rfl hb
    | sorted =>
      exfalso
      cases a <;> first | (cases g2; done) | skip
      · have g2 : sortTD _ = some (D.str z) := g2
        unfold sortTD at g2
        split at g2 <;> cases g2
      · have g2 : sortD _ = some (D.str z) := g2
        unfold sortD at g2
        split at g2 <;> cases g2
    | dict =>
      exfalso
      cases a <;> first | (cases g2; done) | skip
      rename_i xs
      have g2 : (pairsD xs).map dictD = some (D.str z) := g2
      cases ep : pairsD xs with
      | none => rw [ep] at g2; cases g2
      | some ps => rw [ep] at g2; cases g2
  have hcl := call_bi2 hc hgd hu b
  cases b with
  | sorted => exact fin rfl (pe_callB hcl hg hm hv pa d3 d1 (star_cons hs) rfl)
  | repr => exact absurd rfl hb
  | dict => exact fin rfl (pe_callTy hcl hg hm hv pa d3 d1 (star_cons hs) rfl)
/-! ### backwards -/
theorem RepDs.rev {K : PySem.W.Frag} {A : Addr → Prop} : ∀ {ds : List D} {vs : List V}, RepDs K H A ds vs → RepDs K H A ds.reverse vs.reverse
  | [], _, r => by cases (show _ = [] from r); rfl
  | d :: ds, _, r => by
    obtain ⟨v, t, e, r1, r2⟩ := r
    subst e
    rw [List.reverse_cons, List.reverse_cons]
    exact r2.rev.app (RepDs.one r1)
theorem p_rev {e : Expr} {k : Nat} {p1 p2 p3 : Pos} {m : M Val} (hK : C.K = X.K) (ha : PE X e (tE C m)) : PE X (.Subscript e (.Slice none none (some (.UnaryOp .USub (.Constant (.int 1) k p1) p2)) p3) pos) (tE C (m.bind fun y => lift1 revD y)) := by
  refine (pe_revX ha).weakE fun σ H Q q => ?_
  refine q.one fun x v ρ h H1 R rx q1 => ?_
  obtain ⟨w0, ρ0, h0, e0⟩ := q1.get
  obtain ⟨a, c, e1, e2, e3, e4, e5⟩ := lift1_ok e0
  subst e3; subst e4; subst e5
  have ra := rd_ok R rx e1
  cases a <;> first | (cases e2; done) | skip
  · cases (Option.some.inj e2)
    obtain ⟨p, vs, ev, s, rs⟩ := ra.tup
    exact ⟨p, vs, ev, .inr ⟨hK ▸ s, fun t n => q1.newT R e0 rs.rev n⟩⟩
  · cases (Option.some.inj e2)
    obtain ⟨p, vs, ev, _, s, rs⟩ := ra.lst
    exact ⟨p, vs, ev, .inl ⟨hK ▸ s, fun t n => q1.newL R e0 rs.rev n⟩⟩
/-! ### dict(zip(a, b)) -/
theorem RdD.seq {K : PySem.W.Frag} {A : Addr → Prop} {a : D} {v : V} {xs : List D} (r : RdD K H A a v) (e : seqD a = some xs) : ∃ vs, SeqV K H v vs ∧ RepDs K H A xs vs := by
  cases a <;> first | (cases e; done) | skip
  · cases (Option.some.inj e)
    obtain ⟨p, vs, ev, s, rs⟩ := r.tup
    exact ⟨vs, ⟨p, ev, .inr s⟩, rs⟩
  · cases (Option.some.inj e)
    obtain ⟨p, vs, ev, _, s, rs⟩ := r.lst
    exact ⟨vs, ⟨p, ev, .inl s⟩, rs⟩
theorem zip_reps {K : PySem.W.Frag} {A : Addr → Prop} : ∀ (ks : List Key) {ys : List D} {us : List V}, RepDs K H A ys us → RepDs K H A ((ks.zip ys).map (·.2)) ((ks.zip us).map (·.2)) ∧ (ks.zip us).map (·.1) = (ks.zip ys).map (·.1)
  | [], _, _, _ => ⟨rfl, rfl⟩
  | k :: ks, [], _, r => by cases (show _ = [] from r); exact ⟨rfl, rfl⟩
  | k :: ks, y :: ys, _, r => by
    obtain ⟨v, t, e, r1, r2⟩ := r
    subst e
    obtain ⟨q1, q2⟩ := zip_reps ks r2
    exact ⟨⟨_, _, rfl, r1, q1⟩, by rw [List.zip_cons_cons, List.zip_cons_cons, List.map_cons, List.map_cons, q2]⟩
theorem dzip_core {a b c : D} {v u : V} {Q : VK} (ra : RdD C.K H (Av C σ ρ) a v) (rb : RdD C.K H (Av C σ ρ) b u) (e : dzipD a b = some c)
    (qd : ∀ ks ds kvs p, c = .dic ks ds → kvs.map (·.1) = ks → RepDs C.K H (Av C σ ρ) ds (kvs.map (·.2)) → H p = none → Q (.ref p) (upd H p (.dK kvs))) :
    ∃ (x y : V) (ks : List Key) (ys : List V), [v, u] = [x, y] ∧ SeqV C.K H x (ks.map kV) ∧ SeqV C.K H y ys ∧ ∀ p, H p = none → Q (.ref p) (upd H p (.dK (mergeK [] (ks.zip ys)))) := by
  unfold dzipD at e
  cases e1 : seqD a with
  | none => rw [e1] at e; cases e
  | some xs =>
    cases e2 : seqD b with
    | none => rw [e1, e2] at e; cases e
    | some ys =>
      rw [e1, e2] at e
      have e : (keyDs xs).map (fun ks => dictD (ks.zip ys)) = some c := e
      cases ek : keyDs xs with
      | none => rw [ek] at e; cases e
      | some ks =>
        rw [ek] at e
        obtain ⟨vs, s1, r1⟩ := ra.seq e1
        obtain ⟨us, s2, r2⟩ := rb.seq e2
        have ev := keyDs_ok r1 ek
        subst ev
        obtain ⟨z1, z2⟩ := zip_reps ks r2
        obtain ⟨d1, d2⟩ := dict_data z2 z1
        exact ⟨v, u, ks, us, rfl, s1, s2, fun p n => qd _ _ _ p (Option.some.inj e).symm d1 d2 n⟩
theorem p_dzip {a b : Expr} {p p2 q : Pos} {ma mb : M Val} (hK : C.K = X.K) (hc : X.calm = true) (hg : Gl X "dict") (hm : X.mg "dict" = none) (hg2 : Gl X "zip") (hm2 : X.mg "zip" = none) (hs : notStar a = true) (hs2 : notStar b = true) (ha : PE X a (tE C ma)) (hb : PE X b (tE C mb)) :
    PE X (.Call (.Name "dict" p) [.Call (.Name "zip" p2) [a, b] [] q] [] pos) (tE C (ma.bind fun x => mb.bind fun y => lift2 dzipD x y)) := by
  refine (pe_dzip hg hm hg2 hm2 (pa_cons ha (pa_cons hb pa_nil (star_cons hs2)) (star_cons hs)) hc (star_cons hs) (by rw [star_cons hs2]; rfl)).weakE fun σ H Q q => ?_
  refine q.two fun x y v u ρ h H2 R rx ry q1 => ?_
  obtain ⟨w0, ρ0, h0, e0⟩ := q1.get
  obtain ⟨a, b, c, e1, e2, e3, e4, e5, e6⟩ := lift2_ok e0
  subst e4; subst e5; subst e6
  exact hK ▸ dzip_core (rd_ok R rx e1) (rd_ok R ry e2) e3 fun ks ds kvs p ec ek r n => by subst ec; exact q1.newDK R e0 ek r n
theorem f_dzip {a b : Expr} {p p2 q : Pos} {ma mb : M Val} (hK : C.K = X.K) (hc : X.calm = true) (hg : Gl X "dict") (hm : X.mg "dict" = none) (hg2 : Gl X "zip") (hm2 : X.mg "zip" = none) (hs : notStar a = true) (hs2 : notStar b = true) (ha : PE X a (tE C ma)) (hb : PE X b (tE C mb)) :
    PE X (.Call (.Name "dict" p) [.Call (.Name "zip" p2) [a, b] [] q] [] pos) (tFr C (ma.bind fun x => mb.bind fun y => lift2 dzipD x y)) := by
  refine (pe_dzip hg hm hg2 hm2 (pa_cons ha (pa_cons hb pa_nil (star_cons hs2)) (star_cons hs)) hc (star_cons hs) (by rw [star_cons hs2]; rfl)).weakE fun σ H Q q => ?_
  refine q.two fun x y v u ρ1 h1 H2 c ρ' h' R rx ry ee k => ?_
  obtain ⟨a, b, c', e1, e2, e3, e4, e5, e6⟩ := lift2_ok ee
  injection e4 with e4
  subst e4; subst e5; subst e6
  exact hK ▸ dzip_core (rd_ok R rx e1) (rd_ok R ry e2) e3 fun ks ds kvs p ec ek r n => by subst ec; exact k.laidD R ek r n
end
end EV

set_option maxRecDepth 100000
set_option maxHeartbeats 4000000
/-! EvN0: contexts, targets. -/
namespace EV
open PySem PySem.Spec PyProof.Rows L2

/-- the place of the proof: program, world, what the top left -/
structure Wd where
  P : Program
  w : World
  K : PySem.W.Frag
  mg : Str → Option Value
  base : Heap
  fr : Nat → List Nat
  fns : List Str
  T : List NdefX.NTab
  code : Nat → NFd → Prop
/-- a constant of the module -/
def ConR (K : PySem.W.Frag) (d : D) (v : V) : Prop := match d with
  | .tup xs => ∃ a vs, v = .ref a ∧ KTup K a vs ∧ ∀ H A, RepDs K H A xs vs
  | d => ∀ H A, RepD K H A d v
/-- what the module's names are: constants, math.gcd -/
def ConOk (K : PySem.W.Frag) (mg : Str → Option Value) (I : Inf) : Prop := (∀ x d, I.con.lookup x = some d → ∃ u v, mg x = some u ∧ RelV v u ∧ ConR K d v) ∧ ∀ x ∈ I.bf, mg x = some (.builtin "math.gcd")
/-- room, and no repr under way -/
structure Rm (k : Nat) (A : Around) : Prop extends Room k A where
  gd : A.guards = some []
theorem Rm.deeper {k : Nat} {A : Around} (r : Rm (k + 1) A) (env : Env) : Rm k (A.deeper env) := ⟨r.toRoom.deeper env, r.gd⟩
structure XOk (Z : Wd) (lv : Nat) (I : Inf) (X : Cx) (C : Ct) : Prop where
  P : X.prog = Z.P
  w : X.w = Z.w
  XK : X.K = Z.K
  mg : X.mg = Z.mg
  base : X.base = Z.base
  N : X.N = I.N
  nd : I.N.Nodup
  sc : X.env.scope = I.sc
  calm : X.calm = true
  K : C.K = X.K
  fn : I.blk = false → ∀ x, X.fn x = true
  fc : ∀ x, I.cel x = true → X.fn x = true
  pas : PassesOwn (model X.prog X.w) X.A X.env X.xe
  room : Rm lv X.A
  free : ∀ x ∈ I.free, Z.mg x = none
  con : ConOk Z.K Z.mg I
  fns : I.fns = Z.fns
  T : C.T = Z.T
  cd : C.code = Z.code
  lnk : C.blk = false → C.s0 = X.s_0.heap ∧ C.H0 = X.H_0 ∧ (∀ a ∈ X.fs, C.nb a) ∧ X.ex = [] ∧ C.cells = X.env.cells ∧ ∀ c n, C.mds c n → (∀ x, X.fn x = true) ∧ NdefX.ndefB X.env.scope n.scope n.fr = true ∧ (Z.fr c).map (fun j => X.N[j]?) = n.fr.map some
/-- calls of the module's functions -/
structure CallOk (Z : Wd) (lv : Nat) (G : Gv) : Prop where
  call : ∀ I X C, XOk Z lv I X C → ∀ (f : Nat) (x : Str) (es : List Expr) (p pos : Pos) (m : M (List Val)), fnIs I f x = true → es.all notStar = true → PA X es (tA C m) → PE X (.Call (.Name x p) es [] pos) (tE C (m.bind fun xs => callM G f xs))
  fresh : ∀ I X C, XOk Z lv I X C → ∀ (f : Nat) (x : Str) (es : List Expr) (p pos : Pos) (m : M (List Val)), fnIs I f x = true → es.all notStar = true → PA X es (tA C m) → PE X (.Call (.Name x p) es [] pos) (tFr C (m.bind fun xs => callO G f xs))
  callb : ∀ I X C, XOk Z lv I X C → ∀ (f : Nat) (x : Str) (e : Expr) (p pos : Pos) (m : M Val), fnIs I f x = true → notStar e = true → PE X e (tFr C m) → (∀ ρ h w ρ' h', m ρ h = .ok w ρ' h' → ∃ b, w = .d b) → PE X (.Call (.Name x p) [e] [] pos) (tE C (m.bind fun y => callbM G f y))
  callk : ∀ I X C, XOk Z lv I X C → ∀ (f : Nat) (x : Str) (es : List Expr) (ks : List Str) (kws : List Keyword) (p pos : Pos) (m mk : M (List Val)), fnIs I f x = true → es.all notStar = true → PA X es (tA C m) → PK X kws (tA C mk) → kws.map (·.arg) = ks.map some →
    PE X (.Call (.Name x p) es kws pos) (tE C (m.bind fun xs => mk.bind fun vs => callkM G f xs ks vs))
  calln : ∀ I X C, XOk Z lv I X C → I.blk = false → ∀ (i : Nat) (x : Str) (es : List Expr) (p pos : Pos) (m : M (List Val)), nameIs I i x = true → es.all notStar = true → PA X es (tA C m) → PE X (.Call (.Name x p) es [] pos) (tE C ((nameM i).bind fun w => m.bind fun xs => callnM G w xs))
section
variable {Z : Wd} {lv : Nat} {I : Inf} {X : Cx} {C : Ct}
theorem XOk.units (o : XOk Z lv I X C) : X.A.units + 64 < cLine := o.room.units
theorem XOk.gl (o : XOk Z lv I X C) {x : Str} (h : glB I.sc x = true) : Gl X x := by
  show X.env.scope.names.lookup x = _
  rw [o.sc]
  exact glB_ok h
theorem XOk.block (o : XOk Z lv I X C) (d : Addr) (s : Shared) (H : Hp) (scope : Scope) (cl : List (Str × Addr)) (c : Addr) (fp : List Addr) : XOk Z lv (blkInf I scope) (X.blk s H scope (compEnvC scope cl c X.env) fp) (C.inB d) :=
  ⟨o.P, o.w, o.XK, o.mg, o.base, o.N, o.nd, by show relS scope X.env.scope = relS scope I.sc; rw [o.sc], o.calm, o.K, fun z => (by cases z), fun x z => z, .never, o.room, o.free, o.con, o.fns, o.T, o.cd, fun z => (by cases z)⟩
theorem nameIs_ok {i : Nat} {x : Str} (h : nameIs I i x = true) : I.N[i]? = some x ∧ visB I.sc x = true ∧ noDunder x = true := by
  unfold nameIs at h
  simp only [Bool.and_eq_true, decide_eq_true_eq] at h
  exact ⟨h.1, h.2.1, h.2.2⟩
theorem freeIs_ok {x : Str} (h : freeIs I x = true) : glB I.sc x = true ∧ x ∈ I.free ∧ noDunder x = true := by
  unfold freeIs at h
  simp only [Bool.and_eq_true, decide_eq_true_eq] at h
  exact ⟨h.1, h.2.1, h.2.2⟩
theorem lookup_some {α : Type} {x : Str} : ∀ {l : List (Str × α)}, x ∈ l.map (·.1) → ∃ d, l.lookup x = some d
  | [], h => by cases h
  | (y, d) :: r, h => by
    by_cases e : x = y
    · subst e; exact ⟨d, by simp [List.lookup]⟩
    · obtain ⟨d', hd⟩ := lookup_some (l := r) ((List.mem_cons.mp h).resolve_left e)
      refine ⟨d', ?_⟩
      have : (x == y) = false := beq_eq_false_iff_ne.mpr e
      simp [List.lookup, this, hd]
theorem p_g {x : Str} {p : Pos} {G : Gv} (o : XOk Z lv I X C) (hG : ∀ x, G.con x = I.con.lookup x) (h1 : glB I.sc x = true) (h2 : noDunder x = true) (h3 : x ∈ I.con.map (·.1)) : PE X (.Name x p) (tE C (match G.con x with
    | some (.tup xs) => M.ret (.kon xs)
    | some d => M.ret (.d d)
    | none => M.fail)) := by
  obtain ⟨d, hd⟩ := lookup_some h3
  obtain ⟨u, v, hm, r, cr⟩ := o.con.1 x d hd
  rw [hG, hd]
  refine (pe_glob (o.gl h1) (by rw [o.mg]; exact hm) r (noDunder_ok h2).1).weakE fun σ H Q q => ?_
  have hK : C.K = Z.K := o.K.trans o.XK
  cases d with
  | tup xs => exact q.ret fun ρ => by obtain ⟨a, vs, e1, e2, e3⟩ := cr; exact ⟨a, vs, e1, by rw [hK]; exact e2, by rw [hK]; exact e3 H _⟩
  | non => exact q.ret fun ρ => by show RepD C.K _ _ _ _; rw [hK]; exact cr H _
  | bl b => exact q.ret fun ρ => by show RepD C.K _ _ _ _; rw [hK]; exact cr H _
  | int i => exact q.ret fun ρ => by show RepD C.K _ _ _ _; rw [hK]; exact cr H _
  | str z => exact q.ret fun ρ => by show RepD C.K _ _ _ _; rw [hK]; exact cr H _
  | lst xs => exact q.ret fun ρ => by show RepD C.K _ _ _ _; rw [hK]; exact cr H _
  | dic ks ds => exact q.ret fun ρ => by show RepD C.K _ _ _ _; rw [hK]; exact cr H _
  | dit ks ds => exact q.ret fun ρ => by show RepD C.K _ _ _ _; rw [hK]; exact cr H _
end
theorem allStar {I : Inf} : ∀ {es : List Ex} {es' : List Expr}, mEs I es es' = true → es'.all notStar = true ∧ es.length = es'.length
  | [], [], _ => ⟨rfl, rfl⟩
  | e :: es, e' :: es', h => by
    have h : (notStar e' && (mE I e e' && mEs I es es')) = true := h
    simp only [Bool.and_eq_true] at h
    obtain ⟨a, b⟩ := allStar h.2.2
    exact ⟨by rw [List.all_cons, h.1, a]; rfl, by rw [List.length_cons, List.length_cons, b]⟩
  | [], _ :: _, h => by cases h
  | _ :: _, [], h => by cases h
theorem allStarG {I : Inf} : ∀ {es : List Tg} {es' : List Expr}, mGs I es es' = true → es'.all notStar = true ∧ es.length = es'.length
  | [], [], _ => ⟨rfl, rfl⟩
  | e :: es, e' :: es', h => by
    have h : (notStar e' && (mG I e e' && mGs I es es')) = true := h
    simp only [Bool.and_eq_true] at h
    obtain ⟨a, b⟩ := allStarG h.2.2
    exact ⟨by rw [List.all_cons, h.1, a]; rfl, by rw [List.length_cons, List.length_cons, b]⟩
  | [], _ :: _, h => by cases h
  | _ :: _, [], h => by cases h
theorem asgs_len {G : Gv} : ∀ {ts : List Tg} {ds : List D} {ρ ρ' : Ev} {h h' : Hh}, asgs G ts ds ρ h = .ok () ρ' h' → ds.length = ts.length
  | [], [], _, _, _, _, _ => rfl
  | t :: ts, d :: ds, ρ, ρ', h, h', e => by
    obtain ⟨_, ρ1, h1, _, e2⟩ := M.bind_ok (show ((asg G t (.d d)).bind fun _ => asgs G ts ds) ρ h = .ok () ρ' h' from e)
    rw [List.length_cons, List.length_cons, asgs_len e2]
  | [], _ :: _, _, _, _, _, e => by cases e
  | _ :: _, [], _, _, _, _, e => by cases e
mutual
theorem inNs_ok {vs : List Nat} : ∀ (t : Tg), inNs vs t = true → ∀ j ∈ tix t, j ∈ vs
  | .nm i, h, j, hj => by
    cases (List.mem_singleton.mp (show j ∈ [i] from hj))
    exact List.contains_iff_mem.mp (show vs.contains i = true from h)
  | .tp ts, h, j, hj => inNss_ok ts h j hj
  | .sub _ _, h, _, _ => by cases h
theorem inNss_ok {vs : List Nat} : ∀ (ts : List Tg), inNs.inNss vs ts = true → ∀ j ∈ tixs ts, j ∈ vs
  | [], _, j, hj => by cases (show j ∈ ([] : List Nat) from hj)
  | t :: ts, h, j, hj => by
    have h : (inNs vs t && inNs.inNss vs ts) = true := h
    rw [Bool.and_eq_true] at h
    rcases List.mem_append.mp (show j ∈ tix t ++ tixs ts from hj) with z | z
    · exact inNs_ok t h.1 j z
    · exact inNss_ok ts h.2 j z
end
theorem mKs_names {I : Inf} : ∀ {ks : List Str} {es : List Ex} {kws : List Keyword}, mKs I ks es kws = true → kws.map (·.arg) = ks.map some
  | [], [], [], _ => rfl
  | k :: ks, e :: es, ⟨some k', e', p⟩ :: kws, h => by
    have h : (decide (k = k') && (mE I e e' && mKs I ks es kws)) = true := h
    simp only [Bool.and_eq_true, decide_eq_true_eq] at h
    rw [List.map_cons, List.map_cons, mKs_names h.2.2, h.1]
  | [], [], _ :: _, h => by cases h
  | [], _ :: _, _, h => by cases h
  | _ :: _, [], _, h => by cases h
  | _ :: _, _ :: _, [], h => by cases h
  | _ :: _, _ :: _, ⟨none, _, _⟩ :: _, h => by cases h
/-! ### targets: names and tuples of these -/
mutual
theorem sG {Z : Wd} {lv : Nat} {G : Gv} : ∀ (t : Tg) (I : Inf) (X : Cx) (C : Ct), XOk Z lv I X C → ∀ t' : Expr, mG I t t' = true → PG X t' (tG C (tix t) (asg G t))
  | .nm i, I, X, C, o, t', h => by
    cases t' <;> first | (cases h; done) | skip
    rename_i x p
    have h : (decide (I.N[i]? = some x) && locB I.blk I.cel I.sc x) = true := h
    rw [Bool.and_eq_true, decide_eq_true_eq] at h
    obtain ⟨h1, h2⟩ := h
    obtain ⟨h3, h4⟩ := locB_ok h2
    refine g_nm (by rw [o.N]; exact o.nd) (by rw [o.N]; exact h1) (by rw [o.sc]; exact h3) ?_
    cases hb : I.blk with
    | true =>
      rcases h4 hb with z | z
      · right; rw [o.sc]; exact z
      · left; exact o.fc x z
    | false => left; exact o.fn hb x
  | .tp ts, I, X, C, o, t', h => by
    cases t' <;> first | (cases h; done) | skip
    rename_i ts' k p
    have h : mGs I ts ts' = true := h
    obtain ⟨a1, a2⟩ := allStarG h
    exact g_tp o.K o.calm a1 a2.symm (fun ds ρ h ρ' h' e => asgs_len e) (sGs ts I X C o ts' h)
  | .sub a b, I, X, C, o, t', h => by cases t' <;> cases h
theorem sGs {Z : Wd} {lv : Nat} {G : Gv} : ∀ (ts : List Tg) (I : Inf) (X : Cx) (C : Ct), XOk Z lv I X C → ∀ ts' : List Expr, mGs I ts ts' = true → PGs X ts' (tGs C (tixs ts) (asgs G ts))
  | [], I, X, C, o, ts', h => by
    cases ts' with
    | nil =>
      refine (gs_nil (X := X) (C := C)).weakE fun v σ H Q q => ?_
      obtain ⟨ρ, h, ws, ρ', h', R, r, e, k⟩ := q
      refine ⟨ρ, h, ws, ρ', h', R, r, ?_, k⟩
      cases ws with
      | nil => exact e
      | cons _ _ => cases e
    | cons _ _ => cases h
  | t :: ts, I, X, C, o, ts', h => by
    cases ts' with
    | nil => cases h
    | cons t' ts' =>
      have h : (notStar t' && (mG I t t' && mGs I ts ts')) = true := h
      simp only [Bool.and_eq_true] at h
      refine (gs_cons h.1 (sG (G := G) t I X C o t' h.2.1) (sGs (G := G) ts I X C o ts' h.2.2)).weakE fun v σ H Q q => ?_
      obtain ⟨ρ, h, ws, ρ', h', R, r, e, k⟩ := q
      refine ⟨ρ, h, ws, ρ', h', R, r, ?_, k⟩
      cases ws with
      | nil => cases e
      | cons _ _ => exact e
end
theorem denF_data {G : Gv} : ∀ (e : Ex) (ρ : Ev) (h : Hh) (w : Val) (ρ' : Ev) (h' : Hh), denF G e ρ h = .ok w ρ' h' → ∃ b, w = .d b
  | .call f es, ρ, h, w, ρ', h', e => by
    obtain ⟨xs, ρ1, h1, e1, e2⟩ := M.bind_ok (show ((dens G es).bind fun xs => callO G f xs) ρ h = .ok w ρ' h' from e)
    unfold callO at e2
    cases hh : hands G ρ1 xs with
    | none => rw [hh] at e2; cases e2
    | some ys =>
      rw [hh] at e2
      have e2 : backO (G.call f ys h1) ρ1 h1 = .ok w ρ' h' := e2
      unfold backO at e2
      split at e2
      · split at e2
        · injection e2 with z; exact ⟨_, z.symm⟩
        · cases e2
      · cases e2
  | .lst es, ρ, h, w, ρ', h', e => by
    obtain ⟨xs, ρ1, h1, e1, e2⟩ := M.bind_ok (show ((dens G es).bind fun xs => lstM xs) ρ h = .ok w ρ' h' from e)
    unfold lstM at e2
    cases hp : plains xs with
    | none => simp only [hp] at e2; cases e2
    | some ds =>
      simp only [hp] at e2
      by_cases hl : ds.length ≤ sizeLine
      · rw [if_pos hl] at e2
        injection e2 with z
        exact ⟨_, z.symm⟩
      · rw [if_neg hl] at e2; cases e2
  | .dnew tk, ρ, h, w, ρ', h', e => by
    injection (show M.ret (Val.d (if tk = true then D.dit [] [] else .dic [] [])) ρ h = .ok w ρ' h' from e) with z
    exact ⟨_, z.symm⟩
  | .lc elt tg it ifs vs, ρ, h, w, ρ', h', e => lc_data (show ((denI G it).bind fun xs => lcM vs (asg G tg) (denTs G ifs) (den G elt) xs) ρ h = .ok w ρ' h' from e)
  | .dc k e0 tg it ifs vs tk, ρ, h, w, ρ', h', e => by
    obtain ⟨xs, ρ1, h1, e1, e2⟩ := M.bind_ok (show ((denI G it).bind fun xs => dcM vs (asg G tg) (denTs G ifs) (den G k) (den G e0) xs) ρ h = .ok w ρ' h' from e)
    unfold dcM at e2
    split at e2
    · split at e2
      · injection e2 with z; exact ⟨_, z.symm⟩
      · cases e2
    · cases e2
  | .bi b es, ρ, h, w, ρ', h', e => by
    obtain ⟨xs, ρ1, h1, e1, e2⟩ := M.bind_ok (show ((dens G es).bind fun xs => (match b with
    | .list => biM .list xs
    | _ => M.fail)) ρ h = .ok w ρ' h' from e)
    cases b <;> first | (cases e2; done) | skip
    have e2 : (match rds ρ1 h1 xs with
      | some ds => (match biD .list ds with
        | some c => Out.ok (Val.d c) ρ1 h1
        | none => .bad)
      | none => .bad) = .ok w ρ' h' := e2
    cases hd : rds ρ1 h1 xs with
    | none => rw [hd] at e2; cases e2
    | some ds =>
      simp only [hd] at e2
      cases hb : biD .list ds with
      | none => simp only [hb] at e2; cases e2
      | some c =>
        simp only [hb] at e2
        injection e2 with z
        exact ⟨_, z.symm⟩
  | .bin op a b, ρ, h, w, ρ', h', e => by
    obtain ⟨x, ρ1, h1, e1, e2⟩ := M.bind_ok (show ((denF G a).bind fun x => (den G b).bind fun y => (match op with
    | .Mult => repM x y
    | _ => M.fail)) ρ h = .ok w ρ' h' from e)
    obtain ⟨y, ρ2, h2, e3, e4⟩ := M.bind_ok e2
    cases op <;> first | (cases e4; done) | skip
    obtain ⟨_, e4⟩ := repM_ok (show repM x y ρ2 h2 = .ok w ρ' h' from e4)
    obtain ⟨_, _, c, _, _, _, z, _⟩ := binM_ok e4
    exact ⟨c, z⟩
  | .bi2 b e0, ρ, h, w, ρ', h', e => by
    obtain ⟨x, ρ1, h1, e1, e2⟩ := M.bind_ok (show ((den G e0).bind fun x => (match b with
    | .repr => M.fail
    | b => lift1 (bi2D b) x)) ρ h = .ok w ρ' h' from e)
    cases b with
    | repr => cases e2
    | sorted => obtain ⟨_, c, _, _, z, _⟩ := lift1_ok (show lift1 (bi2D .sorted) x ρ1 h1 = .ok w ρ' h' from e2); exact ⟨c, z⟩
    | dict => obtain ⟨_, c, _, _, z, _⟩ := lift1_ok (show lift1 (bi2D .dict) x ρ1 h1 = .ok w ρ' h' from e2); exact ⟨c, z⟩
  | .dzip a b, ρ, h, w, ρ', h', e => by
    obtain ⟨x, ρ1, h1, e1, e2⟩ := M.bind_ok (show ((den G a).bind fun x => (den G b).bind fun y => lift2 dzipD x y) ρ h = .ok w ρ' h' from e)
    obtain ⟨y, ρ2, h2, e3, e4⟩ := M.bind_ok e2
    obtain ⟨_, _, c, _, _, _, z, _⟩ := lift2_ok e4
    exact ⟨c, z⟩
  | .rev _, _, _, _, _, _, e => by cases e
  | .o1 _ _, _, _, _, _, _, e => by cases e
  | .o2 _ _ _, _, _, _, _, _, e => by cases e
  | .ext _ _, _, _, _, _, _, e => by cases e
  | .non, _, _, _, _, _, e | .bl _, _, _, _, _, _, e | .int _, _, _, _, _, _, e | .str _, _, _, _, _, _, e | .v _, _, _, _, _, _, e | .g _, _, _, _, _, _, e | .neg _, _, _, _, _, _, e | .cmp _ _ _, _, _, _, _, _, e
  | .ch _ _ _ _ _, _, _, _, _, _, e | .bop _ _, _, _, _, _, _, e | .not _, _, _, _, _, _, e | .ife _ _ _, _, _, _, _, _, e | .tup _, _, _, _, _, _, e | .ix _ _, _, _, _, _, _, e | .sl _ _ _, _, _, _, _, _, e | .callb _ _, _, _, _, _, _, e
  | .callk _ _ _ _, _, _, _, _, _, e | .calln _ _, _, _, _, _, _, e | .isi _ _, _, _, _, _, _, e | .app _ _, _, _, _, _, _, e | .popAt _ _, _, _, _, _, _, e | .get2 _ _ _, _, _, _, _, _, e
  | .get _ _, _, _, _, _, _, e => by cases e
end EV

set_option maxRecDepth 100000
set_option maxHeartbeats 4000000
/-! EvQ4: the further operations as expressions. -/
namespace EV
open PySem PySem.Spec PyProof.Rows L2

section
variable {C : Ct} {σ : L2.St} {H : Hp} {ρ : Ev} {h : Hh} {X : Cx} {pos : Pos}
theorem callN_ok {e : Expr} {x : Str} {es : List Expr} (h : callN e = some (x, es)) : ∃ p pos, e = .Call (.Name x p) es [] pos := by
  unfold callN at h
  split at h
  · cases h; exact ⟨_, _, rfl⟩
  · cases h
theorem list2_ok {m : Str} {e a b : Expr} (h : list2 m e = some (a, b)) : (∃ p p2 q pos, e = .Call (.Name "list" p) [.Call (.Name m p2) [a, b] [] q] [] pos) ∧ notStar a = true ∧ notStar b = true := by
  unfold list2 at h
  split at h
  · rename_i x z e1
    split at h
    · rename_i y a' b' e2
      split at h
      · rename_i c
        simp only [Bool.and_eq_true, decide_eq_true_eq] at c
        cases h
        obtain ⟨p, pos, e1⟩ := callN_ok e1
        obtain ⟨p2, q, e2⟩ := callN_ok e2
        obtain ⟨c1, c2, c3, c4⟩ := c
        subst c1; subst c2; subst e2
        exact ⟨⟨p, p2, q, pos, e1⟩, c3, c4⟩
      · cases h
    · cases h
  · cases h
theorem meth1_ok {m : Str} {e o a : Expr} (h : meth1 m e = some (o, a)) : (∃ apos cpos, e = .Call (.Attribute o m apos) [a] [] cpos ∧ (apos.endLine == cpos.line) = true) ∧ baseB o = true ∧ notStar a = true := by
  unfold meth1 at h
  split at h
  · split at h
    · rename_i c
      simp only [Bool.and_eq_true, decide_eq_true_eq] at c
      cases h
      obtain ⟨c1, c2, c3, c4⟩ := c
      subst c1
      exact ⟨⟨_, _, rfl, c3⟩, c2, c4⟩
    · cases h
  · cases h
theorem reps_ints {K : PySem.W.Frag} {A : Addr → Prop} : ∀ (ns : List Int), RepDs K H A (ns.map .int) (ns.map V.int)
  | [] => rfl
  | n :: ns => ⟨_, _, rfl, rfl, reps_ints ns⟩
theorem upV_ints {lo : Int} {n : Nat} : upV lo n = ((List.range n).map fun (k : Nat) => lo + (k : Int)).map V.int := by unfold upV; rw [List.map_map]; rfl
theorem rngD_ok {lo hi : Int} {c : D} (e : rngD lo hi = some c) : (-(2 ^ 62) ≤ lo ∧ lo < 2 ^ 62 ∧ -(2 ^ 62) ≤ hi ∧ hi < 2 ^ 62) ∧ (hi - lo).toNat ≤ 2 ^ 24 ∧ c = .lst (((List.range (hi - lo).toNat).map fun (k : Nat) => lo + (k : Int)).map .int) := by
  unfold rngD at e
  split at e
  · rename_i g
    exact ⟨g.1, g.2, (Option.some.inj e).symm⟩
  · cases e
theorem p_o1 {Z : Wd} {lv : Nat} {I : Inf} {o : O1} {e' a' : Expr} {m : M Val} (ok : XOk Z lv I X C) (h1 : sh1 o e' = some a') (h2 : ok1 I o = true) (ha : PE X a' (tE C m)) : PE X e' (tE C (m.bind fun x => lift1 (o1D o) x)) := by
  cases o with
  | rng =>
    unfold sh1 at h1
    simp only at h1
    split at h1
    · rename_i x z e1
      split at h1
      · rename_i y a e2
        split at h1
        · rename_i c
          simp only [Bool.and_eq_true, decide_eq_true_eq] at c
          cases h1
          obtain ⟨p, pos, e1⟩ := callN_ok e1
          obtain ⟨p2, q, e2⟩ := callN_ok e2
          obtain ⟨c1, c2, c3⟩ := c
          subst c1; subst c2; subst e2; subst e1
          have h2 : (freeIs I "list" && freeIs I "range") = true := h2
          rw [Bool.and_eq_true] at h2
          obtain ⟨f1, f2, _⟩ := freeIs_ok h2.1
          obtain ⟨g1, g2, _⟩ := freeIs_ok h2.2
          refine (pe_listR1 ok.calm (ok.gl f1) (by rw [ok.mg]; exact ok.free _ f2) (ok.gl g1) (by rw [ok.mg]; exact ok.free _ g2) (pa_cons ha pa_nil (star_cons c3)) (star_cons c3)).weakE fun σ H Q q => ?_
          refine q.one fun x v ρ h H1 R rx q1 => ?_
          obtain ⟨w0, ρ0, h0, e0⟩ := q1.get
          obtain ⟨a, c, e1, e2, e3, e4, e5⟩ := lift1_ok e0
          subst e3; subst e4; subst e5
          have ra := rd_ok R rx e1
          cases a <;> first | (cases e2; done) | skip
          rename_i j
          obtain ⟨b1, b2, ec⟩ := rngD_ok (show rngD 0 j = some c from e2)
          subst ec
          refine ⟨j, by rw [show v = _ from ra], b1.2.2.1, b1.2.2.2, by simpa using b2, fun p n => ?_⟩
          rw [upV_ints]
          have := q1.newL R e0 (reps_ints _) n
          simpa using this
        · cases h1
      · cases h1
    · cases h1
theorem tE.twoP {ma mb : M Val} {pre : Val → M Unit} {f : Val → Val → M Val} {Q : VK} {T : V → Hp → Prop} {R : V → V → Hp → Prop} (q : tE C (ma.bind fun x => (pre x).bind fun _ => mb.bind fun y => f x y) σ H Q)
    (hp : ∀ x ρ h ρ' h', pre x ρ h = .ok () ρ' h' → ρ' = ρ ∧ h' = h) (hT : ∀ x v ρ h H1, Rel C σ H1 ρ h → RepV C σ ρ H1 x v → pre x ρ h = .ok () ρ h → T v H1)
    (hR : ∀ x y v u ρ h H2, Rel C σ H2 ρ h → RepV C σ ρ H2 x v → RepV C σ ρ H2 y u → tV C (f x y) ρ h σ H2 Q → R v u H2) : tE C ma σ H fun v H1 => T v H1 ∧ tE C mb σ H1 fun u H2 => R v u H2 := by
  refine q.one fun x v ρ1 h1 H1 R1 r1 q1 => ?_
  obtain ⟨w, ρ', h', e, k⟩ := q1
  obtain ⟨u0, ρ0, h0, e0, e9⟩ := M.bind_ok e
  obtain ⟨z1, z2⟩ := hp _ _ _ _ _ e0
  subst z1; subst z2
  obtain ⟨y, ρ2, h2, e1, e2⟩ := M.bind_ok e9
  exact ⟨hT x v ρ0 h0 H1 R1 r1 e0, ρ0, h0, R1, y, ρ2, h2, e1, fun u H2 R2 r2 s2 p2 => hR x y v u ρ2 h2 H2 R2 (r1.stp s2 R1.mu p2) r2 ⟨w, ρ', h', e2, fun v3 H3 R3 r3 s3 p3 => k v3 H3 R3 r3 (s2.trans s3) (p2.trans p3)⟩⟩
theorem preM_same {o : O2} {x : Val} {ρ ρ' : Ev} {h h' : Hh} (e : preM o x ρ h = .ok () ρ' h') : ρ' = ρ ∧ h' = h := by
  unfold preM at e
  split at e
  · split at e
    · injection e with z1 z2 z3; exact ⟨z2.symm, z3.symm⟩
    · cases e
  · split at e
    · injection e with z1 z2 z3; exact ⟨z2.symm, z3.symm⟩
    · cases e
  · split at e
    · injection e with z1 z2 z3; exact ⟨z2.symm, z3.symm⟩
    · cases e
  · injection e with z1 z2 z3; exact ⟨z2.symm, z3.symm⟩
theorem pre_lst {o : O2} {x : Val} {v : V} (ho : o = .index ∨ o = .count) (R : Rel C σ H ρ h) (r : RepV C σ ρ H x v) (e : preM o x ρ h = .ok () ρ h) : tyV C.K "list" v H := by
  have e : (match rd ρ h x with
    | some (.lst _) => Out.ok () ρ h
    | _ => .bad) = .ok () ρ h := by rcases ho with z | z <;> subst z <;> exact e
  cases hr : rd ρ h x with
  | none => rw [hr] at e; cases e
  | some d =>
    rw [hr] at e
    cases d <;> first | (cases e; done) | skip
    obtain ⟨a, vs, ev, _, s, _⟩ := (rd_ok R r hr).lst
    subst ev
    exact .inl ⟨rfl, vs, s⟩
theorem pre_str {x : Val} {v : V} (R : Rel C σ H ρ h) (r : RepV C σ ρ H x v) (e : preM .join x ρ h = .ok () ρ h) : ∃ a, v = .str a := by
  have e : (match rd ρ h x with
    | some (.str _) => Out.ok () ρ h
    | _ => .bad) = .ok () ρ h := e
  cases hr : rd ρ h x with
  | none => rw [hr] at e; cases e
  | some d =>
    rw [hr] at e
    cases d <;> first | (cases e; done) | skip
    obtain ⟨q1, _⟩ := (rd_ok R r hr)
    exact ⟨_, q1⟩
theorem strsD_ok : ∀ {xs : List D} {zs : List Str}, strsD xs = some zs → xs = zs.map .str
  | [], _, e => by cases (Option.some.inj e); rfl
  | d :: xs, zs, e => by
    cases d <;> first | (cases e; done) | skip
    rename_i x
    have e : (strsD xs).map (x :: ·) = some zs := e
    cases h : strsD xs with
    | none => rw [h] at e; cases e
    | some ys =>
      rw [h] at e
      cases (Option.some.inj e)
      rw [strsD_ok h]; rfl
theorem idx_parts {a b c : D} (e : o2D .index a b = some c) : ∃ ds d j, toP a = some (.list ds) ∧ toP b = some d ∧ idxP ds d = some j ∧ c = .int (j : Nat) := by
  have e : (match toP a, toP b with
    | some (.list ds), some d => (idxP ds d).map fun j => D.int (j : Nat)
    | _, _ => none) = some c := e
  split at e
  · rename_i ds d ea eb
    cases hj : idxP ds d with
    | none => rw [hj] at e; cases e
    | some j => rw [hj] at e; exact ⟨ds, d, j, ea, eb, hj, (Option.some.inj e).symm⟩
  · cases e
theorem cnt_parts {a b c : D} (e : o2D .count a b = some c) : ∃ ds d j, toP a = some (.list ds) ∧ toP b = some d ∧ cntP ds d = some j ∧ c = .int (j : Nat) := by
  have e : (match toP a, toP b with
    | some (.list ds), some d => (cntP ds d).map fun j => D.int (j : Nat)
    | _, _ => none) = some c := e
  split at e
  · rename_i ds d ea eb
    cases hj : cntP ds d with
    | none => rw [hj] at e; cases e
    | some j => rw [hj] at e; exact ⟨ds, d, j, ea, eb, hj, (Option.some.inj e).symm⟩
  · cases e
theorem join_parts {a b c : D} (e : o2D .join a b = some c) : ∃ x zs, a = .str x ∧ (seqD b).bind strsD = some zs ∧ ((zs.map (·.length)).sum + zs.length * x.length ≤ 16777216 ∧ PyData.strOk (Txt.join x zs) = true ∧ (Txt.join x zs).length ≤ sizeLine) ∧ c = .str (Txt.join x zs) := by
  unfold o2D at e
  simp only at e
  split at e
  · rename_i x zs hz
    split at e
    · rename_i g
      exact ⟨x, zs, rfl, hz, g, (Option.some.inj e).symm⟩
    · cases e
  · cases e
theorem Rel.laidPs : ∀ (ts : List Addr) (ps : List (V × V)) {H : Hp}, Rel C σ H ρ h → (∀ t ∈ ts, H t = none) → ts.Nodup → Rel C σ (putPs H ts ps) ρ h ∧ Stp C σ ρ H σ ρ (putPs H ts ps)
  | [], _, H, R, _, _ => ⟨R, .refl⟩
  | _ :: _, [], H, R, _, _ => ⟨R, .refl⟩
  | t :: ts, p :: ps, H, R, hn, nd => by
    have nd' := List.nodup_cons.mp nd
    obtain ⟨R1, S1⟩ := R.laid (o := .tup [p.1, p.2]) (hn t List.mem_cons_self) (fun _ z => by cases z)
    obtain ⟨R2, S2⟩ := Rel.laidPs ts ps R1 (fun u hu => by
      rw [upd_ne (fun z => nd'.1 (by rw [← z]; exact hu))]
      exact hn u (List.mem_cons_of_mem _ hu)) nd'.2
    exact ⟨R2, S1.trans S2⟩
theorem zipD_reps {K : PySem.W.Frag} {A : Addr → Prop} : ∀ {xs ys : List D} {vs us : List V} {ts : List Addr}, RepDs K H A xs vs → RepDs K H A ys us → ts.length = (vs.zip us).length → (∀ (j : Nat) (t : Addr) (p : V × V), ts[j]? = some t → (vs.zip us)[j]? = some p → H t = some (.tup [p.1, p.2])) →
    RepDs K H A (zipD xs ys) (ts.map V.ref)
  | [], ys, vs, us, ts, r, _, hl, _ => by
    cases (show vs = [] from r)
    have : ts = [] := List.eq_nil_of_length_eq_zero (by rw [hl]; simp)
    subst this; rfl
  | x :: xs, [], vs, us, ts, _, r, hl, _ => by
    cases (show us = [] from r)
    have : ts = [] := List.eq_nil_of_length_eq_zero (by rw [hl]; simp)
    subst this; rfl
  | x :: xs, y :: ys, vs, us, ts, r, q, hl, ha => by
    obtain ⟨v, vr, e1, r1, r2⟩ := r
    obtain ⟨u, ur, e2, q1, q2⟩ := q
    subst e1; subst e2
    cases ts with
    | nil => cases hl
    | cons t ts =>
      have h0 := ha 0 t (v, u) rfl rfl
      exact ⟨_, _, rfl, ⟨t, [v, u], rfl, h0, _, _, rfl, r1, _, _, rfl, q1, rfl⟩, zipD_reps r2 q2 (Nat.succ.inj hl) fun j t p e1 e2 => ha (j + 1) t p e1 e2⟩
theorem fun2_ok {m : Str} {e a b : Expr} (h : fun2 m e = some (a, b)) : (∃ p pos, e = .Call (.Name m p) [a, b] [] pos) ∧ notStar a = true ∧ notStar b = true := by
  unfold fun2 at h
  split at h
  · rename_i x a' b' e1
    split at h
    · rename_i c
      simp only [Bool.and_eq_true, decide_eq_true_eq] at c
      cases h
      obtain ⟨p, pos, e1⟩ := callN_ok e1
      obtain ⟨c1, c3, c4⟩ := c
      subst c1
      exact ⟨⟨p, pos, e1⟩, c3, c4⟩
    · cases h
  · cases h
theorem p_o2 {Z : Wd} {lv : Nat} {I : Inf} {o : O2} {e' a' b' : Expr} {ma mb : M Val} (ok : XOk Z lv I X C) (h1 : sh2 o e' = some (a', b')) (h2 : ok2 I o = true) (ha : PE X a' (tE C ma)) (hb : PE X b' (tE C mb)) :
    PE X e' (tE C (ma.bind fun x => (preM o x).bind fun _ => mb.bind fun y => lift2 (o2D o) x y)) := by
  have hu := ok.units
  cases o with
  | index =>
    obtain ⟨⟨apos, cpos, e1, hl⟩, hb1, hs⟩ := meth1_ok (show meth1 "index" e' = some (a', b') from h1)
    subst e1
    refine (pe_bm PySem.F.plainAttrs_list PySem.F.slot_list_index PySem.F.type_list_index (mt_indexL hu) ha (pa_cons hb pa_nil (star_cons hs)) (base_of hb1) (m_few hs) hl (star_cons hs) rfl).weakE fun σ H Q q => ?_
    rw [← ok.K]
    refine q.twoP (fun x ρ h ρ' h' e => preM_same e) (fun x v ρ h H1 R r e => pre_lst (.inl rfl) R r e) fun x y v u ρ h H2 R rx ry q1 => ?_
    obtain ⟨w0, ρ0, h0, e0⟩ := q1.get
    obtain ⟨a, b, c, i1, i2, e, e4, e5, e6⟩ := lift2_ok e0
    subst e4; subst e5; subst e6
    obtain ⟨ds, d, j, ea, eb, ej, ec⟩ := idx_parts e
    subst ec
    obtain ⟨da, la⟩ := toP_ok a v _ (rd_ok R rx i1) ea
    obtain ⟨db, lb⟩ := toP_ok b u _ (rd_ok R ry i2) eb
    unfold idxP at ej
    split at ej
    · rename_i g
      obtain ⟨w1, w2, w3⟩ := List.findIdx?_eq_some_iff_getElem.mp ej
      have hv : ∃ p, v = .ref p := by cases da <;> exact ⟨_, rfl⟩
      obtain ⟨p, hp⟩ := hv
      subst hp
      exact ⟨p, u, d, ds, j, ds[j], rfl, rfl, da, db, shaped_of la g.1, shaped_of lb (by omega), g.2, List.getElem?_eq_getElem w1, w2, fun m z' hm hz => by
        obtain ⟨g1, g2⟩ := List.getElem?_eq_some_iff.mp hz
        have := w3 m hm
        rw [g2] at this
        simpa using this, q1.same R e0 rfl⟩
    · cases ej
  | count =>
    obtain ⟨⟨apos, cpos, e1, hl⟩, hb1, hs⟩ := meth1_ok (show meth1 "count" e' = some (a', b') from h1)
    subst e1
    refine (pe_bm PySem.F.plainAttrs_list PySem.F.slot_list_count PySem.F.type_list_count (mt_countL hu) ha (pa_cons hb pa_nil (star_cons hs)) (base_of hb1) (m_few hs) hl (star_cons hs) rfl).weakE fun σ H Q q => ?_
    rw [← ok.K]
    refine q.twoP (fun x ρ h ρ' h' e => preM_same e) (fun x v ρ h H1 R r e => pre_lst (.inr rfl) R r e) fun x y v u ρ h H2 R rx ry q1 => ?_
    obtain ⟨w0, ρ0, h0, e0⟩ := q1.get
    obtain ⟨a, b, c, i1, i2, e, e4, e5, e6⟩ := lift2_ok e0
    subst e4; subst e5; subst e6
    obtain ⟨ds, d, j, ea, eb, ej, ec⟩ := cnt_parts e
    subst ec
    obtain ⟨da, la⟩ := toP_ok a v _ (rd_ok R rx i1) ea
    obtain ⟨db, lb⟩ := toP_ok b u _ (rd_ok R ry i2) eb
    unfold cntP at ej
    split at ej
    · rename_i g
      have hv : ∃ p, v = .ref p := by cases da <;> exact ⟨_, rfl⟩
      obtain ⟨p, hp⟩ := hv
      subst hp
      have ej := Option.some.inj ej
      subst ej
      exact ⟨p, u, d, ds, rfl, rfl, da, db, shaped_of la g.1, shaped_of lb (by omega), g.2, q1.same R e0 rfl⟩
    · cases ej
  | join =>
    obtain ⟨⟨apos, cpos, e1, hl⟩, hb1, hs⟩ := meth1_ok (show meth1 "join" e' = some (a', b') from h1)
    subst e1
    refine (pe_m1 PySem.F.slot_str_join PySem.F.type_str_join mt_join ha hb (star_cons hs) (base_of hb1) hl).weakE fun σ H Q q => ?_
    rw [← ok.K]
    refine q.twoP (fun x ρ h ρ' h' e => preM_same e) (fun x v ρ h H1 R r e => pre_str R r e) fun x y v u ρ h H2 R rx ry q1 => ?_
    obtain ⟨w0, ρ0, h0, e0⟩ := q1.get
    obtain ⟨a, b, c, i1, i2, e, e4, e5, e6⟩ := lift2_ok e0
    subst e4; subst e5; subst e6
    obtain ⟨x0, zs, ea, hq, g, ec⟩ := join_parts e
    subst ea; subst ec
    obtain ⟨q0, _⟩ := rd_ok R rx i1
    cases hsq : seqD b with
    | none => rw [hsq] at hq; cases hq
    | some ys =>
      rw [hsq] at hq
      have hys := strsD_ok (show strsD ys = some zs from hq)
      subst hys
      obtain ⟨vs, ⟨p, ep, hs1⟩, rs⟩ := (rd_ok R ry i2).seq hsq
      obtain ⟨ev, _⟩ := reps_strs rs
      subst ev
      exact ⟨x0, p, zs, q0, by rw [ep], hs1, g.1, q1.same R e0 ⟨rfl, g.2⟩⟩
  | lzip =>
    obtain ⟨⟨p, p2, q, pos, e1⟩, hs1, hs2⟩ := list2_ok (show list2 "zip" e' = some (a', b') from h1)
    subst e1
    have h2 : (freeIs I "list" && freeIs I "zip") = true := h2
    rw [Bool.and_eq_true] at h2
    obtain ⟨f1, f2, _⟩ := freeIs_ok h2.1
    obtain ⟨g1, g2, _⟩ := freeIs_ok h2.2
    refine (pe_lzip (ok.gl f1) (by rw [ok.mg]; exact ok.free _ f2) (ok.gl g1) (by rw [ok.mg]; exact ok.free _ g2) (pa_cons ha (pa_cons hb pa_nil (star_cons hs2)) (star_cons hs1)) ok.calm (star_cons hs1) (by rw [star_cons hs2]; rfl)).weakE fun σ H Q q => ?_
    refine tE.two (f := fun x y => lift2 (o2D .lzip) x y) q fun x y v u ρ h H2 R rx ry q1 => ?_
    obtain ⟨w', ρ', h', e', k⟩ := q1
    obtain ⟨a, b, c, i1, i2, e, e4, e5, e6⟩ := lift2_ok e'
    subst e4; subst e5; subst e6
    have e : (match seqD a, seqD b with
      | some xs, some ys => some (D.lst (zipD xs ys))
      | _, _ => none) = some c := e
    cases hsa : seqD a with
    | none => rw [hsa] at e; cases e
    | some xs =>
      cases hsb : seqD b with
      | none => rw [hsa, hsb] at e; cases e
      | some ys =>
        rw [hsa, hsb] at e
        cases (Option.some.inj e)
        obtain ⟨vs, s1, r1⟩ := (rd_ok R rx i1).seq hsa
        obtain ⟨us, s2, r2⟩ := (rd_ok R ry i2).seq hsb
        rw [ok.K] at s1 s2
        refine ⟨v, u, vs, us, rfl, s1, s2, fun p ts n nt nd hl => ?_⟩
        have nd' := List.nodup_cons.mp nd
        obtain ⟨R1, S1⟩ := R.laid (o := .lst (ts.map V.ref)) n (fun _ z => by cases z)
        obtain ⟨R2, S2⟩ := Rel.laidPs ts (vs.zip us) R1 (fun t ht => by rw [upd_ne (fun z => nd'.1 (by rw [← z]; exact ht))]; exact nt t ht) nd'.2
        have S := S1.trans S2
        have kk := S.kp R.mu
        refine k _ _ R2 ⟨p, ts.map V.ref, rfl, by rw [putPs_off _ _ _ nd'.1, upd_same], R.fresh n, zipD_reps (r1.kp kk) (r2.kp kk) hl fun j t q e1 e2 => putPs_at _ _ _ hl nd'.2 j t q e1 e2⟩ S (.refl _)
  | rng2 =>
    obtain ⟨⟨p, p2, q, pos, e1⟩, hs1, hs2⟩ := list2_ok (show list2 "range" e' = some (a', b') from h1)
    subst e1
    have h2 : (freeIs I "list" && freeIs I "range") = true := h2
    rw [Bool.and_eq_true] at h2
    obtain ⟨f1, f2, _⟩ := freeIs_ok h2.1
    obtain ⟨g1, g2, _⟩ := freeIs_ok h2.2
    refine (pe_listR2 ok.calm (ok.gl f1) (by rw [ok.mg]; exact ok.free _ f2) (ok.gl g1) (by rw [ok.mg]; exact ok.free _ g2) (pa_cons ha (pa_cons hb pa_nil (star_cons hs2)) (star_cons hs1)) (star_cons hs1) (star_cons hs2)).weakE fun σ H Q q => ?_
    refine tE.two (f := fun x y => lift2 (o2D .rng2) x y) q fun x y v u ρ h H2 R rx ry q1 => ?_
    obtain ⟨w0, ρ0, h0, e0⟩ := q1.get
    obtain ⟨a, b, c, i1, i2, e, e4, e5, e6⟩ := lift2_ok e0
    subst e4; subst e5; subst e6
    cases a <;> cases b <;> first | (cases e; done) | skip
    rename_i i j
    obtain ⟨b1, b2, ec⟩ := rngD_ok (show rngD i j = some c from e)
    subst ec
    refine ⟨i, j, by rw [show v = _ from rd_ok R rx i1, show u = _ from rd_ok R ry i2], b1, b2, fun p n => ?_⟩
    rw [upV_ints]
    exact q1.newL R e0 (reps_ints _) n
  | gcd =>
    obtain ⟨⟨p, pos, e1⟩, hs1, hs2⟩ := fun2_ok (show fun2 "gcd" e' = some (a', b') from h1)
    subst e1
    have h2 : (glB I.sc "gcd" && decide (("gcd" : Str) ∈ I.bf)) = true := h2
    rw [Bool.and_eq_true, decide_eq_true_eq] at h2
    refine (pe_callBfun cr_gcd (ok.gl h2.1) (by rw [ok.mg]; exact ok.con.2 _ h2.2) (pa_cons ha (pa_cons hb pa_nil (star_cons hs2)) (star_cons hs1)) (by decide) (star_cons hs1) (by rw [star_cons hs2]; rfl)).weakE fun σ H Q q => ?_
    refine tE.two (f := fun x y => lift2 (o2D .gcd) x y) q fun x y v u ρ h H2 R rx ry q1 => ?_
    obtain ⟨w0, ρ0, h0, e0⟩ := q1.get
    obtain ⟨a, b, c, i1, i2, e, e4, e5, e6⟩ := lift2_ok e0
    subst e4; subst e5; subst e6
    cases a <;> cases b <;> first | (cases e; done) | skip
    rename_i i j
    cases (Option.some.inj (show some (D.int ((Nat.gcd i.natAbs j.natAbs : Nat) : Int)) = some c from e))
    exact ⟨i, j, by rw [show v = _ from rd_ok R rx i1, show u = _ from rd_ok R ry i2], q1.same R e0 rfl⟩
/-- own.extend(list) -/
theorem extM_ok {i : Nat} {y w : Val} {ρ ρ' : Ev} {h h' : Hh} (e : extM i y ρ h = .ok w ρ' h') : ∃ xs ys, ρ[i]? = some (.own (.lst xs)) ∧ y = .d (.lst ys) ∧ xs.length + ys.length ≤ sizeLine ∧ w = .d .non ∧ ρ' = ρ.set i (.own (.lst (xs ++ ys))) ∧ h' = h := by
  unfold extM at e
  split at e
  · rename_i xs ys hx
    by_cases hz : xs.length + ys.length ≤ sizeLine
    · rw [if_pos hz] at e
      injection e with z1 z2 z3
      exact ⟨xs, ys, hx, rfl, hz, z1.symm, z2.symm, z3.symm⟩
    · rw [if_neg hz] at e; cases e
  · cases e
theorem p_ext {i : Nat} {x : Str} {e : Expr} {p apos cpos : Pos} {m : M Val} (hK : C.K = X.K) (hN : X.N[i]? = some x) (hv : Vis X.env.scope x) (h1 : (x == ("__debug__" : Str)) = false) (h2 : (x == ("__classdict__" : Str)) = false)
    (hl : (apos.endLine == cpos.line) = true) (hs : notStar e = true) (he : PE X e (tE C m)) : PE X (.Call (.Attribute (.Name x p) "extend" apos) [e] [] cpos) (tE C ((isOwn i).bind fun _ => m.bind fun y => extM i y)) := by
  refine (pe_bm PySem.F.plainAttrs_list PySem.F.slot_list_extend PySem.F.type_list_extend mt_extend (pe_var hN hv h1 h2) (pa_cons he pa_nil (star_cons hs)) rfl (m_few hs) hl (star_cons hs) rfl).weakE fun σ H Q q => ?_
  rw [← hK]
  refine own_meth q (fun a y v ρ h H1 xs vs R r hx ha hl rs q => ?_) fun y ρ h w ρ' h' e => by obtain ⟨xs, _, hx, _⟩ := extM_ok e; exact ⟨xs, hx⟩
  obtain ⟨w, ρ', h', e⟩ := q.get
  obtain ⟨xs', ys, g1, g2, g3, g4, g5, g6⟩ := extM_ok e
  rw [hx] at g1; cases g1
  subst g2; subst g4; subst g5; subst g6
  obtain ⟨b, us, ev, hb, nb, ru⟩ := r
  exact ⟨a, b, vs, us, rfl, by rw [ev], hl, hb, by rw [← rs.length, ← ru.length]; exact g3, own_done R hx ha hl (rs.app ru) e q fun _ _ => rfl⟩
end
end EV

set_option maxRecDepth 100000
set_option maxHeartbeats 4000000
/-! EvN: every expression that the look takes. -/
namespace EV
open PySem PySem.Spec PyProof.Rows L2

/-! ### expressions -/
mutual
theorem sE {Z : Wd} {lv : Nat} {G : Gv} (hC : CallOk Z lv G) : ∀ (e : Ex) (I : Inf) (X : Cx) (C : Ct), XOk Z lv I X C → (∀ x, G.con x = I.con.lookup x) → ∀ e' : Expr, mE I e e' = true → PE X e' (tE C (den G e))
  | .non, I, X, C, o, hG, e', h => by
    cases e' <;> first | (cases h; done) | skip
    rename_i c _ _; cases c <;> first | (cases h; done) | skip
    exact p_non
  | .bl b, I, X, C, o, hG, e', h => by
    cases e' <;> first | (cases h; done) | skip
    rename_i c _ _; cases c <;> first | (cases h; done) | skip
    cases (beq_iff_eq.mp h)
    exact p_bl
  | .int i, I, X, C, o, hG, e', h => by
    cases e' <;> first | (cases h; done) | skip
    rename_i c _ _; cases c <;> first | (cases h; done) | skip
    cases (of_decide_eq_true h)
    exact p_int
  | .str x, I, X, C, o, hG, e', h => by
    cases e' <;> first | (cases h; done) | skip
    rename_i c _ _; cases c <;> first | (cases h; done) | skip
    rename_i y
    have h : (decide (x = y) && (PyData.strOk x && decide (x.length ≤ sizeLine))) = true := h
    simp only [Bool.and_eq_true, decide_eq_true_eq] at h
    obtain ⟨h1, h2, h3⟩ := h
    subst h1
    exact p_str h2 h3
  | .v i, I, X, C, o, hG, e', h => by
    cases e' <;> first | (cases h; done) | skip
    rename_i x p
    obtain ⟨h1, h2, h3⟩ := nameIs_ok h
    obtain ⟨d1, d2, _⟩ := noDunder_ok h3
    exact p_v (by rw [o.N]; exact h1) (by rw [o.sc]; exact visB_ok h2) d1 d2
  | .g x, I, X, C, o, hG, e', h => by
    cases e' <;> first | (cases h; done) | skip
    rename_i y p
    have h : (decide (x = y) && (glB I.sc x && (noDunder x && decide (x ∈ I.con.map (·.1))))) = true := h
    simp only [Bool.and_eq_true, decide_eq_true_eq] at h
    obtain ⟨h1, h2, h3, h4⟩ := h
    subst h1
    exact p_g o hG h2 h3 h4
  | .bin op a b, I, X, C, o, hG, e', h => by
    cases e' <;> first | (cases h; done) | skip
    rename_i a' op' b' p
    have h : (decide (op = op') && (opOk op && (mE I a a' && mE I b b'))) = true := h
    simp only [Bool.and_eq_true, decide_eq_true_eq] at h
    obtain ⟨h1, h2, h3, h4⟩ := h
    subst h1
    exact p_bin o.K op h2 (sE hC a I X C o hG a' h3) (sE hC b I X C o hG b' h4)
  | .neg a, I, X, C, o, hG, e', h => by
    cases e' <;> first | (cases h; done) | skip
    rename_i op a' p
    cases op <;> first | (cases h; done) | skip
    exact p_neg (sE hC a I X C o hG a' h)
  | .cmp op a b, I, X, C, o, hG, e', h => by
    cases e' <;> first | (cases h; done) | skip
    rename_i a' ops bs p
    rcases ops with _ | ⟨op', _ | ⟨_, _⟩⟩ <;> rcases bs with _ | ⟨b', _ | ⟨_, _⟩⟩ <;> first | (cases h; done) | skip
    have h : (decide (op = op') && (notSet b' && (mE I a a' && mE I b b'))) = true := h
    simp only [Bool.and_eq_true, decide_eq_true_eq] at h
    obtain ⟨h1, h2, h3, h4⟩ := h
    subst h1
    exact p_cmp o.K o.units op h2 (sE hC a I X C o hG a' h3) (sE hC b I X C o hG b' h4)
  | .ch op op2 a b c, I, X, C, o, hG, e', h => by
    cases e' <;> first | (cases h; done) | skip
    rename_i a' ops bs p
    rcases ops with _ | ⟨op', _ | ⟨op2', _ | ⟨_, _⟩⟩⟩ <;> rcases bs with _ | ⟨b', _ | ⟨c', _ | ⟨_, _⟩⟩⟩ <;> first | (cases h; done) | skip
    have h : (decide (op = op') && (decide (op2 = op2') && (notSet c' && (mE I a a' && (mE I b b' && mE I c c'))))) = true := h
    simp only [Bool.and_eq_true, decide_eq_true_eq] at h
    obtain ⟨h1, h2, h3, h4, h5, h6⟩ := h
    subst h1; subst h2
    exact p_ch o.K o.units op op2 h3 (sE hC a I X C o hG a' h4) (sE hC b I X C o hG b' h5) (sE hC c I X C o hG c' h6)
  | .bop isAnd es, I, X, C, o, hG, e', h => by
    cases e' <;> first | (cases h; done) | skip
    rename_i op es' p
    have h : (bopOk op isAnd && (!es.isEmpty && mEs I es es')) = true := h
    simp only [Bool.and_eq_true] at h
    obtain ⟨h1, h0, h2⟩ := h
    exact sB hC isAnd es I X C o hG op es' p h1 h2
  | .not a, I, X, C, o, hG, e', h => by
    cases e' <;> first | (cases h; done) | skip
    rename_i op a' p
    cases op <;> first | (cases h; done) | skip
    exact p_not (sE hC a I X C o hG a' h)
  | .ife t a b, I, X, C, o, hG, e', h => by
    cases e' <;> first | (cases h; done) | skip
    rename_i t' a' b' p
    have h : (mE I t t' && (mE I a a' && mE I b b')) = true := h
    simp only [Bool.and_eq_true] at h
    obtain ⟨h1, h2, h3⟩ := h
    exact p_ife (sT hC t I X C o hG t' h1) (sE hC a I X C o hG a' h2) (sE hC b I X C o hG b' h3)
  | .tup es, I, X, C, o, hG, e', h => by
    cases e' <;> first | (cases h; done) | skip
    rename_i es' k p
    exact p_tup (sEs hC es I X C o hG es' h)
  | .lst es, I, X, C, o, hG, e', h => by
    cases e' <;> first | (cases h; done) | skip
    rename_i es' p
    exact p_lst (sEs hC es I X C o hG es' h)
  | .ix a b, I, X, C, o, hG, e', h => by
    cases e' <;> first | (cases h; done) | skip
    rename_i a' b' p
    have hh : (notSlice b' && (mE I a a' && mE I b b')) = true := by cases b' <;> first | exact h | cases h
    simp only [Bool.and_eq_true] at hh
    obtain ⟨h1, h2, h3⟩ := hh
    exact p_ix o.K o.units h1 (sE hC a I X C o hG a' h2) (sE hC b I X C o hG b' h3)
  | .sl a lo hi, I, X, C, o, hG, e', h => by
    cases e' <;> first | (cases h; done) | skip
    rename_i a' b' p
    cases b' <;> first | (cases h; done) | skip
    rename_i lo' hi' st p2
    cases st <;> first | (cases h; done) | skip
    have h : (mE I a a' && (mO I lo lo' && mO I hi hi')) = true := h
    simp only [Bool.and_eq_true] at h
    obtain ⟨h1, h2, h3⟩ := h
    exact p_sl o.K (sE hC a I X C o hG a' h1) (sO hC lo I X C o hG lo' h2) (sO hC hi I X C o hG hi' h3)
  | .call f es, I, X, C, o, hG, e', h => by
    cases e' <;> first | (cases h; done) | skip
    rename_i fn es' ks p
    cases fn <;> first | (cases h; done) | skip
    cases ks <;> first | (cases h; done) | skip
    rename_i x p2
    have h : (fnIs I f x && mEs I es es') = true := h
    rw [Bool.and_eq_true] at h
    exact hC.call I X C o f x es' p2 p _ h.1 (allStar h.2).1 (sEs hC es I X C o hG es' h.2)
  | .callb f e, I, X, C, o, hG, e', h => by
    cases e' <;> first | (cases h; done) | skip
    rename_i fn es' ks p
    cases fn <;> first | (cases h; done) | skip
    rename_i x p2
    rcases es' with _ | ⟨e1, _ | ⟨_, _⟩⟩ <;> cases ks <;> first | (cases h; done) | skip
    have h : (fnIs I f x && (notStar e1 && mF I e e1)) = true := h
    simp only [Bool.and_eq_true] at h
    exact hC.callb I X C o f x e1 p2 p _ h.1 h.2.1 (sF hC e I X C o hG e1 h.2.2) (denF_data e)
  | .callk f es ks kes, I, X, C, o, hG, e', h => by
    cases e' <;> first | (cases h; done) | skip
    rename_i fn es' kws p
    cases fn <;> first | (cases h; done) | skip
    rename_i x p2
    have h : (fnIs I f x && (mEs I es es' && mKs I ks kes kws)) = true := h
    simp only [Bool.and_eq_true] at h
    exact hC.callk I X C o f x es' ks kws p2 p _ _ h.1 (allStar h.2.1).1 (sEs hC es I X C o hG es' h.2.1) (sKs hC ks kes I X C o hG kws h.2.2) (mKs_names h.2.2)
  | .calln i es, I, X, C, o, hG, e', h => by
    cases e' <;> first | (cases h; done) | skip
    rename_i fn es' ks p
    cases fn <;> first | (cases h; done) | skip
    cases ks <;> first | (cases h; done) | skip
    rename_i x p2
    have h : (!I.blk && (nameIs I i x && mEs I es es')) = true := h
    simp only [Bool.and_eq_true, Bool.not_eq_true'] at h
    exact hC.calln I X C o h.1 i x es' p2 p _ h.2.1 (allStar h.2.2).1 (sEs hC es I X C o hG es' h.2.2)
  | .bi b es, I, X, C, o, hG, e', h => by
    cases e' <;> first | (cases h; done) | skip
    rename_i fn es' ks p
    cases fn <;> first | (cases h; done) | skip
    cases ks <;> first | (cases h; done) | skip
    rename_i x p2
    have h : (decide (x = bName b) && (freeIs I x && (decide (es.length = bMany b) && mEs I es es'))) = true := h
    simp only [Bool.and_eq_true, decide_eq_true_eq] at h
    obtain ⟨h1, h2, h3, h4⟩ := h
    obtain ⟨f1, f2, f3⟩ := freeIs_ok h2
    obtain ⟨a1, a2⟩ := allStar h4
    cases es' with
    | nil => rw [h3] at a2; cases b <;> cases a2
    | cons e1 es1 => exact p_bi o.K o.calm h1 (o.gl f1) (by rw [o.mg]; exact o.free x f2) f3 a1 (sEs hC es I X C o hG _ h4)
  | .isi a t, I, X, C, o, hG, e', h => by
    cases e' <;> first | (cases h; done) | skip
    rename_i fn es' ks p
    cases fn <;> first | (cases h; done) | skip
    rename_i f p2
    rcases es' with _ | ⟨a', _ | ⟨x', _ | ⟨_, _⟩⟩⟩ <;> first | (cases ks <;> cases h; done) | skip
    · cases x' <;> cases ks <;> first | (cases h; done) | skip
      rename_i x p3
      have h : (decide (f = ("isinstance" : Str)) && (freeIs I f && (decide (x = Str.ofString (tyW t)) && (freeIs I x && (notStar a' && mE I a a'))))) = true := h
      simp only [Bool.and_eq_true, decide_eq_true_eq] at h
      obtain ⟨h1, h2, h3, h4, h5, h6⟩ := h
      obtain ⟨f1, f2, f3⟩ := freeIs_ok h2
      obtain ⟨g1, g2, g3⟩ := freeIs_ok h4
      subst h1
      exact p_isi o.K h3 (o.gl f1) (by rw [o.mg]; exact o.free _ f2) (o.gl g1) (by rw [o.mg]; exact o.free _ g2) g3 h5 (sE hC a I X C o hG a' h6)
    · cases x' <;> cases ks <;> cases h
  | .app i e, I, X, C, o, hG, e', h => by
    cases e' <;> first | (cases h; done) | skip
    rename_i fn es' ks p
    cases fn <;> first | (cases h; done) | skip
    rename_i ob m ap
    cases ob <;> first | (cases h; done) | skip
    rename_i x p2
    rcases es' with _ | ⟨e1, _ | ⟨_, _⟩⟩ <;> cases ks <;> first | (cases h; done) | skip
    have h : (decide (m = ("append" : Str)) && (nameIs I i x && ((ap.endLine == p.line) && (notStar e1 && mE I e e1)))) = true := h
    simp only [Bool.and_eq_true, decide_eq_true_eq] at h
    obtain ⟨h1, h2, h3, h4, h5⟩ := h
    obtain ⟨n1, n2, n3⟩ := nameIs_ok h2
    obtain ⟨d1, d2, _⟩ := noDunder_ok n3
    subst h1
    exact p_app o.K (by rw [o.N]; exact n1) (by rw [o.sc]; exact visB_ok n2) d1 d2 h3 h4 (sE hC e I X C o hG e1 h5)
  | .popAt i e, I, X, C, o, hG, e', h => by
    cases e' <;> first | (cases h; done) | skip
    rename_i fn es' ks p
    cases fn <;> first | (cases h; done) | skip
    rename_i ob m ap
    cases ob <;> first | (cases h; done) | skip
    rename_i x p2
    rcases es' with _ | ⟨e1, _ | ⟨_, _⟩⟩ <;> cases ks <;> first | (cases h; done) | skip
    have h : (decide (m = ("pop" : Str)) && (nameIs I i x && ((ap.endLine == p.line) && (notStar e1 && mE I e e1)))) = true := h
    simp only [Bool.and_eq_true, decide_eq_true_eq] at h
    obtain ⟨h1, h2, h3, h4, h5⟩ := h
    obtain ⟨n1, n2, n3⟩ := nameIs_ok h2
    obtain ⟨d1, d2, _⟩ := noDunder_ok n3
    subst h1
    exact p_pop o.K (by rw [o.N]; exact n1) (by rw [o.sc]; exact visB_ok n2) d1 d2 h3 h4 (sE hC e I X C o hG e1 h5)
  | .get a k, I, X, C, o, hG, e', h => by cases e' <;> cases h
  | .get2 a k d, I, X, C, o, hG, e', h => by cases e' <;> cases h
  | .lc elt tg it ifs vs, I, X, C, o, hG, e', h => by
    cases e' <;> first | (cases h; done) | skip
    rename_i elt' gs scope p
    rcases gs with _ | ⟨⟨tg', it', ifs', k⟩, _ | ⟨_, _⟩⟩ <;> first | (cases h; done) | skip
    have h : (k == 0 && (notSet it' && (mI I it tg' it' && (inNs vs tg && (blkC I.N I.sc scope (ownN I.N vs) &&
      (mG (blkInf I scope) tg tg' && (mTs (blkInf I scope) ifs ifs' && mE (blkInf I scope) elt elt'))))))) = true := h
    simp only [Bool.and_eq_true] at h
    obtain ⟨h1, h2, h3, h4, h5, h6, h7, h8⟩ := h
    cases (beq_iff_eq.mp h1)
    have ev : (ownN I.N vs).map (·.2) = vs := ownN_snd
    have p := pe_lc (pos := p) o.calm (by rw [o.N]; exact o.nd) (sI hC it I X C o hG tg' it' h3) (blkOk_by (by rw [o.N, o.sc]; exact h5))
      (g := gX C (tix tg) (asg G tg)) (tt := ttX C (denTs G ifs)) (te := teX C (den G elt))
      (fun s H c cl fp => ⟨fun pins s2 σ H2 v u Q I2 r ⟨d, q⟩ => (sG (G := G) tg _ _ _ (o.block d s H scope cl c fp) tg' h6).run pins s2 σ H2 v u Q I2 r q⟩)
      (fun s H c cl fp => ⟨fun pins s2 σ H2 Q I2 ⟨d, q⟩ => (sTs hC ifs _ _ _ (o.block d s H scope cl c fp) hG ifs' h7).run pins s2 σ H2 Q I2 q⟩)
      (fun s H c cl fp => ⟨fun pins s2 σ H2 Q I2 ⟨d, q⟩ => (sE hC elt _ _ _ (o.block d s H scope cl c fp) hG elt' h8).run pins s2 σ H2 Q I2 q⟩) (folded_set h2)
    refine p.weakE fun σ H Q q => ?_
    rw [ev]
    exact lc_read (inNs_ok tg h4) (q.fresh fun _ _ _ _ _ e => lc_data e)
  | .dc k e tg it ifs vs tk, I, X, C, o, hG, e', h => by
    cases e' <;> first | (cases h; done) | skip
    rename_i k' e1' gs scope p
    rcases gs with _ | ⟨⟨tg', it', ifs', kk⟩, _ | ⟨_, _⟩⟩ <;> first | (cases h; done) | skip
    have h : (kk == 0 && (notSet it' && (mI I it tg' it' && (inNs vs tg && (blkC I.N I.sc scope (ownN I.N vs) &&
      (mG (blkInf I scope) tg tg' && (mTs (blkInf I scope) ifs ifs' && (mE (blkInf I scope) k k' && mE (blkInf I scope) e e1')))))))) = true := h
    simp only [Bool.and_eq_true] at h
    obtain ⟨h1, h2, h3, h4, h5, h6, h7, h8, h9⟩ := h
    cases (beq_iff_eq.mp h1)
    have ev : (ownN I.N vs).map (·.2) = vs := ownN_snd
    have p := pe_dc (pos := p) o.calm (by rw [o.N]; exact o.nd) (sI hC it I X C o hG tg' it' h3) (blkOk_by (by rw [o.N, o.sc]; exact h5))
      (g := gX C (tix tg) (asg G tg)) (tt := ttX C (denTs G ifs)) (tk := teX C (den G k)) (tv := teX C (den G e))
      (fun s H c cl fp => ⟨fun pins s2 σ H2 v u Q I2 r ⟨d, q⟩ => (sG (G := G) tg _ _ _ (o.block d s H scope cl c fp) tg' h6).run pins s2 σ H2 v u Q I2 r q⟩)
      (fun s H c cl fp => ⟨fun pins s2 σ H2 Q I2 ⟨d, q⟩ => (sTs hC ifs _ _ _ (o.block d s H scope cl c fp) hG ifs' h7).run pins s2 σ H2 Q I2 q⟩)
      (fun s H c cl fp => ⟨fun pins s2 σ H2 Q I2 ⟨d, q⟩ => (sE hC k _ _ _ (o.block d s H scope cl c fp) hG k' h8).run pins s2 σ H2 Q I2 q⟩)
      (fun s H c cl fp => ⟨fun pins s2 σ H2 Q I2 ⟨d, q⟩ => (sE hC e _ _ _ (o.block d s H scope cl c fp) hG e1' h9).run pins s2 σ H2 Q I2 q⟩) (folded_set h2)
    refine p.weakE fun σ H Q q => ?_
    rw [ev]
    exact dc_read (inNs_ok tg h4) (q.fresh fun _ _ _ _ _ e => dc_data e)
  | .dnew tk, I, X, C, o, hG, e', h => by
    cases e' <;> first | (cases h; done) | skip
    rename_i ks vs p
    rcases ks with _ | ⟨_, _⟩ <;> rcases vs with _ | ⟨_, _⟩ <;> first | (cases h; done) | skip
    cases tk with
    | true =>
      refine pe_dnewT.weakE fun σ H Q q => ?_
      intro p n
      obtain ⟨ρ, h, R, w, ρ', h', e, k⟩ := q
      injection e with z1 z2 z3
      subst z1; subst z2; subst z3
      obtain ⟨R1, S1⟩ := R.laid (o := .dT []) n (fun ps z => by cases z)
      have bx : BoxAt C.K (upd H p (.dT [])) (Av C σ ρ) (.dit [] []) p := ⟨[], upd_same, rfl, rfl⟩
      exact k _ _ R1 (bx.frozen (R.fresh n)) S1 (.refl _)
    | false =>
      refine pe_dnewK.weakE fun σ H Q q => ?_
      intro p n
      obtain ⟨ρ, h, R, w, ρ', h', e, k⟩ := q
      injection e with z1 z2 z3
      subst z1; subst z2; subst z3
      obtain ⟨R1, S1⟩ := R.laid (o := .dK []) n (fun ps z => by cases z)
      have bx : BoxAt C.K (upd H p (.dK [])) (Av C σ ρ) (.dic [] []) p := ⟨[], upd_same, rfl, rfl⟩
      exact k _ _ R1 (bx.frozen (R.fresh n)) S1 (.refl _)
  | .bi2 b e, I, X, C, o, hG, e', h => by
    cases e' <;> first | (cases h; done) | skip
    rename_i fn es' ks p
    cases fn <;> first | (cases h; done) | skip
    rename_i x p2
    rcases es' with _ | ⟨e1, _ | ⟨_, _⟩⟩ <;> cases ks <;> first | (cases h; done) | skip
    have h : (decide (x = b2Name b) && (freeIs I x && (notStar e1 && mE I e e1))) = true := h
    simp only [Bool.and_eq_true, decide_eq_true_eq] at h
    obtain ⟨h1, h2, h3, h4⟩ := h
    obtain ⟨f1, f2, f3⟩ := freeIs_ok h2
    exact p_bi2 o.K o.calm o.room.gd o.units h1 (o.gl f1) (by rw [o.mg]; exact o.free x f2) f3 h3 (sE hC e I X C o hG _ h4)
  | .rev a, I, X, C, o, hG, e', h => by
    cases e' <;> first | (cases h; done) | skip
    rename_i a' s p
    cases s <;> first | (cases h; done) | skip
    rename_i l u st p2
    cases l <;> cases u <;> cases st <;> first | (cases h; done) | skip
    rename_i st
    cases st <;> first | (cases h; done) | skip
    rename_i op v p3
    cases op <;> cases v <;> first | (cases h; done) | skip
    rename_i c _ _
    cases c <;> first | (cases h; done) | skip
    rename_i i
    have h : (decide (i = 1) && mE I a a') = true := h
    simp only [Bool.and_eq_true, decide_eq_true_eq] at h
    obtain ⟨h1, h2⟩ := h
    subst h1
    exact p_rev o.K (sE hC a I X C o hG a' h2)
  | .dzip a b, I, X, C, o, hG, e', h => by
    cases e' <;> first | (cases h; done) | skip
    rename_i fn es' ks p
    cases fn <;> first | (cases h; done) | skip
    rename_i x p2
    rcases es' with _ | ⟨e1, _ | ⟨_, _⟩⟩ <;> cases ks <;> first | (cases h; done) | skip
    · cases e1 <;> first | (cases h; done) | skip
      rename_i fn es' ks p3
      cases fn <;> first | (cases h; done) | skip
      rename_i y p4
      rcases es' with _ | ⟨a', _ | ⟨b', _ | ⟨_, _⟩⟩⟩ <;> cases ks <;> first | (cases h; done) | skip
      have h : (decide (x = ("dict" : Str)) && (freeIs I x && (decide (y = ("zip" : Str)) && (freeIs I y && (notStar a' && (notStar b' && (mE I a a' && mE I b b'))))))) = true := h
      simp only [Bool.and_eq_true, decide_eq_true_eq] at h
      obtain ⟨h1, h2, h3, h4, h5, h6, h7, h8⟩ := h
      obtain ⟨f1, f2, f3⟩ := freeIs_ok h2
      obtain ⟨g1, g2, g3⟩ := freeIs_ok h4
      subst h1; subst h3
      exact p_dzip o.K o.calm (o.gl f1) (by rw [o.mg]; exact o.free _ f2) (o.gl g1) (by rw [o.mg]; exact o.free _ g2) h5 h6 (sE hC a I X C o hG a' h7) (sE hC b I X C o hG b' h8)
  | .o1 op a, I, X, C, o, hG, e', h => by
    have h : (match sh1 op e' with
      | some a' => ok1 I op && mE I a a'
      | none => false) = true := by cases e' <;> exact h
    split at h
    · rename_i a' ha
      rw [Bool.and_eq_true] at h
      exact p_o1 o ha h.1 (sE hC a I X C o hG a' h.2)
    · cases h
  | .o2 op a b, I, X, C, o, hG, e', h => by
    have h : (match sh2 op e' with
      | some p => ok2 I op && (mE I a p.1 && mE I b p.2)
      | none => false) = true := by cases e' <;> exact h
    split at h
    · rename_i p ha
      rw [Bool.and_eq_true, Bool.and_eq_true] at h
      exact p_o2 (a' := p.1) (b' := p.2) o ha h.1 (sE hC a I X C o hG p.1 h.2.1) (sE hC b I X C o hG p.2 h.2.2)
    · cases h
  | .ext i e, I, X, C, o, hG, e', h => by
    cases e' <;> first | (cases h; done) | skip
    rename_i fn es' ks p
    cases fn <;> first | (cases h; done) | skip
    rename_i ob m ap
    cases ob <;> first | (cases h; done) | skip
    rename_i x p2
    rcases es' with _ | ⟨e1, _ | ⟨_, _⟩⟩ <;> cases ks <;> first | (cases h; done) | skip
    have h : (decide (m = ("extend" : Str)) && (nameIs I i x && ((ap.endLine == p.line) && (notStar e1 && mE I e e1)))) = true := h
    simp only [Bool.and_eq_true, decide_eq_true_eq] at h
    obtain ⟨h1, h2, h3, h4, h5⟩ := h
    obtain ⟨n1, n2, n3⟩ := nameIs_ok h2
    obtain ⟨d1, d2, _⟩ := noDunder_ok n3
    subst h1
    exact p_ext o.K (by rw [o.N]; exact n1) (by rw [o.sc]; exact visB_ok n2) d1 d2 h3 h4 (sE hC e I X C o hG e1 h5)
termination_by e => (sizeOf e, 0)
theorem sF {Z : Wd} {lv : Nat} {G : Gv} (hC : CallOk Z lv G) : ∀ (e : Ex) (I : Inf) (X : Cx) (C : Ct), XOk Z lv I X C → (∀ x, G.con x = I.con.lookup x) → ∀ e' : Expr, mF I e e' = true → PE X e' (tFr C (denF G e))
  | .call f es, I, X, C, o, hG, e', h => by
    cases e' <;> first | (cases h; done) | skip
    rename_i fn es' ks p
    cases fn <;> first | (cases h; done) | skip
    cases ks <;> first | (cases h; done) | skip
    rename_i x p2
    have h : (fnIs I f x && mEs I es es') = true := h
    rw [Bool.and_eq_true] at h
    exact hC.fresh I X C o f x es' p2 p _ h.1 (allStar h.2).1 (sEs hC es I X C o hG es' h.2)
  | .lst es, I, X, C, o, hG, e', h => by
    cases e' <;> first | (cases h; done) | skip
    exact f_lst (sEs hC es I X C o hG _ h)
  | .dnew tk, I, X, C, o, hG, e', h => by
    cases e' <;> first | (cases h; done) | skip
    rename_i ks vs p
    rcases ks with _ | ⟨_, _⟩ <;> rcases vs with _ | ⟨_, _⟩ <;> first | (cases h; done) | skip
    cases tk with
    | true => exact f_dnewT
    | false => exact f_dnewK
  | .lc elt tg it ifs vs, I, X, C, o, hG, e', h => by
    cases e' <;> first | (cases h; done) | skip
    rename_i elt' gs scope p
    rcases gs with _ | ⟨⟨tg', it', ifs', k⟩, _ | ⟨_, _⟩⟩ <;> first | (cases h; done) | skip
    have h : (k == 0 && (notSet it' && (mI I it tg' it' && (inNs vs tg && (blkC I.N I.sc scope (ownN I.N vs) &&
      (mG (blkInf I scope) tg tg' && (mTs (blkInf I scope) ifs ifs' && mE (blkInf I scope) elt elt'))))))) = true := h
    simp only [Bool.and_eq_true] at h
    obtain ⟨h1, h2, h3, h4, h5, h6, h7, h8⟩ := h
    cases (beq_iff_eq.mp h1)
    have ev : (ownN I.N vs).map (·.2) = vs := ownN_snd
    have p := pe_lc (pos := p) o.calm (by rw [o.N]; exact o.nd) (sI hC it I X C o hG tg' it' h3) (blkOk_by (by rw [o.N, o.sc]; exact h5))
      (g := gX C (tix tg) (asg G tg)) (tt := ttX C (denTs G ifs)) (te := teX C (den G elt))
      (fun s H c cl fp => ⟨fun pins s2 σ H2 v u Q I2 r ⟨d, q⟩ => (sG (G := G) tg _ _ _ (o.block d s H scope cl c fp) tg' h6).run pins s2 σ H2 v u Q I2 r q⟩)
      (fun s H c cl fp => ⟨fun pins s2 σ H2 Q I2 ⟨d, q⟩ => (sTs hC ifs _ _ _ (o.block d s H scope cl c fp) hG ifs' h7).run pins s2 σ H2 Q I2 q⟩)
      (fun s H c cl fp => ⟨fun pins s2 σ H2 Q I2 ⟨d, q⟩ => (sE hC elt _ _ _ (o.block d s H scope cl c fp) hG elt' h8).run pins s2 σ H2 Q I2 q⟩) (folded_set h2)
    refine p.weakE fun σ H Q q => ?_
    rw [ev]
    exact lc_read (inNs_ok tg h4) q
  | .bi b es, I, X, C, o, hG, e', h => by
    cases e' <;> first | (cases h; done) | skip
    rename_i fn es' ks p
    cases fn <;> first | (cases h; done) | skip
    rename_i x p2
    rcases es' with _ | ⟨e1, _ | ⟨_, _⟩⟩ <;> cases ks <;> first | (cases h; done) | skip
    have h : (isList b && (decide (x = ("list" : Str)) && (freeIs I x && (notStar e1 && mEs I es [e1])))) = true := h
    simp only [Bool.and_eq_true, decide_eq_true_eq] at h
    obtain ⟨h0, h1, h2, h3, h4⟩ := h
    obtain ⟨f1, f2, f3⟩ := freeIs_ok h2
    subst h1
    cases b <;> first | (cases h0; done) | skip
    exact f_list o.K o.calm (o.gl f1) (by rw [o.mg]; exact o.free _ f2) h3 (sEs hC es I X C o hG _ h4)
  | .bin op a b, I, X, C, o, hG, e', h => by
    cases e' <;> first | (cases h; done) | skip
    rename_i a' op' b' p
    have h : (decide (op = .Mult) && (decide (op' = .Mult) && (mF I a a' && mE I b b'))) = true := h
    simp only [Bool.and_eq_true, decide_eq_true_eq] at h
    obtain ⟨h1, h2, h3, h4⟩ := h
    subst h1; subst h2
    exact f_mul ((sF hC a I X C o hG a' h3).weakE fun σ H Q q => q.fresh (denF_data a)) (sE hC b I X C o hG b' h4)
  | .bi2 b e, I, X, C, o, hG, e', h => by
    cases e' <;> first | (cases h; done) | skip
    rename_i fn es' ks p
    cases fn <;> first | (cases h; done) | skip
    rename_i x p2
    rcases es' with _ | ⟨e1, _ | ⟨_, _⟩⟩ <;> cases ks <;> first | (cases h; done) | skip
    have h : (notRepr b && (decide (x = b2Name b) && (freeIs I x && (notStar e1 && mE I e e1)))) = true := h
    simp only [Bool.and_eq_true, decide_eq_true_eq] at h
    obtain ⟨h0, h1, h2, h3, h4⟩ := h
    obtain ⟨f1, f2, f3⟩ := freeIs_ok h2
    cases b with
    | repr => cases h0
    | sorted => exact f_bi2 (b := .sorted) (fun z => by cases z) o.K o.calm o.room.gd o.units h1 (o.gl f1) (by rw [o.mg]; exact o.free x f2) f3 h3 (sE hC e I X C o hG _ h4)
    | dict => exact f_bi2 (b := .dict) (fun z => by cases z) o.K o.calm o.room.gd o.units h1 (o.gl f1) (by rw [o.mg]; exact o.free x f2) f3 h3 (sE hC e I X C o hG _ h4)
  | .dzip a b, I, X, C, o, hG, e', h => by
    cases e' <;> first | (cases h; done) | skip
    rename_i fn es' ks p
    cases fn <;> first | (cases h; done) | skip
    rename_i x p2
    rcases es' with _ | ⟨e1, _ | ⟨_, _⟩⟩ <;> cases ks <;> first | (cases h; done) | skip
    · cases e1 <;> first | (cases h; done) | skip
      rename_i fn es' ks p3
      cases fn <;> first | (cases h; done) | skip
      rename_i y p4
      rcases es' with _ | ⟨a', _ | ⟨b', _ | ⟨_, _⟩⟩⟩ <;> cases ks <;> first | (cases h; done) | skip
      have h : (decide (x = ("dict" : Str)) && (freeIs I x && (decide (y = ("zip" : Str)) && (freeIs I y && (notStar a' && (notStar b' && (mE I a a' && mE I b b'))))))) = true := h
      simp only [Bool.and_eq_true, decide_eq_true_eq] at h
      obtain ⟨h1, h2, h3, h4, h5, h6, h7, h8⟩ := h
      obtain ⟨f1, f2, f3⟩ := freeIs_ok h2
      obtain ⟨g1, g2, g3⟩ := freeIs_ok h4
      subst h1; subst h3
      exact f_dzip o.K o.calm (o.gl f1) (by rw [o.mg]; exact o.free _ f2) (o.gl g1) (by rw [o.mg]; exact o.free _ g2) h5 h6 (sE hC a I X C o hG a' h7) (sE hC b I X C o hG b' h8)
  | .rev _, I, X, C, o, hG, e', h | .o1 _ _, I, X, C, o, hG, e', h | .o2 _ _ _, I, X, C, o, hG, e', h | .ext _ _, I, X, C, o, hG, e', h => ⟨fun pins s σ H Q I2 q => by obtain ⟨ρ, h, b, ρ', h', R, e, k⟩ := q; cases e⟩
  | .non, I, X, C, o, hG, e', h | .bl _, I, X, C, o, hG, e', h | .int _, I, X, C, o, hG, e', h | .str _, I, X, C, o, hG, e', h | .v _, I, X, C, o, hG, e', h | .g _, I, X, C, o, hG, e', h | .neg _, I, X, C, o, hG, e', h | .cmp _ _ _, I, X, C, o, hG, e', h
  | .ch _ _ _ _ _, I, X, C, o, hG, e', h | .bop _ _, I, X, C, o, hG, e', h | .not _, I, X, C, o, hG, e', h | .ife _ _ _, I, X, C, o, hG, e', h | .tup _, I, X, C, o, hG, e', h | .ix _ _, I, X, C, o, hG, e', h | .sl _ _ _, I, X, C, o, hG, e', h | .callb _ _, I, X, C, o, hG, e', h
  | .callk _ _ _ _, I, X, C, o, hG, e', h | .calln _ _, I, X, C, o, hG, e', h | .isi _ _, I, X, C, o, hG, e', h | .app _ _, I, X, C, o, hG, e', h | .popAt _ _, I, X, C, o, hG, e', h | .get2 _ _ _, I, X, C, o, hG, e', h
  | .get _ _, I, X, C, o, hG, e', h =>
    ⟨fun pins s σ H Q I2 q => by obtain ⟨ρ, h, b, ρ', h', R, e, k⟩ := q; cases e⟩
  | .dc k e tg it ifs vs tk, I, X, C, o, hG, e', h => by
    cases e' <;> first | (cases h; done) | skip
    rename_i k' e1' gs scope p
    rcases gs with _ | ⟨⟨tg', it', ifs', kk⟩, _ | ⟨_, _⟩⟩ <;> first | (cases h; done) | skip
    have h : (kk == 0 && (notSet it' && (mI I it tg' it' && (inNs vs tg && (blkC I.N I.sc scope (ownN I.N vs) &&
      (mG (blkInf I scope) tg tg' && (mTs (blkInf I scope) ifs ifs' && (mE (blkInf I scope) k k' && mE (blkInf I scope) e e1')))))))) = true := h
    simp only [Bool.and_eq_true] at h
    obtain ⟨h1, h2, h3, h4, h5, h6, h7, h8, h9⟩ := h
    cases (beq_iff_eq.mp h1)
    have ev : (ownN I.N vs).map (·.2) = vs := ownN_snd
    have p := pe_dc (pos := p) o.calm (by rw [o.N]; exact o.nd) (sI hC it I X C o hG tg' it' h3) (blkOk_by (by rw [o.N, o.sc]; exact h5))
      (g := gX C (tix tg) (asg G tg)) (tt := ttX C (denTs G ifs)) (tk := teX C (den G k)) (tv := teX C (den G e))
      (fun s H c cl fp => ⟨fun pins s2 σ H2 v u Q I2 r ⟨d, q⟩ => (sG (G := G) tg _ _ _ (o.block d s H scope cl c fp) tg' h6).run pins s2 σ H2 v u Q I2 r q⟩)
      (fun s H c cl fp => ⟨fun pins s2 σ H2 Q I2 ⟨d, q⟩ => (sTs hC ifs _ _ _ (o.block d s H scope cl c fp) hG ifs' h7).run pins s2 σ H2 Q I2 q⟩)
      (fun s H c cl fp => ⟨fun pins s2 σ H2 Q I2 ⟨d, q⟩ => (sE hC k _ _ _ (o.block d s H scope cl c fp) hG k' h8).run pins s2 σ H2 Q I2 q⟩)
      (fun s H c cl fp => ⟨fun pins s2 σ H2 Q I2 ⟨d, q⟩ => (sE hC e _ _ _ (o.block d s H scope cl c fp) hG e1' h9).run pins s2 σ H2 Q I2 q⟩) (folded_set h2)
    refine p.weakE fun σ H Q q => ?_
    rw [ev]
    exact dc_read (inNs_ok tg h4) q
termination_by e => (sizeOf e, 0)
theorem sEs {Z : Wd} {lv : Nat} {G : Gv} (hC : CallOk Z lv G) : ∀ (es : List Ex) (I : Inf) (X : Cx) (C : Ct), XOk Z lv I X C → (∀ x, G.con x = I.con.lookup x) → ∀ es' : List Expr, mEs I es es' = true → PA X es' (tA C (dens G es))
  | [], I, X, C, o, hG, es', h => by
    cases es' with
    | nil => exact pa_nil.weakE fun σ H Q q => q.nil
    | cons _ _ => cases h
  | e :: es, I, X, C, o, hG, es', h => by
    cases es' with
    | nil => cases h
    | cons e' es' =>
      have h : (notStar e' && (mE I e e' && mEs I es es')) = true := h
      simp only [Bool.and_eq_true] at h
      exact (pa_cons (sE hC e I X C o hG e' h.2.1) (sEs hC es I X C o hG es' h.2.2) (star_cons h.1)).weakE fun σ H Q q => q.cons
termination_by es => (sizeOf es, 0)
theorem sKs {Z : Wd} {lv : Nat} {G : Gv} (hC : CallOk Z lv G) : ∀ (ks : List Str) (es : List Ex) (I : Inf) (X : Cx) (C : Ct), XOk Z lv I X C → (∀ x, G.con x = I.con.lookup x) → ∀ kws : List Keyword, mKs I ks es kws = true → PK X kws (tA C (dens G es))
  | ks, [], I, X, C, o, hG, kws, h => by
    cases ks <;> cases kws <;> first | (cases h; done) | skip
    exact ⟨fun pos pins s σ H Q I2 q => pk_nil.run pos pins s σ H Q I2 q.nil⟩
  | ks, e :: es, I, X, C, o, hG, kws, h => by
    rcases ks with _ | ⟨k, ks⟩
    · cases kws <;> cases h
    rcases kws with _ | ⟨⟨k', e', p⟩, kws⟩
    · cases h
    cases k' with
    | none => cases h
    | some k' =>
      have h : (decide (k = k') && (mE I e e' && mKs I ks es kws)) = true := h
      simp only [Bool.and_eq_true] at h
      exact ⟨fun pos pins s σ H Q I2 q => (pk_cons (sE hC e I X C o hG e' h.2.1) (sKs hC ks es I X C o hG kws h.2.2)).run pos pins s σ H Q I2 q.cons⟩
termination_by _ es => (sizeOf es, 0)
theorem sO {Z : Wd} {lv : Nat} {G : Gv} (hC : CallOk Z lv G) : ∀ (e : Option Ex) (I : Inf) (X : Cx) (C : Ct), XOk Z lv I X C → (∀ x, G.con x = I.con.lookup x) → ∀ e' : Option Expr, mO I e e' = true → PO X e' (tO C (denO G e))
  | none, I, X, C, o, hG, e', h => by
    cases e' with
    | none => exact o_none
    | some _ => cases h
  | some e, I, X, C, o, hG, e', h => by
    cases e' with
    | none => cases h
    | some e' => exact o_some (sE hC e I X C o hG e' h)
termination_by e => (sizeOf e, 0)
theorem sB {Z : Wd} {lv : Nat} {G : Gv} (hC : CallOk Z lv G) (isAnd : Bool) : ∀ (es : List Ex) (I : Inf) (X : Cx) (C : Ct), XOk Z lv I X C → (∀ x, G.con x = I.con.lookup x) → ∀ (op : BoolOp) (es' : List Expr) (p : Pos),
    bopOk op isAnd = true → mEs I es es' = true → PE X (.BoolOp op es' p) (tE C (denB G isAnd es))
  | [], I, X, C, o, hG, op, es', p, h1, h => ⟨fun pins s σ H Q I2 q => by obtain ⟨ρ, h, R, w, ρ', h', e, k⟩ := q; cases e⟩
  | e :: es, I, X, C, o, hG, op, es', p, h1, h => by
    cases es' with
    | nil => cases h
    | cons e' es' =>
      have h : (notStar e' && (mE I e e' && mEs I es es')) = true := h
      simp only [Bool.and_eq_true] at h
      have pa := sE hC e I X C o hG e' h.2.1
      cases es with
      | nil =>
        cases es' with
        | cons _ _ => cases h.2.2
        | nil => exact p_bone pa
      | cons e2 es =>
        cases es' with
        | nil => cases h.2.2
        | cons e2' es' =>
          have pr := sB hC isAnd (e2 :: es) I X C o hG op (e2' :: es') p h1 h.2.2
          have eq : denB G isAnd (e :: e2 :: es) = (den G e).bind (bopM isAnd (denB G isAnd (e2 :: es))) := rfl
          rw [eq]
          cases op with
          | And => cases isAnd with
            | true => exact p_and pa pr
            | false => cases h1
          | Or => cases isAnd with
            | false => exact p_or pa pr
            | true => cases h1
termination_by es => (sizeOf es, 0)
theorem sT {Z : Wd} {lv : Nat} {G : Gv} (hC : CallOk Z lv G) : ∀ (e : Ex) (I : Inf) (X : Cx) (C : Ct), XOk Z lv I X C → (∀ x, G.con x = I.con.lookup x) → ∀ e' : Expr, mE I e e' = true → PT X e' (tT C (denT G e))
  | .bop isAnd es, I, X, C, o, hG, e', h => by
    cases e' <;> first | (cases h; done) | skip
    rename_i op es' p
    have h : (bopOk op isAnd && (!es.isEmpty && mEs I es es')) = true := h
    simp only [Bool.and_eq_true] at h
    obtain ⟨h1, h0, h2⟩ := h
    cases es with
    | nil => cases h0
    | cons e1 es => exact (sTB hC isAnd (e1 :: es) I X C o hG op es' p h1 h2 (by simp)).pt
  | .not a, I, X, C, o, hG, e', h => by
    cases e' <;> first | (cases h; done) | skip
    rename_i op a' p
    cases op <;> first | (cases h; done) | skip
    exact t_not (sT hC a I X C o hG a' h)
  | .cmp op a b, I, X, C, o, hG, e', h => by
    cases e' <;> first | (cases h; done) | skip
    rename_i a' ops bs p
    rcases ops with _ | ⟨op', _ | ⟨_, _⟩⟩ <;> rcases bs with _ | ⟨b', _ | ⟨_, _⟩⟩ <;> first | (cases h; done) | skip
    have h : (decide (op = op') && (notSet b' && (mE I a a' && mE I b b'))) = true := h
    simp only [Bool.and_eq_true, decide_eq_true_eq] at h
    obtain ⟨h1, h2, h3, h4⟩ := h
    subst h1
    exact t_cmp o.K o.units op h2 (sE hC a I X C o hG a' h3) (sE hC b I X C o hG b' h4)
  | .ch op op2 a b c, I, X, C, o, hG, e', h => by
    cases e' <;> first | (cases h; done) | skip
    rename_i a' ops bs p
    rcases ops with _ | ⟨op', _ | ⟨op2', _ | ⟨_, _⟩⟩⟩ <;> rcases bs with _ | ⟨b', _ | ⟨c', _ | ⟨_, _⟩⟩⟩ <;> first | (cases h; done) | skip
    have h : (decide (op = op') && (decide (op2 = op2') && (notSet c' && (mE I a a' && (mE I b b' && mE I c c'))))) = true := h
    simp only [Bool.and_eq_true, decide_eq_true_eq] at h
    obtain ⟨h1, h2, h3, h4, h5, h6⟩ := h
    subst h1; subst h2
    exact t_ch o.K o.units op op2 h3 (sE hC a I X C o hG a' h4) (sE hC b I X C o hG b' h5) (sE hC c I X C o hG c' h6)
  | .v i, I, X, C, o, hG, e', h => by
    cases e' <;> first | (cases h; done) | skip
    exact t_tru o.K rfl (sE hC (.v i) I X C o hG _ h)
  | .call f es, I, X, C, o, hG, e', h => by
    cases e' <;> first | (cases h; done) | skip
    exact t_tru o.K rfl (sE hC (.call f es) I X C o hG _ h)
  | .calln i es, I, X, C, o, hG, e', h => by
    cases e' <;> first | (cases h; done) | skip
    exact t_tru o.K rfl (sE hC (.calln i es) I X C o hG _ h)
  | .callk f es ks kes, I, X, C, o, hG, e', h => by
    cases e' <;> first | (cases h; done) | skip
    exact t_tru o.K rfl (sE hC (.callk f es ks kes) I X C o hG _ h)
  | .bi b es, I, X, C, o, hG, e', h => by
    cases e' <;> first | (cases h; done) | skip
    exact t_tru o.K rfl (sE hC (.bi b es) I X C o hG _ h)
  | .isi a t, I, X, C, o, hG, e', h => by
    cases e' <;> first | (cases h; done) | skip
    exact t_tru o.K rfl (sE hC (.isi a t) I X C o hG _ h)
  | .ix a b, I, X, C, o, hG, e', h => by
    cases e' <;> first | (cases h; done) | skip
    exact t_tru o.K rfl (sE hC (.ix a b) I X C o hG _ h)
  | .bin op a b, I, X, C, o, hG, e', h => by
    cases e' <;> first | (cases h; done) | skip
    exact t_tru o.K rfl (sE hC (.bin op a b) I X C o hG _ h)
  | .bl b, I, X, C, o, hG, e', h => by
    cases e' <;> first | (cases h; done) | skip
    refine (t_tru o.K rfl (sE hC (.bl b) I X C o hG _ h)).weakE fun σ H Q q => ?_
    obtain ⟨ρ, h, R, w, ρ', h', e, k⟩ := q
    exact ⟨ρ, h, R, w, ρ', h', e, k⟩
  | .non, I, X, C, o, hG, e', h | .int _, I, X, C, o, hG, e', h | .str _, I, X, C, o, hG, e', h | .g _, I, X, C, o, hG, e', h | .neg _, I, X, C, o, hG, e', h | .ife _ _ _, I, X, C, o, hG, e', h
  | .tup _, I, X, C, o, hG, e', h | .lst _, I, X, C, o, hG, e', h | .sl _ _ _, I, X, C, o, hG, e', h | .callb _ _, I, X, C, o, hG, e', h | .app _ _, I, X, C, o, hG, e', h | .popAt _ _, I, X, C, o, hG, e', h
  | .get _ _, I, X, C, o, hG, e', h | .get2 _ _ _, I, X, C, o, hG, e', h | .lc _ _ _ _ _, I, X, C, o, hG, e', h | .dc _ _ _ _ _ _ _, I, X, C, o, hG, e', h | .dnew _, I, X, C, o, hG, e', h | .bi2 _ _, I, X, C, o, hG, e', h | .rev _, I, X, C, o, hG, e', h | .dzip _ _, I, X, C, o, hG, e', h | .o1 _ _, I, X, C, o, hG, e', h | .o2 _ _ _, I, X, C, o, hG, e', h | .ext _ _, I, X, C, o, hG, e', h =>
    ⟨fun pins s σ H Q I2 q => by obtain ⟨ρ, h, R, w, ρ', h', e, k⟩ := q; cases e⟩
termination_by e => (sizeOf e, 1)
theorem sTB {Z : Wd} {lv : Nat} {G : Gv} (hC : CallOk Z lv G) (isAnd : Bool) : ∀ (es : List Ex) (I : Inf) (X : Cx) (C : Ct), XOk Z lv I X C → (∀ x, G.con x = I.con.lookup x) → ∀ (op : BoolOp) (es' : List Expr) (p : Pos),
    bopOk op isAnd = true → mEs I es es' = true → es ≠ [] → PW X (.BoolOp op es' p) (tT C (denTB G isAnd es))
  | [], I, X, C, o, hG, op, es', p, h1, h, n => absurd rfl n
  | e :: es, I, X, C, o, hG, op, es', p, h1, h, n => by
    cases es' with
    | nil => cases h
    | cons e' es' =>
      have h : (notStar e' && (mE I e e' && mEs I es es')) = true := h
      simp only [Bool.and_eq_true] at h
      have pa := sT hC e I X C o hG e' h.2.1
      cases es with
      | nil =>
        cases es' with
        | cons _ _ => cases h.2.2
        | nil =>
          cases op with
          | And => cases isAnd with
            | true => exact w_and1 pa
            | false => cases h1
          | Or => cases isAnd with
            | false => exact w_or1 pa
            | true => cases h1
      | cons e2 es =>
        cases es' with
        | nil => cases h.2.2
        | cons e2' es' =>
          have pr := sTB hC isAnd (e2 :: es) I X C o hG op (e2' :: es') p h1 h.2.2 (by simp)
          cases op with
          | And => cases isAnd with
            | true => exact w_and pa pr
            | false => cases h1
          | Or => cases isAnd with
            | false => exact w_or pa pr
            | true => cases h1
termination_by es => (sizeOf es, 0)
theorem sTs {Z : Wd} {lv : Nat} {G : Gv} (hC : CallOk Z lv G) : ∀ (es : List Ex) (I : Inf) (X : Cx) (C : Ct), XOk Z lv I X C → (∀ x, G.con x = I.con.lookup x) → ∀ es' : List Expr, mTs I es es' = true → PTs X es' (tT C (denTs G es))
  | [], I, X, C, o, hG, es', h => by
    cases es' with
    | nil => exact ⟨fun pins s σ H Q I2 q => pts_nil.run pins s σ H Q I2 (by obtain ⟨ρ, h, R, q⟩ := q; exact q.ret R)⟩
    | cons _ _ => cases h
  | [e], I, X, C, o, hG, es', h => by
    cases es' with
    | nil => cases h
    | cons e' es' =>
      cases es' with
      | nil => exact pts_one (sT hC e I X C o hG e' h)
      | cons _ _ => cases h
  | _ :: _ :: _, I, X, C, o, hG, es', h => by
    rcases es' with _ | ⟨_, _ | ⟨_, _⟩⟩ <;> cases h
termination_by es => (sizeOf es, 0)
theorem sI {Z : Wd} {lv : Nat} {G : Gv} (hC : CallOk Z lv G) : ∀ (it : It2) (I : Inf) (X : Cx) (C : Ct), XOk Z lv I X C → (∀ x, G.con x = I.con.lookup x) → ∀ tg e' : Expr, mI I it tg e' = true → PI X tg e' (tI C (denI G it))
  | .seq e, I, X, C, o, hG, tg, e', h => p_seq o.K (sE hC e I X C o hG e' (by cases tg <;> exact h))
  | .vals e, I, X, C, o, hG, tg, e', h => by
    cases e' <;> first | (cases tg <;> cases h; done) | skip
    rename_i fn es' ks p
    cases fn <;> first | (cases tg <;> cases h; done) | skip
    rename_i e1 x p2
    cases es' <;> cases ks <;> first | (cases tg <;> cases h; done) | skip
    have h : (decide (x = ("values" : Str)) && (baseB e1 && ((p2.endLine == p.line) && mE I e e1))) = true := by cases tg <;> exact h
    simp only [Bool.and_eq_true, decide_eq_true_eq] at h
    obtain ⟨h1, h2, h3, h4⟩ := h
    subst h1
    exact p_vals (sE hC e I X C o hG e1 h4) h2 h3
  | .items e, I, X, C, o, hG, tg, e', h => by
    cases tg <;> first | (cases e' <;> cases h; done) | skip
    cases e' <;> first | (cases h; done) | skip
    rename_i fn es' ks p
    cases fn <;> first | (cases h; done) | skip
    rename_i e1 x p2
    cases es' <;> cases ks <;> first | (cases h; done) | skip
    have h : (decide (x = ("items" : Str)) && (baseB e1 && ((p2.endLine == p.line) && mE I e e1))) = true := h
    simp only [Bool.and_eq_true, decide_eq_true_eq] at h
    obtain ⟨h1, h2, h3, h4⟩ := h
    subst h1
    exact p_items (sE hC e I X C o hG e1 h4) h2 h3
  | .range1 a, I, X, C, o, hG, tg, e', h => by
    cases e' <;> first | (cases tg <;> cases h; done) | skip
    rename_i fn es' ks p
    cases fn <;> first | (cases tg <;> cases h; done) | skip
    rename_i x p2
    rcases es' with _ | ⟨e1, _ | ⟨_, _⟩⟩ <;> cases ks <;> first | (cases tg <;> cases h; done) | skip
    have h : (decide (x = ("range" : Str)) && (freeIs I x && (notStar e1 && mE I a e1))) = true := by cases tg <;> exact h
    simp only [Bool.and_eq_true, decide_eq_true_eq] at h
    obtain ⟨h1, h2, h3, h4⟩ := h
    obtain ⟨f1, f2, f3⟩ := freeIs_ok h2
    subst h1
    exact p_range1 (o.gl f1) (by rw [o.mg]; exact o.free _ f2) h3 (sE hC a I X C o hG e1 h4)
  | .range2 a b, I, X, C, o, hG, tg, e', h => by
    cases e' <;> first | (cases tg <;> cases h; done) | skip
    rename_i fn es' ks p
    cases fn <;> first | (cases tg <;> cases h; done) | skip
    rename_i x p2
    rcases es' with _ | ⟨e1, _ | ⟨e2, _ | ⟨_, _⟩⟩⟩ <;> cases ks <;> first | (cases tg <;> cases h; done) | skip
    have h : (decide (x = ("range" : Str)) && (freeIs I x && (notStar e1 && (notStar e2 && (mE I a e1 && mE I b e2))))) = true := by cases tg <;> exact h
    simp only [Bool.and_eq_true, decide_eq_true_eq] at h
    obtain ⟨h1, h2, h3, h4, h5, h6⟩ := h
    obtain ⟨f1, f2, f3⟩ := freeIs_ok h2
    subst h1
    exact p_range2 (o.gl f1) (by rw [o.mg]; exact o.free _ f2) h3 h4 (sE hC a I X C o hG e1 h5) (sE hC b I X C o hG e2 h6)
  | .enum e, I, X, C, o, hG, tg, e', h => by
    cases tg <;> first | (cases e' <;> cases h; done) | skip
    cases e' <;> first | (cases h; done) | skip
    rename_i fn es' ks p
    cases fn <;> first | (cases h; done) | skip
    rename_i x p2
    rcases es' with _ | ⟨e1, _ | ⟨_, _⟩⟩ <;> cases ks <;> first | (cases h; done) | skip
    have h : (decide (x = ("enumerate" : Str)) && (freeIs I x && (notStar e1 && mE I e e1))) = true := h
    simp only [Bool.and_eq_true, decide_eq_true_eq] at h
    obtain ⟨h1, h2, h3, h4⟩ := h
    obtain ⟨f1, f2, f3⟩ := freeIs_ok h2
    subst h1
    exact p_enum o.K (o.gl f1) (by rw [o.mg]; exact o.free _ f2) h3 (sE hC e I X C o hG e1 h4)
  | .zip a b, I, X, C, o, hG, tg, e', h => by
    cases tg <;> first | (cases e' <;> cases h; done) | skip
    cases e' <;> first | (cases h; done) | skip
    rename_i fn es' ks p
    cases fn <;> first | (cases h; done) | skip
    rename_i x p2
    rcases es' with _ | ⟨e1, _ | ⟨e2, _ | ⟨_, _⟩⟩⟩ <;> cases ks <;> first | (cases h; done) | skip
    have h : (decide (x = ("zip" : Str)) && (freeIs I x && (notStar e1 && (notStar e2 && (mE I a e1 && mE I b e2))))) = true := h
    simp only [Bool.and_eq_true, decide_eq_true_eq] at h
    obtain ⟨h1, h2, h3, h4, h5, h6⟩ := h
    obtain ⟨f1, f2, f3⟩ := freeIs_ok h2
    subst h1
    exact p_zip o.K (o.gl f1) (by rw [o.mg]; exact o.free _ f2) h3 h4 (sE hC a I X C o hG e1 h5) (sE hC b I X C o hG e2 h6)
termination_by it => (sizeOf it, 0)
end
end EV

set_option maxRecDepth 100000
set_option maxHeartbeats 4000000
/-! EvP: statements. -/
namespace EV
open PySem PySem.Spec PyProof.Rows L2

/-- what an answer is, when the frame is gone -/
def RetV (C : Ct) (σ : L2.St) (ρ : Ev) (H H' : Hp) (v : V) : Val → Bool → Prop
  | .d b, true => ∃ a, v = .ref a ∧ ¬ C.A1 a ∧ (Ow σ ρ a ∨ H a = none) ∧ BoxAt C.K H' (fun x => C.A1 x ∨ x = a) b a
  | .d x, false => RepD C.K H' C.A1 x v
  | .ref j, false => ∃ a, C.μ[j]? = some a ∧ v = .ref a
  | .scr ns, false => ∃ a, v = .ref a ∧ SqF C.K H' a (ns.map V.int)
  | _, _ => False
structure Ret (C : Ct) (σ : L2.St) (ρ : Ev) (H : Hp) (w : Val) (o : Bool) (h' : Hh) (v : V) (H' : Hp) : Prop where
  st : ∀ a o, H a = some o → steady o = true → H' a = some o
  keep : ∀ a o, H a = some o → a ∉ C.μ → ¬ Ow σ ρ a → (∀ ps, o ≠ .tbl ps) → Kept C.A1 H' a o
  there : ∀ a, H' a = none → H a = none
  tab : NdefX.TabsN C.T H'
  blen : h'.length = C.μ.length
  box : ∀ (j : Nat) (b : D), h'[j]? = some b → ∃ a, C.μ[j]? = some a ∧ BoxAt C.K H' (fun x => C.A1 x ∨ (o = true ∧ v = .ref x)) b a
  val : RetV C σ ρ H H' v w o
/-- what an outcome asks of what is wanted behind a statement -/
def oS (C : Ct) (σ : L2.St) (ρ : Ev) (H : Hp) (En : Ends) : SO → Prop
  | .nx ρ' h' => ∀ σ' H', Rel C σ' H' ρ' h' → Stp C σ ρ H σ' ρ' H' → En.nx σ' H'
  | .bk ρ' h' => ∀ σ' H', Rel C σ' H' ρ' h' → Stp C σ ρ H σ' ρ' H' → En.bk σ' H'
  | .ct ρ' h' => ∀ σ' H', Rel C σ' H' ρ' h' → Stp C σ ρ H σ' ρ' H' → En.ct σ' H'
  | .rt w o h' => ∀ v H', Ret C σ ρ H w o h' v H' → En.rt v H'
  | .bad => False
def tS (C : Ct) (m : MS) : TS := fun En σ H => ∃ ρ h, Rel C σ H ρ h ∧ oS C σ ρ H En (m ρ h)
section
variable {C : Ct} {σ σ1 : L2.St} {H H1 : Hp} {ρ ρ1 : Ev} {h h1 : Hh} {En : Ends}
theorem RetV.base {v : V} {H' : Hp} {w : Val} {o : Bool} (S : Stp C σ ρ H σ1 ρ1 H1) (r : RetV C σ1 ρ1 H1 H' v w o) : RetV C σ ρ H H' v w o := by
  cases w with
  | d b =>
    cases o with
    | false => exact r
    | true =>
      obtain ⟨a, e1, e2, e3, e4⟩ := r
      refine ⟨a, e1, e2, ?_, e4⟩
      rcases e3 with z | z
      · exact S.own a z
      · exact .inr (S.there a z)
  | ref j => cases o <;> exact r
  | scr ns => cases o <;> exact r
  | own i => cases o <;> exact r
  | clo c cs => cases o <;> exact r
  | mk c => cases o <;> exact r
  | kon xs => cases o <;> exact r
theorem Ret.base {v : V} {H' : Hp} {w : Val} {o : Bool} {h' : Hh} (S : Stp C σ ρ H σ1 ρ1 H1) (r : Ret C σ1 ρ1 H1 w o h' v H') : Ret C σ ρ H w o h' v H' :=
  ⟨fun a o e s => r.st a o (S.st a o e s) s, fun a o e n1 n2 n3 => (S.keep a o e n1 n2 n3).then r.st fun e1 => r.keep a o e1 n1 (fun z => by
    rcases S.own a z with y | y
    · exact n2 y
    · rw [e] at y; cases y) n3, fun a e => S.there a (r.there a e), r.tab, r.blen, r.box, r.val.base S⟩
theorem oS.shift {o : SO} (S : Stp C σ ρ H σ1 ρ1 H1) (q : oS C σ ρ H En o) : oS C σ1 ρ1 H1 En o := by
  cases o with
  | nx ρ' h' => exact fun σ' H' R' S' => q σ' H' R' (S.trans S')
  | bk ρ' h' => exact fun σ' H' R' S' => q σ' H' R' (S.trans S')
  | ct ρ' h' => exact fun σ' H' R' S' => q σ' H' R' (S.trans S')
  | rt w o h' => exact fun v H' r => q v H' (r.base S)
  | bad => exact q
theorem tS.first {m : M Val} {f : Val → MS} (q : tS C (thenS m f) En σ H) : tE C m σ H fun v H1 => ∃ w ρ1 h1, Rel C σ H1 ρ1 h1 ∧ RepV C σ ρ1 H1 w v ∧ oS C σ ρ1 H1 En (f w ρ1 h1) := by
  obtain ⟨ρ, h, R, q⟩ := q
  unfold thenS at q
  cases e : m ρ h with
  | bad => rw [e] at q; exact q.elim
  | ok w ρ1 h1 =>
    rw [e] at q
    exact ⟨ρ, h, R, w, ρ1, h1, e, fun v H1 R1 r1 S1 P1 => ⟨w, ρ1, h1, R1, r1, oS.shift S1 q⟩⟩
theorem tS.firstB {m : M Bool} {f : Bool → MS} (q : tS C (thenS m f) En σ H) : tT C m σ H fun b H1 => tS C (f b) En σ H1 := by
  obtain ⟨ρ, h, R, q⟩ := q
  unfold thenS at q
  cases e : m ρ h with
  | bad => rw [e] at q; exact q.elim
  | ok w ρ1 h1 =>
    rw [e] at q
    exact ⟨ρ, h, R, w, ρ1, h1, e, fun H1 R1 S1 P1 => ⟨ρ1, h1, R1, oS.shift S1 q⟩⟩
/-! ### the plain ones -/
variable {X : Cx} {pos : Pos}
theorem st_pass : PS X (.Pass pos) (tS C fun ρ h => .nx ρ h) := ps_pass.weakE fun En σ H ⟨ρ, h, R, q⟩ => q σ H R .refl
theorem st_brk : PS X (.Break pos) (tS C fun ρ h => .bk ρ h) := ps_break.weakE fun En σ H ⟨ρ, h, R, q⟩ => q σ H R .refl
theorem st_cnt : PS X (.Continue pos) (tS C fun ρ h => .ct ρ h) := ps_continue.weakE fun En σ H ⟨ρ, h, R, q⟩ => q σ H R .refl
theorem st_nev {st : Stmt} : PS X st (tS C fun _ _ => .bad) := ⟨fun pins s σ H En I q => by obtain ⟨ρ, h, R, q⟩ := q; exact q.elim⟩
theorem ss_nil : PSs X [] (tS C fun ρ h => .nx ρ h) := pss_nil.weakE fun En σ H ⟨ρ, h, R, q⟩ => q σ H R .refl
theorem ss_cons {st : Stmt} {rest : List Stmt} {m n : MS} (h1 : PS X st (tS C m)) (h2 : PSs X rest (tS C n)) : PSs X (st :: rest) (tS C (seqS m n)) := by
  refine (pss_cons h1 h2).weakE fun En σ H q => ?_
  obtain ⟨ρ, h, R, q⟩ := q
  refine ⟨ρ, h, R, ?_⟩
  unfold seqS at q
  cases e : m ρ h with
  | nx ρ' h' =>
    rw [e] at q
    exact fun σ' H' R' S' => ⟨ρ', h', R', oS.shift S' q⟩
  | bk ρ' h' => rw [e] at q; exact q
  | ct ρ' h' => rw [e] at q; exact q
  | rt w o h' => rw [e] at q; exact q
  | bad => rw [e] at q; exact q
theorem st_ex {e : Expr} {m : M Val} (he : PE X e (tE C m)) (hs : notComp e = true) : PS X (.Expr e pos) (tS C (thenS m fun _ ρ h => .nx ρ h)) :=
  (ps_expr he (swaps_none hs)).weakE fun En σ H q => by
    obtain ⟨ρ, h, R, w, ρ', h', e, k⟩ := q.first
    exact ⟨ρ, h, R, w, ρ', h', e, fun v H1 R1 r1 S1 P1 => by
      obtain ⟨w2, ρ2, h2, R2, r2, q2⟩ := k v H1 R1 r1 S1 P1
      exact q2 σ H1 R2 .refl⟩
theorem st_if {c : Expr} {a b : List Stmt} {mt : M Bool} {ma mb : MS} (hc : PT X c (tT C mt)) (ha : PSs X a (tS C ma)) (hb : PSs X b (tS C mb)) : PS X (.If c a b pos) (tS C (thenS mt fun k => if k = true then ma else mb)) :=
  (ps_if hc ha hb).weakE fun En σ H q => by
    obtain ⟨ρ, h, R, w, ρ', h', e, k⟩ := q.firstB
    refine ⟨ρ, h, R, w, ρ', h', e, fun H1 R1 S1 P1 => ?_⟩
    have z := k H1 R1 S1 P1
    cases w <;> exact z
theorem st_while {c : Expr} {body : List Stmt} {mt : M Bool} {mb : MS} {n : Nat} (hx : PassesOwn (model X.prog X.w) X.A X.env X.xe) (hc : PT X c (tT C mt)) (hb : PSs X body (tS C mb)) : PS X (.While c body [] pos) (tS C (whileLoop mt mb n)) := by
  refine (ps_while hx hc hb).weakE fun En σ H q => ?_
  refine ⟨fun m σ H => tS C (whileLoop mt mb m) En σ H, ⟨n, q⟩, fun m σ H q => ?_⟩
  cases m with
  | zero => obtain ⟨ρ, h, R, q⟩ := q; exact q.elim
  | succ m =>
    obtain ⟨ρ, h, R, w, ρ', h', e, k⟩ := (show tS C (thenS mt fun b ρ h => if b = true then (match mb ρ h with
      | .nx ρ' h' => whileLoop mt mb m ρ' h'
      | .ct ρ' h' => whileLoop mt mb m ρ' h'
      | .bk ρ' h' => .nx ρ' h'
      | o => o) else .nx ρ h) En σ H from q).firstB
    refine ⟨ρ, h, R, w, ρ', h', e, fun H1 R1 S1 P1 => ?_⟩
    obtain ⟨ρ2, h2, R2, q2⟩ := k H1 R1 S1 P1
    cases w with
    | false => exact q2 σ H1 R2 .refl
    | true =>
      simp only [if_true] at q2 ⊢
      refine ⟨fun σ' H' => tS C (whileLoop mt mb m) En σ' H', fun σ' H' z => ⟨m, Nat.lt_succ_self m, z⟩, ρ2, h2, R2, ?_⟩
      cases em : mb ρ2 h2 with
      | nx ρ3 h3 => rw [em] at q2; exact fun σ' H' R' S' => ⟨ρ3, h3, R', oS.shift S' q2⟩
      | ct ρ3 h3 => rw [em] at q2; exact fun σ' H' R' S' => ⟨ρ3, h3, R', oS.shift S' q2⟩
      | bk ρ3 h3 => rw [em] at q2; exact q2
      | rt w o h' => rw [em] at q2; exact q2
      | bad => rw [em] at q2; exact q2
theorem st_for {tg iter : Expr} {body : List Stmt} {mi : M (List D)} {js : List Nat} {f : Val → M Unit} {mb : MS} (hx : PassesOwn (model X.prog X.w) X.A X.env X.xe) (hc : X.calm = true) (hi : PI X tg iter (tI C mi)) (hg : PG X tg (tG C js f)) (hb : PSs X body (tS C mb)) (hs : notSet iter = true) :
    PS X (.For tg iter body [] pos) (tS C (thenS mi fun xs => forLoop f mb xs)) := by
  refine (ps_for hx hc hi hg hb (folded_set hs)).weakE fun En σ H q => ?_
  obtain ⟨ρ, h, R, q⟩ := q
  unfold thenS at q
  cases e : mi ρ h with
  | bad => rw [e] at q; exact q.elim
  | ok xs ρ1 h1 =>
    rw [e] at q
    refine ⟨ρ, h, xs, ρ1, h1, R, e, fun J H1 R1 S1 P1 it => ?_⟩
    refine ⟨fun i m σ' H' => m = xs.length - i ∧ i ≤ xs.length ∧ ∃ ρ' h', Rel C σ' H' ρ' h' ∧ Kp H1 (Av C σ ρ1) H' (Av C σ' ρ') ∧ oS C σ' ρ' H' En (forLoop f mb (xs.drop i) ρ' h'),
      ⟨xs.length, rfl, Nat.zero_le _, ρ1, h1, R1, .refl, by rw [List.drop_zero]; exact oS.shift S1 q⟩, ?_⟩
    rintro i m σ2 H2 ⟨rfl, hi, ρ2, h2, R2, k2, q2⟩
    have itk := it C (.refl C) σ2 ρ2 h2 H2 R2 k2
    by_cases hlt : i < xs.length
    · have hd : xs.drop i = xs[i] :: xs.drop (i + 1) := List.drop_eq_getElem_cons hlt
      have hxi : xs[i]? = some xs[i] := List.getElem?_eq_getElem hlt
      rw [hd] at q2
      obtain ⟨g1, g2⟩ := itk.1 i _ hxi
      refine .inr ⟨g1, fun σ' H' => i + 1 ≤ xs.length ∧ ∃ ρ' h', Rel C σ' H' ρ' h' ∧ Kp H1 (Av C σ ρ1) H' (Av C σ' ρ') ∧ oS C σ' ρ' H' En (forLoop f mb (xs.drop (i + 1)) ρ' h'), fun σ' H' z => ⟨xs.length - (i + 1), by omega, rfl, z⟩, fun x H' y => ?_⟩
      obtain ⟨rx, Ry, Sy⟩ := g2 x H' y
      have q2' : oS C σ2 ρ2 H2 En (thenS (f (.d xs[i])) (fun _ ρ h => (match mb ρ h with
        | .nx ρ' h' => forLoop f mb (xs.drop (i + 1)) ρ' h'
        | .ct ρ' h' => forLoop f mb (xs.drop (i + 1)) ρ' h'
        | .bk ρ' h' => .nx ρ' h'
        | o => o)) ρ2 h2) := q2
      unfold thenS at q2'
      cases ef : f (.d xs[i]) ρ2 h2 with
      | bad => rw [ef] at q2'; exact q2'.elim
      | ok u ρ3 h3 =>
        rw [ef] at q2'
        refine ⟨ρ2, h2, .d xs[i], ρ3, h3, Ry, rx, ef, fun σ3 H3 R3 S3 O3 P3 => ⟨ρ3, h3, R3, ?_⟩⟩
        have S23 := Sy.trans S3
        have k3 : Kp H1 (Av C σ ρ1) H3 (Av C σ3 ρ3) := k2.trans (S23.kp R2.mu)
        have q3 := oS.shift S23 q2'
        simp only at q3
        cases em : mb ρ3 h3 with
        | nx ρ4 h4 => rw [em] at q3; exact fun σ' H' R' S' => ⟨hlt, ρ4, h4, R', k3.trans (S'.kp R3.mu), oS.shift S' q3⟩
        | ct ρ4 h4 => rw [em] at q3; exact fun σ' H' R' S' => ⟨hlt, ρ4, h4, R', k3.trans (S'.kp R3.mu), oS.shift S' q3⟩
        | bk ρ4 h4 => rw [em] at q3; exact q3
        | rt w o h' => rw [em] at q3; exact q3
        | bad => rw [em] at q3; exact q3
    · have ei : i = xs.length := by omega
      subst ei
      rw [List.drop_length] at q2
      exact .inl ⟨itk.2, q2 σ2 H2 R2 .refl⟩
/-! ### the answers -/
theorem Rel.ret {A' : Addr → Prop} {w : Val} {o : Bool} {v : V} {σ' : L2.St} {ρ' : Ev} {H' : Hp} {h' : Hh} (R : Rel { C with A1 := A' } σ' H' ρ' h') (S : Stp C σ ρ H σ' ρ' H') (hA : ∀ x, (C.A1 x ∨ (o = true ∧ v = .ref x)) → Av { C with A1 := A' } σ' ρ' x) (r : RetV C σ ρ H H' v w o) : Ret C σ ρ H w o h' v H' :=
  ⟨S.st, S.keep, S.there, R.tab, R.blen, fun j b e => by obtain ⟨a, e1, e2⟩ := R.box j b e; exact ⟨a, e1, e2.kp (Kp.less hA) fun o z => z⟩, r⟩
theorem noOwnA {v : V} {σ' : L2.St} {ρ' : Ev} : ∀ x, (C.A1 x ∨ (false = true ∧ v = .ref x)) → Av C σ' ρ' x := fun x z => z.elim .inl fun y => absurd y.1 (by decide)
theorem st_ret {e : Expr} {m : M Val} (he : PE X e (tE C m)) : PS X (.Return (some e) pos) (tS C (thenS m fun x => retM x)) :=
  (ps_ret he).weakE fun En σ H q => by
    obtain ⟨ρ, h, R, w, ρ', h', e, k⟩ := q.first
    refine ⟨ρ, h, R, w, ρ', h', e, fun v H1 R1 r1 S1 P1 => ?_⟩
    obtain ⟨w2, ρ2, h2, R2, r2, q2⟩ := k v H1 R1 r1 S1 P1
    cases w2 with
    | d x => exact q2 v H1 (Rel.ret (C := C) (A' := C.A1) R2 .refl noOwnA (RepD.less r2 fun a z => .inl z))
    | ref j => exact q2 v H1 (Rel.ret (C := C) (A' := C.A1) R2 .refl noOwnA r2)
    | own i => exact q2.elim
    | clo c cs => exact q2.elim
    | mk c => exact q2.elim
    | scr ns => exact q2 v H1 (Rel.ret (C := C) (A' := C.A1) R2 .refl noOwnA r2)
    | kon xs => exact q2.elim
theorem st_retN : PS X (.Return none pos) (tS C fun _ h => .rt (.d .non) false h) :=
  ps_retN.weakE fun En σ H ⟨ρ, h, R, q⟩ => q .non H (Rel.ret (C := C) (A' := C.A1) R .refl noOwnA rfl)
theorem st_retNm {i : Nat} {e : Expr} (he : PE X e (tE C (nameM i))) : PS X (.Return (some e) pos) (tS C (retNmM i)) :=
  (ps_ret he).weakE fun En σ H q => by
    obtain ⟨ρ, h, R, q⟩ := q
    unfold retNmM at q
    cases ei : ρ[i]? with
    | none => rw [ei] at q; exact q.elim
    | some s =>
      rw [ei] at q
      cases s with
      | no => exact q.elim
      | val w => exact q.elim
      | own b =>
        refine ⟨ρ, h, R, .own i, ρ, h, by unfold nameM; rw [ei], fun v H1 R1 r1 S1 P1 => ?_⟩
        obtain ⟨a, b', z1, z2, z3⟩ := r1
        rw [ei] at z1; cases z1
        obtain ⟨a', y1, y2, y3⟩ := R1.own i b ei
        rw [z2] at y1; cases y1
        refine q v H1 (Rel.ret (C := C) (A' := C.A1) R1 S1 (fun x z => z.elim .inl fun y => .inr ⟨i, b, ei, by rw [z2, ← y.2, z3]⟩) ⟨a, z3, y2, S1.own a ⟨i, b, ei, z2⟩, y3.kp (Kp.less fun x z => ?_) fun o z => z⟩)
        rcases z with z | z
        · exact .inl z
        · rw [z]; exact .inr ⟨i, b, ei, z2⟩
theorem st_retOwn {e : Expr} {m : M Val} (he : PE X e (tFr C m)) (hd : ∀ ρ h w ρ' h', m ρ h = .ok w ρ' h' → ∃ b, w = .d b) : PS X (.Return (some e) pos) (tS C (thenS m fun x => retOwnM x)) :=
  (ps_ret he).weakE fun En σ H q => by
    obtain ⟨ρ, h, R, q⟩ := q
    unfold thenS at q
    cases em : m ρ h with
    | bad => rw [em] at q; exact q.elim
    | ok w ρ1 h1 =>
      rw [em] at q
      obtain ⟨b, eb⟩ := hd _ _ _ _ _ em
      subst eb
      refine ⟨ρ, h, b, ρ1, h1, R, em, fun a H1 n R1 bx S1 P1 => ?_⟩
      refine q (.ref a) H1 (Rel.ret (C := C) (A' := (C.inF a).A1) R1 S1 (fun x z => .inl (z.imp id fun y => (V.ref.inj y.2).symm)) ⟨a, rfl, fun z => ?_, .inr n, bx.kp (Kp.less fun x z => ?_) fun o z => z⟩)
      · obtain ⟨o, eo⟩ := R.trk a z; rw [n] at eo; cases eo
      · rcases z with z | z
        · exact .inl (.inl z)
        · exact .inl (.inr z)
end
end EV

set_option maxRecDepth 100000
set_option maxHeartbeats 4000000
/-! EvR: stores to names. -/
namespace EV
open PySem PySem.Spec PyProof.Rows L2

section
variable {C : Ct} {σ : L2.St} {H : Hp} {ρ : Ev} {h : Hh} {En : Ends} {X : Cx} {pos : Pos}
theorem RepV.lessF {A' : Addr → Prop} {σ' : L2.St} {ρ' : Ev} {w : Val} {v : V} (r : RepV { C with A1 := A' } σ ρ H w v) (s : ∀ x, Av C σ' ρ' x → Av { C with A1 := A' } σ ρ x) (n : ∀ i, w ≠ .own i) : RepV C σ' ρ' H w v := by
  cases w with
  | d x => exact RepD.less r s
  | ref j => exact r
  | own i => exact absurd rfl (n i)
  | clo c cs => obtain ⟨b0, n, f, F, ws, h1, h2, h3, h4, h5, h6, h7, h8⟩ := r; exact ⟨b0, n, f, F, ws, h1, h2, h3, h4, h5, h6, h7, h8.kp (Kp.less s)⟩
  | mk c => exact r
  | scr ns => exact r
  | kon xs => obtain ⟨a, vs, h1, h2, h3⟩ := r; exact ⟨a, vs, h1, h2, h3.kp (Kp.less s)⟩
/-- what was put aside becomes a slot's own -/
theorem Rel.adopt {a : Addr} {i : Nat} {b : D} (R : Rel (C.inF a) σ H ρ h) (hm : ∀ x ∈ C.μ, C.A1 x) (na : ¬ C.A1 a) (hi : i < ρ.length) (bx : BoxAt C.K H (Av (C.inF a) σ ρ) b a) :
    Rel C (σ.set i (some (.ref a))) H (ρ.set i (.own b)) h ∧ (∀ x, Ow (σ.set i (some (.ref a))) (ρ.set i (.own b)) x → x = a ∨ Ow σ ρ x) ∧ (∀ x, Av C (σ.set i (some (.ref a))) (ρ.set i (.own b)) x → Av (C.inF a) σ ρ x) := by
  have hs : i < σ.length := by rw [R.len]; exact hi
  have ow : ∀ x, Ow (σ.set i (some (.ref a))) (ρ.set i (.own b)) x → x = a ∨ Ow σ ρ x := fun x ⟨j, c, e1, e2⟩ => by
    by_cases hj : i = j
    · subst hj
      rw [List.getElem?_set_self hs] at e2
      cases e2
      exact .inl rfl
    · rw [List.getElem?_set_ne hj] at e1 e2
      exact .inr ⟨j, c, e1, e2⟩
  have avs : ∀ x, Av C (σ.set i (some (.ref a))) (ρ.set i (.own b)) x → Av (C.inF a) σ ρ x := fun x z => by
    rcases z with z | z
    · exact .inl (.inl z)
    · rcases ow x z with y | y
      · exact .inl (.inr y)
      · exact .inr y
  refine ⟨⟨by rw [List.length_set, List.length_set]; exact R.len, fun j w e => ?_, fun j c e => ?_, fun j j2 c c2 x e1 e2 z1 z2 => ?_, R.blen, fun j c e => ?_, hm, R.nod, fun x z => R.trk x (.inl z), fun j k e => ?_, R.tab⟩, ow, avs⟩
  · by_cases hj : i = j
    · subst hj; rw [List.getElem?_set_self hi] at e; cases e
    · rw [List.getElem?_set_ne hj] at e ⊢
      obtain ⟨v, e1, r⟩ := R.val j w e
      exact ⟨v, e1, RepV.lessF r avs fun k z => R.noH j k (by rw [← z]; exact e)⟩
  · by_cases hj : i = j
    · subst hj
      rw [List.getElem?_set_self hi] at e; cases e
      exact ⟨a, List.getElem?_set_self hs, na, bx.kp (Kp.less avs) fun o z => z⟩
    · rw [List.getElem?_set_ne hj] at e ⊢
      obtain ⟨x, e1, e2, e3⟩ := R.own j c e
      exact ⟨x, e1, fun z => e2 (.inl z), e3.kp (Kp.less avs) fun o z => z⟩
  · have main : ∀ {j : Nat} {c : D} {x : Addr}, i ≠ j → (ρ.set i (.own b))[j]? = some (.own c) → (σ.set i (some (.ref a)))[j]? = some (some (.ref x)) → x ≠ a := fun {j c x} hj e z y => by
      rw [List.getElem?_set_ne hj] at e z
      obtain ⟨x', e1, e2, _⟩ := R.own j c e
      rw [z] at e1; cases e1
      exact e2 (.inr y)
    by_cases h1 : i = j
    · by_cases h2 : i = j2
      · exact h1.symm.trans h2
      · subst h1
        rw [List.getElem?_set_self hs] at z1
        cases z1
        exact absurd rfl (main h2 e2 z2)
    · by_cases h2 : i = j2
      · subst h2
        rw [List.getElem?_set_self hs] at z2
        cases z2
        exact absurd rfl (main h1 e1 z1)
      · rw [List.getElem?_set_ne h1] at e1 z1
        rw [List.getElem?_set_ne h2] at e2 z2
        exact R.dis j j2 c c2 x e1 e2 z1 z2
  · obtain ⟨x, e1, e2⟩ := R.box j c e
    exact ⟨x, e1, e2.kp (Kp.less avs) fun o z => z⟩
  · by_cases hj : i = j
    · subst hj; rw [List.getElem?_set_self hi] at e; cases e
    · rw [List.getElem?_set_ne hj] at e; exact R.noH j k e
theorem Stp.adopt {a : Addr} {i : Nat} {b : D} {σ1 : L2.St} {ρ1 : Ev} {H1 : Hp} (S : Stp C σ1 ρ1 H1 σ ρ H) (n : H1 a = none) (ow : ∀ x, Ow (σ.set i (some (.ref a))) (ρ.set i (.own b)) x → x = a ∨ Ow σ ρ x) :
    Stp C σ1 ρ1 H1 (σ.set i (some (.ref a))) (ρ.set i (.own b)) H :=
  ⟨S.st, S.keep, S.there, fun x z => by
    rcases ow x z with y | y
    · rw [y]; exact .inr n
    · exact S.own x y⟩
theorem thenS_ok {α : Type} {m : M α} {f : α → MS} {σ0 : L2.St} {ρ0 : Ev} {H0 : Hp} (q : oS C σ0 ρ0 H0 En (thenS m f ρ h)) : ∃ a ρ1 h1, m ρ h = .ok a ρ1 h1 ∧ oS C σ0 ρ0 H0 En (f a ρ1 h1) := by
  unfold thenS at q
  cases e : m ρ h with
  | bad => rw [e] at q; exact q.elim
  | ok a ρ1 h1 => rw [e] at q; exact ⟨a, ρ1, h1, rfl, q⟩
theorem setM_ok {i : Nat} {x : Val} {ρ ρ' : Ev} {h h' : Hh} (e : setM i x ρ h = .ok () ρ' h') : (∀ j, x ≠ .own j) ∧ i < ρ.length ∧ ρ' = ρ.set i (.val x) ∧ h' = h := by
  unfold setM at e
  cases x with
  | own j => cases e
  | _ =>
    simp only at e
    split at e
    · rename_i hi
      injection e with _ z2 z3
      exact ⟨(fun j z => by cases z), hi, z2.symm, z3.symm⟩
    · cases e
abbrev nxS : Unit → MS := fun _ ρ h => .nx ρ h
theorem setM_run {i : Nat} {x : Val} {v : V} (R : Rel C σ H ρ h) (r : RepV C σ ρ H x v) (q : oS C σ ρ H En (thenS (setM i x) nxS ρ h)) : En.nx (σ.set i (some v)) H := by
  obtain ⟨_, ρ', h', e, q1⟩ := thenS_ok q
  obtain ⟨n, hi, z1, z2⟩ := setM_ok e
  subst z1; subst z2
  obtain ⟨R', S', _⟩ := R.setVal hi n r
  exact q1 _ H R' S'
/-- name = value -/
theorem st_setS {i : Nat} {x : Str} {e : Expr} {pos' : Pos} {m : M Val} (hN : X.N.Nodup) (hi : X.N[i]? = some x) (hx : Loc X.env.scope x) (he : PE X e (tE C m)) (hs : swapsWith e (some (.Name x pos')) pos.line X.env = pure false) (hf : X.fn x = true ∨ X.env.scope.names.lookup x = some .local) :
    PS X (.Assign [.Name x pos'] e pos) (tS C (thenS m fun x => thenS (setM i x) nxS)) :=
  (ps_set hN hi hx he hs hf).weakE fun En σ H q => by
    obtain ⟨ρ, h, R, w, ρ', h', e, k⟩ := q.first
    refine ⟨ρ, h, R, w, ρ', h', e, fun v H1 R1 r1 S1 P1 => ?_⟩
    obtain ⟨w2, ρ2, h2, R2, r2, q2⟩ := k v H1 R1 r1 S1 P1
    exact setM_run R2 r2 q2
theorem st_set {i : Nat} {x : Str} {e : Expr} {pos' : Pos} {m : M Val} (hN : X.N.Nodup) (hi : X.N[i]? = some x) (hx : Loc X.env.scope x) (he : PE X e (tE C m)) (hs : notComp e = true) (hf : X.fn x = true ∨ X.env.scope.names.lookup x = some .local) :
    PS X (.Assign [.Name x pos'] e pos) (tS C (thenS m fun x => thenS (setM i x) nxS)) := st_setS hN hi hx he (swaps_none hs) hf
theorem swaps_cell {x : Str} {e : Expr} {p : Pos} {l : Nat} (h : X.env.scope.names.lookup x = some .cell) : swapsWith e (some (.Name x p)) l X.env = pure false := by
  have hk : X.env.kindOf x = some .cell := h
  have e0 : (X.env.kindOf x == some NameKind.local) = false := by rw [hk]; rfl
  cases e <;> first
    | rfl
    | (show (pure (X.env.blockKind == .function && X.env.kindOf x == some .local && _ && _) : Sem Bool) = pure false
       rw [e0]; simp)
theorem ownM_ok {i : Nat} {x : Val} {σ0 : L2.St} {ρ0 : Ev} {H0 : Hp} (q : oS C σ0 ρ0 H0 En (ownM i x ρ h)) : ∃ b, x = .d b ∧ i < ρ.length ∧ oS C σ0 ρ0 H0 En (.nx (ρ.set i (.own b)) h) := by
  unfold ownM at q
  cases x with
  | d b =>
    simp only at q
    split at q
    · rename_i hi; exact ⟨b, rfl, hi, q⟩
    · exact q.elim
  | _ => exact q.elim
/-- the store of what is new -/
theorem own_store {i : Nat} {m : M Val} (q : tS C (thenS m fun x => ownM i x) En σ H) : tFr C m σ H fun v H1 => En.nx (σ.set i (some v)) H1 := by
  obtain ⟨ρ, h, R, q⟩ := q
  obtain ⟨x, ρ1, h1, e, q⟩ := thenS_ok q
  obtain ⟨b, ex, hi, q1⟩ := ownM_ok q
  subst ex
  refine ⟨ρ, h, b, ρ1, h1, R, e, fun a H1 n R1 bx S1 P1 => ?_⟩
  have na : ¬ C.A1 a := fun z => by obtain ⟨o, eo⟩ := R.trk a z; rw [n] at eo; cases eo
  obtain ⟨R2, ow, _⟩ := R1.adopt R.mu na hi bx
  exact q1 _ H1 R2 (S1.adopt n ow)
theorem st_setOwn {i : Nat} {x : Str} {e : Expr} {pos' : Pos} {m : M Val} (hN : X.N.Nodup) (hi : X.N[i]? = some x) (hx : Loc X.env.scope x) (he : PE X e (tFr C m)) (hs : notComp e = true) (hf : X.fn x = true ∨ X.env.scope.names.lookup x = some .local) :
    PS X (.Assign [.Name x pos'] e pos) (tS C (thenS m fun x => ownM i x)) :=
  (ps_set hN hi hx he (swaps_none hs) hf).weakE fun En σ H q => own_store q
/-- any target -/
theorem st_asg {tg e : Expr} {m : M Val} {js : List Nat} {f : Val → M Unit} (he : PE X e (tE C m)) (hg : PG X tg (tG C js f)) (hs : ∀ l, swapsWith e (some tg) l X.env = pure false) (hw : swappedStores [tg] e X.env = pure none) (h1 : notStar tg = true) :
    PS X (.Assign [tg] e pos) (tS C (thenS m fun x => thenS (f x) nxS)) :=
  (ps_asg he hg (hs _) hw (asg_one h1)).weakE fun En σ H q => by
    obtain ⟨ρ, h, R, w, ρ', h', e, k⟩ := q.first
    refine ⟨ρ, h, R, w, ρ', h', e, fun v H1 R1 r1 S1 P1 => ?_⟩
    obtain ⟨w2, ρ2, h2, R2, r2, q2⟩ := k v H1 R1 r1 S1 P1
    obtain ⟨_, ρ3, h3, e3, q3⟩ := thenS_ok q2
    exact ⟨ρ2, h2, w2, ρ3, h3, R2, r2, e3, fun σ' H' R' S' _ _ => q3 σ' H' R' S'⟩
/-- a name takes back what a slot owns, for good -/
theorem freeze_run {i : Nat} (R : Rel C σ H ρ h) {b : D} (e : ρ[i]? = some (.own b)) : Rel C σ H (ρ.set i (.val (.d b))) h ∧ Stp C σ ρ H σ (ρ.set i (.val (.d b))) H := by
  obtain ⟨a, e1, e2, e3⟩ := R.own i b e
  have hl := (List.getElem?_eq_some_iff.mp e).1
  have hs : i < σ.length := by rw [R.len]; exact hl
  have ss : σ.set i (some (.ref a)) = σ := by
    apply List.ext_getElem?
    intro j
    by_cases hj : i = j
    · subst hj; rw [List.getElem?_set_self hs, e1]
    · rw [List.getElem?_set_ne hj]
  have ow : ∀ x, Ow σ (ρ.set i (.val (.d b))) x → Ow σ ρ x := fun x ⟨j, c, z1, z2⟩ => by
    by_cases hj : i = j
    · subst hj; rw [List.getElem?_set_self hl] at z1; cases z1
    · rw [List.getElem?_set_ne hj] at z1; exact ⟨j, c, z1, z2⟩
  have avs : ∀ x, Av C σ (ρ.set i (.val (.d b))) x → Av C σ ρ x := fun x z => z.imp id (ow x)
  have nA : ¬ Av C σ (ρ.set i (.val (.d b))) a := fun z => by
    rcases z with z | ⟨j, c, z1, z2⟩
    · exact e2 z
    · by_cases hj : i = j
      · subst hj; rw [List.getElem?_set_self hl] at z1; cases z1
      · rw [List.getElem?_set_ne hj] at z1
        exact hj (R.dis i j b c a e z1 e1 z2)
  have rv : ∀ {w : Val} {v : V}, (∀ k, w ≠ .own k) → RepV C σ ρ H w v → RepV C σ (ρ.set i (.val (.d b))) H w v := fun n r => RepV.lessF (C := C) (A' := C.A1) r avs n
  refine ⟨⟨by rw [List.length_set]; exact R.len, fun j w q => ?_, fun j c q => ?_, fun j j2 c c2 x q1 q2 z1 z2 => ?_, R.blen, fun j c q => ?_, R.mu, R.nod, R.trk, fun j k q => ?_, R.tab⟩, ⟨fun _ _ e _ => e, fun _ _ e _ _ _ => .inl e, fun _ e => e, fun x z => .inl (ow x z)⟩⟩
  · by_cases hj : i = j
    · subst hj
      rw [List.getElem?_set_self hl] at q; cases q
      exact ⟨.ref a, e1, (e3.kp (Kp.less avs) fun o z => z).frozen nA⟩
    · rw [List.getElem?_set_ne hj] at q
      obtain ⟨v, q1, q2⟩ := R.val j w q
      exact ⟨v, q1, rv (fun k z => R.noH j k (by rw [← z]; exact q)) q2⟩
  · by_cases hj : i = j
    · subst hj; rw [List.getElem?_set_self hl] at q; cases q
    · rw [List.getElem?_set_ne hj] at q
      obtain ⟨x, q1, q2, q3⟩ := R.own j c q
      exact ⟨x, q1, q2, q3.kp (Kp.less avs) fun o z => z⟩
  · have n1 : i ≠ j := fun z => by subst z; rw [List.getElem?_set_self hl] at q1; cases q1
    have n2 : i ≠ j2 := fun z => by subst z; rw [List.getElem?_set_self hl] at q2; cases q2
    rw [List.getElem?_set_ne n1] at q1
    rw [List.getElem?_set_ne n2] at q2
    exact R.dis j j2 c c2 x q1 q2 z1 z2
  · obtain ⟨x, q1, q2⟩ := R.box j c q
    exact ⟨x, q1, q2.kp (Kp.less avs) fun o z => z⟩
  · by_cases hj : i = j
    · subst hj; rw [List.getElem?_set_self hl] at q; cases q
    · rw [List.getElem?_set_ne hj] at q; exact R.noH j k q
/-- a ghost step ahead of the rest -/
theorem ss_freeze {rest : List Stmt} {i : Nat} {n : MS} (h2 : PSs X rest (tS C n)) : PSs X rest (tS C (seqS (freezeM i) n)) :=
  h2.weakE fun En σ H q => by
    obtain ⟨ρ, h, R, q⟩ := q
    unfold seqS freezeM at q
    cases e : ρ[i]? with
    | none => simp only [e] at q; exact q.elim
    | some s =>
      cases s with
      | own b =>
        simp only [e] at q
        obtain ⟨R', S'⟩ := freeze_run R e
        exact ⟨_, h, R', oS.shift S' q⟩
      | no => simp only [e] at q; exact q.elim
      | val w => simp only [e] at q; exact q.elim

/-! ### several names at once -/
def ParV (bx : D → Addr → Prop) (rv : (Addr → Prop) → Val → V → Prop) : List (Nat × Bool) → List Val → List V → (Addr → Prop) → (Addr → Prop) → Prop
  | [], ws, vs, A, A' => ws = [] ∧ vs = [] ∧ A' = A
  | (_, false) :: fl, ws, vs, A, A' => ∃ w wr v vr, ws = w :: wr ∧ vs = v :: vr ∧ rv A' w v ∧ ParV bx rv fl wr vr A A'
  | (_, true) :: fl, ws, vs, A, A' => ∃ b wr a vr, ws = .d b :: wr ∧ vs = .ref a :: vr ∧ ¬ A a ∧ bx b a ∧ ParV bx rv fl wr vr (fun x => A x ∨ x = a) A'
/-- the reading of several expressions, some made anew -/
def tAF (C : Ct) (fl : List (Nat × Bool)) (m : M (List Val)) : TA := fun σ H Q => ∃ ρ h, Rel C σ H ρ h ∧ ∃ ws ρ' h', m ρ h = .ok ws ρ' h' ∧
  ∀ vs H' A', Rel { C with A1 := A' } σ H' ρ' h' → ParV (BoxAt C.K H' (Av { C with A1 := A' } σ ρ')) (fun A w v => RepV { C with A1 := A } σ ρ' H' w v) fl ws vs C.A1 A' → Stp C σ ρ H σ ρ' H' → Shp ρ ρ' → (∀ x, A' x → C.A1 x ∨ H x = none) → (∀ x, C.A1 x → A' x) → Q vs H'
theorem RepV.more {A' : Addr → Prop} {ρ' : Ev} {H' : Hp} {w : Val} {v : V} (r : RepV C σ ρ H w v) (k : Kp H (Av C σ ρ) H' (Av { C with A1 := A' } σ ρ')) (st : ∀ a o, H a = some o → steady o = true → H' a = some o) (P : Shp ρ ρ') : RepV { C with A1 := A' } σ ρ' H' w v := by
  cases w with
  | d x => exact r.kp k _ _
  | ref j => exact r
  | own i => obtain ⟨a, b, e1, e2, e3⟩ := r; obtain ⟨b', e⟩ := P.own e1; exact ⟨a, b', e, e2, e3⟩
  | clo c cs => obtain ⟨b0, n, f, F, ws, h1, h2, h3, h4, h5, h6, h7, h8⟩ := r; exact ⟨b0, n, f, F, ws, h1, h2, st _ _ h3 rfl, st _ _ h4 rfl, h5, h6, h7, h8.kp k⟩
  | mk c => obtain ⟨b0, n, f, F, h1, h2, h3, h4, h5⟩ := r; exact ⟨b0, n, f, F, h1, h2, st _ _ h3 rfl, st _ _ h4 rfl, h5⟩
  | scr ns => obtain ⟨a, h1, h2⟩ := r; exact ⟨a, h1, h2.st st⟩
  | kon xs => obtain ⟨a, vs, h1, h2, h3⟩ := r; exact ⟨a, vs, h1, h2, h3.kp k⟩
theorem af_nil : PA X [] (tAF C [] (M.ret [])) := pa_nil.weakE fun σ H Q q => by
  obtain ⟨ρ, h, R, ws, ρ', h', e, k⟩ := q
  injection e with z1 z2 z3
  subst z1; subst z2; subst z3
  exact k [] H C.A1 R ⟨rfl, rfl, rfl⟩ .refl (.refl _) (fun x z => .inl z) fun x z => z
theorem af_val {e : Expr} {es : List Expr} {i : Nat} {fl : List (Nat × Bool)} {m : M Val} {ms : M (List Val)} (hs : notStar e = true) (he : PE X e (tE C m)) (hr : PA X es (tAF C fl ms)) :
    PA X (e :: es) (tAF C ((i, false) :: fl) (m.bind fun x => ms.bind fun xs => M.ret (x :: xs))) :=
  (pa_cons he hr (star_cons hs)).weakE fun σ H Q q => by
    obtain ⟨ρ, h, R, ws, ρ', h', e, k⟩ := q
    obtain ⟨x, ρ1, h1, e1, e2⟩ := M.bind_ok e
    obtain ⟨xs, ρ2, h2, e3, e4⟩ := M.bind_ok e2
    injection e4 with z1 z2 z3
    subst z1; subst z2; subst z3
    refine ⟨ρ, h, R, x, ρ1, h1, e1, fun v H1 R1 r1 S1 P1 => ⟨ρ1, h1, R1, xs, ρ2, h2, e3, fun vs H2 A' R2 pv S2 P2 new sub => ?_⟩⟩
    refine k (v :: vs) H2 A' R2 ⟨x, xs, v, vs, rfl, rfl, ?_, pv⟩ (S1.trans S2) (P1.trans P2) (fun y z => ?_) sub
    · have k0 := S2.kp R1.mu
      have nx : ∀ a u, H1 a = some u → ¬ Av C σ ρ2 a → ¬ Av { C with A1 := A' } σ ρ2 a := fun a u e n z => by
        rcases z with z | z
        · rcases new a z with y | y
          · exact n (.inl y)
          · rw [y] at e; cases e
        · exact n (.inr z)
      refine r1.more ⟨k0.tup, fun a _ e n => ⟨(k0.lst a _ e n).1, nx a _ e (k0.lst a _ e n).2⟩, fun a _ e n => ⟨(k0.dK a _ e n).1, ?_⟩, fun a _ e n => ⟨(k0.dT a _ e n).1, ?_⟩, k0.frz⟩ S2.st P2
      · rcases id e with e2 | ⟨o, e2⟩ <;> exact nx a _ e2 (k0.dK a _ e n).2
      · rcases id e with e2 | ⟨o, e2⟩ <;> exact nx a _ e2 (k0.dT a _ e n).2
    · rcases new y z with u | u
      · exact .inl u
      · exact .inr (S1.there y u)
theorem af_new {e : Expr} {es : List Expr} {i : Nat} {fl : List (Nat × Bool)} {m : M Val} {ms : M (List Val)} (hs : notStar e = true) (hd : ∀ ρ h w ρ' h', m ρ h = .ok w ρ' h' → ∃ b, w = .d b) (he : PE X e (tFr C m)) (hr : ∀ a, PA X es (tAF (C.inF a) fl ms)) :
    PA X (e :: es) (tAF C ((i, true) :: fl) (m.bind fun x => ms.bind fun xs => M.ret (x :: xs))) :=
  (pa_cons he (t := fun σ H Q => ∃ a, tAF (C.inF a) fl ms σ H Q) ⟨fun pos pins s σ H Q I ⟨a, q⟩ => (hr a).run pos pins s σ H Q I q⟩ (star_cons hs)).weakE fun σ H Q q => by
    obtain ⟨ρ, h, R, ws, ρ', h', e, k⟩ := q
    obtain ⟨x, ρ1, h1, e1, e2⟩ := M.bind_ok e
    obtain ⟨xs, ρ2, h2, e3, e4⟩ := M.bind_ok e2
    injection e4 with z1 z2 z3
    subst z1; subst z2; subst z3
    obtain ⟨b, eb⟩ := hd _ _ _ _ _ e1
    subst eb
    refine ⟨ρ, h, b, ρ1, h1, R, e1, fun a H1 n R1 bx S1 P1 => ⟨a, ρ1, h1, R1, xs, ρ2, h2, e3, fun vs H2 A' R2 pv S2 P2 new sub => ?_⟩⟩
    have na : ¬ C.A1 a := fun z => by obtain ⟨o, eo⟩ := R.trk a z; rw [n] at eo; cases eo
    have S2' : Stp C σ ρ1 H1 σ ρ2 H2 := ⟨S2.st, fun y o e n1 n2 n3 => (S2.keep y o e n1 n2 n3).mono .inl, S2.there, S2.own⟩
    refine k (.ref a :: vs) H2 A' R2 ⟨b, xs, a, vs, rfl, rfl, na, ?_, pv⟩ (S1.trans S2') (P1.trans P2) (fun y z => ?_) fun y z => sub y (.inl z)
    · have k0 := S2.kp R1.mu
      have nx : ∀ y u, H1 y = some u → ¬ Av (C.inF a) σ ρ2 y → ¬ Av { C with A1 := A' } σ ρ2 y := fun y u e n z => by
        rcases z with z | z
        · rcases new y z with w | w
          · exact n (.inl w)
          · rw [w] at e; cases e
        · exact n (.inr z)
      refine bx.kp ⟨k0.tup, fun y _ e n => ⟨(k0.lst y _ e n).1, nx y _ e (k0.lst y _ e n).2⟩, fun y _ e n => ⟨(k0.dK y _ e n).1, ?_⟩, fun y _ e n => ⟨(k0.dT y _ e n).1, ?_⟩, k0.frz⟩ fun o e => ?_
      · rcases id e with e2 | ⟨o, e2⟩ <;> exact nx y _ e2 (k0.dK y _ e n).2
      · rcases id e with e2 | ⟨o, e2⟩ <;> exact nx y _ e2 (k0.dT y _ e n).2
      · obtain ⟨o', e', _, nt⟩ := bx.here
        rw [e] at e'; cases e'
        refine (S2.keep a o e (fun z => na (R.mu a z)) (fun ⟨j, c, z1, z2⟩ => ?_) nt).inA (.inr rfl)
        obtain ⟨y, y1, y2, _⟩ := R1.own j c z1
        rw [z2] at y1; cases y1
        exact y2 (.inr rfl)
    · rcases new y z with u | u
      · rcases u with u | u
        · exact .inl u
        · rw [u]; exact .inr n
      · exact .inr (S1.there y u)
end
end EV

set_option maxRecDepth 100000
set_option maxHeartbeats 4000000
/-! EvS: several names at once; items stored. -/
namespace EV
open PySem PySem.Spec PyProof.Rows L2

section
variable {C : Ct} {σ : L2.St} {H : Hp} {ρ : Ev} {h : Hh} {En : Ends} {X : Cx} {pos : Pos}
def setR (σ : L2.St) : List (Nat × Bool) → List V → L2.St
  | (i, _) :: fl, v :: vs => (setR σ fl vs).set i (some v)
  | _, _ => σ
theorem ParV.len {bx : D → Addr → Prop} {rv : (Addr → Prop) → Val → V → Prop} : ∀ {fl : List (Nat × Bool)} {ws : List Val} {vs : List V} {A A' : Addr → Prop}, ParV bx rv fl ws vs A A' → vs.length = fl.length
  | [], _, _, _, _, p => by obtain ⟨_, e, _⟩ := p; rw [e]; rfl
  | (_, false) :: fl, _, _, _, _, p => by obtain ⟨w, wr, v, vr, _, e, _, q⟩ := p; rw [e, List.length_cons, List.length_cons, q.len]
  | (_, true) :: fl, _, _, _, _, p => by obtain ⟨w, wr, v, vr, _, e, _, _, q⟩ := p; rw [e, List.length_cons, List.length_cons, q.len]
theorem ow_setVal {i : Nat} {w : Val} {v : V} (hi : i < ρ.length) {a : Addr} (z : Ow (σ.set i (some v)) (ρ.set i (.val w)) a) : Ow σ ρ a := by
  obtain ⟨j, b, e1, e2⟩ := z
  by_cases hj : i = j
  · subst hj; rw [List.getElem?_set_self hi] at e1; cases e1
  · rw [List.getElem?_set_ne hj] at e1 e2; exact ⟨j, b, e1, e2⟩
theorem parM_cons {i : Nat} {o : Bool} {fl : List (Nat × Bool)} {x : Val} {xs : List Val} {ρ2 : Ev} {h2 : Hh} (e : parM ((i, o) :: fl) (x :: xs) ρ h = .nx ρ2 h2) : ∃ ρ1 h1, parM fl xs ρ h = .nx ρ1 h1 ∧ h2 = h1 ∧ i < ρ1.length ∧
    ((o = false ∧ (∀ j, x ≠ .own j) ∧ ρ2 = ρ1.set i (.val x)) ∨ (o = true ∧ ∃ b, x = .d b ∧ ρ2 = ρ1.set i (.own b))) := by
  have e : (match parM fl xs ρ h with
    | .nx ρ' h' => (match x with
      | .d b => if i < ρ'.length then SO.nx (ρ'.set i (if o = true then .own b else .val (.d b))) h' else .bad
      | .own _ => .bad
      | w => if i < ρ'.length ∧ o = false then .nx (ρ'.set i (.val w)) h' else .bad)
    | _ => .bad) = .nx ρ2 h2 := e
  cases ep : parM fl xs ρ h with
  | nx ρ1 h1 =>
    rw [ep] at e
    refine ⟨ρ1, h1, rfl, ?_⟩
    cases x with
    | d b =>
      simp only at e
      split at e
      · rename_i hi
        injection e with z1 z2
        refine ⟨z2.symm, hi, ?_⟩
        cases o with
        | true => exact .inr ⟨rfl, b, rfl, z1.symm⟩
        | false => exact .inl ⟨rfl, (fun j z => by cases z), z1.symm⟩
      · cases e
    | own j => cases e
    | _ =>
      simp only at e
      split at e
      · rename_i hi
        injection e with z1 z2
        exact ⟨z2.symm, hi.1, .inl ⟨hi.2, (fun j z => by cases z), z1.symm⟩⟩
      · cases e
  | _ => rw [ep] at e; cases e
theorem parM_nx {fl : List (Nat × Bool)} {ws : List Val} {o : SO} (e : parM fl ws ρ h = o) : (∃ ρ' h', o = .nx ρ' h') ∨ o = .bad := by
  subst e
  rcases fl with _ | ⟨⟨i, o⟩, fl⟩ <;> rcases ws with _ | ⟨x, xs⟩
  · exact .inl ⟨ρ, h, rfl⟩
  · exact .inr rfl
  · exact .inr rfl
  · show (∃ (ρ0 : Ev) (h0 : Hh), (match parM fl xs ρ h with
      | .nx ρ' h' => (match x with
        | .d b => if i < ρ'.length then SO.nx (ρ'.set i (if o = true then .own b else .val (.d b))) h' else .bad
        | .own _ => .bad
        | w => if i < ρ'.length ∧ o = false then .nx (ρ'.set i (.val w)) h' else .bad)
      | _ => .bad) = .nx ρ0 h0) ∨ (match parM fl xs ρ h with
      | .nx ρ' h' => (match x with
        | .d b => if i < ρ'.length then SO.nx (ρ'.set i (if o = true then .own b else .val (.d b))) h' else .bad
        | .own _ => .bad
        | w => if i < ρ'.length ∧ o = false then .nx (ρ'.set i (.val w)) h' else .bad)
      | _ => .bad) = .bad
    cases parM fl xs ρ h with
    | nx ρ1 h1 =>
      simp only
      cases x with
      | d b => simp only; split <;> first | exact .inl ⟨_, _, rfl⟩ | exact .inr rfl
      | own j => exact .inr rfl
      | _ => simp only; split <;> first | exact .inl ⟨_, _, rfl⟩ | exact .inr rfl
    | _ => exact .inr rfl
theorem par_run {A' : Addr → Prop} (R : Rel { C with A1 := A' } σ H ρ h) : ∀ (fl : List (Nat × Bool)) (ws : List Val) (vs : List V) (A : Addr → Prop) (ρ2 : Ev) (h2 : Hh), (∀ a ∈ C.μ, A a) →
    ParV (BoxAt C.K H (Av { C with A1 := A' } σ ρ)) (fun A w v => RepV { C with A1 := A } σ ρ H w v) fl ws vs A A' → parM fl ws ρ h = .nx ρ2 h2 →
    Rel { C with A1 := A } (setR σ fl vs) H ρ2 h2 ∧ (∀ x, Av { C with A1 := A } (setR σ fl vs) ρ2 x → Av { C with A1 := A' } σ ρ x) ∧ (∀ x, Ow (setR σ fl vs) ρ2 x → Ow σ ρ x ∨ (A' x ∧ ¬ A x)) ∧ (∀ x, A x → A' x)
  | [], ws, vs, A, ρ2, h2, hm, p, e => by
    obtain ⟨e1, e2, e3⟩ := p
    subst e1; subst e2; subst e3
    have e : SO.nx ρ h = .nx ρ2 h2 := e
    injection e with z1 z2
    subst z1; subst z2
    exact ⟨R, fun x z => z, fun x z => .inl z, fun x z => z⟩
  | (i, false) :: fl, ws, vs, A, ρ2, h2, hm, p, e => by
    obtain ⟨w, wr, v, vr, e1, e2, rw', q⟩ := p
    subst e1; subst e2
    obtain ⟨ρ1, h1, ep, eh, hi, ⟨_, nw, er⟩ | ⟨z, _⟩⟩ := parM_cons e
    · subst er; subst eh
      obtain ⟨R1, avs, ows, sub⟩ := par_run R fl wr vr A ρ1 h2 hm q ep
      obtain ⟨R2, _, _⟩ := R1.setVal hi nw (RepV.lessF (C := { C with A1 := A }) (A' := A') rw' avs nw)
      refine ⟨R2, fun x z => ?_, fun x z => ows x (ow_setVal hi z), sub⟩
      rcases z with z | z
      · exact avs x (.inl z)
      · exact avs x (.inr (ow_setVal hi z))
    · cases z
  | (i, true) :: fl, ws, vs, A, ρ2, h2, hm, p, e => by
    obtain ⟨b, wr, a, vr, e1, e2, na, bx, q⟩ := p
    subst e1; subst e2
    obtain ⟨ρ1, h1, ep, eh, hi, ⟨z, _⟩ | ⟨_, b', eb, er⟩⟩ := parM_cons e
    · cases z
    · cases eb
      subst er; subst eh
      obtain ⟨R1, avs, ows, sub⟩ := par_run R fl wr vr (fun x => A x ∨ x = a) ρ1 h2 (fun x z => .inl (hm x z)) q ep
      obtain ⟨R2, ow2, av2⟩ := Rel.adopt (C := { C with A1 := A }) R1 hm na hi (bx.kp (Kp.less avs) fun o z => z)
      refine ⟨R2, fun x z => avs x (av2 x z), fun x z => ?_, fun x z => sub x (.inl z)⟩
      rcases ow2 x z with y | y
      · rw [y]; exact .inr ⟨sub a (.inr rfl), na⟩
      · rcases ows x y with u | ⟨u1, u2⟩
        · exact .inl u
        · exact .inr ⟨u1, fun v => u2 (.inl v)⟩
theorem par_read {fl : List (Nat × Bool)} {ms : M (List Val)} (q : tS C (thenS ms fun xs => parM fl xs) En σ H) : tAF C fl ms σ H fun vs H1 => vs.length = fl.length ∧ En.nx (setR σ fl vs) H1 := by
  obtain ⟨ρ, h, R, q⟩ := q
  obtain ⟨ws, ρ1, h1, e, q1⟩ := thenS_ok q
  refine ⟨ρ, h, R, ws, ρ1, h1, e, fun vs H1 A' R1 pv S1 P1 new sub => ⟨pv.len, ?_⟩⟩
  cases ep : parM fl ws ρ1 h1 with
  | nx ρ2 h2 =>
    rw [ep] at q1
    obtain ⟨R2, avs, ows, _⟩ := par_run (C := C) R1 fl ws vs C.A1 ρ2 h2 R.mu pv ep
    refine q1 _ H1 R2 ⟨S1.st, S1.keep, S1.there, fun x z => ?_⟩
    rcases ows x z with y | ⟨y1, y2⟩
    · exact S1.own x y
    · rcases new x y1 with u | u
      · exact absurd u y2
      · exact .inr u
  | bad => rw [ep] at q1; exact q1.elim
  | rt w o h' => rcases parM_nx (fl := fl) (ws := ws) ep with ⟨_, _, z⟩ | z <;> cases z
  | bk ρ' h' => rcases parM_nx (fl := fl) (ws := ws) ep with ⟨_, _, z⟩ | z <;> cases z
  | ct ρ' h' => rcases parM_nx (fl := fl) (ws := ws) ep with ⟨_, _, z⟩ | z <;> cases z
def swapB (a b : Expr) : Bool := !([a, b].all (foldedForSure 8)) && !([a, b].all (constantsAlone 8))
theorem notStar_any {vs : List Expr} (h : vs.all notStar = true) : (vs.any fun | .Starred .. => true | _ => false) = false := by
  induction vs with
  | nil => rfl
  | cons a r ih =>
    rw [List.all_cons, Bool.and_eq_true] at h
    rw [List.any_cons, ih h.2]
    cases a <;> first | rfl | cases h.1
theorem swapped2 {x y : Str} {px py pt pt2 : Pos} {a b : Expr} {kt k2 : Nat} {env : Env} (hk : env.scope.kind = .function) (hx : env.scope.names.lookup x = some .local) (hy : env.scope.names.lookup y = some .local) (hl : (py.line == px.line) = true) (hxy : x ≠ y)
    (hs : [a, b].all notStar = true) (hf : [a, b].all (foldedForSure 8) = false) (hc : [a, b].all (constantsAlone 8) = false) :
    swappedStores [.Tuple [.Name x px, .Name y py] kt pt] (.Tuple [a, b] k2 pt2) env = pure (some [x, y]) := by
  have kx : env.kindOf x = some .local := hx
  have ky : env.kindOf y = some .local := hy
  have hb : env.blockKind = .function := by unfold Env.blockKind; rw [hk]; rfl
  have hl' : py.line = px.line := beq_iff_eq.mp hl
  unfold swappedStores
  simp only [hb, notStar_any hs, hf, hc, List.filterMap_cons, List.filterMap_nil, kx, ky, Expr.pos, hl', List.length_cons, List.length_nil, List.head?_cons, Option.map_some, Option.getD_some]
  have hd : ([x, y].eraseDups.length != 2) = false := by
    have t1 : (x == y) = false := beq_eq_false_iff_ne.mpr hxy
    have t2 : (y == x) = false := beq_eq_false_iff_ne.mpr (Ne.symm hxy)
    simp [List.eraseDups, List.eraseDupsBy, List.eraseDupsBy.loop, t1, t2]
  simp [hd]
  rw [List.all_cons, List.all_cons, Bool.and_eq_true, Bool.and_eq_true] at hs
  intro z
  exfalso
  rcases z with z | z
  · cases a <;> first | (cases z; done) | (cases hs.1; done)
  · cases b <;> first | (cases z; done) | (cases hs.2.1; done)
end
end EV

set_option maxRecDepth 100000
set_option maxHeartbeats 4000000
/-! EvT: several names at once, items stored, o op= x. -/
namespace EV
open PySem PySem.Spec PyProof.Rows L2

section
variable {C : Ct} {σ : L2.St} {H : Hp} {ρ : Ev} {h : Hh} {En : Ends} {X : Cx} {pos : Pos}
theorem swapped3 {x y w : Str} {px py pw pt pt2 : Pos} {a b c : Expr} {kt k2 : Nat} {env : Env} (hk : env.scope.kind = .function) (hx : env.scope.names.lookup x = some .local) (hy : env.scope.names.lookup y = some .local) (hw : env.scope.names.lookup w = some .local)
    (hl : (py.line == px.line) = true) (hl2 : (pw.line == px.line) = true) (hxy : x ≠ y) (hxw : x ≠ w) (hyw : y ≠ w)
    (hs : [a, b, c].all notStar = true) (hf : [a, b, c].all (foldedForSure 8) = false) (hc : [a, b, c].all (constantsAlone 8) = false) :
    swappedStores [.Tuple [.Name x px, .Name y py, .Name w pw] kt pt] (.Tuple [a, b, c] k2 pt2) env = pure (some [x, y, w]) := by
  have kx : env.kindOf x = some .local := hx
  have ky : env.kindOf y = some .local := hy
  have kw : env.kindOf w = some .local := hw
  have hb : env.blockKind = .function := by unfold Env.blockKind; rw [hk]; rfl
  have hl' : py.line = px.line := beq_iff_eq.mp hl
  have hl2' : pw.line = px.line := beq_iff_eq.mp hl2
  unfold swappedStores
  simp only [hb, hf, hc, List.filterMap_cons, List.filterMap_nil, kx, ky, kw, Expr.pos, hl', hl2', List.length_cons, List.length_nil, List.head?_cons, Option.map_some, Option.getD_some]
  have hd : ([x, y, w].eraseDups.length != 3) = false := by
    have t1 : (x == y) = false := beq_eq_false_iff_ne.mpr hxy
    have t2 : (y == x) = false := beq_eq_false_iff_ne.mpr (Ne.symm hxy)
    have t3 : (x == w) = false := beq_eq_false_iff_ne.mpr hxw
    have t4 : (w == x) = false := beq_eq_false_iff_ne.mpr (Ne.symm hxw)
    have t5 : (y == w) = false := beq_eq_false_iff_ne.mpr hyw
    have t6 : (w == y) = false := beq_eq_false_iff_ne.mpr (Ne.symm hyw)
    simp [List.eraseDups, List.eraseDupsBy, List.eraseDupsBy.loop, t1, t2, t3, t4, t5, t6]
  simp [hd]
  rw [List.all_cons, List.all_cons, List.all_cons, Bool.and_eq_true, Bool.and_eq_true, Bool.and_eq_true] at hs
  intro z
  exfalso
  rcases z with z | z | z
  · cases a <;> first | (cases z; done) | (cases hs.1; done)
  · cases b <;> first | (cases z; done) | (cases hs.2.1; done)
  · cases c <;> first | (cases z; done) | (cases hs.2.2.1; done)
theorem st_par2 {i j : Nat} {o1 o2 : Bool} {x y : Str} {a b : Expr} {ms : M (List Val)} {px py pt pt2 : Pos} {kt k2 : Nat} (ok : X.env.scope.kind = .function) (hc : X.calm = true) (hN : X.N.Nodup) (hi : X.N[i]? = some x) (hj : X.N[j]? = some y) (hij : i ≠ j)
    (hx : X.env.scope.names.lookup x = some .local) (hy : X.env.scope.names.lookup y = some .local) (hl : (py.line == px.line) = true) (hs : [a, b].all notStar = true) (hf : [a, b].all (foldedForSure 8) = false) (hcn : [a, b].all (constantsAlone 8) = false)
    (ha : PA X [a, b] (tAF C [(i, o1), (j, o2)] ms)) : PS X (.Assign [.Tuple [.Name x px, .Name y py] kt pt] (.Tuple [a, b] k2 pt2) pos) (tS C (thenS ms fun xs => parM [(i, o1), (j, o2)] xs)) := by
  have hxy : x ≠ y := fun z => hij (by
    obtain ⟨l1, g1⟩ := List.getElem?_eq_some_iff.mp hi
    obtain ⟨l2, g2⟩ := List.getElem?_eq_some_iff.mp hj
    exact (List.getElem_inj hN).mp (g1.trans (z.trans g2.symm)))
  refine (ps_par (pos := pos) hc hN hi hj hij hx hy ha (swapped2 ok hx hy hl hxy hs hf hcn)).weakE fun En σ H q => ?_
  have q1 := par_read q
  obtain ⟨ρ, h, R, ws, ρ', h', e, k⟩ := q1
  refine ⟨ρ, h, R, ws, ρ', h', e, fun vs H1 A' R1 pv S1 P1 new sub => ?_⟩
  obtain ⟨l, z⟩ := k vs H1 A' R1 pv S1 P1 new sub
  rcases vs with _ | ⟨v, _ | ⟨w, _ | ⟨_, _⟩⟩⟩ <;> first | (cases l; done) | skip
  refine ⟨v, w, rfl, ?_⟩
  have z : En.nx ((σ.set j (some w)).set i (some v)) H1 := z
  rw [List.set_comm _ _ (Ne.symm hij)] at z
  exact z
theorem st_par3 {i j l : Nat} {o1 o2 o3 : Bool} {x y w : Str} {a b c : Expr} {ms : M (List Val)} {px py pw pt pt2 : Pos} {kt k2 : Nat} (ok : X.env.scope.kind = .function) (hc : X.calm = true) (hN : X.N.Nodup) (hi : X.N[i]? = some x) (hj : X.N[j]? = some y) (hk : X.N[l]? = some w) (hij : i ≠ j) (hil : i ≠ l) (hjl : j ≠ l)
    (hx : X.env.scope.names.lookup x = some .local) (hy : X.env.scope.names.lookup y = some .local) (hw : X.env.scope.names.lookup w = some .local) (hl : (py.line == px.line) = true) (hl2 : (pw.line == px.line) = true) (hs : [a, b, c].all notStar = true)
    (hf : [a, b, c].all (foldedForSure 8) = false) (hcn : [a, b, c].all (constantsAlone 8) = false)
    (ha : PA X [a, b, c] (tAF C [(i, o1), (j, o2), (l, o3)] ms)) : PS X (.Assign [.Tuple [.Name x px, .Name y py, .Name w pw] kt pt] (.Tuple [a, b, c] k2 pt2) pos) (tS C (thenS ms fun xs => parM [(i, o1), (j, o2), (l, o3)] xs)) := by
  have ne : ∀ {i j : Nat} {x y : Str}, X.N[i]? = some x → X.N[j]? = some y → i ≠ j → x ≠ y := fun hi hj hij z => hij (by
    obtain ⟨l1, g1⟩ := List.getElem?_eq_some_iff.mp hi
    obtain ⟨l2, g2⟩ := List.getElem?_eq_some_iff.mp hj
    exact (List.getElem_inj hN).mp (g1.trans (z.trans g2.symm)))
  refine (ps_par3 (pos := pos) hc hN hi hj hk hij hil hjl hx hy hw ha (swapped3 ok hx hy hw hl hl2 (ne hi hj hij) (ne hi hk hil) (ne hj hk hjl) hs hf hcn)).weakE fun En σ H q => ?_
  have q1 := par_read q
  obtain ⟨ρ, h, R, ws, ρ', h', e, k⟩ := q1
  refine ⟨ρ, h, R, ws, ρ', h', e, fun vs H1 A' R1 pv S1 P1 new sub => ?_⟩
  obtain ⟨l0, z⟩ := k vs H1 A' R1 pv S1 P1 new sub
  rcases vs with _ | ⟨v, _ | ⟨w, _ | ⟨u, _ | ⟨_, _⟩⟩⟩⟩ <;> first | (cases l0; done) | skip
  refine ⟨v, w, u, rfl, ?_⟩
  have z : En.nx (((σ.set l (some u)).set j (some w)).set i (some v)) H1 := z
  rw [List.set_comm _ _ (Ne.symm hjl), List.set_comm _ _ (Ne.symm hil), List.set_comm _ _ (Ne.symm hij)] at z
  exact z

/-! ### a name among them is a cell: a tuple is made, taken apart -/
theorem par_readT {fl : List (Nat × Bool)} {ms : M (List Val)} (q : tS C (thenS ms fun xs => parM fl xs) En σ H) : tAF C fl ms σ H fun vs H1 => vs.length = fl.length ∧ ∀ p us, H1 p = none → En.nx (setR σ fl vs) (upd H1 p (.tup us)) := by
  obtain ⟨ρ, h, R, q⟩ := q
  obtain ⟨ws, ρ1, h1, e, q1⟩ := thenS_ok q
  refine ⟨ρ, h, R, ws, ρ1, h1, e, fun vs H1 A' R1 pv S1 P1 new sub => ⟨pv.len, fun p us n => ?_⟩⟩
  cases ep : parM fl ws ρ1 h1 with
  | nx ρ2 h2 =>
    rw [ep] at q1
    obtain ⟨R2, avs, ows, _⟩ := par_run (C := C) R1 fl ws vs C.A1 ρ2 h2 R.mu pv ep
    obtain ⟨R3, S3⟩ := R2.laid (o := .tup us) n (fun _ z => by cases z)
    refine q1 _ _ R3 (Stp.trans ⟨S1.st, S1.keep, S1.there, fun x z => ?_⟩ S3)
    rcases ows x z with y | ⟨y1, y2⟩
    · exact S1.own x y
    · rcases new x y1 with u | u
      · exact absurd u y2
      · exact .inr u
  | bad => rw [ep] at q1; exact q1.elim
  | rt w o h' => rcases parM_nx (fl := fl) (ws := ws) ep with ⟨_, _, z⟩ | z <;> cases z
  | bk ρ' h' => rcases parM_nx (fl := fl) (ws := ws) ep with ⟨_, _, z⟩ | z <;> cases z
  | ct ρ' h' => rcases parM_nx (fl := fl) (ws := ws) ep with ⟨_, _, z⟩ | z <;> cases z
theorem fm_lt2 {f : Expr → Option Str} {e1 e2 : Expr} (h : f e1 = none ∨ f e2 = none) : ([e1, e2].filterMap f).length < 2 := by
  rw [List.filterMap_cons, List.filterMap_cons, List.filterMap_nil]
  cases h1 : f e1 <;> cases h2 : f e2 <;> rw [h1, h2] at h <;> first | (rcases h with h | h <;> cases h; done) | decide | (show 1 < 2; decide)
theorem fm_lt3 {f : Expr → Option Str} {e1 e2 e3 : Expr} (h : f e1 = none ∨ f e2 = none ∨ f e3 = none) : ([e1, e2, e3].filterMap f).length < 3 := by
  rw [List.filterMap_cons, List.filterMap_cons, List.filterMap_cons, List.filterMap_nil]
  cases h1 : f e1 <;> cases h2 : f e2 <;> cases h3 : f e3 <;> rw [h1, h2, h3] at h <;> first | (rcases h with h | h | h <;> cases h; done) | decide | (show 1 < 3; decide) | (show 2 < 3; decide)
theorem nl_if {k : Option NameKind} {b : Bool} {x : Str} (h : ¬ k = some .local) : (if (k == some NameKind.local && b) = true then some x else none) = none := by
  rw [show (k == some NameKind.local) = false from beq_eq_false_iff_ne.mpr h, Bool.false_and]; rfl
theorem noSwap2 {x y : Str} {px py pt pt2 : Pos} {a b : Expr} {kt k2 : Nat} {env : Env} (hk : env.scope.kind = .function) (hs : [a, b].all notStar = true) (hc : ¬ (env.scope.names.lookup x = some .local ∧ env.scope.names.lookup y = some .local)) :
    swappedStores [.Tuple [.Name x px, .Name y py] kt pt] (.Tuple [a, b] k2 pt2) env = pure none := by
  have hb : env.blockKind = .function := by unfold Env.blockKind; rw [hk]; rfl
  have kx : env.kindOf x = env.scope.names.lookup x := rfl
  have ky : env.kindOf y = env.scope.names.lookup y := rfl
  unfold swappedStores
  simp only [hb]
  rw [if_neg (by simp)]
  split
  · rfl
  · split
    · rfl
    · rename_i c2 c3
      exfalso
      apply c3
      rw [Bool.or_eq_true]
      left
      have := fm_lt2 (e1 := .Name x px) (e2 := .Name y py) (f := fun x_1 => match x_1 with
        | .Name id pos => if (env.kindOf id == some NameKind.local && pos.line == (Option.map (fun x => x.pos.line) [Expr.Name x px, Expr.Name y py].head?).getD 0) = true then some id else none
        | _ => none) (by
          by_cases h1 : env.scope.names.lookup x = some .local
          · exact .inr (nl_if fun z => hc ⟨h1, z⟩)
          · exact .inl (nl_if h1))
      rw [bne_iff_ne]
      intro z
      exact Nat.ne_of_lt this z
theorem noSwap3 {x y w : Str} {px py pw pt pt2 : Pos} {a b c : Expr} {kt k2 : Nat} {env : Env} (hk : env.scope.kind = .function) (hs : [a, b, c].all notStar = true) (hc : ¬ (env.scope.names.lookup x = some .local ∧ env.scope.names.lookup y = some .local ∧ env.scope.names.lookup w = some .local)) :
    swappedStores [.Tuple [.Name x px, .Name y py, .Name w pw] kt pt] (.Tuple [a, b, c] k2 pt2) env = pure none := by
  have hb : env.blockKind = .function := by unfold Env.blockKind; rw [hk]; rfl
  unfold swappedStores
  simp only [hb]
  rw [if_neg (by simp)]
  split
  · rfl
  · split
    · rfl
    · rename_i c2 c3
      exfalso
      apply c3
      rw [Bool.or_eq_true]
      left
      have := fm_lt3 (e1 := .Name x px) (e2 := .Name y py) (e3 := .Name w pw) (f := fun x_1 => match x_1 with
        | .Name id pos => if (env.kindOf id == some NameKind.local && pos.line == (Option.map (fun x => x.pos.line) [Expr.Name x px, Expr.Name y py, Expr.Name w pw].head?).getD 0) = true then some id else none
        | _ => none) (by
          by_cases h1 : env.scope.names.lookup x = some .local
          · by_cases h2 : env.scope.names.lookup y = some .local
            · exact .inr (.inr (nl_if fun z => hc ⟨h1, h2, z⟩))
            · exact .inr (.inl (nl_if h2))
          · exact .inl (nl_if h1))
      rw [bne_iff_ne]
      intro z
      exact Nat.ne_of_lt this z
theorem st_par2c {i j : Nat} {o1 o2 : Bool} {x y : Str} {a b : Expr} {ms : M (List Val)} {px py pt pt2 : Pos} {kt k2 : Nat} (hK : C.K = X.K) (ok : X.env.scope.kind = .function) (hc : X.calm = true) (hN : X.N.Nodup) (hi : X.N[i]? = some x) (hj : X.N[j]? = some y) (hij : i ≠ j)
    (hx : Loc X.env.scope x) (fx : X.fn x = true ∨ X.env.scope.names.lookup x = some .local) (hy : Loc X.env.scope y) (fy : X.fn y = true ∨ X.env.scope.names.lookup y = some .local) (hl : ¬ (X.env.scope.names.lookup x = some .local ∧ X.env.scope.names.lookup y = some .local)) (hs : [a, b].all notStar = true)
    (ha : PA X [a, b] (tAF C [(i, o1), (j, o2)] ms)) : PS X (.Assign [.Tuple [.Name x px, .Name y py] kt pt] (.Tuple [a, b] k2 pt2) pos) (tS C (thenS ms fun xs => parM [(i, o1), (j, o2)] xs)) := by
  refine (ps_asg (pos := pos) (pe_tup ha) (pg_tup (n := 2) hc (pgs_cons (pg_name hN hi hx fx) (pgs_cons (pg_name hN hj hy fy) pgs_nil))) rfl (noSwap2 ok hs hl) rfl).weakE fun En σ H q => ?_
  have q1 := par_readT q
  obtain ⟨ρ, h, R, ws, ρ', h', e, k⟩ := q1
  refine ⟨ρ, h, R, ws, ρ', h', e, fun vs H1 A' R1 pv S1 P1 new sub => ?_⟩
  obtain ⟨l, z⟩ := k vs H1 A' R1 pv S1 P1 new sub
  rcases vs with _ | ⟨v, _ | ⟨w, _ | ⟨_, _⟩⟩⟩ <;> first | (cases l; done) | skip
  refine ⟨by show 2 ≤ sizeLine; decide, fun p n => ⟨p, [v, w], rfl, .inl (.inl upd_same), rfl, v, [w], rfl, w, [], rfl, rfl, ?_⟩⟩
  have z : En.nx ((σ.set j (some w)).set i (some v)) (upd H1 p (.tup [v, w])) := z p [v, w] n
  rw [List.set_comm _ _ (Ne.symm hij)] at z
  exact z
theorem st_par3c {i j l : Nat} {o1 o2 o3 : Bool} {x y w : Str} {a b c : Expr} {ms : M (List Val)} {px py pw pt pt2 : Pos} {kt k2 : Nat} (hK : C.K = X.K) (ok : X.env.scope.kind = .function) (hc : X.calm = true) (hN : X.N.Nodup) (hi : X.N[i]? = some x) (hj : X.N[j]? = some y) (hk : X.N[l]? = some w) (hij : i ≠ j) (hil : i ≠ l) (hjl : j ≠ l)
    (hx : Loc X.env.scope x) (fx : X.fn x = true ∨ X.env.scope.names.lookup x = some .local) (hy : Loc X.env.scope y) (fy : X.fn y = true ∨ X.env.scope.names.lookup y = some .local) (hw : Loc X.env.scope w) (fw : X.fn w = true ∨ X.env.scope.names.lookup w = some .local)
    (hl : ¬ (X.env.scope.names.lookup x = some .local ∧ X.env.scope.names.lookup y = some .local ∧ X.env.scope.names.lookup w = some .local)) (hs : [a, b, c].all notStar = true)
    (ha : PA X [a, b, c] (tAF C [(i, o1), (j, o2), (l, o3)] ms)) : PS X (.Assign [.Tuple [.Name x px, .Name y py, .Name w pw] kt pt] (.Tuple [a, b, c] k2 pt2) pos) (tS C (thenS ms fun xs => parM [(i, o1), (j, o2), (l, o3)] xs)) := by
  refine (ps_asg (pos := pos) (pe_tup ha) (pg_tup (n := 3) hc (pgs_cons (pg_name hN hi hx fx) (pgs_cons (pg_name hN hj hy fy) (pgs_cons (pg_name hN hk hw fw) pgs_nil)))) rfl (noSwap3 ok hs hl) rfl).weakE fun En σ H q => ?_
  have q1 := par_readT q
  obtain ⟨ρ, h, R, ws, ρ', h', e, k⟩ := q1
  refine ⟨ρ, h, R, ws, ρ', h', e, fun vs H1 A' R1 pv S1 P1 new sub => ?_⟩
  obtain ⟨l0, z⟩ := k vs H1 A' R1 pv S1 P1 new sub
  rcases vs with _ | ⟨v, _ | ⟨w, _ | ⟨u, _ | ⟨_, _⟩⟩⟩⟩ <;> first | (cases l0; done) | skip
  refine ⟨by show 3 ≤ sizeLine; decide, fun p n => ⟨p, [v, w, u], rfl, .inl (.inl upd_same), rfl, v, [w, u], rfl, w, [u], rfl, u, [], rfl, rfl, ?_⟩⟩
  have z : En.nx (((σ.set l (some u)).set j (some w)).set i (some v)) (upd H1 p (.tup [v, w, u])) := z p [v, w, u] n
  rw [List.set_comm _ _ (Ne.symm hjl), List.set_comm _ _ (Ne.symm hil), List.set_comm _ _ (Ne.symm hij)] at z
  exact z

/-! ### items stored -/
def rSetE : TSet := fun o i v H Q => rSetL o i v H Q ∨ rSetD o i v H Q
theorem set_E (hu : X.A.units + 1 < cLine) : PSet X rSetE := by
  intro pins s σ H o i v ov iv u Q I ro ri rv h
  rcases h with h | h
  · exact set_list pins s σ H o i v ov iv u Q I ro ri rv h
  · exact set_dict hu pins s σ H o i v ov iv u Q I ro ri rv h
theorem put_at {b kd x b' : D} {a : Addr} {kv v : V} (hK : Av C σ ρ a) (bx : BoxAt C.K H (Av C σ ρ) b a) (rk : RepD C.K H (Av C σ ρ) kd kv) (rv : RepD C.K H (Av C σ ρ) x v) (e : putD b kd x = some b') :
    ∃ o, BoxAt C.K (upd H a o) (Av C σ ρ) b' a ∧ ∀ Q : Hp → Prop, Q (upd H a o) → rSetE (.ref a) kv v H Q := by
  cases b <;> first | exact bx.elim | skip
  · rename_i xs
    obtain ⟨vs, hv, rs⟩ := bx
    cases kd <;> first | (cases e; done) | skip
    rename_i i
    have e : (ixN xs.length i).map (fun j => D.lst (xs.set j x)) = some b' := e
    cases hi : ixN xs.length i with
    | none => rw [hi] at e; cases e
    | some j =>
      rw [hi] at e
      cases (Option.some.inj e)
      have k := kp_upd (o := .lst (vs.set j v)) hv rfl hK
      refine ⟨.lst (vs.set j v), ⟨vs.set j v, upd_same, (rs.kp k).set j (rv.kp k _ _)⟩, fun Q q => .inl ⟨a, vs, i, j, rfl, rk, hv, by rw [← rs.length]; exact hi, q⟩⟩
  · rename_i ks ds
    obtain ⟨kvs, hv, ek, rs⟩ := bx
    subst ek
    have e : (match keyD kd with
      | some y => if (kvs.map (·.1)).length < sizeLine then some (D.dic (putKs (kvs.map (·.1)) y) (putDs (kvs.map (·.1)) ds y x)) else none
      | none => none) = some b' := e
    cases hk : keyD kd with
    | none => rw [hk] at e; cases e
    | some y =>
      rw [hk] at e
      simp only at e
      split at e
      · rename_i hl
        cases (Option.some.inj e)
        have k := kp_upd (o := .dK (putK kvs y v)) hv rfl hK
        obtain ⟨p1, p2⟩ := putK_ok (k := y) (rv.kp k _ _) (rs.kp k)
        refine ⟨.dK (putK kvs y v), ⟨putK kvs y v, upd_same, p1, p2⟩, fun Q q => .inr ⟨a, _, rfl, ?_, q⟩⟩
        rw [keyD_ok rk.read hk]
        exact .k hv (by rw [List.length_map] at hl; exact hl)
      · cases e
  · rename_i ks ds
    obtain ⟨kvs, hv, ek, rs⟩ := bx
    subst ek
    have e : (match keyT kd with
      | some y => if (kvs.map (·.1)).length < sizeLine then some (D.dit (putKs (kvs.map (·.1)) y) (putDs (kvs.map (·.1)) ds y x)) else none
      | none => none) = some b' := e
    cases hk : keyT kd with
    | none => rw [hk] at e; cases e
    | some y =>
      rw [hk] at e
      simp only at e
      split at e
      · rename_i hl
        cases (Option.some.inj e)
        have k := kp_upd (o := .dT (putK kvs y v)) hv rfl hK
        obtain ⟨p1, p2⟩ := putK_ok (k := y) (rv.kp k _ _) (rs.kp k)
        cases kd <;> first | (cases hk; done) | skip
        obtain ⟨bb, e1, e2⟩ := keyT_ok rk hk
        refine ⟨.dT (putK kvs y v), ⟨putK kvs y v, upd_same, p1, p2⟩, fun Q q => .inr ⟨a, _, rfl, ?_, q⟩⟩
        rw [e1]
        exact .t hv e2 (by rw [List.length_map] at hl; exact hl)
      · cases e
theorem s_put {o k x : Val} {ov kv v : V} {ρ' : Ev} {h' : Hh} {Q : Hp → Prop} (R : Rel C σ H ρ h) (ro : RepV C σ ρ H o ov) (rk : RepV C σ ρ H k kv) (rx : RepV C σ ρ H x v) (e : putM o k x ρ h = .ok () ρ' h')
    (q : ∀ H', Rel C σ H' ρ' h' → Stp C σ ρ H σ ρ' H' → Shp ρ ρ' → Q H') : rSetE ov kv v H Q := by
  unfold putM at e
  cases k <;> first | (cases e; done) | skip
  cases x <;> first | (cases e; done) | skip
  rename_i kd a
  cases o <;> first | (cases e; done) | skip
  · rename_i j
    have e : (match h[j]? with
      | some b => (match putD b kd a with
        | some b' => Out.ok () ρ (h.set j b')
        | none => .bad)
      | none => .bad) = Out.ok () ρ' h' := e
    cases eb : h[j]? with
    | none => rw [eb] at e; cases e
    | some b =>
      rw [eb] at e
      simp only at e
      cases ep : putD b kd a with
      | none => rw [ep] at e; cases e
      | some b' =>
        rw [ep] at e
        injection e with z1 z2 z3
        subst z2; subst z3
        obtain ⟨p, e1, e2⟩ := ro
        obtain ⟨p', y1, y2⟩ := R.box j b eb
        rw [e1] at y1; cases y1
        subst e2
        obtain ⟨o, bx, st⟩ := put_at (.inl (R.mu p (List.mem_of_getElem? e1))) y2 rk rx ep
        obtain ⟨R2, S2⟩ := R.setBox eb e1 bx
        exact st _ (q _ R2 S2 (.refl _))
  · rename_i i
    have e : (match ρ[i]? with
      | some (.own b) => (match putD b kd a with
        | some b' => Out.ok () (ρ.set i (.own b')) h
        | none => .bad)
      | _ => .bad) = Out.ok () ρ' h' := e
    obtain ⟨p, b, e1, e2, e3⟩ := ro
    rw [e1] at e
    simp only at e
    cases ep : putD b kd a with
    | none => rw [ep] at e; cases e
    | some b' =>
      rw [ep] at e
      injection e with z1 z2 z3
      subst z2; subst z3
      obtain ⟨p', y1, y2, y3⟩ := R.own i b e1
      rw [e2] at y1; cases y1
      subst e3
      obtain ⟨o, bx, st⟩ := put_at (.inr ⟨i, b, e1, e2⟩) y3 rk rx ep
      obtain ⟨R2, S2, P2⟩ := R.setOwn e1 e2 bx
      exact st _ (q _ R2 S2 P2)
theorem M.bind_run {α β : Type} {m : M α} {f : α → M β} {ρ1 : Ev} {h1 : Hh} {a : α} (e : m ρ h = .ok a ρ1 h1) : (M.bind m f) ρ h = f a ρ1 h1 := by
  unfold M.bind; rw [e]
theorem asg_sub {o i : Expr} {env : Env} (hs : notSlice i = true) : ∀ v, assign (.Subscript o i pos) env v = (do
      let ov ← holding [v] (eval o env)
      let iv ← holding [v, ov] (eval i env)
      standAt pos
      holding [v, ov, iv] (setItem ov iv v)
      release [v, ov, iv] []) := by
  intro v
  cases i <;> first | rfl | cases hs
theorem g_sub {o i : Expr} {mo mi : M Val} (hu : X.A.units + 1 < cLine) (ho : PE X o (tE C mo)) (hi : PE X i (tE C mi)) (hs : notSlice i = true) :
    PG X (.Subscript o i pos) (tG C [] fun x => mo.bind fun y => mi.bind fun z => putM y z x) :=
  (pg_sub ho hi (set_E hu) (asg_sub hs)).weakE fun v σ H Q q => by
    obtain ⟨ρ, h, w, ρ', h', R, r, e, k⟩ := q
    obtain ⟨y, ρ1, h1, e1, e2⟩ := M.bind_ok e
    obtain ⟨z, ρ2, h2, e3, e4⟩ := M.bind_ok e2
    refine ⟨ρ, h, R, y, ρ1, h1, e1, fun ov H1 R1 r1 S1 P1 => ⟨ρ1, h1, R1, z, ρ2, h2, e3, fun iv H2 R2 r2 S2 P2 => ?_⟩⟩
    refine s_put R2 (r1.stp S2 R1.mu P2) r2 (r.stp (S1.trans S2) R.mu (P1.trans P2)) e4 fun H3 R3 S3 P3 => ?_
    exact k σ H3 R3 ((S1.trans S2).trans S3) ⟨rfl, fun _ _ => rfl⟩ fun j _ => ((P1.trans P2).trans P3) j

/-! ### o op= x -/
theorem augM_ok {op : Operator} {x y w : Val} {ρ' : Ev} {h' : Hh} (e : augM op x y ρ h = .ok w ρ' h') : ∃ i j, x = .d (.int i) ∧ y = .d (.int j) ∧ ρ' = ρ ∧ h' = h ∧ ((op = .Add ∧ w = .d (.int (i + j))) ∨ (op = .Sub ∧ w = .d (.int (i - j)))) := by
  unfold augM at e
  split at e
  · injection e with z1 z2 z3; exact ⟨_, _, rfl, rfl, z2.symm, z3.symm, .inl ⟨rfl, z1.symm⟩⟩
  · injection e with z1 z2 z3; exact ⟨_, _, rfl, rfl, z2.symm, z3.symm, .inr ⟨rfl, z1.symm⟩⟩
  · cases e
def tipOf (op : Operator) : TIp := match op with
  | .Add => ipI fun i j => i + j
  | .Sub => ipI fun i j => i - j
  | _ => fun _ _ _ _ => False
theorem ip_of (op : Operator) : PIp X op (tipOf op) := by
  cases op <;> first | exact ip_add | exact ip_sub | exact fun _ _ _ _ _ _ _ _ _ _ _ _ z => z.elim
theorem aug_tip {op : Operator} {x y w : Val} {xv yv : V} {ρ' : Ev} {h' : Hh} {Q : VK} (rx : RepV C σ ρ H x xv) (ry : RepV C σ ρ H y yv) (e : augM op x y ρ h = .ok w ρ' h') (q : ∀ n, w = .d (.int n) → ρ' = ρ → h' = h → Q (.int n) H) : tipOf op xv yv H Q := by
  obtain ⟨i, j, e1, e2, e3, e4, ⟨e5, e6⟩ | ⟨e5, e6⟩⟩ := augM_ok e
  · subst e1; subst e2; subst e5
    exact ⟨i, j, rx, ry, q _ e6 e3 e4⟩
  · subst e1; subst e2; subst e5
    exact ⟨i, j, rx, ry, q _ e6 e3 e4⟩
theorem st_aug {i : Nat} {x : Str} {e : Expr} {op : Operator} {m : M Val} {pos' : Pos} (hN : X.N.Nodup) (hi : X.N[i]? = some x) (hx : Loc X.env.scope x) (he : PE X e (tE C m)) (hf : X.fn x = true ∨ X.env.scope.names.lookup x = some .local) :
    PS X (.AugAssign (.Name x pos') op e pos) (tS C (thenS (nameM i) fun x => thenS m fun y => thenS (augM op x y) fun z => thenS (setM i z) nxS)) :=
  (ps_aug hN hi hx he (ip_of op) hf).weakE fun En σ H q => by
    obtain ⟨ρ, h, R, q⟩ := q
    obtain ⟨x, ρ0, h0, e0, q0⟩ := thenS_ok q
    unfold nameM at e0
    split at e0
    · rename_i w ew
      injection e0 with z1 z2 z3
      subst z1; subst z2; subst z3
      obtain ⟨v, ev, rv⟩ := R.val i w ew
      obtain ⟨y, ρ1, h1, e1, q1⟩ := thenS_ok q0
      refine ⟨v, ev, ρ, h, R, y, ρ1, h1, e1, fun u H1 R1 r1 S1 P1 => ?_⟩
      obtain ⟨z, ρ2, h2, e2, q2⟩ := thenS_ok q1
      refine aug_tip (rv.stp S1 R.mu P1) r1 e2 fun n ez er eh => ?_
      subst ez; subst er; subst eh
      exact setM_run R1 (show RepV C σ _ H1 (.d (.int n)) (.int n) from rfl) (oS.shift S1 q2)
    · rename_i b eb
      injection e0 with z1 z2 z3
      subst z1; subst z2; subst z3
      obtain ⟨y, ρ1, h1, e1, q1⟩ := thenS_ok q0
      obtain ⟨z, ρ2, h2, e2, q2⟩ := thenS_ok q1
      obtain ⟨_, _, y1, _⟩ := augM_ok e2
      cases y1
    · cases e0
end
end EV

set_option maxRecDepth 100000
set_option maxHeartbeats 4000000
/-! EvU: looks at statements. -/
namespace EV
open PySem PySem.Spec PyProof.Rows L2

def notName : Expr → Bool
  | .Name .. => false
  | _ => true
def noSwap (tg e : Expr) : Bool := match tg with
  | .Tuple ts _ _ => (match e with
    | .Tuple vs _ _ => (!(ts.length == 2 || ts.length == 3)) || ((vs.length != ts.length) || (vs.all notStar && (ts.any notName || vs.all (foldedForSure 8))))
    | _ => true)
  | .List .. => false
  | _ => true
theorem swaps_nn {e tg : Expr} {l : Nat} {env : Env} (h : (notComp e || notName tg) = true) : swapsWith e (some tg) l env = pure false := by
  rcases (Bool.or_eq_true _ _).mp h with h | h
  · exact swaps_none h
  · cases tg <;> first | (cases h; done) | (cases e <;> rfl)
theorem any_len {f : Expr → Option Str} (hf : ∀ e, notName e = true → f e = none) : ∀ {ts : List Expr}, ts.any notName = true → (ts.filterMap f).length < ts.length
  | [], h => by cases h
  | t :: ts, h => by
    rw [List.any_cons, Bool.or_eq_true] at h
    have le : (ts.filterMap f).length ≤ ts.length := List.length_filterMap_le _ _
    cases ht : notName t with
    | true => rw [List.filterMap_cons, hf t ht, List.length_cons]; show (ts.filterMap f).length < _; omega
    | false =>
      rw [ht] at h
      have ih := any_len hf (h.resolve_left (by decide))
      rw [List.filterMap_cons, List.length_cons]
      cases f t with
      | none => show (ts.filterMap f).length < _; omega
      | some y => show (y :: ts.filterMap f).length < _; rw [List.length_cons]; omega
theorem noSwap_ok {tg e : Expr} {env : Env} (h : noSwap tg e = true) (hk : env.scope.kind = .function) : swappedStores [tg] e env = pure none := by
  cases tg <;> first | rfl | (cases h; done) | skip
  rename_i ts k p
  cases e <;> first | rfl | skip
  rename_i vs k2 p2
  have h : ((!(ts.length == 2 || ts.length == 3)) || ((vs.length != ts.length) || (vs.all notStar && (ts.any notName || vs.all (foldedForSure 8))))) = true := h
  have hb : env.blockKind = .function := by unfold Env.blockKind; rw [hk]; rfl
  unfold swappedStores
  simp only [hb]
  by_cases c1 : (!(ts.length == 2 || ts.length == 3) || vs.length != ts.length || ScopeKind.function != ScopeKind.function) = true
  · rw [if_pos c1]
  · rw [if_neg c1]
    have c1' : (!(ts.length == 2 || ts.length == 3)) = false ∧ (vs.length != ts.length) = false := by
      rw [Bool.or_eq_true, Bool.or_eq_true] at c1
      constructor
      · cases q : (!(ts.length == 2 || ts.length == 3)) with
        | false => rfl
        | true => exact absurd (.inl (.inl q)) c1
      · cases q : (vs.length != ts.length) with
        | false => rfl
        | true => exact absurd (.inl (.inr q)) c1
    rw [c1'.1, c1'.2, Bool.false_or, Bool.false_or, Bool.and_eq_true, Bool.or_eq_true] at h
    obtain ⟨hs, h⟩ := h
    split
    · rfl
    · split
      · rfl
      · rename_i c2 c3
        rcases h with h | h
        · exfalso
          apply c3
          rw [Bool.or_eq_true]
          left
          have := any_len (f := fun x => match x with
            | .Name id pos => if (env.kindOf id == some NameKind.local && pos.line == ((ts.head?.map (·.pos.line)).getD 0)) = true then some id else none
            | _ => none) (fun e he => by cases e <;> first | rfl | cases he) h
          rw [bne_iff_ne]
          intro z
          exact Nat.ne_of_lt this z
        · rw [if_pos h]
end EV

set_option maxRecDepth 100000
set_option maxHeartbeats 4000000
/-! EvV: every statement that the look takes. -/
namespace EV
open PySem PySem.Spec PyProof.Rows L2

structure SOk (Z : Wd) (lv : Nat) (I : Inf) (X : Cx) (C : Ct) : Prop extends XOk Z lv I X C where
  kd : X.env.scope.kind = .function
  bk : I.blk = false → C.blk = false
  tb : I.blk = false → ∀ l k, I.defs l k ≠ Str.ofString "" → ∃ c P nm, LamX.TabB X.base X.mg c P ∧ X.env.code = .ref c ∧ (P, nm) ∈ C.T ∧ (∀ p ∈ C.T, p.1 = P → p.2 = nm) ∧ nm l k = X.env.qual ++ I.defs l k
  code : ∀ c name params body scope, I.okN c ⟨name, params, body, scope, [], [], []⟩ = true → ∃ ps fr N, C.code c ⟨name, params, body, scope, ps, fr, N⟩ ∧ C.mds c ⟨name, params, body, scope, ps, fr, N⟩

mutual
def mG2 (I : Inf) : Tg → Expr → Bool
  | .nm i, .Name x _ => decide (I.N[i]? = some x) && locB I.blk I.cel I.sc x
  | .tp ts, .Tuple ts' _ _ => mG2s I ts ts'
  | .sub o k, .Subscript o' k' _ => notSlice k' && (mE I o o' && mE I k k')
  | _, _ => false
def mG2s (I : Inf) : List Tg → List Expr → Bool
  | [], [] => true
  | t :: ts, t' :: ts' => notStar t' && (mG2 I t t' && mG2s I ts ts')
  | _, _ => false
end
def mFs (I : Inf) : List (Nat × Bool) → List Ex → List Expr → Bool
  | [], [], [] => true
  | p :: ps, e :: es, e' :: es' => notStar e' && ((if p.2 = true then mF I e e' else mE I e e') && mFs I ps es es')
  | _, _, _ => false
def locN (I : Inf) (i : Nat) (x : Str) : Bool := decide (I.N[i]? = some x) && locB I.blk I.cel I.sc x
def loc1 (I : Inf) (i : Nat) (x : Str) : Bool := decide (I.N[i]? = some x) && decide (I.sc.names.lookup x = some .local)
/-- the list of the comprehension goes straight into the name -/
def compInto (I : Inf) (x : Str) (l : Nat) : Expr → Bool
  | .ListComp _ _ scope p => decide (I.sc.names.lookup x = some .local) && ((l == p.line) && !(scope.names.any fun (n, k) => n == x && (k == .local || k == .cell)))
  | _ => false
def noDflt (a : Arguments) : Bool := a.defaults.isEmpty && (a.kw_defaults.isEmpty && (a.posonlyargs.isEmpty && (a.kwonlyargs.isEmpty && (a.vararg.isNone && (a.kwarg.isNone && a.args.all fun p => p.annotation.isNone)))))
theorem noAnn {env : Env} : ∀ {l : List Arg}, (l.all fun p => p.annotation.isNone) = true → annotationsOf l env = []
  | [], _ => rfl
  | ⟨n, none, p⟩ :: l, h => by
    rw [List.all_cons, Bool.and_eq_true] at h
    show annotationsOf l env = []
    exact noAnn h.2
  | ⟨n, some a, p⟩ :: l, h => by
    rw [List.all_cons, Bool.and_eq_true] at h
    cases h.1
theorem noDflt_ok {a : Arguments} (h : noDflt a = true) (env : Env) : a.defaults = [] ∧ a.kw_defaults = [] ∧ annTrees a none env = [] := by
  obtain ⟨po, ar, va, ko, kd, kw, df⟩ := a
  unfold noDflt at h
  simp only [Bool.and_eq_true, List.isEmpty_iff, Option.isNone_iff_eq_none] at h
  obtain ⟨h1, h2, h3, h4, h5, h6, h7⟩ := h
  subst h1; subst h2; subst h3; subst h4; subst h5; subst h6
  refine ⟨rfl, rfl, ?_⟩
  show annotationsOf (ar ++ [] ++ [] ++ [] ++ []) env ++ [] = []
  rw [List.append_nil, List.append_nil, List.append_nil, List.append_nil, List.append_nil]
  exact noAnn (by rw [List.all_eq_true] at h7 ⊢; intro x hx; rw [h7 x hx])
def nm1 : Expr → Option (Str × Pos)
  | .Name x p => some (x, p)
  | _ => none
def mPar (I : Inf) (is : List (Nat × Bool)) (es : List Ex) (ts vs : List Expr) : Bool := match is with
  | [(i, o1), (j, o2)] => (match ts with
    | [tx, ty] => (match nm1 tx, nm1 ty with
      | some x, some y => (match vs with
        | [a, b] => (loc1 I i x.1 && (loc1 I j y.1 && (!(i == j) && ((y.2.line == x.2.line) && (!([a, b].all (foldedForSure 8)) && (!([a, b].all (constantsAlone 8)) && mFs I [(i, o1), (j, o2)] es [a, b])))))) || (locN I i x.1 && (locN I j y.1 && (!(i == j) && (!(decide (I.sc.names.lookup x.1 = some .local) && decide (I.sc.names.lookup y.1 = some .local)) && mFs I [(i, o1), (j, o2)] es [a, b]))))
        | _ => false)
      | _, _ => false)
    | _ => false)
  | [(i, o1), (j, o2), (l, o3)] => (match ts with
    | [tx, ty, tz] => (match nm1 tx, nm1 ty, nm1 tz with
      | some x, some y, some z => (match vs with
        | [a, b, c] => (loc1 I i x.1 && (loc1 I j y.1 && (loc1 I l z.1 && (!(i == j) && (!(i == l) && (!(j == l) && ((y.2.line == x.2.line) && ((z.2.line == x.2.line) && (!([a, b, c].all (foldedForSure 8)) && (!([a, b, c].all (constantsAlone 8)) && mFs I [(i, o1), (j, o2), (l, o3)] es [a, b, c])))))))))) || (locN I i x.1 && (locN I j y.1 && (locN I l z.1 && (!(i == j) && (!(i == l) && (!(j == l) && (!(decide (I.sc.names.lookup x.1 = some .local) && (decide (I.sc.names.lookup y.1 = some .local) && decide (I.sc.names.lookup z.1 = some .local))) && mFs I [(i, o1), (j, o2), (l, o3)] es [a, b, c])))))))
        | _ => false)
      | _, _, _ => false)
    | _ => false)
  | _ => false
def one : List Expr → Option Expr
  | [e] => some e
  | _ => none
def tupE : Expr → Option (List Expr)
  | .Tuple ts _ _ => some ts
  | _ => none
mutual
def mS (I : Inf) : St → Stmt → Bool
  | .nev, _ => true
  | .ex e, .Expr e' _ => notComp e' && mE I e e'
  | .set tg e, .Assign tgs e' _ => (match one tgs with
    | some tg' => (match tg, tg' with
      | .nm i, .Name x p => locN I i x && (((notComp e' || decide (I.sc.names.lookup x = some .cell)) && mE I e e') || (compInto I x p.line e' && mF I e e'))
      | tg, tg' => (notComp e' || notName tg') && (notStar tg' && (noSwap tg' e' && (mE I e e' && mG2 I tg tg'))))
    | none => false)
  | .setOwn i e, .Assign tgs e' _ => (match one tgs with
    | some tg' => (match nm1 tg' with
      | some x => locN I i x.1 && (mF I e e' && (notComp e' || compInto I x.1 x.2.line e'))
      | none => false)
    | none => false)
  | .par is es, .Assign tgs e' _ => (match one tgs with
    | some tg' => (match tupE tg', tupE e' with
      | some ts, some vs => mPar I is es ts vs
      | _, _ => false)
    | none => false)
  | .ret e, .Return (some e') _ => mE I e e'
  | .retOwn e, .Return (some e') _ => mF I e e'
  | .retNm i, .Return (some (.Name x _)) _ => nameIs I i x
  | .retN, .Return none _ => true
  | .ite t a b, .If t' a' b' _ => mE I t t' && (mSs I a a' && mSs I b b')
  | .whil t b, .While t' b' [] _ => mE I t t' && mSs I b b'
  | .forr tg it b, .For tg' it' b' [] _ => notSet it' && (mI I it tg' it' && (mG2 I tg tg' && mSs I b b'))
  | .ndef i c, .FunctionDef name params body [] none [] scope none name2 pos => !I.blk && (decide (name = name2) && (locN I i name && (noDflt params && (decide (I.defs pos.line pos.col = name) && (!decide (name = Str.ofString "") &&
      ((scope.names.all fun y => !decide (y.2 = .free) || (decide (I.sc.names.lookup y.1 = some .cell) || decide (I.sc.names.lookup y.1 = some .free))) && I.okN c ⟨name, params, body, scope, [], [], []⟩))))))
  | .brk, .Break _ => true
  | .cnt, .Continue _ => true
  | .pass, .Pass _ => true
  | .aug i op e, .AugAssign (.Name x _) op' e' _ => decide (op = op') && (locN I i x && mE I e e')
  | _, _ => false
def mSs (I : Inf) : List St → List Stmt → Bool
  | [], [] => true
  | .freeze _ :: ss, sts => mSs I ss sts
  | s :: ss, st :: sts => mS I s st && mSs I ss sts
  | _, _ => false
end
end EV

set_option maxRecDepth 100000
set_option maxHeartbeats 4000000
/-! EvW: statements, soundness. -/
namespace EV
open PySem PySem.Spec PyProof.Rows L2

section
variable {Z : Wd} {lv : Nat} {I : Inf} {X : Cx} {C : Ct} {σ : L2.St} {H : Hp} {ρ : Ev} {h : Hh}
theorem XOk.inF (o : XOk Z lv I X C) (a : Addr) : XOk Z lv I X (C.inF a) := ⟨o.P, o.w, o.XK, o.mg, o.base, o.N, o.nd, o.sc, o.calm, o.K, o.fn, o.fc, o.pas, o.room, o.free, o.con, o.fns, o.T, o.cd, o.lnk⟩
theorem Rel.extN {H1 : Hp} (R : Rel C σ H ρ h) (e : LamX.ExtN H H1) (nn : ∀ b, H1 b = none → H b = none) (t : NdefX.TabsN C.T H1) : Rel C σ H1 ρ h ∧ Stp C σ ρ H σ ρ H1 := by
  have S : Stp C σ ρ H σ ρ H1 := ⟨fun a o q s => e a o q (fun ps z => by rw [z] at s; cases s), fun a o q _ _ n => .inl (e a o q n), nn, fun a z => .inl z⟩
  have k := S.kp R.mu
  have bx : ∀ {b : D} {a : Addr}, BoxAt C.K H (Av C σ ρ) b a → BoxAt C.K H1 (Av C σ ρ) b a := fun {b a} x => x.kp k fun o q => by
    obtain ⟨o', e', _, nt⟩ := x.here
    rw [q] at e'; cases e'
    exact e a o q nt
  refine ⟨⟨R.len, fun j w q => ?_, fun j b q => ?_, R.dis, R.blen, fun j b q => ?_, R.mu, R.nod, fun a q => ?_, R.noH, t⟩, S⟩
  · obtain ⟨v, e1, r⟩ := R.val j w q
    exact ⟨v, e1, r.stp S R.mu (.refl _)⟩
  · obtain ⟨a, e1, e2, e3⟩ := R.own j b q
    exact ⟨a, e1, e2, bx e3⟩
  · obtain ⟨a, e1, e3⟩ := R.box j b q
    exact ⟨a, e1, bx e3⟩
  · obtain ⟨o, eo⟩ := R.trk a q
    cases q1 : H1 a with
    | some o1 => exact ⟨o1, rfl⟩
    | none => rw [nn a q1] at eo; cases eo
theorem locB_use (o : XOk Z lv I X C) {x : Str} (h : locB I.blk I.cel I.sc x = true) : Loc X.env.scope x ∧ (X.fn x = true ∨ X.env.scope.names.lookup x = some .local) := by
  obtain ⟨h3, h4⟩ := locB_ok h
  refine ⟨by rw [o.sc]; exact h3, ?_⟩
  cases hb : I.blk with
  | true =>
    rcases h4 hb with z | z
    · right; rw [o.sc]; exact z
    · left; exact o.fc x z
  | false => left; exact o.fn hb x
theorem locN_use (o : XOk Z lv I X C) {i : Nat} {x : Str} (h : locN I i x = true) : X.N[i]? = some x ∧ Loc X.env.scope x ∧ (X.fn x = true ∨ X.env.scope.names.lookup x = some .local) := by
  unfold locN at h
  rw [Bool.and_eq_true, decide_eq_true_eq] at h
  obtain ⟨h1, h2⟩ := h
  obtain ⟨h3, h4⟩ := locB_use o h2
  exact ⟨by rw [o.N]; exact h1, h3, h4⟩
theorem loc1_use (o : XOk Z lv I X C) {i : Nat} {x : Str} (h : loc1 I i x = true) : X.N[i]? = some x ∧ X.env.scope.names.lookup x = some .local := by
  unfold loc1 at h
  rw [Bool.and_eq_true, decide_eq_true_eq, decide_eq_true_eq] at h
  exact ⟨by rw [o.N]; exact h.1, by rw [o.sc]; exact h.2⟩
theorem st_ndef {i c : Nat} {name : Str} {params : Arguments} {body : List Stmt} {scope : Scope} {pos : Pos} (o : SOk Z lv I X C) (hb : I.blk = false) (hi : locN I i name = true) (hd : noDflt params = true) (hn : I.defs pos.line pos.col = name) (hne : ¬ name = Str.ofString "")
    (hfr : (scope.names.all fun y => !decide (y.2 = .free) || (decide (I.sc.names.lookup y.1 = some .cell) || decide (I.sc.names.lookup y.1 = some .free))) = true) (hk : I.okN c ⟨name, params, body, scope, [], [], []⟩ = true) :
    PS X (.FunctionDef name params body [] none [] scope none name pos) (tS C fun ρ h => if i < ρ.length then .nx (ρ.set i (.val (.mk c))) h else .bad) := by
  obtain ⟨cc, P, nm, TB, hcode, hm, hu, hnm⟩ := o.tb hb pos.line pos.col (by rw [hn]; exact hne)
  obtain ⟨d1, d2, d3⟩ := noDflt_ok hd X.env
  obtain ⟨n1, n2, n3⟩ := locN_use o.toXOk hi
  have free : ∀ y ∈ scope.names, y.2 = .free → X.env.scope.names.lookup y.1 = some .cell ∨ X.env.scope.names.lookup y.1 = some .free := fun y hy e => by
    have z := List.all_eq_true.mp hfr y hy
    simp only [Bool.or_eq_true, Bool.not_eq_true', decide_eq_true_eq, decide_eq_false_iff_not] at z
    rw [o.sc]
    rcases z with z | z
    · exact absurd e z
    · exact z
  refine (NdefX.ps_ndefM (T := C.T) (nm := nm) TB hcode hm (by rw [hnm, hn]) hu free d1 d2 d3 (by rw [o.N]; exact o.nd) n1 n2 n3).weakE fun En σ H q => ?_
  obtain ⟨ρ, h, R, q⟩ := q
  have q : oS C σ ρ H En (if i < ρ.length then .nx (ρ.set i (.val (.mk c))) h else .bad) := q
  refine ⟨R.tab, fun f c' H1 ex nn t1 f0 f1 c1 => ?_⟩
  by_cases hl : i < ρ.length
  · rw [if_pos hl] at q
    obtain ⟨R1, S1⟩ := R.extN ex nn t1
    obtain ⟨ps, fr, N, hc, hc2⟩ := o.code c name params body scope hk
    obtain ⟨R2, S2, _⟩ := R1.setVal (w := .mk c) (v := .ref f) hl (fun j z => by cases z) ⟨o.bk hb, _, f, _, hc, rfl, f1, c1, ⟨rfl, rfl, rfl, rfl⟩, by rw [(o.lnk (o.bk hb)).2.2.2.2.1], hc2⟩
    exact q _ H1 R2 (S1.trans S2)
  · rw [if_neg hl] at q; exact q.elim
end

/-! ### targets, with items -/
theorem allStarG2 {I : Inf} : ∀ {es : List Tg} {es' : List Expr}, mG2s I es es' = true → es'.all notStar = true ∧ es.length = es'.length
  | [], [], _ => ⟨rfl, rfl⟩
  | e :: es, e' :: es', h => by
    have h : (notStar e' && (mG2 I e e' && mG2s I es es')) = true := h
    simp only [Bool.and_eq_true] at h
    obtain ⟨a, b⟩ := allStarG2 h.2.2
    exact ⟨by rw [List.all_cons, h.1, a]; rfl, by rw [List.length_cons, List.length_cons, b]⟩
  | [], _ :: _, h => by cases h
  | _ :: _, [], h => by cases h
mutual
theorem sG2 {Z : Wd} {lv : Nat} {G : Gv} (hC : CallOk Z lv G) : ∀ (t : Tg) (I : Inf) (X : Cx) (C : Ct), XOk Z lv I X C → (∀ x, G.con x = I.con.lookup x) → ∀ t' : Expr, mG2 I t t' = true → PG X t' (tG C (tix t) (asg G t))
  | .nm i, I, X, C, o, hG, t', h => by
    cases t' <;> first | (cases h; done) | skip
    rename_i x p
    obtain ⟨h1, h2, h3⟩ := locN_use o (show locN I i x = true from h)
    exact g_nm (by rw [o.N]; exact o.nd) h1 h2 h3
  | .tp ts, I, X, C, o, hG, t', h => by
    cases t' <;> first | (cases h; done) | skip
    rename_i ts' k p
    have h : mG2s I ts ts' = true := h
    obtain ⟨a1, a2⟩ := allStarG2 h
    exact g_tp o.K o.calm a1 a2.symm (fun ds ρ h ρ' h' e => asgs_len e) (sG2s hC ts I X C o hG ts' h)
  | .sub a b, I, X, C, o, hG, t', h => by
    cases t' <;> first | (cases h; done) | skip
    rename_i a' b' p
    have h : (notSlice b' && (mE I a a' && mE I b b')) = true := h
    simp only [Bool.and_eq_true] at h
    exact g_sub (by have := o.units; omega) (sE hC a I X C o hG a' h.2.1) (sE hC b I X C o hG b' h.2.2) h.1
theorem sG2s {Z : Wd} {lv : Nat} {G : Gv} (hC : CallOk Z lv G) : ∀ (ts : List Tg) (I : Inf) (X : Cx) (C : Ct), XOk Z lv I X C → (∀ x, G.con x = I.con.lookup x) → ∀ ts' : List Expr, mG2s I ts ts' = true → PGs X ts' (tGs C (tixs ts) (asgs G ts))
  | [], I, X, C, o, hG, ts', h => by
    cases ts' with
    | nil =>
      refine (gs_nil (X := X) (C := C)).weakE fun v σ H Q q => ?_
      obtain ⟨ρ, h, ws, ρ', h', R, r, e, k⟩ := q
      refine ⟨ρ, h, ws, ρ', h', R, r, ?_, k⟩
      cases ws with
      | nil => exact e
      | cons _ _ => cases e
    | cons _ _ => cases h
  | t :: ts, I, X, C, o, hG, ts', h => by
    cases ts' with
    | nil => cases h
    | cons t' ts' =>
      have h : (notStar t' && (mG2 I t t' && mG2s I ts ts')) = true := h
      simp only [Bool.and_eq_true] at h
      refine (gs_cons h.1 (sG2 hC t I X C o hG t' h.2.1) (sG2s hC ts I X C o hG ts' h.2.2)).weakE fun v σ H Q q => ?_
      obtain ⟨ρ, h, ws, ρ', h', R, r, e, k⟩ := q
      refine ⟨ρ, h, ws, ρ', h', R, r, ?_, k⟩
      cases ws with
      | nil => cases e
      | cons _ _ => exact e
end
theorem sFs {Z : Wd} {lv : Nat} {G : Gv} (hC : CallOk Z lv G) : ∀ (fl : List (Nat × Bool)) (es : List Ex) (I : Inf) (X : Cx) (C : Ct), XOk Z lv I X C → (∀ x, G.con x = I.con.lookup x) → ∀ es' : List Expr, mFs I fl es es' = true → PA X es' (tAF C fl (denFs G fl es))
  | [], es, I, X, C, o, hG, es', h => by
    cases es <;> cases es' <;> first | (cases h; done) | skip
    exact af_nil
  | (i, b) :: fl, es, I, X, C, o, hG, es', h => by
    rcases es with _ | ⟨e, es⟩
    · cases es' <;> cases h
    rcases es' with _ | ⟨e', es'⟩
    · cases h
    cases b with
    | true =>
      have h : (notStar e' && (mF I e e' && mFs I fl es es')) = true := h
      simp only [Bool.and_eq_true] at h
      exact af_new h.1 (denF_data e) (sF hC e I X C o hG e' h.2.1) fun a => sFs hC fl es I X (C.inF a) (o.inF a) hG es' h.2.2
    | false =>
      have h : (notStar e' && (mE I e e' && mFs I fl es es')) = true := h
      simp only [Bool.and_eq_true] at h
      exact af_val h.1 (sE hC e I X C o hG e' h.2.1) (sFs hC fl es I X C o hG es' h.2.2)
theorem mFs_star {I : Inf} : ∀ {fl : List (Nat × Bool)} {es : List Ex} {es' : List Expr}, mFs I fl es es' = true → es'.all notStar = true
  | [], [], [], _ => rfl
  | p :: fl, e :: es, e' :: es', h => by
    have h : (notStar e' && ((if p.2 = true then mF I e e' else mE I e e') && mFs I fl es es')) = true := h
    simp only [Bool.and_eq_true] at h
    rw [List.all_cons, h.1, mFs_star h.2.2]; rfl
  | [], _ :: _, _, h => by cases h
  | [], [], _ :: _, h => by cases h
  | _ :: _, [], _, h => by cases h
  | _ :: _, _ :: _, [], h => by cases h
end EV

set_option maxRecDepth 100000
set_option maxHeartbeats 4000000
/-! EvX: statements, soundness. -/
namespace EV
open PySem PySem.Spec PyProof.Rows L2

section
variable {Z : Wd} {lv : Nat} {G : Gv} {I : Inf} {X : Cx} {C : Ct}
/-- name = [..]: the list goes straight into the name -/
theorem st_into {e : Ex} {e' : Expr} {i : Nat} {x : Str} {py spos : Pos} {m : MS} (hC : CallOk Z lv G) (o : SOk Z lv I X C) (hG : ∀ x, G.con x = I.con.lookup x) (hi : locN I i x = true) (hc : compInto I x py.line e' = true) (he : mF I e e' = true)
    (hm : ∀ En σ H, tS C m En σ H → tFr C (denF G e) σ H fun v H1 => En.nx (σ.set i (some v)) H1) : PS X (.Assign [.Name x py] e' spos) (tS C m) := by
  cases e' <;> first | (cases hc; done) | skip
  rename_i elt' gs scope p
  cases e <;> first | (cases he; done) | skip
  rename_i elt tg it ifs vs
  rcases gs with _ | ⟨⟨tg', it', ifs', k⟩, _ | ⟨_, _⟩⟩ <;> first | (cases he; done) | skip
  have h : (k == 0 && (notSet it' && (mI I it tg' it' && (inNs vs tg && (blkC I.N I.sc scope (ownN I.N vs) &&
      (mG (blkInf I scope) tg tg' && (mTs (blkInf I scope) ifs ifs' && mE (blkInf I scope) elt elt'))))))) = true := he
  simp only [Bool.and_eq_true] at h
  obtain ⟨h1, h2, h3, h4, h5, h6, h7, h8⟩ := h
  cases (beq_iff_eq.mp h1)
  have hc : (decide (I.sc.names.lookup x = some .local) && ((py.line == p.line) && !(scope.names.any fun (n, k) => n == x && (k == .local || k == .cell)))) = true := hc
  simp only [Bool.and_eq_true, decide_eq_true_eq, Bool.not_eq_true'] at hc
  obtain ⟨c1, c2, c3⟩ := hc
  obtain ⟨n1, n2, n3⟩ := locN_use o.toXOk hi
  have ev : (ownN I.N vs).map (·.2) = vs := ownN_snd
  have hx : X.env.scope.names.lookup x = some .local := by rw [o.sc]; exact c1
  have p := ps_setLc (pos := p) (spos := spos) (i := i) (y := x) (py := py) o.calm (by rw [o.N]; exact o.nd) n1 hx (sw_true o.kd hx c2 c3) (sI hC it I X C o.toXOk hG tg' it' h3) (blkOk_by (by rw [o.N, o.sc]; exact h5))
    (g := gX C (tix tg) (asg G tg)) (tt := ttX C (denTs G ifs)) (te := teX C (den G elt))
    (fun s H c cl fp => ⟨fun pins s2 σ H2 v u Q I2 r ⟨d, q⟩ => (sG (G := G) tg _ _ _ (o.toXOk.block d s H scope cl c fp) tg' h6).run pins s2 σ H2 v u Q I2 r q⟩)
    (fun s H c cl fp => ⟨fun pins s2 σ H2 Q I2 ⟨d, q⟩ => (sTs hC ifs _ _ _ (o.toXOk.block d s H scope cl c fp) hG ifs' h7).run pins s2 σ H2 Q I2 q⟩)
    (fun s H c cl fp => ⟨fun pins s2 σ H2 Q I2 ⟨d, q⟩ => (sE hC elt _ _ _ (o.toXOk.block d s H scope cl c fp) hG elt' h8).run pins s2 σ H2 Q I2 q⟩) (folded_set h2)
  refine p.weakE fun En σ H q => ?_
  show tLc _ _ _ _ _ σ H _
  rw [ev]
  exact lc_read (inNs_ok tg h4) (hm En σ H q)
end
theorem denS_freeze {G : Gv} {i : Nat} : denS G (.freeze i) = freezeM i := rfl
theorem set_fresh {C : Ct} {σ : L2.St} {H : Hp} {i : Nat} {m : M Val} {En : Ends} (hd : ∀ ρ h w ρ' h', m ρ h = .ok w ρ' h' → ∃ b, w = .d b) (q : tS C (thenS m fun x => thenS (setM i x) nxS) En σ H) : tFr C m σ H fun v H1 => En.nx (σ.set i (some v)) H1 := by
  refine tE.fresh ?_ hd
  obtain ⟨ρ, h, R, w, ρ', h', e, k⟩ := q.first
  refine ⟨ρ, h, R, w, ρ', h', e, fun v H1 R1 r1 S1 P1 => ?_⟩
  obtain ⟨w2, ρ2, h2, R2, r2, q2⟩ := k v H1 R1 r1 S1 P1
  exact setM_run R2 r2 q2
theorem mSs_cons {I : Inf} {s : St} {ss : List St} {sts : List Stmt} (h : mSs I (s :: ss) sts = true) : (∃ i, s = .freeze i ∧ mSs I ss sts = true) ∨ (∃ st sts', sts = st :: sts' ∧ mS I s st = true ∧ mSs I ss sts' = true) := by
  cases s <;> first | (exact .inl ⟨_, rfl, h⟩) | skip
  all_goals
    right
    cases sts with
    | nil => cases h
    | cons st sts' =>
      refine ⟨st, sts', rfl, ?_⟩
      exact Bool.and_eq_true_iff.mp h
mutual
theorem sS {Z : Wd} {lv : Nat} {G : Gv} (hC : CallOk Z lv G) : ∀ (s : St) (I : Inf) (X : Cx) (C : Ct), SOk Z lv I X C → (∀ x, G.con x = I.con.lookup x) → ∀ st : Stmt, mS I s st = true → PS X st (tS C (denS G s))
  | .nev, I, X, C, o, hG, st, h => st_nev
  | .ex e, I, X, C, o, hG, st, h => by
    cases st <;> first | (cases h; done) | skip
    rename_i e' p
    have h : (notComp e' && mE I e e') = true := h
    rw [Bool.and_eq_true] at h
    exact st_ex (sE hC e I X C o.toXOk hG e' h.2) h.1
  | .set tg e, I, X, C, o, hG, st, h => by
    cases st <;> first | (cases h; done) | skip
    rename_i tgs e' p
    rcases tgs with _ | ⟨tg', _ | ⟨_, _⟩⟩ <;> first | (cases h; done) | skip
    have gen : ((notComp e' || notName tg') && (notStar tg' && (noSwap tg' e' && (mE I e e' && mG2 I tg tg')))) = true → PS X (.Assign [tg'] e' p) (tS C (denS G (.set tg e))) := fun h => by
      rw [Bool.and_eq_true, Bool.and_eq_true, Bool.and_eq_true, Bool.and_eq_true] at h
      exact st_asg (sE hC e I X C o.toXOk hG e' h.2.2.2.1) (sG2 hC tg I X C o.toXOk hG tg' h.2.2.2.2) (fun l => swaps_nn h.1) (noSwap_ok h.2.2.1 o.kd) h.2.1
    cases tg with
    | nm i =>
      cases tg' <;> first | exact gen h | skip
      rename_i x px
      have h : (locN I i x && (((notComp e' || decide (I.sc.names.lookup x = some .cell)) && mE I e e') || (compInto I x px.line e' && mF I e e'))) = true := h
      rw [Bool.and_eq_true, Bool.or_eq_true, Bool.and_eq_true, Bool.and_eq_true, Bool.or_eq_true, decide_eq_true_eq] at h
      obtain ⟨h1, h2⟩ := h
      obtain ⟨n1, n2, n3⟩ := locN_use o.toXOk h1
      rcases h2 with ⟨h2, h3⟩ | ⟨h2, h3⟩
      · rcases h2 with h2 | h2
        · exact st_set (by rw [o.N]; exact o.nd) n1 n2 (sE hC e I X C o.toXOk hG e' h3) h2 n3
        · exact st_setS (by rw [o.N]; exact o.nd) n1 n2 (sE hC e I X C o.toXOk hG e' h3) (swaps_cell (by rw [o.sc]; exact h2)) n3
      · refine st_into hC o hG h1 h2 h3 fun En σ H q => ?_
        cases e' <;> first | (cases h2; done) | skip
        cases e <;> first | (cases h3; done) | skip
        exact set_fresh (denF_data _) q
    | tp ts => exact gen h
    | sub a b => exact gen h
  | .setOwn i e, I, X, C, o, hG, st, h => by
    cases st <;> first | (cases h; done) | skip
    rename_i tgs e' p
    rcases tgs with _ | ⟨tg', _ | ⟨_, _⟩⟩ <;> first | (cases h; done) | skip
    cases tg' <;> first | (cases h; done) | skip
    rename_i x px
    have h : (locN I i x && (mF I e e' && (notComp e' || compInto I x px.line e'))) = true := h
    rw [Bool.and_eq_true, Bool.and_eq_true, Bool.or_eq_true] at h
    obtain ⟨h1, h2, h3⟩ := h
    obtain ⟨n1, n2, n3⟩ := locN_use o.toXOk h1
    rcases h3 with h3 | h3
    · exact st_setOwn (by rw [o.N]; exact o.nd) n1 n2 (sF hC e I X C o.toXOk hG e' h2) h3 n3
    · exact st_into hC o hG h1 h3 h2 fun En σ H q => own_store q
  | .par is es, I, X, C, o, hG, st, h => by
    cases st <;> first | (cases h; done) | skip
    rename_i tgs e' p
    rcases tgs with _ | ⟨tg', _ | ⟨_, _⟩⟩ <;> first | (cases h; done) | skip
    cases tg' <;> first | (cases h; done) | skip
    rename_i ts kt pt
    cases e' <;> first | (cases h; done) | skip
    rename_i vs k2 pt2
    replace h : mPar I is es ts vs = true := h
    rcases is with _ | ⟨⟨i, o1⟩, _ | ⟨⟨j, o2⟩, _ | ⟨⟨l, o3⟩, _ | ⟨_, _⟩⟩⟩⟩ <;> first | (cases h; done) | skip
    · rcases ts with _ | ⟨x, _ | ⟨y, _ | ⟨_, _⟩⟩⟩ <;> first | (cases h; done) | skip
      cases x <;> first | (cases h; done) | skip
      cases y <;> first | (cases h; done) | skip
      rename_i x px y py
      rcases vs with _ | ⟨a, _ | ⟨b, _ | ⟨_, _⟩⟩⟩ <;> first | (cases h; done) | skip
      have h : ((loc1 I i x && (loc1 I j y && (!(i == j) && ((py.line == px.line) && (!([a, b].all (foldedForSure 8)) && (!([a, b].all (constantsAlone 8)) && mFs I [(i, o1), (j, o2)] es [a, b])))))) || (locN I i x && (locN I j y && (!(i == j) && (!(decide (I.sc.names.lookup x = some .local) && decide (I.sc.names.lookup y = some .local)) && mFs I [(i, o1), (j, o2)] es [a, b]))))) = true := h
      rcases (Bool.or_eq_true _ _).mp h with h | h
      · rw [Bool.and_eq_true, Bool.and_eq_true, Bool.and_eq_true, Bool.and_eq_true, Bool.and_eq_true, Bool.and_eq_true, Bool.not_eq_true', Bool.not_eq_true', Bool.not_eq_true', beq_eq_false_iff_ne] at h
        obtain ⟨h1, h2, h3, h4, h5, h6, h7⟩ := h
        obtain ⟨a1, a2⟩ := loc1_use o.toXOk h1
        obtain ⟨b1, b2⟩ := loc1_use o.toXOk h2
        exact st_par2 o.kd o.calm (by rw [o.N]; exact o.nd) a1 b1 h3 a2 b2 h4 (mFs_star h7) h5 h6 (sFs hC _ es I X C o.toXOk hG _ h7)
      · rw [Bool.and_eq_true, Bool.and_eq_true, Bool.and_eq_true, Bool.and_eq_true, Bool.not_eq_true', Bool.not_eq_true', beq_eq_false_iff_ne, Bool.and_eq_false_iff, decide_eq_false_iff_not, decide_eq_false_iff_not] at h
        obtain ⟨h1, h2, h3, h4, h7⟩ := h
        obtain ⟨a1, a2, a3⟩ := locN_use o.toXOk h1
        obtain ⟨b1, b2, b3⟩ := locN_use o.toXOk h2
        exact st_par2c o.K o.kd o.calm (by rw [o.N]; exact o.nd) a1 b1 h3 a2 a3 b2 b3 (by rw [o.sc]; rintro ⟨z1, z2⟩; rcases h4 with h4 | h4 <;> exact h4 (by assumption)) (mFs_star h7) (sFs hC _ es I X C o.toXOk hG _ h7)
    · rcases ts with _ | ⟨x, _ | ⟨y, _ | ⟨z, _ | ⟨_, _⟩⟩⟩⟩ <;> first | (cases h; done) | skip
      cases x <;> first | (cases h; done) | skip
      cases y <;> first | (cases h; done) | skip
      cases z <;> first | (cases h; done) | skip
      rename_i x px y py z pz
      rcases vs with _ | ⟨a, _ | ⟨b, _ | ⟨c, _ | ⟨_, _⟩⟩⟩⟩ <;> first | (cases h; done) | skip
      have h : ((loc1 I i x && (loc1 I j y && (loc1 I l z && (!(i == j) && (!(i == l) && (!(j == l) && ((py.line == px.line) && ((pz.line == px.line) && (!([a, b, c].all (foldedForSure 8)) && (!([a, b, c].all (constantsAlone 8)) && mFs I [(i, o1), (j, o2), (l, o3)] es [a, b, c])))))))))) || (locN I i x && (locN I j y && (locN I l z && (!(i == j) && (!(i == l) && (!(j == l) && (!(decide (I.sc.names.lookup x = some .local) && (decide (I.sc.names.lookup y = some .local) && decide (I.sc.names.lookup z = some .local))) && mFs I [(i, o1), (j, o2), (l, o3)] es [a, b, c])))))))) = true := h
      rcases (Bool.or_eq_true _ _).mp h with h | h
      · rw [Bool.and_eq_true, Bool.and_eq_true, Bool.and_eq_true, Bool.and_eq_true, Bool.and_eq_true, Bool.and_eq_true, Bool.and_eq_true, Bool.and_eq_true, Bool.and_eq_true, Bool.and_eq_true, Bool.not_eq_true', Bool.not_eq_true', Bool.not_eq_true', Bool.not_eq_true', Bool.not_eq_true', beq_eq_false_iff_ne, beq_eq_false_iff_ne, beq_eq_false_iff_ne] at h
        obtain ⟨h1, h2, h3, h4, h5, h6, h7, h8, h9, h10, h11⟩ := h
        obtain ⟨a1, a2⟩ := loc1_use o.toXOk h1
        obtain ⟨b1, b2⟩ := loc1_use o.toXOk h2
        obtain ⟨c1, c2⟩ := loc1_use o.toXOk h3
        exact st_par3 o.kd o.calm (by rw [o.N]; exact o.nd) a1 b1 c1 h4 h5 h6 a2 b2 c2 h7 h8 (mFs_star h11) h9 h10 (sFs hC _ es I X C o.toXOk hG _ h11)
      · simp only [Bool.and_eq_true, Bool.not_eq_true', beq_eq_false_iff_ne, Bool.and_eq_false_iff, decide_eq_false_iff_not] at h
        obtain ⟨h1, h2, h3, h4, h5, h6, h7, h11⟩ := h
        obtain ⟨a1, a2, a3⟩ := locN_use o.toXOk h1
        obtain ⟨b1, b2, b3⟩ := locN_use o.toXOk h2
        obtain ⟨c1, c2, c3⟩ := locN_use o.toXOk h3
        exact st_par3c o.K o.kd o.calm (by rw [o.N]; exact o.nd) a1 b1 c1 h4 h5 h6 a2 a3 b2 b3 c2 c3 (by rw [o.sc]; rintro ⟨z1, z2, z3⟩; rcases h7 with h7 | h7 | h7 <;> exact h7 (by assumption)) (mFs_star h11) (sFs hC _ es I X C o.toXOk hG _ h11)
  | .ret e, I, X, C, o, hG, st, h => by
    cases st <;> first | (cases h; done) | skip
    rename_i e' p
    cases e' with
    | none => cases h
    | some e' => exact st_ret (sE hC e I X C o.toXOk hG e' h)
  | .retOwn e, I, X, C, o, hG, st, h => by
    cases st <;> first | (cases h; done) | skip
    rename_i e' p
    cases e' with
    | none => cases h
    | some e' => exact st_retOwn (sF hC e I X C o.toXOk hG e' h) (denF_data e)
  | .retNm i, I, X, C, o, hG, st, h => by
    cases st <;> first | (cases h; done) | skip
    rename_i e' p
    cases e' with
    | none => cases h
    | some e' =>
      cases e' <;> first | (cases h; done) | skip
      rename_i x px
      exact st_retNm (sE hC (.v i) I X C o.toXOk hG (.Name x px) h)
  | .retN, I, X, C, o, hG, st, h => by
    cases st <;> first | (cases h; done) | skip
    rename_i e' p
    cases e' with
    | none => exact st_retN
    | some e' => cases h
  | .ite t a b, I, X, C, o, hG, st, h => by
    cases st <;> first | (cases h; done) | skip
    rename_i t' a' b' p
    have h : (mE I t t' && (mSs I a a' && mSs I b b')) = true := h
    rw [Bool.and_eq_true, Bool.and_eq_true] at h
    exact st_if (sT hC t I X C o.toXOk hG t' h.1) (sSs hC a I X C o hG a' h.2.1) (sSs hC b I X C o hG b' h.2.2)
  | .whil t b, I, X, C, o, hG, st, h => by
    cases st <;> first | (cases h; done) | skip
    rename_i t' b' e' p
    cases e' with
    | cons _ _ => cases h
    | nil =>
      have h : (mE I t t' && mSs I b b') = true := h
      rw [Bool.and_eq_true] at h
      exact st_while o.pas (sT hC t I X C o.toXOk hG t' h.1) (sSs hC b I X C o hG b' h.2)
  | .forr tg it b, I, X, C, o, hG, st, h => by
    cases st <;> first | (cases h; done) | skip
    rename_i tg' it' b' e' p
    cases e' with
    | cons _ _ => cases h
    | nil =>
      have h : (notSet it' && (mI I it tg' it' && (mG2 I tg tg' && mSs I b b'))) = true := h
      rw [Bool.and_eq_true, Bool.and_eq_true, Bool.and_eq_true] at h
      exact st_for o.pas o.calm (sI hC it I X C o.toXOk hG tg' it' h.2.1) (sG2 hC tg I X C o.toXOk hG tg' h.2.2.1) (sSs hC b I X C o hG b' h.2.2.2) h.1
  | .freeze i, I, X, C, o, hG, st, h => by cases st <;> cases h
  | .ndef i c, I, X, C, o, hG, st, h => by
    cases st <;> first | (cases h; done) | skip
    rename_i name params body decs rets tps scope tsc name2 p
    cases decs <;> cases rets <;> cases tps <;> cases tsc <;> first | (cases h; done) | skip
    have h : (!I.blk && (decide (name = name2) && (locN I i name && (noDflt params && (decide (I.defs p.line p.col = name) && (!decide (name = Str.ofString "") &&
      ((scope.names.all fun y => !decide (y.2 = .free) || (decide (I.sc.names.lookup y.1 = some .cell) || decide (I.sc.names.lookup y.1 = some .free))) && I.okN c ⟨name, params, body, scope, [], [], []⟩))))))) = true := h
    rw [Bool.and_eq_true, Bool.and_eq_true, Bool.and_eq_true, Bool.and_eq_true, Bool.and_eq_true, Bool.and_eq_true, Bool.and_eq_true, decide_eq_true_eq, decide_eq_true_eq, Bool.not_eq_true', Bool.not_eq_true', decide_eq_false_iff_not] at h
    obtain ⟨h1, h2, h3, h4, h5, h6, h7, h8⟩ := h
    subst h2
    exact st_ndef o h1 h3 h4 h5 h6 h7 h8
  | .brk, I, X, C, o, hG, st, h => by
    cases st <;> first | (cases h; done) | skip
    exact st_brk
  | .cnt, I, X, C, o, hG, st, h => by
    cases st <;> first | (cases h; done) | skip
    exact st_cnt
  | .pass, I, X, C, o, hG, st, h => by
    cases st <;> first | (cases h; done) | skip
    exact st_pass
  | .aug i op e, I, X, C, o, hG, st, h => by
    cases st <;> first | (cases h; done) | skip
    rename_i tg op' e' p
    cases tg <;> first | (cases h; done) | skip
    rename_i x px
    have h : (decide (op = op') && (locN I i x && mE I e e')) = true := h
    rw [Bool.and_eq_true, Bool.and_eq_true, decide_eq_true_eq] at h
    obtain ⟨h1, h2, h3⟩ := h
    subst h1
    obtain ⟨n1, n2, n3⟩ := locN_use o.toXOk h2
    exact st_aug (by rw [o.N]; exact o.nd) n1 n2 (sE hC e I X C o.toXOk hG e' h3) n3
  | .augS a k op e, I, X, C, o, hG, st, h => by cases st <;> cases h
termination_by s => sizeOf s
theorem sSs {Z : Wd} {lv : Nat} {G : Gv} (hC : CallOk Z lv G) : ∀ (ss : List St) (I : Inf) (X : Cx) (C : Ct), SOk Z lv I X C → (∀ x, G.con x = I.con.lookup x) → ∀ sts : List Stmt, mSs I ss sts = true → PSs X sts (tS C (denSs G ss))
  | [], I, X, C, o, hG, sts, h => by
    cases sts with
    | nil => exact ss_nil
    | cons _ _ => cases h
  | s :: ss, I, X, C, o, hG, sts, h => by
    rcases mSs_cons h with ⟨i, e, h⟩ | ⟨st, sts', e, h1, h2⟩
    · subst e
      exact ss_freeze (sSs hC ss I X C o hG sts h)
    · subst e
      exact ss_cons (sS hC s I X C o hG st h1) (sSs hC ss I X C o hG sts' h2)
termination_by ss => sizeOf ss
end
end EV

set_option maxRecDepth 100000
set_option maxHeartbeats 4000000
/-! EvY: a call's beginning and end. -/
namespace EV
open PySem PySem.Spec PyProof.Rows L2

/-- the entry's context: nothing is owned, A1 tells what may still change -/
structure Ent (E : Ct) (H : Hp) (ws : List Val) (vs : List V) (h : Hh) : Prop where
  args : RepVs E [] [] H ws vs
  noO : ∀ i, Val.own i ∉ ws
  noM : ∀ c, Val.mk c ∉ ws
  blen : h.length = E.μ.length
  box : ∀ (j : Nat) (b : D), h[j]? = some b → ∃ a, E.μ[j]? = some a ∧ BoxAt E.K H E.A1 b a
  mu : ∀ a ∈ E.μ, E.A1 a
  nod : E.μ.Nodup
  trk : ∀ a, E.A1 a → ∃ o, H a = some o
  tab : NdefX.TabsN E.T H
section
variable {C E : Ct} {σ : L2.St} {H H' : Hp} {ρ : Ev} {h h' : Hh}
theorem ow_nil {a : Addr} : ¬ Ow [] [] a := fun ⟨i, b, e, _⟩ => by simp at e
theorem av_nil : Av E [] [] = E.A1 := by
  funext a
  exact propext ⟨fun z => z.elim id fun y => absurd y ow_nil, .inl⟩
theorem vals_get : ∀ {ws : List Val} {vs : List V} {i : Nat} {w : Val}, RepVs E [] [] H ws vs → ws[i]? = some w → ∃ v, vs[i]? = some v ∧ RepV E [] [] H w v
  | [], _, _, _, _, e => by simp at e
  | x :: xs, _, 0, w, r, e => by
    obtain ⟨v, t, e1, r1, _⟩ := r
    subst e1
    cases (Option.some.inj e)
    exact ⟨v, rfl, r1⟩
  | x :: xs, _, i + 1, w, r, e => by
    obtain ⟨v, t, e1, _, r2⟩ := r
    subst e1
    exact vals_get (i := i) r2 e
theorem RepVs.length : ∀ {ws : List Val} {vs : List V}, RepVs C σ ρ H ws vs → vs.length = ws.length
  | [], _, r => by cases (show _ = [] from r); rfl
  | _ :: _, _, r => by obtain ⟨v, t, e, _, r2⟩ := r; subst e; rw [List.length_cons, List.length_cons, r2.length]
/-- a frame begins -/
def rho0 (ws : List Val) (r : Ev) : Ev := ws.map .val ++ r
theorem rho0_val {ws : List Val} {r : Ev} {i : Nat} {s : Sl} (hr : ∀ x ∈ r, x = .no ∨ ∃ d, x = .val (.d d)) (e : (rho0 ws r)[i]? = some s) : (∃ w, ws[i]? = some w ∧ s = .val w) ∨ (ws.length ≤ i ∧ r[i - ws.length]? = some s ∧ (s = .no ∨ ∃ d, s = .val (.d d))) := by
  unfold rho0 at e
  by_cases hi : i < ws.length
  · left
    rw [List.getElem?_append_left (by rw [List.length_map]; exact hi), List.getElem?_map] at e
    cases hw : ws[i]? with
    | none => rw [hw] at e; cases e
    | some w => rw [hw] at e; exact ⟨w, rfl, (Option.some.inj e).symm⟩
  · right
    rw [List.getElem?_append_right (by rw [List.length_map]; omega), List.length_map] at e
    exact ⟨by omega, e, hr s (List.mem_of_getElem? e)⟩
theorem Ent.begin {ws : List Val} {vs : List V} {r : Ev} {t : L2.St} {cells : List (Str × Addr)} {mds : Nat → NFd → Prop} (n : Ent E H ws vs h) (hr : ∀ x ∈ r, x = .no ∨ ∃ d, x = .val (.d d)) (hl : t.length = r.length)
    (ht : ∀ (i : Nat) (d : D), r[i]? = some (.val (.d d)) → ∃ v, t[i]? = some (some v) ∧ RepD E.K H E.A1 d v) :
    Rel { E with cells := cells, mds := mds } (vs.map some ++ t) H (rho0 ws r) h := by
  have lv := n.args.length
  have now : ∀ a, ¬ Ow (vs.map some ++ t) (rho0 ws r) a := fun a ⟨i, b, e, _⟩ => by
    rcases rho0_val hr e with ⟨w, _, z⟩ | ⟨_, _, z | ⟨d, z⟩⟩ <;> cases z
  have av : Av { E with cells := cells, mds := mds } (vs.map some ++ t) (rho0 ws r) = E.A1 := by
    funext a
    exact propext ⟨fun z => z.elim id fun y => absurd y (now a), .inl⟩
  refine ⟨by unfold rho0; rw [List.length_append, List.length_append, List.length_map, List.length_map, lv, hl], fun i w e => ?_, fun i b e => ?_, fun i j b b' a e => ?_, n.blen, fun j b e => ?_, n.mu, n.nod, n.trk, fun i k e => ?_, n.tab⟩
  · rcases rho0_val hr e with ⟨w', hw, z⟩ | ⟨hi, er, z | ⟨d, z⟩⟩
    · cases z
      obtain ⟨v, ev, rv⟩ := vals_get n.args hw
      refine ⟨v, by rw [List.getElem?_append_left (by rw [List.length_map]; exact (List.getElem?_eq_some_iff.mp ev).1), List.getElem?_map, ev]; rfl, ?_⟩
      cases w with
      | d x => show RepD _ _ _ _ _; rw [av]; have rv : RepD E.K H (Av E [] []) x v := rv; rw [av_nil] at rv; exact rv
      | ref j => exact rv
      | own i => exact absurd (List.mem_of_getElem? hw) (n.noO i)
      | clo c cs =>
        obtain ⟨b0, n', f, F, us, h1, h2, h3, h4, h5, h6, h7, h8⟩ := rv
        rw [av_nil] at h8
        exact ⟨b0, n', f, F, us, h1, h2, h3, h4, h5, h6, h7, by rw [av]; exact h8⟩
      | mk c => exact absurd (List.mem_of_getElem? hw) (n.noM c)
      | scr ns => exact rv
      | kon xs =>
        obtain ⟨a, us, h1, h2, h3⟩ := rv
        rw [av_nil] at h3
        exact ⟨a, us, h1, h2, by rw [av]; exact h3⟩
    · cases z
    · cases z
      obtain ⟨v, ev, rd⟩ := ht _ d er
      refine ⟨v, ?_, show RepD _ _ _ _ _ from by rw [av]; exact rd⟩
      rw [List.getElem?_append_right (by rw [List.length_map, lv]; exact hi), List.length_map, lv]
      exact ev
  · rcases rho0_val hr e with ⟨w, _, z⟩ | ⟨_, _, z | ⟨d, z⟩⟩ <;> cases z
  · rcases rho0_val hr e with ⟨w, _, z⟩ | ⟨_, _, z | ⟨d, z⟩⟩ <;> cases z
  · obtain ⟨a, e1, e2⟩ := n.box j b e
    exact ⟨a, e1, by rw [av]; exact e2⟩
  · rcases rho0_val hr e with ⟨w, hw, z⟩ | ⟨_, _, z | ⟨d, z⟩⟩
    · cases z
      exact n.noO k (List.mem_of_getElem? hw)
    · cases z
    · cases z
/-- behind a call -/
theorem Rel.after {w : Val} {o : Bool} {v : V} (R : Rel C σ H ρ h) (eK : E.K = C.K) (eT : E.T = C.T) (eμ : E.μ = C.μ) (eA : E.A1 = Av C σ ρ) (r : Ret E [] [] H w o h' v H') : Rel C σ H' ρ h' ∧ Stp C σ ρ H σ ρ H' ∧ RepV C σ ρ H' w v := by
  have S : Stp C σ ρ H σ ρ H' := ⟨r.st, fun a u e n1 _ n3 => (r.keep a u e (by rw [eμ]; exact n1) ow_nil n3).mono fun z => by rw [eA]; exact .inl z, r.there, fun a z => .inl z⟩
  have k := S.kp R.mu
  refine ⟨⟨R.len, fun i w q => ?_, fun i b q => ?_, R.dis, by rw [← eμ]; exact r.blen, fun j b q => ?_, R.mu, R.nod, fun a q => ?_, R.noH, by rw [← eT]; exact r.tab⟩, S, ?_⟩
  · obtain ⟨u, e1, r1⟩ := R.val i w q
    exact ⟨u, e1, r1.stp S R.mu (.refl _)⟩
  · obtain ⟨a, e1, e2, e3⟩ := R.own i b q
    refine ⟨a, e1, e2, e3.kp k fun u e => ?_⟩
    obtain ⟨u', e', _, nt⟩ := e3.here
    rw [e] at e'; cases e'
    exact (r.keep a u e (fun z => e2 (R.mu a (by rw [← eμ]; exact z))) ow_nil nt).inA (by rw [eA]; exact .inr ⟨i, b, q, e1⟩)
  · obtain ⟨a, e1, e2⟩ := r.box j b q
    refine ⟨a, by rw [← eμ]; exact e1, ?_⟩
    have e2 := e2.kp (Kp.less (A' := E.A1) fun x z => .inl z) fun o z => z
    rw [eK, eA] at e2
    exact e2
  · obtain ⟨u, e1⟩ := R.trk a q
    cases q1 : H' a with
    | some u1 => exact ⟨u1, rfl⟩
    | none => rw [r.there a q1] at e1; cases e1
  · have rv := r.val
    cases w with
    | d x =>
      cases o with
      | false =>
        have rv : RepD E.K H' E.A1 x v := rv
        rw [eK, eA] at rv
        exact rv
      | true =>
        obtain ⟨a, e1, e2, e3, e4⟩ := rv
        rw [eK, eA] at e4
        rw [eA] at e2
        subst e1
        exact (e4.kp (Kp.less fun y z => .inl z) fun u e => e).frozen e2
    | ref j =>
      cases o with
      | true => exact rv.elim
      | false => obtain ⟨a, e1, e2⟩ := rv; exact ⟨a, by rw [← eμ]; exact e1, e2⟩
    | scr ns =>
      cases o with
      | true => exact rv.elim
      | false => obtain ⟨a, e1, e2⟩ := rv; exact ⟨a, e1, by rw [← eK]; exact e2⟩
    | own i => cases o <;> exact rv.elim
    | clo c cs => cases o <;> exact rv.elim
    | mk c => cases o <;> exact rv.elim
    | kon xs => cases o <;> exact rv.elim
/-- .. whose answer is its own -/
theorem Rel.afterF {b : D} {v : V} (R : Rel C σ H ρ h) (eK : E.K = C.K) (eT : E.T = C.T) (eμ : E.μ = C.μ) (eA : E.A1 = Av C σ ρ) (r : Ret E [] [] H (.d b) true h' v H') :
    ∃ a, v = .ref a ∧ H a = none ∧ Rel (C.inF a) σ H' ρ h' ∧ BoxAt C.K H' (Av (C.inF a) σ ρ) b a ∧ Stp C σ ρ H σ ρ H' := by
  obtain ⟨R1, S, _⟩ := R.after eK eT eμ eA r
  obtain ⟨a, ev, e2, e3, e4⟩ := r.val
  have n : H a = none := e3.resolve_left ow_nil
  rw [eA] at e2
  have avE : Av (C.inF a) σ ρ = fun x => E.A1 x ∨ x = a := by
    funext x
    rw [eA]
    exact propext ⟨fun z => by
      rcases z with (z | z) | z
      · exact .inl (.inl z)
      · exact .inr z
      · exact .inl (.inr z), fun z => by
      rcases z with (z | z) | z
      · exact .inl (.inl z)
      · exact .inr z
      · exact .inl (.inr z)⟩
  have k0 := S.kp R.mu
  have nx : ∀ x u, H x = some u → ¬ Av C σ ρ x → ¬ Av (C.inF a) σ ρ x := fun x u e m z => by
    rcases z with (z | z) | z
    · exact m (.inl z)
    · rw [z, n] at e; cases e
    · exact m (.inr z)
  have k : Kp H (Av C σ ρ) H' (Av (C.inF a) σ ρ) := by
    refine ⟨k0.tup, fun x _ e m => ⟨(k0.lst x _ e m).1, nx x _ e m⟩, fun x _ e m => ⟨(k0.dK x _ e m).1, ?_⟩, fun x _ e m => ⟨(k0.dT x _ e m).1, ?_⟩, k0.frz⟩
    · rcases id e with e2 | ⟨o, e2⟩ <;> exact nx x _ e2 m
    · rcases id e with e2 | ⟨o, e2⟩ <;> exact nx x _ e2 m
  have bxs : BoxAt C.K H' (Av (C.inF a) σ ρ) b a := by rw [avE, ← eK]; exact e4
  refine ⟨a, ev, n, ⟨R.len, fun i w q => ?_, fun i c q => ?_, R.dis, R1.blen, fun j c q => ?_, fun x z => .inl (R.mu x z), R.nod, fun x q => ?_, R.noH, R1.tab⟩, bxs, S⟩
  · obtain ⟨u, e1, r1⟩ := R.val i w q
    exact ⟨u, e1, r1.inF k S.st fun j z => R.noH i j (by rw [← z]; exact q)⟩
  · obtain ⟨x, e1, e2, e3⟩ := R.own i c q
    refine ⟨x, e1, fun z => ?_, e3.kp k fun u e => ?_⟩
    · rcases z with z | z
      · exact e2 z
      · obtain ⟨u, eu, _⟩ := e3.here
        rw [z, n] at eu; cases eu
    · obtain ⟨u', e', _, nt⟩ := e3.here
      rw [e] at e'; cases e'
      exact (r.keep x u e (fun z => e2 (R.mu x (by rw [← eμ]; exact z))) ow_nil nt).inA (by rw [eA]; exact .inr ⟨i, c, q, e1⟩)
  · obtain ⟨x, e1, e2⟩ := r.box j c q
    refine ⟨x, by show C.μ[j]? = _; rw [← eμ]; exact e1, ?_⟩
    rw [eK] at e2
    refine e2.kp (Kp.less fun y z => ?_) fun o z => z
    rw [avE] at z
    rcases z with z | z
    · exact .inl z
    · exact .inr ⟨rfl, by rw [z]; assumption⟩
  · rcases q with q | q
    · exact R1.trk x q
    · rw [q]
      obtain ⟨o, eo, _⟩ := bxs.here
      exact ⟨o, eo⟩
end
end EV

set_option maxRecDepth 100000
set_option maxHeartbeats 4000000
/-! EvZ: a function of the module by its body; calls. -/
namespace EV
open PySem PySem.Spec PyProof.Rows L2

/-- the promise of the function at f: what the evaluator answers -/
structure GFn (Z : Wd) (k : Nat) (f : Addr) (fd : FuncData) (ps : List Str) (fo : List Val → Hh → FO) : Prop where
  plain : Plain fd ps
  len : ∀ ws h w o h', fo ws h = .ok w o h' → ws.length = ps.length
  run : ∀ (A : Around) (outer : List Env) (s : Shared) (H : Hp) (args : Args) (us : List Value) (vs : List V) (E : Ct) (ws : List Val) (h : Hh) (w : Val) (o : Bool) (h' : Hh) (Q : VK), Rm k A → Env0 Z.P Z.w Z.K Z.mg Z.base A outer s H → BindsTo s fd args (ps.zip us) → Vals vs us →
    E.K = Z.K → E.T = Z.T → E.code = Z.code → E.s0 = s.heap → E.H0 = H → (∀ a ∈ frs outer, E.nb a) → E.blk = false → Ent E H ws vs h → fo ws h = .ok w o h' → (∀ v H', Ret E [] [] H w o h' v H' → Q v H') →
    codeAny (model Z.P Z.w) A (.call (.ref f) args) (CR CX0 outer Z.P Z.w H s Q E0) s
/-- the function object at f -/
def FdAt (Z : Wd) (I : Inf) (x : Str) (q : List Str × Fn) (f : Addr) (fd : FuncData) : Prop :=
  ∃ (oc : Value) (od : Option Addr) (params : Arguments) (body : List Stmt) (scope : Scope) (dV kV doc pm : Value) (an : Option Addr) (cdv ct : Value) (osl : Array (Option Value)),
    fd = PySem.W.fnOf x x params body scope dV kV doc pm an cdv ct ∧ Z.K.lookup f = some ⟨oc, od, .func fd, osl⟩ ∧ PySem.W.codeIn Z.K cdv x = true ∧ FnScope I.N q.1 scope ∧ I.sc = scope ∧ mSs I q.2.body body = true ∧
    ∀ l k, I.defs l k ≠ Str.ofString "" → ∃ c P nm, LamX.TabB Z.base Z.mg c P ∧ cdv = .ref c ∧ (P, nm) ∈ Z.T ∧ (∀ p ∈ Z.T, p.1 = P → p.2 = nm) ∧ nm l k = (x ++ ".<locals>.") ++ I.defs l k
/-- what is known of a function of the module -/
structure FnF (Z : Wd) (I : Inf) (x : Str) (q : List Str × Fn) (f : Addr) : Prop where
  fd : ∃ fd, FdAt Z I x q f fd ∧ Plain fd q.1
  mg : Z.mg x = some (.ref f)
  kp : PySem.W.keepIn Z.K (.ref f) = true
  blk : I.blk = false
  n : q.2.n = q.1.length
  m : q.2.m = I.N.length
  fns : I.fns = Z.fns
  free : ∀ x ∈ I.free, Z.mg x = none
  con : ConOk Z.K Z.mg I
  ok : ∀ c name params body scope, I.okN c ⟨name, params, body, scope, [], [], []⟩ = true → ∃ ps fr N, Z.code c ⟨name, params, body, scope, ps, fr, N⟩ ∧ NdefX.ndefB I.sc scope fr = true ∧ (Z.fr c).map (fun j => I.N[j]?) = fr.map some
section
variable {Z : Wd}
theorem retE {E : Ct} {cells : List (Str × Addr)} {mds : Nat → NFd → Prop} {σ : L2.St} {ρ : Ev} {H H' : Hp} {w : Val} {o : Bool} {h' : Hh} {v : V} (now : ∀ a, ¬ Ow σ ρ a) (r : Ret { E with cells := cells, mds := mds } σ ρ H w o h' v H') : Ret E [] [] H w o h' v H' := by
  refine ⟨r.st, fun a u e n1 _ n3 => r.keep a u e n1 (now a) n3, r.there, r.tab, r.blen, r.box, ?_⟩
  have rv := r.val
  cases w with
  | d b =>
    cases o with
    | false => exact rv
    | true =>
      obtain ⟨a, e1, e2, e3, e4⟩ := rv
      exact ⟨a, e1, e2, .inr (e3.resolve_left (now a)), e4⟩
  | ref j => cases o <;> exact rv
  | scr ns => cases o <;> exact rv
  | own i => cases o <;> exact rv
  | clo c cs => cases o <;> exact rv
  | mk c => cases o <;> exact rv
  | kon xs => cases o <;> exact rv
theorem run_body {E : Ct} {cells : List (Str × Addr)} {mds : Nat → NFd → Prop} {σ : L2.St} {ρ : Ev} {H : Hp} {h h' : Hh} {m : MS} {w : Val} {o : Bool} {Q : VK} (now : ∀ a, ¬ Ow σ ρ a) (R : Rel { E with cells := cells, mds := mds } σ H ρ h)
    (e : (match m ρ h with | .rt w o h' => FO.ok w o h' | .nx _ h' => .ok (.d .non) false h' | _ => .bad) = .ok w o h') (q : ∀ v H', Ret E [] [] H w o h' v H' → Q v H') :
    tS { E with cells := cells, mds := mds } m { nx := fun _ H' => Q .non H', rt := Q } σ H := by
  refine ⟨ρ, h, R, ?_⟩
  cases em : m ρ h with
  | rt w1 o1 h1 =>
    rw [em] at e
    injection e with z1 z2 z3
    subst z1; subst z2; subst z3
    exact fun v H' r => q v H' (retE now r)
  | nx ρ1 h1 =>
    rw [em] at e
    injection e with z1 z2 z3
    subst z1; subst z2; subst z3
    exact fun σ' H' R' S' => q .non H' (retE now (Rel.ret (C := { E with cells := cells, mds := mds }) (A' := E.A1) R' S' noOwnA rfl))
  | bk _ _ => rw [em] at e; cases e
  | ct _ _ => rw [em] at e; cases e
  | bad => rw [em] at e; cases e
theorem fn_core {k : Nat} {G : Gv} {I : Inf} {x : Str} {q : List Str × Fn} {f : Addr} {fd : FuncData} (hC : CallOk Z k G) (hG : ∀ x, G.con x = I.con.lookup x) (F : FnF Z I x q f) (hfd : FdAt Z I x q f fd) (A : Around) (outer : List Env) (s : Shared) (H : Hp) (args : Args) (us : List Value) (vs : List V) (E : Ct) (ws : List Val) (h : Hh) (w : Val) (o : Bool) (h' : Hh) (Q : VK) (E' : XK)
    (hr : Rm (k + 1) A) (e0 : Env0 Z.P Z.w Z.K Z.mg Z.base A outer s H) (hb : BindsTo s fd args (q.1.zip us)) (r : Vals vs us) (eK : E.K = Z.K) (eT : E.T = Z.T) (eC : E.code = Z.code) (es : E.s0 = s.heap) (eH : E.H0 = H) (enb : ∀ a ∈ frs outer, E.nb a) (eb : E.blk = false) (n : Ent E H ws vs h)
    (eo : runFn G q.2 ws h = .ok w o h') (hq : ∀ v H', Ret E [] [] H w o h' v H' → Q v H') : codeAny (model Z.P Z.w) A (.call (.ref f) args) (CR CX0 outer Z.P Z.w H s Q E') s := by
  obtain ⟨oc, od, params, body, scope, dV, kV, doc, pm, an, cdv, ct, osl, efd, lk, hcd, S, hsc, hm, htb⟩ := hfd
  subst efd
  unfold runFn at eo
  by_cases hl : ws.length = q.2.n
  · rw [if_pos hl] at eo
    have hlv : vs.length = q.1.length := by rw [n.args.length, hl, F.n]
    have KX : Z.K.In s.heap := e0.mod.kin.keeps fun b o e => (e0.bs b o e).1
    have lim : s.heap.NoLimit := e0.mod.nolimit.keeps fun b o e => (e0.bs b o e).1
    have hkind : ∀ y ∈ q.1.zip us, scope.names.lookup y.1 = some .local ∨ (scope.names.lookup y.1 = some .cell ∧ ((cellsFrom (s.heap.objs.size + 1) scope.names []).lookup y.1).isSome = true) := fun ⟨n, v⟩ hy => by
      rcases S.par n (List.of_mem_zip hy).1 with q | q
      · exact .inl q
      · exact .inr ⟨q, PySem.W.cellsFrom_some _ _ _ (.inl q)⟩
    refine codeAny_call_function hr.toRoom.depth (KX _ _ lk) rfl S.co S.gen rfl (PySem.W.codeRec_of KX hcd) (hb _ _ _ _ ?_)
    refine wpAny_newFunctionEnv_cells S.kind hkind fun env he s1 xx => ?_
    subst he
    refine ⟨lim.keeps xx.toInCall.keep, codeAny_func ?_⟩
    have hlN : q.1.length ≤ I.N.length := by have := congrArg List.length S.pre; rw [List.length_take] at this; omega
    let X : Cx := cxOf CX0 Z.P Z.w Z.K Z.mg Z.base I.N x scope f cdv A outer s H E'
    let mds : Nat → NFd → Prop := fun c n => Z.code c n ∧ NdefX.ndefB I.sc n.scope n.fr = true ∧ (Z.fr c).map (fun j => I.N[j]?) = n.fr.map some
    let C : Ct := { E with cells := X.env.cells, mds := mds }
    have sok : SOk Z k I X C := by
      refine { P := rfl, w := rfl, XK := rfl, mg := rfl, base := rfl, N := rfl, nd := S.nd, sc := hsc.symm, calm := rfl, K := eK, fn := fun _ _ => rfl, fc := fun _ _ => rfl, pas := PassesOwn.leaving, room := hr.deeper _, free := F.free, con := F.con, fns := F.fns, T := eT, cd := eC, lnk := fun _ => ⟨es, eH, fun a ha => enb a ha, rfl, rfl, fun c n hn => ⟨fun _ => rfl, by rw [show X.env.scope = I.sc from hsc.symm]; exact hn.2.1, hn.2.2⟩⟩, kd := S.kind, bk := fun _ => eb, tb := fun _ l k' hd => ?_, code := fun c name params body scope hk => ?_ }
      · obtain ⟨c, P, nm, t1, t2, t3, t4, t5⟩ := htb l k' hd
        exact ⟨c, P, nm, t1, t2, by rw [show C.T = Z.T from eT]; exact t3, by rw [show C.T = Z.T from eT]; exact t4, t5⟩
      · obtain ⟨ps, fr, N, c1, c2, c3⟩ := F.ok c name params body scope hk
        exact ⟨ps, fr, N, by rw [show C.code = Z.code from eC]; exact c1, c1, c2, c3⟩
    have ht : PSs X body (tS C (denSs G q.2.body)) := sSs hC q.2.body I X C sok hG body hm
    have hrn : ∀ x ∈ List.replicate (q.2.m - q.2.n) Sl.no, x = Sl.no ∨ ∃ d, x = .val (.d d) := fun x hx => .inl (List.eq_of_mem_replicate hx)
    have R0 : Rel C (vs.map some ++ List.replicate (I.N.length - vs.length) none) H (rho0 ws (List.replicate (q.2.m - q.2.n) Sl.no)) h := by
      refine n.begin hrn (by rw [List.length_replicate, List.length_replicate, F.m, F.n, hlv]) fun i d e => ?_
      rw [List.getElem?_replicate] at e
      split at e <;> cases e
    have now : ∀ a, ¬ Ow (start I.N vs) (rho0 ws (List.replicate (q.2.m - q.2.n) Sl.no)) a := fun a ⟨i, b, e, _⟩ => by
      rcases rho0_val hrn e with ⟨w, _, z⟩ | ⟨_, _, z | ⟨d, z⟩⟩ <;> cases z
    have hq2 : tS C (denSs G q.2.body) { nx := fun _ H' => Q .non H', rt := Q } (start I.N vs) H := run_body now R0 eo hq
    have I0 : Inv X [] (start I.N vs) H s1 := inv_start S hr.toRoom.hd e0 hlv r xx
    refine wpAny_mono (ht.run [] s1 (start I.N vs) H _ I0 hq2) (fun fl s' hs => ?_) fun e s' hs => hs
    have fin : ∀ {σ' : L2.St} {H' : Hp} {v : V} {u : Value}, Inv X [] σ' H' s' → RelV v u → Q v H' → CE outer Z.P Z.w H s Q u s' :=
      fun {σ' H' v u} J rv q => ⟨v, H', J.os, J.bare, J.base, J.hok, rv, q⟩
    cases fl with
    | ret u =>
      obtain ⟨v, σ', H', J, rv, q⟩ := hs
      exact fin J rv q
    | next =>
      obtain ⟨σ', H', J, q⟩ := hs
      exact fin (v := V.non) (u := Value.none) J rfl q
    | brk =>
      obtain ⟨_, _, _, q⟩ := hs
      exact False.elim q
    | cont =>
      obtain ⟨_, _, _, q⟩ := hs
      exact False.elim q
  · rw [if_neg hl] at eo; cases eo
theorem gfn_of {k : Nat} {G : Gv} {I : Inf} {x : Str} {q : List Str × Fn} {f : Addr} (hC : CallOk Z k G) (hG : ∀ x, G.con x = I.con.lookup x) (F : FnF Z I x q f) : ∃ fd, GFn Z (k + 1) f fd q.1 (runFn G q.2) := by
  obtain ⟨fd, hfd, hb⟩ := F.fd
  refine ⟨fd, hb, fun ws h w o h' eo => ?_, fun A outer s H args us vs E ws h w o h' Q hr e0 hbd r eK eT eC es eH enb eb n eo hq => ?_⟩
  · unfold runFn at eo
    by_cases hl : ws.length = q.2.n
    · rw [hl, F.n]
    · rw [if_neg hl] at eo; cases eo
  · exact fn_core hC hG F hfd A outer s H args us vs E ws h w o h' Q E0 hr e0 hbd r eK eT eC es eH enb eb n eo hq
end
end EV

set_option maxRecDepth 100000
set_option maxHeartbeats 4000000
/-! EvZ2: what is handed to a call; calls of the module's functions. -/
namespace EV
open PySem PySem.Spec PyProof.Rows L2

section
variable {Z : Wd} {lv : Nat} {G : Gv} {I : Inf} {X : Cx} {C : Ct} {σ : L2.St} {H : Hp} {ρ : Ev} {h : Hh} {pins : List (Addr × Obj)} {s : Shared}
/-- the entry's context, at a call from here -/
def entC (C : Ct) (X : Cx) (s : Shared) (H : Hp) (A : Addr → Prop) (μ : List Addr) : Ct := { C with A1 := A, μ := μ, s0 := s.heap, H0 := H, nb := fun a => a ∈ frs X.stack, blk := false, cells := [], mds := fun _ _ => False }
theorem stk_mem (I0 : Inv X pins σ H s) {a : Addr} (h : a ∈ frs X.stack) : a ∈ X.fs ∨ a = X.env.locals := by
  rcases I0.ok.stk with e | ⟨e, f⟩
  · rw [e] at h; exact .inl h
  · rw [e] at h
    unfold frs at h
    rw [List.filterMap_cons, f] at h
    rcases List.mem_cons.mp h with z | z
    · exact .inr z
    · exact .inl z
theorem caps_ok {A : Addr → Prop} (R : Rel C σ H ρ h) (hA : ∀ x, A x → Av C σ ρ x) : ∀ {js : List Nat} {cs : List (Option D)}, capsAt ρ js = some cs → capsOk C.K H A cs (js.map (NdefX.slotAt σ))
  | [], cs, e => by cases (Option.some.inj e); rfl
  | j :: js, cs, e => by
    have e : (match capAt ρ j, capsAt ρ js with
      | some c, some cs => some (c :: cs)
      | _, _ => none) = some cs := e
    cases h1 : capAt ρ j with
    | none => rw [h1] at e; cases e
    | some c =>
      cases h2 : capsAt ρ js with
      | none => rw [h1, h2] at e; cases e
      | some r =>
        rw [h1, h2] at e
        cases (Option.some.inj e)
        have ih := caps_ok R hA h2
        unfold capAt at h1
        split at h1
        · rename_i x hx
          cases (Option.some.inj h1)
          obtain ⟨v, ev, rv⟩ := R.val j _ hx
          refine ⟨v, _, ?_, RepD.less rv hA, ih⟩
          rw [List.map_cons, NdefX.slotAt_of ev]
        · cases (Option.some.inj h1)
          exact ⟨_, _, rfl, ih⟩
        · cases h1
theorem hand_ok {A : Addr → Prop} {μ : List Addr} (o : XOk Z lv I X C) (hfr : G.fr = Z.fr) (I0 : Inv X pins σ H s) (R : Rel C σ H ρ h) (hA : ∀ x, A x → Av C σ ρ x) (hμ : ∀ (j : Nat) (a : Addr), C.μ[j]? = some a → μ[j]? = some a) {x y : Val} {v : V} (r : RepV C σ ρ H x v) (e : hand G ρ x = some y) :
    RepV (entC C X s H A μ) [] [] H y v ∧ (∀ i, y ≠ .own i) ∧ ∀ c, y ≠ .mk c := by
  have av : Av (entC C X s H A μ) [] [] = A := av_nil
  cases x with
  | d a =>
    cases (Option.some.inj e)
    refine ⟨?_, (fun i z => by cases z), (fun c z => by cases z)⟩
    show RepD _ _ _ _ _
    rw [av]
    exact RepD.less r hA
  | ref j =>
    cases (Option.some.inj e)
    obtain ⟨a, e1, e2⟩ := r
    exact ⟨⟨a, hμ j a e1, e2⟩, (fun i z => by cases z), (fun c z => by cases z)⟩
  | own i => cases e
  | scr ns => cases (Option.some.inj e); exact ⟨r, (fun i z => by cases z), (fun c z => by cases z)⟩
  | kon xs =>
    cases (Option.some.inj e)
    obtain ⟨a, us, h1, h2, h3⟩ := r
    exact ⟨⟨a, us, h1, h2, by rw [av]; exact h3.kp (Kp.less hA)⟩, (fun i z => by cases z), (fun c z => by cases z)⟩
  | clo c cs =>
    cases (Option.some.inj e)
    obtain ⟨b0, n, f, F, ws, h1, h2, h3, h4, h5, h6, h7, h8⟩ := r
    obtain ⟨l1, l2, l3, l4, _⟩ := o.lnk b0
    rw [l1, l2] at h6
    refine ⟨⟨rfl, n, f, F, ws, h1, h2, h3, h4, h5, NdefX.CellsAt.later h6 (fun y a e z => h7 y a e (l3 a z)) (fun y a e z => by rw [l4] at z; cases z) I0, fun y a e z => ?_, by rw [av]; exact h8.kp (Kp.less hA)⟩, (fun i z => by cases z), (fun c z => by cases z)⟩
    rcases stk_mem I0 z with z | z
    · exact h7 y a e (l3 a z)
    · obtain ⟨_, v', o', ho, _⟩ := h6.all y a e
      have := Heap.lt_size ho
      have ab := I0.ok.above
      rw [z] at this
      exact absurd (Nat.lt_of_lt_of_le this ab) (Nat.lt_irrefl _)
  | mk c =>
    have e : (capsAt ρ (G.fr c)).map (Val.clo c) = some y := e
    cases hc : capsAt ρ (G.fr c) with
    | none => rw [hc] at e; cases e
    | some cs =>
      rw [hc] at e
      cases (Option.some.inj e)
      obtain ⟨b0, n, f, F, h1, h2, h3, h4, h5, h6, h7⟩ := r
      obtain ⟨l1, l2, l3, l4, l5, l7⟩ := o.lnk b0
      obtain ⟨l6, m1, m2⟩ := l7 c n h7
      have cp : NdefX.Caps X (cloFrom X.env.cells n.scope.names []) n.fr (Z.fr c) := NdefX.Caps.made I0.ok (NdefX.ndef_free m1) (NdefX.ndef_fr m1) m2
      rw [l5] at h6
      rw [← h6] at cp
      have ca := NdefX.cells_of I0 cp
      refine ⟨⟨rfl, n, f, F, _, h1, h2, h3, h4, h5, ca, fun y a e z => ?_, by rw [av, ← hfr]; exact caps_ok R hA hc⟩, (fun i z => by cases z), (fun c z => by cases z)⟩
      have ec := cp.sub y a e
      rcases stk_mem I0 z with z | z
      · obtain ⟨_, o', ho, _⟩ := I0.ok.funs.mem z
        have := Heap.lt_size ho
        have cb := I0.ok.cab y a (l6 y) ec
        exact absurd (Nat.lt_of_lt_of_le this cb) (Nat.lt_irrefl _)
      · exact I0.cne y a ec z
theorem hands_ok {A : Addr → Prop} {μ : List Addr} (o : XOk Z lv I X C) (hfr : G.fr = Z.fr) (I0 : Inv X pins σ H s) (R : Rel C σ H ρ h) (hA : ∀ x, A x → Av C σ ρ x) (hμ : ∀ (j : Nat) (a : Addr), C.μ[j]? = some a → μ[j]? = some a) : ∀ {xs ys : List Val} {vs : List V}, RepVs C σ ρ H xs vs → hands G ρ xs = some ys →
    RepVs (entC C X s H A μ) [] [] H ys vs ∧ (∀ i, Val.own i ∉ ys) ∧ ∀ c, Val.mk c ∉ ys
  | [], ys, vs, r, e => by cases (Option.some.inj e); exact ⟨r, (fun i z => by cases z), (fun c z => by cases z)⟩
  | x :: xs, ys, vs, r, e => by
    obtain ⟨v, t, e1, r1, r2⟩ := r
    have e : (match hand G ρ x, hands G ρ xs with
      | some y, some ys => some (y :: ys)
      | _, _ => none) = some ys := e
    cases h1 : hand G ρ x with
    | none => rw [h1] at e; cases e
    | some y =>
      cases h2 : hands G ρ xs with
      | none => rw [h1, h2] at e; cases e
      | some zs =>
        rw [h1, h2] at e
        cases (Option.some.inj e)
        obtain ⟨a1, a2, a3⟩ := hand_ok (A := A) (μ := μ) o hfr I0 R hA hμ r1 h1
        obtain ⟨b1, b2, b3⟩ := hands_ok (A := A) (μ := μ) o hfr I0 R hA hμ r2 h2
        refine ⟨⟨v, t, e1, a1, b1⟩, fun i z => ?_, fun c z => ?_⟩
        · rcases List.mem_cons.mp z with z | z
          · exact a2 i z.symm
          · exact b2 i z
        · rcases List.mem_cons.mp z with z | z
          · exact a3 c z.symm
          · exact b3 c z
theorem ent_ok (o : XOk Z lv I X C) (hfr : G.fr = Z.fr) (I0 : Inv X pins σ H s) (R : Rel C σ H ρ h) {xs ys : List Val} {vs : List V} (r : RepVs C σ ρ H xs vs) (e : hands G ρ xs = some ys) : Ent (entC C X s H (Av C σ ρ) C.μ) H ys vs h := by
  obtain ⟨a1, a2, a3⟩ := hands_ok (A := Av C σ ρ) (μ := C.μ) o hfr I0 R (fun x z => z) (fun _ _ z => z) r e
  refine ⟨a1, a2, a3, R.blen, R.box, fun a z => .inl (R.mu a z), R.nod, fun a z => ?_, R.tab⟩
  rcases z with z | ⟨i, b, e1, e2⟩
  · exact R.trk a z
  · obtain ⟨a', y1, _, y3⟩ := R.own i b e1
    rw [e2] at y1; cases y1
    obtain ⟨u, hu, _⟩ := y3.here
    exact ⟨u, hu⟩
theorem run_gfn {k : Nat} {f : Addr} {fd : FuncData} {ps : List Str} {fo : List Val → Hh → FO} {us us' : List Value} {kw : List (Str × Value)} {vs : List V} {E : Ct} {ws : List Val} {w : Val} {ow : Bool} {h' : Hh} {Q : VK} (o : XOk Z lv I X C) (Fn : GFn Z k f fd ps fo) (hr : Rm k X.A) (I0 : Inv X pins σ H s) (hbd : us.length = ps.length → BindsTo s fd ⟨us', kw⟩ (ps.zip us)) (r : Vals vs us)
    (eK : E.K = Z.K) (eT : E.T = Z.T) (eC : E.code = Z.code) (es : E.s0 = s.heap) (eH : E.H0 = H) (enb : ∀ a ∈ frs X.stack, E.nb a) (eb : E.blk = false) (n : Ent E H ws vs h) (eo : fo ws h = .ok w ow h') (q : ∀ v H', Ret E [] [] H w ow h' v H' → Q v H') :
    wpAny (model X.prog X.w) X.A (call (.ref f) us' kw) (EP X pins σ Q) X.xe s := by
  have e0 : Env0 Z.P Z.w Z.K Z.mg Z.base X.A X.stack s H := by
    have := I0.env0
    rw [o.P, o.w, o.XK, o.mg, o.base] at this
    exact this
  have hl : us.length = ps.length := by rw [← r.length, n.args.length]; exact Fn.len _ _ _ _ _ eo
  refine wpAny_call (codeAny_mono (by rw [o.P, o.w]; exact Fn.run X.A X.stack s H ⟨us', kw⟩ us vs E ws h w ow h' Q hr e0 (hbd hl) r eK eT eC es eH enb eb n eo q) fun r s' hq => ?_)
  cases r with
  | error e => exact False.elim hq
  | ok fl =>
    cases fl with
    | ret u => exact I0.after (by rw [o.P, o.w]; exact hq)
    | next => exact False.elim hq
    | brk => exact False.elim hq
    | cont => exact False.elim hq
/-- any call of a function of the module: the function, the arguments, the call -/
theorem pe_fn {f : Addr} {x : Str} {es : List Expr} {p pos : Pos} {t : TA} {te : TE} (o : XOk Z lv I X C) (hg : glB I.sc x = true) (hm : Z.mg x = some (.ref f)) (hk : PySem.W.keepIn Z.K (.ref f) = true) (hd : noDunder x = true) (hs : es.all notStar = true) (ha : PA X es t)
    (hrun : ∀ (pins : List (Addr × Obj)) (s : Shared) (σ : L2.St) (H : Hp) (Q : VK), Inv X pins σ H s → te σ H Q → t σ H fun vs H1 => ∀ (s1 : Shared) (us : List Value), Inv X pins σ H1 s1 → Vals vs us → wpAny (model X.prog X.w) X.A (call (.ref f) us) (EP X pins σ Q) X.xe s1) :
    PE X (.Call (.Name x p) es [] pos) te := by
  refine ⟨fun pins s σ H Q I0 h => ?_⟩
  refine wpAny_Call_Name_kw (ld_glob I0 (o.gl hg) (by rw [o.mg]; exact hm) ?_ (noDunder_ok hd).1)
  have hk' : PySem.W.keepIn X.K (.ref f) = true := by rw [o.XK]; exact hk
  cases es with
  | nil =>
    have q := ha.run pos pins s σ H _ I0 (hrun pins s σ H Q I0 h)
    refine fun Γ p hΓ => ?_
    have q2 : AP X pins σ (fun vs H1 => ∀ (s1 : Shared) (us : List Value), Inv X pins σ H1 s1 → Vals vs us → wpAny (model X.prog X.w) X.A (call (.ref f) us) (EP X pins σ Q) X.xe s1) [] s := q Γ p hΓ
    obtain ⟨vs, H1, I1, r1, q3⟩ := q2
    exact (PySem.W.callWith_K0 I0.kIn hk' (q3 s [] I1 r1)) Γ p hΓ
  | cons e es =>
    rw [List.all_cons, Bool.and_eq_true] at hs
    exact PySem.W.callWith_K (h₀ := X.base) I0.ok.mod.kin hk' (thn (ha.run pos pins s σ H _ I0 (hrun pins s σ H Q I0 h)) fun us s1 ⟨vs, H1, I1, r, q⟩ => ⟨I1.kIn, q s1 us I1 r⟩) (star_cons hs.1) (star_none hs.2)
end
end EV

set_option maxRecDepth 100000
set_option maxHeartbeats 4000000
/-! EvZ3: calls of the module's functions, as readings. -/
namespace EV
open PySem PySem.Spec PyProof.Rows L2

section
variable {Z : Wd} {lv : Nat} {G : Gv} {I : Inf} {X : Cx} {C : Ct} {σ : L2.St} {H : Hp} {ρ : Ev} {h : Hh} {pos : Pos}
theorem callM0_ok {f : Nat} {xs : List Val} {w : Val} {ρ' : Ev} {h' : Hh} (e : callM0 G f xs ρ h = .ok w ρ' h') : ∃ ys ow, hands G ρ xs = some ys ∧ G.call f ys h = .ok w ow h' ∧ h'.length = h.length ∧ ρ' = ρ := by
  unfold callM0 at e
  cases hh : hands G ρ xs with
  | none => rw [hh] at e; cases e
  | some ys =>
    rw [hh] at e
    have e : backM (G.call f ys h) ρ h = .ok w ρ' h' := e
    unfold backM at e
    cases hc : G.call f ys h with
    | bad => rw [hc] at e; cases e
    | ok w1 ow h1 =>
      rw [hc] at e
      simp only at e
      split at e
      · rename_i hl
        injection e with z1 z2 z3
        subst z1; subst z2; subst z3
        exact ⟨ys, ow, rfl, hc, hl, rfl⟩
      · cases e
theorem lendM_ok {f : Nat} {xs : List Val} {w : Val} {ρ' : Ev} {h' : Hh} (e : lendM G f xs ρ h = .ok w ρ' h') : ∃ x i y b d ow h1 b', xs = [x, .own i] ∧ hand G ρ x = some y ∧ ρ[i]? = some (.own b) ∧ w = .d d ∧ G.call f [y, .ref h.length] (h ++ [b]) = .ok (.d d) ow h1 ∧ h1[h.length]? = some b' ∧ h1.length = h.length + 1 ∧ ρ' = ρ.set i (.own b') ∧ h' = h1.take h.length := by
  unfold lendM at e
  split at e
  · rename_i x i
    split at e
    · rename_i y b hy hb
      split at e
      · rename_i d ow h1 hc
        split at e
        · rename_i b' hb'
          split at e
          · rename_i hl
            injection e with z1 z2 z3
            subst z1; subst z2; subst z3
            exact ⟨x, i, y, b, d, ow, h1, b', rfl, hy, hb, rfl, hc, hb', hl, rfl, rfl⟩
          · cases e
        · cases e
      · cases e
    · cases e
  · cases e
theorem callM_or {f : Nat} {xs : List Val} {w : Val} {ρ' : Ev} {h' : Hh} (e : callM G f xs ρ h = .ok w ρ' h') : (∃ ys ow, hands G ρ xs = some ys ∧ G.call f ys h = .ok w ow h' ∧ h'.length = h.length ∧ ρ' = ρ) ∨ lendM G f xs ρ h = .ok w ρ' h' := by
  cases hh : hands G ρ xs with
  | none =>
    unfold callM at e
    rw [hh] at e
    exact .inr e
  | some ys =>
    have e0 : callM0 G f xs ρ h = .ok w ρ' h' := by
      unfold callM at e
      unfold callM0
      rw [hh] at e ⊢
      exact e
    obtain ⟨ys', ow, e1, r⟩ := callM0_ok e0
    rw [hh] at e1
    cases (Option.some.inj e1)
    exact .inl ⟨ys, ow, rfl, r⟩
theorem callM_call {f : Nat} {xs : List Val} {w : Val} {ρ' : Ev} {h' : Hh} (e : callM G f xs ρ h = .ok w ρ' h') : ∃ ys h0 w1 ow h1, G.call f ys h0 = .ok w1 ow h1 := by
  rcases callM_or e with ⟨ys, ow, _, e1, _⟩ | e
  · exact ⟨_, _, _, _, _, e1⟩
  · obtain ⟨x, i, y, b, d, ow, h1, b', _, _, _, _, e1, _⟩ := lendM_ok e
    exact ⟨_, _, _, _, _, e1⟩
/-- behind a call to which one's own object was lent -/
theorem _root_.EV.Rel.lend {i : Nat} {b b' : D} {a : Addr} {E : Ct} {d : D} {ow : Bool} {v : V} {h2 : Hh} {H' : Hp} (R : Rel C σ H ρ h) (ei : ρ[i]? = some (.own b)) (es : σ[i]? = some (some (.ref a))) (eK : E.K = C.K) (eT : E.T = C.T) (eμ : E.μ = C.μ ++ [a]) (eA : E.A1 = Av C σ ρ)
    (r : Ret E [] [] H (.d d) ow h2 v H') (el : h2.length = h.length + 1) (eb : h2[h.length]? = some b') : Rel C σ H' (ρ.set i (.own b')) (h2.take h.length) ∧ Stp C σ ρ H σ (ρ.set i (.own b')) H' ∧ RepV C σ (ρ.set i (.own b')) H' (.d d) v := by
  have P : Shp ρ (ρ.set i (.own b')) := set_own_shp ei
  have av : Av C σ (ρ.set i (.own b')) = Av C σ ρ := P.av
  have hi : i < ρ.length := (List.getElem?_eq_some_iff.mp ei).1
  have nE : ∀ y, y ∉ C.μ → y ≠ a → y ∉ E.μ := fun y n1 n2 z => by
    rw [eμ] at z
    rcases List.mem_append.mp z with z | z
    · exact n1 z
    · exact n2 (List.mem_singleton.mp z)
  have S : Stp C σ ρ H σ (ρ.set i (.own b')) H' := ⟨r.st, fun y u e n1 n2 n3 => (r.keep y u e (nE y n1 fun z => n2 (z ▸ ⟨i, b, ei, es⟩)) ow_nil n3).mono fun z => by rw [eA]; exact .inl z, r.there, fun y z => .inl (P.ow.mp z)⟩
  have k := S.kp R.mu
  have bx : ∀ {c : D} {y : Addr}, BoxAt E.K H' (fun x => E.A1 x ∨ (ow = true ∧ v = .ref x)) c y → BoxAt C.K H' (Av C σ (ρ.set i (.own b'))) c y := fun {c y} e2 => by
    have e2 := e2.kp (Kp.less (A' := E.A1) fun x z => .inl z) fun o z => z
    rw [eK, eA] at e2
    rw [av]; exact e2
  have bl := R.blen
  refine ⟨⟨by rw [List.length_set]; exact R.len, fun j w q => ?_, fun j c q => ?_, fun j j' c c' y q1 q2 s1 s2 => ?_, ?_, fun j c q => ?_, R.mu, R.nod, fun y q => ?_, fun j j' q => ?_, by rw [← eT]; exact r.tab⟩, S, ?_⟩
  · have hj : j ≠ i := fun z => by rw [z, List.getElem?_set_self hi] at q; cases q
    rw [List.getElem?_set_ne (Ne.symm hj)] at q
    obtain ⟨u, e1, r1⟩ := R.val j w q
    exact ⟨u, e1, r1.stp S R.mu P⟩
  · by_cases hj : j = i
    · subst hj
      rw [List.getElem?_set_self hi] at q
      cases q
      obtain ⟨y, y1, y2, _⟩ := R.own j b ei
      rw [es] at y1; cases y1
      obtain ⟨y, z1, z2⟩ := r.box h.length b' eb
      rw [eμ, bl, List.getElem?_append_right (Nat.le_refl _), Nat.sub_self] at z1
      cases z1
      exact ⟨a, es, y2, bx z2⟩
    · rw [List.getElem?_set_ne (Ne.symm hj)] at q
      obtain ⟨y, y1, y2, y3⟩ := R.own j c q
      refine ⟨y, y1, y2, y3.kp k fun u e => ?_⟩
      obtain ⟨u', e', _, nt⟩ := y3.here
      rw [e] at e'; cases e'
      exact (r.keep y u e (nE y (fun z => y2 (R.mu y z)) fun z => hj (R.dis j i c b a q ei (z ▸ y1) es)) ow_nil nt).inA (by rw [eA]; exact .inr ⟨j, c, q, y1⟩)
  · obtain ⟨_, p1⟩ := P.own' q1
    obtain ⟨_, p2⟩ := P.own' q2
    exact R.dis j j' _ _ y p1 p2 s1 s2
  · rw [List.length_take, el, bl]; omega
  · rw [List.getElem?_take] at q
    split at q
    · rename_i hj
      obtain ⟨y, y1, y2⟩ := r.box j c q
      rw [eμ, List.getElem?_append_left (by rw [← bl]; exact hj)] at y1
      exact ⟨y, y1, bx y2⟩
    · cases q
  · obtain ⟨u, u1⟩ := R.trk y q
    cases q1 : H' y with
    | some u1 => exact ⟨u1, rfl⟩
    | none => rw [r.there y q1] at u1; cases u1
  · have hj : j ≠ i := fun z => by rw [z, List.getElem?_set_self hi] at q; cases q
    rw [List.getElem?_set_ne (Ne.symm hj)] at q
    exact R.noH j j' q
  · show RepD C.K H' (Av C σ (ρ.set i (.own b'))) d v
    rw [av]
    have rv := r.val
    cases ow with
    | false =>
      have rv : RepD E.K H' E.A1 d v := rv
      rw [eK, eA] at rv
      exact rv
    | true =>
      obtain ⟨y, e1, e2, e3, e4⟩ := rv
      rw [eK, eA] at e4
      rw [eA] at e2
      subst e1
      exact (e4.kp (Kp.less fun y z => .inl z) fun u e => e).frozen e2
theorem callO_ok {f : Nat} {xs : List Val} {w : Val} {ρ' : Ev} {h' : Hh} (e : callO G f xs ρ h = .ok w ρ' h') : ∃ ys b, hands G ρ xs = some ys ∧ w = .d b ∧ G.call f ys h = .ok (.d b) true h' ∧ h'.length = h.length ∧ ρ' = ρ := by
  unfold callO at e
  cases hh : hands G ρ xs with
  | none => rw [hh] at e; cases e
  | some ys =>
    rw [hh] at e
    have e : backO (G.call f ys h) ρ h = .ok w ρ' h' := e
    unfold backO at e
    split at e
    · rename_i b h1 hc
      split at e
      · rename_i hl
        injection e with z1 z2 z3
        subst z1; subst z2; subst z3
        exact ⟨ys, b, rfl, rfl, hc, hl, rfl⟩
      · cases e
    · cases e
theorem c_call {f : Addr} {fi : Nat} {fo : List Val → Hh → FO} {fd : FuncData} {ps : List Str} {x : Str} {es : List Expr} {p : Pos} {m : M (List Val)} (o : XOk Z lv I X C) (Fn : GFn Z lv f fd ps fo) (hfo : ∀ ys h, G.call fi ys h = fo ys h) (hfr : G.fr = Z.fr) (hg : glB I.sc x = true) (hm : Z.mg x = some (.ref f)) (hk : PySem.W.keepIn Z.K (.ref f) = true)
    (hd : noDunder x = true) (hs : es.all notStar = true) (ha : PA X es (tA C m)) : PE X (.Call (.Name x p) es [] pos) (tE C (m.bind fun xs => callM G fi xs)) :=
  pe_fn o hg hm hk hd hs ha fun pins s σ H Q I0 q => by
    obtain ⟨ρ, h, R, w, ρ', h', e, k⟩ := q
    obtain ⟨xs, ρ1, h1, e1, e2⟩ := M.bind_ok e
    refine ⟨ρ, h, R, xs, ρ1, h1, e1, fun vs H1 R1 r1 S1 P1 s1 us I1 rv => ?_⟩
    have hK : C.K = Z.K := o.K.trans o.XK
    rcases callM_or e2 with ⟨ys, ow, e3, e4, e5, e6⟩ | e2
    · subst e6
      rw [hfo] at e4
      refine run_gfn o Fn o.room I1 (fun hl => .of_eq (Fn.plain.pos hl)) rv (E := entC C X s1 H1 (Av C σ ρ') C.μ) hK o.T o.cd rfl rfl (fun a z => z) rfl (ent_ok o hfr I1 R1 r1 e3) e4 fun v H2 ret => ?_
      obtain ⟨R2, S2, r2⟩ := R1.after (E := entC C X s1 H1 (Av C σ ρ') C.μ) rfl rfl rfl rfl ret
      exact k v H2 R2 r2 (S1.trans S2) P1
    · obtain ⟨x, i, y, b, d, ow, h2, b', ex, ey, ei, ew, ec, eb, el, er, eh⟩ := lendM_ok e2
      subst ex; subst ew; subst er; subst eh
      obtain ⟨v1, t1, ev, rv1, r2⟩ := r1
      subst ev
      obtain ⟨v2, t2, ev, rv2, r3⟩ := r2
      subst ev
      cases (show t2 = [] from r3)
      obtain ⟨a, b0, ei0, es, ev⟩ := rv2
      subst ev
      rw [hfo] at ec
      obtain ⟨a', ea', naA, bx⟩ := R1.own i b ei
      rw [es] at ea'; cases ea'
      have naM : a ∉ C.μ := fun z => naA (R1.mu a z)
      have bl : h1.length = C.μ.length := R1.blen
      obtain ⟨p1, p2, p3⟩ := hand_ok (A := Av C σ ρ1) (μ := C.μ ++ [a]) o hfr I1 R1 (fun x z => z) (fun j y z => by
        rw [List.getElem?_append_left (List.getElem?_eq_some_iff.mp z).1]; exact z) rv1 ey
      let E : Ct := entC C X s1 H1 (Av C σ ρ1) (C.μ ++ [a])
      have ent : Ent E H1 [y, .ref h1.length] [v1, .ref a] (h1 ++ [b]) := by
        refine ⟨⟨v1, [.ref a], rfl, p1, .ref a, [], rfl, ⟨a, ?_, rfl⟩, rfl⟩, (fun i z => ?_), (fun c z => ?_), ?_, fun j c q => ?_, fun y z => ?_, ?_, fun y z => ?_, R1.tab⟩
        · show (C.μ ++ [a])[h1.length]? = some a
          rw [bl, List.getElem?_append_right (Nat.le_refl _), Nat.sub_self]; rfl
        · rcases List.mem_cons.mp z with z | z
          · exact p2 i z.symm
          · simp at z
        · rcases List.mem_cons.mp z with z | z
          · exact p3 c z.symm
          · simp at z
        · show (h1 ++ [b]).length = (C.μ ++ [a]).length
          rw [List.length_append, List.length_append, bl]; rfl
        · by_cases hj : j < h1.length
          · rw [List.getElem?_append_left hj] at q
            obtain ⟨y, y1, y2⟩ := R1.box j c q
            refine ⟨y, ?_, y2⟩
            show (C.μ ++ [a])[j]? = some y
            rw [List.getElem?_append_left (by rw [← bl]; exact hj)]; exact y1
          · rw [List.getElem?_append_right (by omega)] at q
            cases hz : j - h1.length with
            | zero =>
              rw [hz] at q
              cases (Option.some.inj q)
              refine ⟨a, ?_, bx⟩
              show (C.μ ++ [a])[j]? = some a
              rw [List.getElem?_append_right (by omega), ← bl, hz]; rfl
            | succ k => rw [hz] at q; cases q
        · rcases List.mem_append.mp z with z | z
          · exact .inl (R1.mu y z)
          · rw [List.mem_singleton.mp z]; exact .inr ⟨i, b, ei, es⟩
        · exact List.nodup_append.mpr ⟨R1.nod, (by simp), fun y hy z hz e => naM (by rw [List.mem_singleton.mp hz] at e; rw [← e]; exact hy)⟩
        · rcases z with z | ⟨i, c, q1, q2⟩
          · exact R1.trk y z
          · obtain ⟨y', y1, _, y3⟩ := R1.own i c q1
            rw [q2] at y1; cases y1
            obtain ⟨u, hu, _⟩ := y3.here
            exact ⟨u, hu⟩
      refine run_gfn o Fn o.room I1 (fun hl => .of_eq (Fn.plain.pos hl)) rv (E := E) hK o.T o.cd rfl rfl (fun a z => z) rfl ent ec fun v H2 ret => ?_
      obtain ⟨R2, S2, r2⟩ := R1.lend (E := E) ei es rfl rfl rfl rfl ret el eb
      exact k v H2 R2 r2 (S1.trans S2) (P1.trans (set_own_shp ei))
theorem c_fresh {f : Addr} {fi : Nat} {fo : List Val → Hh → FO} {fd : FuncData} {ps : List Str} {x : Str} {es : List Expr} {p : Pos} {m : M (List Val)} (o : XOk Z lv I X C) (Fn : GFn Z lv f fd ps fo) (hfo : ∀ ys h, G.call fi ys h = fo ys h) (hfr : G.fr = Z.fr) (hg : glB I.sc x = true) (hm : Z.mg x = some (.ref f)) (hk : PySem.W.keepIn Z.K (.ref f) = true)
    (hd : noDunder x = true) (hs : es.all notStar = true) (ha : PA X es (tA C m)) : PE X (.Call (.Name x p) es [] pos) (tFr C (m.bind fun xs => callO G fi xs)) :=
  pe_fn o hg hm hk hd hs ha fun pins s σ H Q I0 q => by
    obtain ⟨ρ, h, b, ρ', h', R, e, k⟩ := q
    obtain ⟨xs, ρ1, h1, e1, e2⟩ := M.bind_ok e
    refine ⟨ρ, h, R, xs, ρ1, h1, e1, fun vs H1 R1 r1 S1 P1 s1 us I1 rv => ?_⟩
    obtain ⟨ys, b', e3, eb, e4, e5, e6⟩ := callO_ok e2
    injection eb with eb
    subst eb; subst e6
    rw [hfo] at e4
    have hK : C.K = Z.K := o.K.trans o.XK
    refine run_gfn o Fn o.room I1 (fun hl => .of_eq (Fn.plain.pos hl)) rv (E := entC C X s1 H1 (Av C σ ρ') C.μ) hK o.T o.cd rfl rfl (fun a z => z) rfl (ent_ok o hfr I1 R1 r1 e3) e4 fun v H2 ret => ?_
    obtain ⟨a, ev, n, R2, bx, S2⟩ := R1.afterF (E := entC C X s1 H1 (Av C σ ρ') C.μ) rfl rfl rfl rfl ret
    subst ev
    exact k a H2 (S1.there a n) R2 bx (S1.trans S2) P1
theorem callbM_ok {f : Nat} {x : Val} {w : Val} {ρ' : Ev} {h' : Hh} (e : callbM G f x ρ h = .ok w ρ' h') : ∃ b d ow h1, x = .d b ∧ w = .d d ∧ G.call f [.ref h.length] (h ++ [b]) = .ok (.d d) ow h1 ∧ h1.length = h.length + 1 ∧ h' = h1.take h.length ∧ ρ' = ρ := by
  unfold callbM at e
  cases x with
  | d b =>
    simp only at e
    split at e
    · rename_i d ow h1 hc
      split at e
      · rename_i hl
        injection e with z1 z2 z3
        subst z1; subst z2; subst z3
        exact ⟨b, d, ow, h1, rfl, rfl, hc, hl, rfl, rfl⟩
      · cases e
    · cases e
  | _ => cases e
theorem c_callb {f : Addr} {fi : Nat} {fo : List Val → Hh → FO} {fd : FuncData} {ps : List Str} {x : Str} {e : Expr} {p : Pos} {m : M Val} (o : XOk Z lv I X C) (Fn : GFn Z lv f fd ps fo) (hfo : ∀ ys h, G.call fi ys h = fo ys h) (hg : glB I.sc x = true) (hm : Z.mg x = some (.ref f)) (hk : PySem.W.keepIn Z.K (.ref f) = true)
    (hd : noDunder x = true) (hs : notStar e = true) (ha : PE X e (tFr C m)) : PE X (.Call (.Name x p) [e] [] pos) (tE C (m.bind fun y => callbM G fi y)) :=
  pe_fn o hg hm hk hd (by rw [List.all_cons, hs]; rfl) (pa_cons ha pa_nil (star_cons hs)) fun pins s σ H Q I0 q => by
    obtain ⟨ρ, h, R, w, ρ', h', e, k⟩ := q
    obtain ⟨x, ρ1, h1, e1, e2⟩ := M.bind_ok e
    obtain ⟨b, d, ow, h2, ex, ew, ec, el, eh, er⟩ := callbM_ok e2
    subst ex; subst ew; subst eh; subst er
    refine ⟨ρ, h, b, ρ', h1, R, e1, fun a H1 n R1 bx S1 P1 s1 us I1 rv => ?_⟩
    rw [hfo] at ec
    have hK : C.K = Z.K := o.K.trans o.XK
    have naA : ¬ C.A1 a := fun z => by obtain ⟨u, eu⟩ := R.trk a z; rw [n] at eu; cases eu
    have naM : a ∉ C.μ := fun z => naA (R.mu a z)
    have bl : h1.length = C.μ.length := R1.blen
    let E : Ct := entC C X s1 H1 (Av (C.inF a) σ ρ') (C.μ ++ [a])
    have ent : Ent E H1 [.ref h1.length] [.ref a] (h1 ++ [b]) := by
      refine ⟨⟨.ref a, [], rfl, ⟨a, ?_, rfl⟩, rfl⟩, (fun i z => by simp at z), (fun c z => by simp at z), ?_, fun j c q => ?_, fun y z => ?_, ?_, fun y z => ?_, R1.tab⟩
      · show (C.μ ++ [a])[h1.length]? = some a
        rw [bl, List.getElem?_append_right (Nat.le_refl _), Nat.sub_self]; rfl
      · show (h1 ++ [b]).length = (C.μ ++ [a]).length
        rw [List.length_append, List.length_append, bl]; rfl
      · by_cases hj : j < h1.length
        · rw [List.getElem?_append_left hj] at q
          obtain ⟨y, y1, y2⟩ := R1.box j c q
          refine ⟨y, ?_, y2⟩
          show (C.μ ++ [a])[j]? = some y
          rw [List.getElem?_append_left (by rw [← bl]; exact hj)]; exact y1
        · rw [List.getElem?_append_right (by omega)] at q
          cases hz : j - h1.length with
          | zero =>
            rw [hz] at q
            cases (Option.some.inj q)
            refine ⟨a, ?_, bx⟩
            show (C.μ ++ [a])[j]? = some a
            rw [List.getElem?_append_right (by omega), ← bl, hz]; rfl
          | succ k => rw [hz] at q; cases q
      · rcases List.mem_append.mp z with z | z
        · exact .inl (.inl (R.mu y z))
        · rw [List.mem_singleton.mp z]; exact .inl (.inr rfl)
      · exact List.nodup_append.mpr ⟨R.nod, (by simp), fun y hy z hz e => naM (by rw [List.mem_singleton.mp hz] at e; rw [← e]; exact hy)⟩
      · rcases z with z | ⟨i, c, q1, q2⟩
        · exact R1.trk y z
        · obtain ⟨y', y1, _, y3⟩ := R1.own i c q1
          rw [q2] at y1; cases y1
          obtain ⟨u, hu, _⟩ := y3.here
          exact ⟨u, hu⟩
    refine run_gfn o Fn o.room I1 (fun hl => .of_eq (Fn.plain.pos hl)) rv (E := E) hK o.T o.cd rfl rfl (fun a z => z) rfl ent ec fun v H2 r => ?_
    have Em : ∀ y, y ∈ C.μ ++ [a] → (C.inF a).A1 y := fun y z => by
      rcases List.mem_append.mp z with z | z
      · exact .inl (R.mu y z)
      · rw [List.mem_singleton.mp z]; exact .inr rfl
    have sub : ∀ y, Av C σ ρ' y → Av (C.inF a) σ ρ' y := fun y z => z.imp .inl id
    have S : Stp C σ ρ H σ ρ' H2 := by
      refine ⟨fun y u e s => r.st y u (S1.st y u e s) s, fun y u e n1 n2 n3 => (S1.keep y u e n1 n2 n3).then r.st fun e1 => (r.keep y u e1 (fun z => ?_) ow_nil n3).mono fun z => .inl (.inl z), fun y e => S1.there y (r.there y e), fun y z => S1.own y z⟩
      rcases List.mem_append.mp z with z | z
      · exact n1 z
      · rw [List.mem_singleton.mp z, n] at e; cases e
    have kp : ∀ y u, H1 y = some u → ¬ Av (C.inF a) σ ρ' y → (∀ ps, u ≠ .tbl ps) → Kept E.A1 H2 y u := fun y u e n1 n3 => r.keep y u e (fun z => n1 (.inl (Em y z))) ow_nil n3
    have kk : Kp H1 (Av (C.inF a) σ ρ') H2 (Av C σ ρ') := by
      refine ⟨fun y vs e => r.st y _ e rfl, fun y vs e n1 => ⟨(kp y _ e n1 fun _ z => (by cases z)).plain rfl, fun z => n1 (sub y z)⟩, fun y vs e n1 => ⟨?_, fun z => n1 (sub y z)⟩, fun y vs e n1 => ⟨?_, fun z => n1 (sub y z)⟩, fun y o u e => r.st y _ e rfl⟩
      · rcases e with e | ⟨o, e⟩
        · exact (kp y _ e n1 fun _ z => (by cases z)).dK
        · exact .inr ⟨o, r.st y _ e rfl⟩
      · rcases e with e | ⟨o, e⟩
        · exact (kp y _ e n1 fun _ z => (by cases z)).dT
        · exact .inr ⟨o, r.st y _ e rfl⟩
    have R2 : Rel C σ H2 ρ' (h2.take h1.length) := by
      refine ⟨R1.len, fun i w q => ?_, fun i c q => ?_, R1.dis, ?_, fun j c q => ?_, R.mu, R.nod, fun y q => ?_, R1.noH, r.tab⟩
      · obtain ⟨u, u1, u2⟩ := R1.val i w q
        refine ⟨u, u1, ?_⟩
        cases w with
        | d x => exact u2.kp kk _ _
        | ref j => exact u2
        | own i' => exact (R1.noH i i' q).elim
        | clo c cs => obtain ⟨b0, n', f', F, ws, g1, g2, g3, g4, g5, g6, g7, g8⟩ := u2; exact ⟨b0, n', f', F, ws, g1, g2, r.st _ _ g3 rfl, r.st _ _ g4 rfl, g5, g6, g7, g8.kp kk⟩
        | mk c => obtain ⟨b0, n', f', F, g1, g2, g3, g4, g5⟩ := u2; exact ⟨b0, n', f', F, g1, g2, r.st _ _ g3 rfl, r.st _ _ g4 rfl, g5⟩
        | scr ns => obtain ⟨y, g1, g2⟩ := u2; exact ⟨y, g1, g2.st r.st⟩
        | kon xs => obtain ⟨y, vs, g1, g2, g3⟩ := u2; exact ⟨y, vs, g1, g2, g3.kp kk⟩
      · obtain ⟨y, y1, y2, y3⟩ := R1.own i c q
        refine ⟨y, y1, fun z => y2 (.inl z), y3.kp kk fun u e => ?_⟩
        obtain ⟨u', e', _, nt⟩ := y3.here
        rw [e] at e'; cases e'
        exact (r.keep y u e (fun z => y2 (Em y z)) ow_nil nt).inA (.inr ⟨i, c, q, y1⟩)
      · rw [List.length_take, el, bl]; omega
      · rw [List.getElem?_take] at q
        split at q
        · rename_i hj
          obtain ⟨y, y1, y2⟩ := r.box j c q
          have y1 : (C.μ ++ [a])[j]? = some y := y1
          rw [List.getElem?_append_left (by rw [← bl]; exact hj)] at y1
          exact ⟨y, y1, y2.kp (Kp.less fun z hz => .inl (sub z hz)) fun u e => e⟩
        · cases q
      · obtain ⟨u, u1⟩ := R.trk y q
        cases q1 : H2 y with
        | some u1 => exact ⟨u1, rfl⟩
        | none => rw [S.there y q1] at u1; cases u1
    refine k v H2 R2 ?_ S P1
    have rv2 := r.val
    cases ow with
    | false => exact RepD.less (show RepD C.K H2 (Av (C.inF a) σ ρ') d v from rv2) sub
    | true =>
      obtain ⟨y, y1, y2, y3, y4⟩ := rv2
      subst y1
      exact (y4.kp (Kp.less fun z hz => .inl (sub z hz)) fun u e => e).frozen fun z => y2 (sub y z)
/-! ### keywords -/
theorem kw_names {pos : Pos} {env : Env} : ∀ {kws : List Keyword} {ks : List Str}, kws.map (·.arg) = ks.map some → (backToKw pos (keywordEach kws env)).all (·.1.isSome) = true ∧ (backToKw pos (keywordEach kws env)).filterMap (·.1) = ks ∧ (backToKw pos (keywordEach kws env)).any (·.1.isNone) = false
  | [], [], _ => ⟨rfl, rfl, rfl⟩
  | [], _ :: _, h => by cases h
  | _ :: _, [], h => by cases h
  | ⟨a, e, p⟩ :: kws, k :: ks, h => by
    rw [List.map_cons, List.map_cons] at h
    injection h with h1 h2
    have h1 : a = some k := h1
    subst h1
    obtain ⟨g1, g2, g3⟩ := kw_names (pos := pos) (env := env) h2
    have e0 : backToKw pos (keywordEach (⟨some k, e, p⟩ :: kws) env) = (some k, (do let v ← eval e env; standAt pos; pure v)) :: backToKw pos (keywordEach kws env) := rfl
    rw [e0]
    refine ⟨?_, ?_, ?_⟩
    · rw [List.all_cons, g1]; rfl
    · rw [List.filterMap_cons]; show k :: _ = _; rw [g2]
    · rw [List.any_cons, g3]; rfl
theorem find_ok {p : Str} {ρ : Ev} : ∀ {ks : List Str} {vs : List Val} {zs : List V} {ws : List Value} {v : Val}, RepVs C σ ρ H vs zs → Vals zs ws → find p ks vs = some v → ∃ z u, (ks.zip ws).lookup p = some u ∧ RepV C σ ρ H v z ∧ RelV z u
  | [], vs, _, _, _, _, _, e => by cases e
  | _ :: _, [], _, _, _, _, _, e => by cases e
  | k :: ks, x :: vs, zs, ws, v, r, rv, e => by
    obtain ⟨z, t, ez, r1, r2⟩ := r
    subst ez
    cases rv with
    | cons q qs =>
      have e : (if k = p then some x else find p ks vs) = some v := e
      by_cases hk : k = p
      · rw [if_pos hk] at e
        cases (Option.some.inj e)
        refine ⟨z, _, ?_, r1, q⟩
        rw [List.zip_cons_cons, hk]
        simp [List.lookup]
      · rw [if_neg hk] at e
        obtain ⟨z', u', h1, h2, h3⟩ := find_ok r2 qs e
        refine ⟨z', u', ?_, h2, h3⟩
        rw [List.zip_cons_cons, List.lookup_cons, beq_eq_false_iff_ne.mpr (Ne.symm hk)]
        exact h1
theorem place_ok {L : List (Str × Value)} {ks : List Str} {vs : List Val} {zs : List V} {ws : List Value} {ρ : Ev} (rz : RepVs C σ ρ H vs zs) (rw' : Vals zs ws) : ∀ {ps : List Str} {xs ys : List Val} {v1 : List V} {us : List Value}, RepVs C σ ρ H xs v1 → Vals v1 us →
    (∀ (i : Nat) (p : Str) (u : Value), ps[i]? = some p → us[i]? = some u → L.lookup p = some u) → (∀ (i : Nat) (p : Str), ps[i]? = some p → us.length ≤ i → L.lookup p = (ks.zip ws).lookup p) → place ps xs ks vs = some ys →
    (∀ x ∈ ps, (L.lookup x).isSome = true) ∧ ∃ v2, RepVs C σ ρ H ys v2 ∧ Vals v2 (placeV L ps)
  | [], xs, ys, v1, us, r, rv, hA, hB, e => by
    cases xs with
    | nil => cases (Option.some.inj e); exact ⟨fun x h => (by cases h), [], rfl, .nil⟩
    | cons _ _ => cases e
  | p :: ps, [], ys, v1, us, r, rv, hA, hB, e => by
    cases (show v1 = [] from r)
    cases rv
    have e : (match find p ks vs, place ps [] ks vs with
      | some v, some r => some (v :: r)
      | _, _ => none) = some ys := e
    cases h1 : find p ks vs with
    | none => rw [h1] at e; cases e
    | some v =>
      cases h2 : place ps [] ks vs with
      | none => rw [h1, h2] at e; cases e
      | some r' =>
        rw [h1, h2] at e
        cases (Option.some.inj e)
        obtain ⟨z, u, g1, g2, g3⟩ := find_ok rz rw' h1
        have hp : L.lookup p = some u := (hB 0 p rfl (Nat.zero_le _)).trans g1
        obtain ⟨k1, v2, k2, k3⟩ := place_ok (L := L) rz rw' (ps := ps) (xs := []) (v1 := []) (us := []) rfl .nil (fun i p u h1 h2 => by cases h2) (fun i p' h1 _ => hB (i + 1) p' h1 (Nat.zero_le _)) h2
        refine ⟨fun x hx => ?_, z :: v2, ⟨z, v2, rfl, g2, k2⟩, ?_⟩
        · rcases List.mem_cons.mp hx with hx | hx
          · rw [hx, hp]; rfl
          · exact k1 x hx
        · unfold placeV
          rw [List.filterMap_cons, hp]
          exact .cons g3 k3
  | p :: ps, x :: xs, ys, v1, us, r, rv, hA, hB, e => by
    obtain ⟨z, t, ez, r1, r2⟩ := r
    subst ez
    cases rv with
    | @cons _ u _ us' q qs =>
      have e : (place ps xs ks vs).map (x :: ·) = some ys := e
      cases h2 : place ps xs ks vs with
      | none => rw [h2] at e; cases e
      | some r' =>
        rw [h2] at e
        cases (Option.some.inj e)
        have hp : L.lookup p = some u := hA 0 p u rfl rfl
        obtain ⟨k1, v2, k2, k3⟩ := place_ok (L := L) rz rw' (ps := ps) r2 qs (fun i p' u' h1 h2 => hA (i + 1) p' u' h1 h2) (fun i p' h1 h2 => hB (i + 1) p' h1 (by rw [List.length_cons]; omega)) h2
        refine ⟨fun y hx => ?_, z :: v2, ⟨z, v2, rfl, r1, k2⟩, ?_⟩
        · rcases List.mem_cons.mp hx with hx | hx
          · rw [hx, hp]; rfl
          · exact k1 y hx
        · unfold placeV
          rw [List.filterMap_cons, hp]
          exact .cons q k3
theorem callkM_ok {f : Nat} {xs vs : List Val} {ks : List Str} {w : Val} {ρ ρ' : Ev} {h h' : Hh} (e : callkM G f xs ks vs ρ h = .ok w ρ' h') : ∃ ys, place (G.arity f) xs ks vs = some ys ∧ kwOk (G.arity f) xs.length ks = true ∧ ks.length = vs.length ∧ callM0 G f ys ρ h = .ok w ρ' h' := by
  unfold callkM at e
  cases hp : place (G.arity f) xs ks vs with
  | none => rw [hp] at e; cases e
  | some ys =>
    rw [hp] at e
    simp only at e
    by_cases hc : kwOk (G.arity f) xs.length ks = true ∧ ks.length = vs.length
    · rw [if_pos hc] at e
      exact ⟨ys, rfl, hc.1, hc.2, e⟩
    · rw [if_neg hc] at e; cases e
theorem pe_fnk {f : Addr} {x : Str} {es : List Expr} {ks : List Str} {kws : List Keyword} {p pos : Pos} {t tk : TA} {te : TE} (o : XOk Z lv I X C) (hg : glB I.sc x = true) (hm : Z.mg x = some (.ref f)) (hk : PySem.W.keepIn Z.K (.ref f) = true) (hd : noDunder x = true) (hs : es.all notStar = true) (ha : PA X es t) (hkw : PK X kws tk) (hn : kws.map (·.arg) = ks.map some)
    (hrun : ∀ (pins : List (Addr × Obj)) (s : Shared) (σ : L2.St) (H : Hp) (Q : VK), Inv X pins σ H s → te σ H Q → t σ H fun vs H1 => tk σ H1 fun zs H2 => ∀ (s1 : Shared) (us ws : List Value), Inv X pins σ H2 s1 → Vals vs us → Vals zs ws → wpAny (model X.prog X.w) X.A (call (.ref f) us (ks.zip ws)) (EP X pins σ Q) X.xe s1) :
    PE X (.Call (.Name x p) es kws pos) te := by
  refine ⟨fun pins s σ H Q I0 h => ?_⟩
  refine wpAny_Call_Name_kw (ld_glob I0 (o.gl hg) (by rw [o.mg]; exact hm) ?_ (noDunder_ok hd).1)
  have hk' : PySem.W.keepIn X.K (.ref f) = true := by rw [o.XK]; exact hk
  obtain ⟨k1, k2, k3⟩ := kw_names (pos := pos) (env := X.env) hn
  cases es with
  | nil =>
    have q := ha.run pos pins s σ H _ I0 (hrun pins s σ H Q I0 h)
    refine fun Γ p hΓ => ?_
    have q2 : AP X pins σ (fun vs H1 => tk σ H1 fun zs H2 => ∀ (s1 : Shared) (us ws : List Value), Inv X pins σ H2 s1 → Vals vs us → Vals zs ws → wpAny (model X.prog X.w) X.A (call (.ref f) us (ks.zip ws)) (EP X pins σ Q) X.xe s1) [] s := q Γ p hΓ
    obtain ⟨vs, H1, I1, r1, q3⟩ := q2
    refine (PySem.W.callWith_KW0 (h₀ := X.base) I0.ok.mod.kin hk' k1 (thn (hkw.run pos pins s σ H1 _ I1 q3) fun ws s2 ⟨zs, H2, I2, rz, q4⟩ => ⟨I2.kIn, ?_⟩) (by rw [k3]; rfl)) Γ p hΓ
    rw [k2]
    exact q4 s2 [] ws I2 r1 rz
  | cons e es =>
    have hs' := hs
    rw [List.all_cons, Bool.and_eq_true] at hs
    refine PySem.W.callWith_KW (h₀ := X.base) I0.ok.mod.kin hk' k1 (thn (ha.run pos pins s σ H _ I0 (hrun pins s σ H Q I0 h)) fun us s1 ⟨vs, H1, I1, r, q⟩ => thn (hkw.run pos pins s1 σ H1 _ I1 q) fun ws s2 ⟨zs, H2, I2, rz, q2⟩ => ⟨I2.kIn, ?_⟩) (by rw [star_none hs', k3]; rfl) (star_cons hs.1)
    rw [k2]
    exact q2 s2 us ws I2 r rz
theorem RepVs.len2 {σ : L2.St} {H : Hp} {ρ : Ev} : ∀ {ws : List Val} {vs : List V}, RepVs C σ ρ H ws vs → vs.length = ws.length := RepVs.length
theorem c_callk {f : Addr} {fi : Nat} {fo : List Val → Hh → FO} {fd : FuncData} {ps : List Str} {x : Str} {es : List Expr} {ks : List Str} {kws : List Keyword} {p pos : Pos} {m mk : M (List Val)} (o : XOk Z lv I X C) (Fn : GFn Z lv f fd ps fo) (hfo : ∀ ys h, G.call fi ys h = fo ys h) (har : G.arity fi = ps) (hfr : G.fr = Z.fr) (hg : glB I.sc x = true) (hm : Z.mg x = some (.ref f))
    (hk : PySem.W.keepIn Z.K (.ref f) = true) (hd : noDunder x = true) (hs : es.all notStar = true) (ha : PA X es (tA C m)) (hkw : PK X kws (tA C mk)) (hn : kws.map (·.arg) = ks.map some) : PE X (.Call (.Name x p) es kws pos) (tE C (m.bind fun xs => mk.bind fun vs => callkM G fi xs ks vs)) :=
  pe_fnk o hg hm hk hd hs ha hkw hn fun pins s σ H Q I0 q => by
    obtain ⟨ρ, h, R, w, ρ', h', e, k⟩ := q
    obtain ⟨xs, ρ1, h1, e1, e2⟩ := M.bind_ok e
    obtain ⟨zs, ρ2, h2, e3, e4⟩ := M.bind_ok e2
    refine ⟨ρ, h, R, xs, ρ1, h1, e1, fun vs H1 R1 r1 S1 P1 => ⟨ρ1, h1, R1, zs, ρ2, h2, e3, fun vz H2 R2 r2 S2 P2 s1 us ws I1 rv rw' => ?_⟩⟩
    obtain ⟨ys, p1, p2, p3, e5⟩ := callkM_ok e4
    rw [har] at p1 p2
    have r1' := r1.stp S2 R1.mu P2
    have lu : us.length = xs.length := by rw [← rv.length, r1.length]
    have lw : ws.length = ks.length := by rw [← rw'.length, r2.length, p3]
    unfold kwOk at p2
    simp only [Bool.and_eq_true, decide_eq_true_eq, List.all_eq_true] at p2
    obtain ⟨q1, q2, q3⟩ := p2
    have nd := Fn.plain.nd
    obtain ⟨g1, v2, g2, g3⟩ := place_ok (L := ps.zip us ++ ks.zip ws) r2 rw' r1' rv (fun i p u h1 h2 => by
        rw [List.lookup_append, zip_lookup nd h1 h2]; rfl) (fun i p h1 h2 => by
        rw [List.lookup_append, lookup_notin (by
          rw [zip_keys]
          intro z
          obtain ⟨j, hj⟩ := List.mem_iff_getElem?.mp z
          have hjl := (List.getElem?_eq_some_iff.mp hj).1
          rw [List.length_take] at hjl
          rw [List.getElem?_take_of_lt (by omega)] at hj
          obtain ⟨l1, t1⟩ := List.getElem?_eq_some_iff.mp hj
          obtain ⟨l2, t2⟩ := List.getElem?_eq_some_iff.mp h1
          have := (List.getElem_inj nd).mp (t1.trans t2.symm)
          omega)]; rfl) p1
    obtain ⟨hs', ow, e6, e7, e8, e9⟩ := callM0_ok e5
    subst e9
    rw [hfo] at e7
    have hK : C.K = Z.K := o.K.trans o.XK
    refine run_gfn o Fn o.room I1 (fun hl => .of_eq (bind_kw Fn.plain (by rw [lu]; exact q1) (fun k hk => List.contains_iff_mem.mp (q2 k hk)) lw (by rw [lu]; exact q3) g1)) g3 (E := entC C X s1 H2 (Av C σ ρ') C.μ) hK o.T o.cd rfl rfl (fun a z => z) rfl (ent_ok o hfr I1 R2 g2 e6) e7 fun v H3 ret => ?_
    obtain ⟨R3, S3, r3⟩ := R2.after (E := entC C X s1 H2 (Av C σ ρ') C.μ) rfl rfl rfl rfl ret
    exact k v H3 R3 r3 ((S1.trans S2).trans S3) (P1.trans P2)
end
end EV

set_option maxRecDepth 100000
set_option maxHeartbeats 4000000
/-! EvZ4: functions within functions. -/
namespace EV
open PySem PySem.Spec PyProof.Rows L2

structure GNf (Z : Wd) (k : Nat) (n : NFd) (fo : List (Option D) → List Val → Hh → FO) : Prop where
  run : ∀ (f : Addr) (F : NdefX.NF) (caps : List (Option D)) (fws : List (Option V)) (A : Around) (outer : List Env) (s : Shared) (H : Hp) (us : List Value) (vs : List V) (E : Ct) (ws : List Val) (h : Hh) (w : Val) (o : Bool) (h' : Hh) (Q : VK), FnIs n F → H f = some (NdefX.FnO f F) → H F.c = some (LamX.CodeO F.c F.qual) →
    NdefX.CellsAt F.cl n.fr fws s.heap H → capsOk Z.K H E.A1 caps fws → Rm k A → Env0 Z.P Z.w Z.K Z.mg Z.base A outer s H → Vals vs us →
    E.K = Z.K → E.T = Z.T → E.code = Z.code → E.s0 = s.heap → E.H0 = H → (∀ a ∈ frs outer, E.nb a) → E.blk = false → Ent E H ws vs h → fo caps ws h = .ok w o h' → (∀ v H', Ret E [] [] H w o h' v H' → Q v H') →
    codeAny (model Z.P Z.w) A (.call (.ref f) ⟨us, []⟩) (CR CX0 outer Z.P Z.w H s Q E0) s
structure NfF (Z : Wd) (I : Inf) (q : Fn) (n : NFd) : Prop where
  S : NdefX.NScope I.N n.ps n.fr n.scope
  sc : I.sc = n.scope
  blk : I.blk = true
  cel : ∀ x, I.cel x = false
  look : mSs I q.body n.body = true
  nn : q.n = n.ps.length
  m : q.m = I.N.length
  fns : I.fns = Z.fns
  free : ∀ x ∈ I.free, Z.mg x = none
  con : ConOk Z.K Z.mg I
  okN : ∀ c n, I.okN c n = false
  binds : ∀ (qual : Str) (cl : List (Str × Addr)) (c : Addr) (doc pm ctv : Value) (us : List Value), us.length = n.ps.length → bindArgs ((⟨n.name, qual, n.params, n.body, n.scope, cl, c⟩ : NdefX.NF).fd doc pm ctv) ⟨us, []⟩ = pure (n.ps.zip us)
theorem capsOk.len {K : PySem.W.Frag} {H : Hp} {A : Addr → Prop} : ∀ {cs : List (Option D)} {ws : List (Option V)}, capsOk K H A cs ws → ws.length = cs.length
  | [], _, r => by cases (show _ = [] from r); rfl
  | none :: _, _, r => by obtain ⟨w, t, e, q⟩ := r; subst e; rw [List.length_cons, List.length_cons, q.len]
  | some _ :: _, _, r => by obtain ⟨w, t, e, _, q⟩ := r; subst e; rw [List.length_cons, List.length_cons, q.len]
theorem capsOk.get {K : PySem.W.Frag} {H : Hp} {A : Addr → Prop} {d : D} : ∀ {cs : List (Option D)} {ws : List (Option V)} {i : Nat}, capsOk K H A cs ws → cs[i]? = some (some d) → ∃ v, ws[i]? = some (some v) ∧ RepD K H A d v
  | [], _, _, _, e => by simp at e
  | none :: _, _, 0, _, e => by cases (Option.some.inj e)
  | none :: _, _, i + 1, r, e => by obtain ⟨w, t, e1, q⟩ := r; subst e1; exact q.get (i := i) e
  | some _ :: _, _, 0, r, e => by obtain ⟨v, t, e1, r1, q⟩ := r; subst e1; cases (Option.some.inj e); exact ⟨v, rfl, r1⟩
  | some _ :: _, _, i + 1, r, e => by obtain ⟨w, t, e1, _, q⟩ := r; subst e1; exact q.get (i := i) e
section
variable {Z : Wd}
theorem gnf_of {k : Nat} {G : Gv} {I : Inf} {q : Fn} {n : NFd} (hC : CallOk Z k G) (hG : ∀ x, G.con x = I.con.lookup x) (N : NfF Z I q n) : GNf Z (k + 1) n (runNf G q) := by
  refine ⟨fun f F caps fws A outer s H us vs E ws h w o h' Q hF hf hc Ca ck hr e0 r eK eT eC es eH enb eb ne eo hq => ?_⟩
  obtain ⟨fname, fqual, fparams, fbody, fscope, fcl, fc⟩ := F
  obtain ⟨z1, z2, z3, z4⟩ := hF
  simp only at z1 z2 z3 z4
  subst z1; subst z2; subst z3; subst z4
  unfold runNf at eo
  by_cases hl : ws.length = q.n
  · rw [if_pos hl] at eo
    have S := N.S
    have hlv : vs.length = n.ps.length := by rw [ne.args.length, hl, N.nn]
    have lim : s.heap.NoLimit := e0.mod.nolimit.keeps fun b o e => (e0.bs b o e).1
    let F : NdefX.NF := ⟨n.name, fqual, n.params, n.body, n.scope, fcl, fc⟩
    obtain ⟨od, sl, doc, pm, ctv, ho⟩ := NdefX.fnO_at e0.hok hf
    refine codeAny_call_function hr.toRoom.depth ho rfl S.co S.gen rfl (NdefX.codeO_at e0.hok hc) ?_
    rw [N.binds fqual fcl fc doc pm ctv us (by rw [← r.length]; exact hlv)]
    refine wpAny_pure (wpAny_newFunctionEnv S.nocell (fun ⟨n, _⟩ hy => S.par n (List.of_mem_zip hy).1) (fun h₁ hns hsb => ⟨lim.fresh _ hsb, ?_⟩) S.kind)
    show codeAny _ _ (.func n.body (NdefX.envF F f s.heap.objs.size)) _ _
    refine codeAny_func ?_
    have kp : ∀ b o, s.heap.get? b = some o → h₁.get? b = some o := fun b o e => hsb.extBut b o (Nat.ne_of_lt (Heap.lt_size e)) (Heap.get?_push_of_some _ e)
    let X : Cx := NdefX.ncx CX0 Z.P Z.w Z.K Z.mg Z.base I.N F f A outer s H E0
    let C : Ct := { E with cells := fcl, mds := fun _ _ => False }
    have hpl : n.ps.length + n.fr.length ≤ I.N.length := by
      have q := congrArg List.length S.pre
      rw [List.length_take, List.length_append] at q
      omega
    have sok : SOk Z k I X C :=
      { P := rfl, w := rfl, XK := rfl, mg := rfl, base := rfl, N := rfl, nd := S.nd, sc := N.sc.symm, calm := rfl, K := eK, fn := fun z => (by rw [N.blk] at z; cases z), fc := fun x z => (by rw [N.cel] at z; cases z), pas := PassesOwn.leaving, room := hr.deeper _, free := N.free, con := N.con, fns := N.fns, T := eT, cd := eC,
        lnk := fun _ => ⟨es, eH, fun a ha => enb a ha, rfl, rfl, fun _ _ z => z.elim⟩, kd := S.kind, bk := fun z => (by rw [N.blk] at z; cases z), tb := fun z => (by rw [N.blk] at z; cases z), code := fun c _ _ _ _ hk => (by rw [N.okN] at hk; cases hk) }
    have ht : PSs X n.body (tS C (denSs G q.body)) := sSs hC q.body I X C sok hG n.body N.look
    have cl := ck.len
    have fl := Ca.len
    have hrn : ∀ x ∈ caps.map capSl ++ List.replicate (q.m - q.n - caps.length) Sl.no, x = Sl.no ∨ ∃ d, x = .val (.d d) := fun x hx => by
      rcases List.mem_append.mp hx with z | z
      · obtain ⟨c, _, e⟩ := List.mem_map.mp z
        cases c with
        | none => exact .inl e.symm
        | some d => exact .inr ⟨d, e.symm⟩
      · exact .inl (List.eq_of_mem_replicate z)
    have R0 : Rel C (vs.map some ++ (fws ++ List.replicate (I.N.length - vs.length - fws.length) none)) H (rho0 ws (caps.map capSl ++ List.replicate (q.m - q.n - caps.length) Sl.no)) h := by
      refine ne.begin hrn (by rw [List.length_append, List.length_append, List.length_replicate, List.length_replicate, List.length_map, N.m, N.nn, hlv, cl]) fun i d e => ?_
      by_cases hi : i < caps.length
      · rw [List.getElem?_append_left (by rw [List.length_map]; exact hi), List.getElem?_map] at e
        cases hci : caps[i]? with
        | none => rw [hci] at e; cases e
        | some c =>
          rw [hci] at e
          cases c with
          | none => cases e
          | some d' =>
            have e : some (Sl.val (.d d')) = some (Sl.val (.d d)) := e
            cases e
            obtain ⟨v, ev, rv⟩ := ck.get hci
            refine ⟨v, by rw [List.getElem?_append_left (by rw [cl]; exact hi)]; exact ev, ?_⟩
            rw [eK]; exact rv
      · rw [List.getElem?_append_right (by rw [List.length_map]; omega), List.getElem?_replicate] at e
        split at e <;> cases e
    have now : ∀ a, ¬ Ow (NdefX.startF I.N vs fws) (rho0 ws (caps.map capSl ++ List.replicate (q.m - q.n - caps.length) Sl.no)) a := fun a ⟨i, b, e, _⟩ => by
      rcases rho0_val hrn e with ⟨w, _, z⟩ | ⟨_, _, z | ⟨d, z⟩⟩ <;> cases z
    have hq2 : tS C (denSs G q.body) { nx := fun _ H' => Q .non H', rt := Q } (NdefX.startF I.N vs fws) H := run_body now R0 eo hq
    have I0 : Inv X [] (NdefX.startF I.N vs fws) H { s with heap := h₁, toks := s.toks + (n.ps.zip us).length } := NdefX.inv_startN (F := F) S hr.toRoom.hd e0 hlv r Ca hns kp
    refine wpAny_mono (ht.run [] _ (NdefX.startF I.N vs fws) H _ I0 hq2) (fun fl s' hs => ?_) fun e s' hs => hs
    have fin : ∀ {σ' : L2.St} {H' : Hp} {v : V} {u : Value}, Inv X [] σ' H' s' → RelV v u → Q v H' → CE outer Z.P Z.w H s Q u s' :=
      fun {σ' H' v u} J rv q => ⟨v, H', J.os, J.bare, J.base, J.hok, rv, q⟩
    cases fl with
    | ret u =>
      obtain ⟨v, σ', H', J, rv, q⟩ := hs
      exact fin J rv q
    | next =>
      obtain ⟨σ', H', J, q⟩ := hs
      exact fin (v := V.non) (u := Value.none) J rfl q
    | brk =>
      obtain ⟨_, _, _, q⟩ := hs
      exact False.elim q
    | cont =>
      obtain ⟨_, _, _, q⟩ := hs
      exact False.elim q
  · rw [if_neg hl] at eo; cases eo
variable {lv : Nat} {G : Gv} {I : Inf} {X : Cx} {C : Ct} {pos : Pos}
theorem callnM_ok {x w : Val} {xs : List Val} {ρ ρ' : Ev} {h h' : Hh} (e : callnM G x xs ρ h = .ok w ρ' h') : ∃ c caps ys ow, hand G ρ x = some (.clo c caps) ∧ hands G ρ xs = some ys ∧ G.calln c caps ys h = .ok w ow h' ∧ h'.length = h.length ∧ ρ' = ρ := by
  have back : ∀ {o : FO}, backM o ρ h = .ok w ρ' h' → ∃ ow, o = .ok w ow h' ∧ h'.length = h.length ∧ ρ' = ρ := fun {o} e => by
    unfold backM at e
    cases o with
    | bad => cases e
    | ok w1 ow h1 =>
      simp only at e
      split at e
      · rename_i hl
        injection e with z1 z2 z3
        subst z1; subst z2; subst z3
        exact ⟨ow, rfl, hl, rfl⟩
      · cases e
  unfold callnM at e
  cases hh : hands G ρ xs with
  | none => rw [hh] at e; cases x <;> cases e
  | some ys =>
    rw [hh] at e
    cases x <;> first | (cases e; done) | skip
    · rename_i c caps
      obtain ⟨ow, e1, e2, e3⟩ := back (o := G.calln c caps ys h) e
      exact ⟨c, caps, ys, ow, rfl, rfl, e1, e2, e3⟩
    · rename_i c
      have e : (match capsAt ρ (G.fr c) with
        | some caps => backM (G.calln c caps ys h) ρ h
        | none => .bad) = .ok w ρ' h' := e
      cases hc : capsAt ρ (G.fr c) with
      | none => rw [hc] at e; cases e
      | some caps =>
        rw [hc] at e
        obtain ⟨ow, e1, e2, e3⟩ := back (o := G.calln c caps ys h) e
        exact ⟨c, caps, ys, ow, by show (capsAt ρ (G.fr c)).map (Val.clo c) = _; rw [hc]; rfl, rfl, e1, e2, e3⟩
theorem c_calln {i : Nat} {x : Str} {es : List Expr} {p : Pos} {m : M (List Val)} (o : XOk Z lv I X C) (Fn : ∀ c n, Z.code c n → GNf Z lv n (fun caps ws h => G.calln c caps ws h)) (hfr : G.fr = Z.fr) (hi : nameIs I i x = true) (hs : es.all notStar = true) (ha : PA X es (tA C m)) :
    PE X (.Call (.Name x p) es [] pos) (tE C ((nameM i).bind fun w => m.bind fun xs => callnM G w xs)) := by
  obtain ⟨n1, n2, n3⟩ := nameIs_ok hi
  obtain ⟨d1, d2, _⟩ := noDunder_ok n3
  have hN : X.N[i]? = some x := by rw [o.N]; exact n1
  have hv : Vis X.env.scope x := by rw [o.sc]; exact visB_ok n2
  have hK : C.K = Z.K := o.K.trans o.XK
  refine ⟨fun pins s σ H Q I0 q => ?_⟩
  obtain ⟨ρ, h, R, w, ρ', h', e, k⟩ := q
  obtain ⟨x0, ρ0, h0, e0, e1⟩ := M.bind_ok e
  obtain ⟨xs, ρ1, h1, e2, e3⟩ := M.bind_ok e1
  obtain ⟨c, caps, ys, ow, g1, g2, g3, g4, g5⟩ := callnM_ok e3
  subst g5
  unfold nameM at e0
  cases er : ρ[i]? with
  | none => rw [er] at e0; cases e0
  | some sl =>
    rw [er] at e0
    cases sl with
    | no => cases e0
    | own b => injection e0 with z1 z2 z3; subst z1; cases g1
    | val w0 =>
      injection e0 with z1 z2 z3
      subst z1; subst z2; subst z3
      obtain ⟨v0, ev0, rv0⟩ := R.val i w0 er
      obtain ⟨f, F0, ef, hf⟩ : ∃ f F0, v0 = .ref f ∧ H f = some (NdefX.FnO f F0) := by
        cases w0 <;> first | (cases g1; done) | skip
        · obtain ⟨_, _, f, F, _, _, h2, h3, _⟩ := rv0; exact ⟨f, F, h2, h3⟩
        · obtain ⟨_, _, f, F, _, h2, h3, _⟩ := rv0; exact ⟨f, F, h2, h3⟩
      subst ef
      -- behind the arguments
      have fin : ∀ (s2 : Shared) (H2 : Hp) (us : List Value) (vs : List V), Inv X pins σ H2 s2 → Vals vs us → Rel C σ H2 ρ' h1 → RepVs C σ ρ' H2 xs vs → Stp C σ ρ H σ ρ' H2 → Shp ρ ρ' → wpAny (model X.prog X.w) X.A (call (.ref f) us) (EP X pins σ Q) X.xe s2 := fun s2 H2 us vs I2 rv R2 r2 S2 P2 => by
        have rv1 := rv0.stp S2 R.mu P2
        obtain ⟨cl, _, _⟩ := hand_ok (A := Av C σ ρ') (μ := C.μ) o hfr I2 R2 (fun _ z => z) (fun _ _ z => z) rv1 g1
        obtain ⟨_, n, f', F, fws, c1, c2, c3, c4, c5, c6, c7, c8⟩ := cl
        cases c2
        have av : Av (entC C X s2 H2 (Av C σ ρ') C.μ) [] [] = Av C σ ρ' := av_nil
        rw [av] at c8
        have en0 : Env0 Z.P Z.w Z.K Z.mg Z.base X.A X.stack s2 H2 := by
          have := I2.env0
          rw [o.P, o.w, o.XK, o.mg, o.base] at this
          exact this
        have qk : ∀ v H3, Ret (entC C X s2 H2 (Av C σ ρ') C.μ) [] [] H2 w ow h' v H3 → Q v H3 := fun v H3 ret => by
          obtain ⟨R3, S3, r3⟩ := R2.after (E := entC C X s2 H2 (Av C σ ρ') C.μ) rfl rfl rfl rfl ret
          exact k v H3 R3 r3 (S2.trans S3) P2
        have run := (Fn c n (by rw [← o.cd]; exact c1)).run f F caps fws X.A X.stack s2 H2 us vs (entC C X s2 H2 (Av C σ ρ') C.μ) ys h1 w ow h' Q c5 c3 c4 c6 (by rw [← hK]; exact c8) o.room en0 rv hK o.T o.cd rfl rfl (fun a z => z) rfl (ent_ok o hfr I2 R2 r2 g2) g3 qk
        rw [← o.P, ← o.w] at run
        refine wpAny_call (codeAny_mono run fun r s' hq => ?_)
        cases r with
        | error e => exact False.elim hq
        | ok fl =>
          cases fl with
          | ret u => exact I2.after hq
          | next => exact False.elim hq
          | brk => exact False.elim hq
          | cont => exact False.elim hq
      refine wpAny_Call_Name_kw (thn ((pe_var (pos := p) hN hv d1 d2).run pins s σ H (fun v H1 => v = .ref f ∧ H1 = H) I0 ⟨.ref f, ev0, rfl, rfl⟩) fun u s1 ⟨v, H1, I1, r1, q1⟩ => ?_)
      obtain ⟨ev, eH⟩ := q1
      subst ev
      rw [eH] at I1
      obtain rfl : u = Value.ref f := r1
      have hrun : tA C m σ H fun vs H2 => ∀ (s2 : Shared) (us : List Value), Inv X pins σ H2 s2 → Vals vs us → H2 f = some (NdefX.FnO f F0) ∧ wpAny (model X.prog X.w) X.A (call (.ref f) us) (EP X pins σ Q) X.xe s2 :=
        ⟨ρ, h, R, xs, ρ', h1, e2, fun vs H2 R2 r2 S2 P2 s2 us I2 rv => ⟨S2.st _ _ hf rfl, fin s2 H2 us vs I2 rv R2 r2 S2 P2⟩⟩
      cases es with
      | nil =>
        have q := ha.run pos pins s1 σ H _ I1 hrun
        refine fun Γ p hΓ => ?_
        have q2 : AP X pins σ (fun vs H2 => ∀ (s2 : Shared) (us : List Value), Inv X pins σ H2 s2 → Vals vs us → H2 f = some (NdefX.FnO f F0) ∧ wpAny (model X.prog X.w) X.A (call (.ref f) us) (EP X pins σ Q) X.xe s2) [] s1 := q Γ p hΓ
        obtain ⟨vs, H2, I2, r1, q3⟩ := q2
        exact (PySem.W.callWith_F0 (first := []) (NdefX.fnAt_of I1 hf) (q3 s1 [] I2 r1).2) Γ p hΓ
      | cons e es =>
        rw [List.all_cons, Bool.and_eq_true] at hs
        exact PySem.W.callWith_F (first := []) (NdefX.fnAt_of I1 hf) (thn (ha.run pos pins s1 σ H _ I1 hrun) fun us s2 ⟨vs, H2, I2, r, q⟩ => ⟨NdefX.fnAt_of I2 (q s2 us I2 r).1, (q s2 us I2 r).2⟩) (star_cons hs.1) (star_none hs.2)
end
end EV

set_option maxRecDepth 100000
set_option maxHeartbeats 4000000
/-! EvZ5: every level. -/
namespace EV
open PySem PySem.Spec PyProof.Rows L2

structure PrgF (Z : Wd) (p : Prg) (If : Nat → Inf) : Prop where
  conF : ∀ i x, p.con x = (If i).con.lookup x
  fns : ∀ i x, Z.fns[i]? = some x → ∃ q f, p.fns[i]? = some q ∧ FnF Z (If i) x q f
  nfs : ∀ c n, Z.code c n → ∃ q I, p.nfs[c]? = some q ∧ (∀ x, p.con x = I.con.lookup x) ∧ NfF Z I q.1 n
  fr : ∀ c, Z.fr c = (p.nfs[c]?.map (·.2)).getD []
section
variable {Z : Wd} {p : Prg} {If : Nat → Inf}
theorem level_con : ∀ n x, (level p n).con x = p.con x
  | 0, _ => rfl
  | _ + 1, _ => rfl
theorem level_fr (F : PrgF Z p If) : ∀ n, (level p n).fr = Z.fr
  | 0 => by funext c; exact (F.fr c).symm
  | _ + 1 => by funext c; exact (F.fr c).symm
theorem fnIs_ok {I : Inf} {f : Nat} {x : Str} (h : fnIs I f x = true) : I.fns[f]? = some x ∧ glB I.sc x = true ∧ noDunder x = true := by
  unfold fnIs at h
  simp only [Bool.and_eq_true, decide_eq_true_eq] at h
  exact ⟨h.1, h.2.1, h.2.2⟩
theorem lvl (F : PrgF Z p If) : ∀ n, CallOk Z n (level p n)
  | 0 => by
    refine ⟨fun I X C o f x es q pos m h1 h2 ha => ?_, fun I X C o f x es q pos m h1 h2 ha => ?_, fun I X C o f x e q pos m h1 h2 ha hd => ?_, fun I X C o f x es ks kws q pos m mk h1 h2 ha hk hn => ?_, fun I X C o hb i x es q pos m h1 h2 ha => ?_⟩
    · refine ⟨fun pins s σ H Q I0 q => ?_⟩
      obtain ⟨ρ, h, R, w, ρ', h', e, k⟩ := q
      obtain ⟨xs, ρ1, h1, e1, e2⟩ := M.bind_ok e
      obtain ⟨ys, h0, w1, ow, h1, e4⟩ := callM_call e2
      cases e4
    · refine ⟨fun pins s σ H Q I0 q => ?_⟩
      obtain ⟨ρ, h, b, ρ', h', R, e, k⟩ := q
      obtain ⟨xs, ρ1, h1, e1, e2⟩ := M.bind_ok e
      obtain ⟨ys, ow, _, _, e4, _⟩ := callO_ok e2
      cases e4
    · refine ⟨fun pins s σ H Q I0 q => ?_⟩
      obtain ⟨ρ, h, R, w, ρ', h', e, k⟩ := q
      obtain ⟨xs, ρ1, h1, e1, e2⟩ := M.bind_ok e
      obtain ⟨b, d, ow, h1, _, _, e4, _⟩ := callbM_ok e2
      cases e4
    · refine ⟨fun pins s σ H Q I0 q => ?_⟩
      obtain ⟨ρ, h, R, w, ρ', h', e, k⟩ := q
      obtain ⟨xs, ρ1, h1, e1, e2⟩ := M.bind_ok e
      obtain ⟨zs, ρ2, h2, e3, e4⟩ := M.bind_ok e2
      obtain ⟨ys, _, _, _, e5⟩ := callkM_ok e4
      obtain ⟨ys, ow, _, e6, _⟩ := callM0_ok e5
      cases e6
    · refine ⟨fun pins s σ H Q I0 q => ?_⟩
      obtain ⟨ρ, h, R, w, ρ', h', e, k⟩ := q
      obtain ⟨x0, ρ1, h1, e1, e2⟩ := M.bind_ok e
      obtain ⟨xs, ρ2, h2, e3, e4⟩ := M.bind_ok e2
      obtain ⟨c, caps, ys, ow, _, _, e5, _⟩ := callnM_ok e4
      cases e5
  | n + 1 => by
    have ih := lvl F n
    have gf : ∀ (I : Inf) (f : Nat) (x : Str), I.fns = Z.fns → I.fns[f]? = some x → ∃ a fd ps fo, GFn Z (n + 1) a fd ps fo ∧ (∀ ys h, (level p (n + 1)).call f ys h = fo ys h) ∧ (level p (n + 1)).arity f = ps ∧ Z.mg x = some (.ref a) ∧ PySem.W.keepIn Z.K (.ref a) = true := fun I f x e1 e2 => by
      rw [e1] at e2
      obtain ⟨q, a, h1, h2⟩ := F.fns f x e2
      obtain ⟨fd, g⟩ := gfn_of ih (fun y => (level_con n y).trans (F.conF f y)) h2
      refine ⟨a, fd, q.1, _, g, fun ys h => ?_, ?_, h2.mg, h2.kp⟩
      rotate_left
      · show (p.fns[f]?.map (·.1)).getD [] = q.1
        rw [h1]; rfl
      show (match p.fns[f]? with
        | some q => runFn (level p n) q.2 ys h
        | none => .bad) = _
      rw [h1]
    have gn : ∀ c m, Z.code c m → GNf Z (n + 1) m (fun caps ws h => (level p (n + 1)).calln c caps ws h) := fun c m hc => by
      obtain ⟨q, I, h1, hcn, h2⟩ := F.nfs c m hc
      have g := gnf_of (q := q.1) ih (fun y => (level_con n y).trans (hcn y)) h2
      have e : (fun caps ws h => (level p (n + 1)).calln c caps ws h) = runNf (level p n) q.1 := by
        funext caps ws h
        show (match p.nfs[c]? with
          | some q => runNf (level p n) q.1 caps ws h
          | none => .bad) = _
        rw [h1]
      rw [e]
      exact g
    refine ⟨fun I X C o f x es q pos m h1 h2 ha => ?_, fun I X C o f x es q pos m h1 h2 ha => ?_, fun I X C o f x e q pos m h1 h2 ha hd => ?_, fun I X C o f x es ks kws q pos m mk h1 h2 ha hk hn => ?_, fun I X C o hb i x es q pos m h1 h2 ha => ?_⟩
    · obtain ⟨f1, f2, f3⟩ := fnIs_ok h1
      obtain ⟨a, fd, ps, fo, g, e, ar, g1, g2⟩ := gf I f x o.fns f1
      exact c_call o g e (level_fr F _) f2 g1 g2 f3 h2 ha
    · obtain ⟨f1, f2, f3⟩ := fnIs_ok h1
      obtain ⟨a, fd, ps, fo, g, e, ar, g1, g2⟩ := gf I f x o.fns f1
      exact c_fresh o g e (level_fr F _) f2 g1 g2 f3 h2 ha
    · obtain ⟨f1, f2, f3⟩ := fnIs_ok h1
      obtain ⟨a, fd, ps, fo, g, e, ar, g1, g2⟩ := gf I f x o.fns f1
      exact c_callb o g e f2 g1 g2 f3 h2 ha
    · obtain ⟨f1, f2, f3⟩ := fnIs_ok h1
      obtain ⟨a, fd, ps, fo, g, e, ar, g1, g2⟩ := gf I f x o.fns f1
      exact c_callk o g e ar (level_fr F _) f2 g1 g2 f3 h2 ha hk hn
    · exact c_calln o gn (level_fr F _) h1 h2 ha
end
end EV

set_option maxRecDepth 100000
set_option maxHeartbeats 4000000
/-! EvHe: from the head's facts to the functions' facts. -/
namespace EV
open PySem PySem.Spec PyProof.Rows L2

def plainB (a : Arguments) (ps : List Str) : Bool := a.posonlyargs.isEmpty && (a.kwonlyargs.isEmpty && (a.vararg.isNone && (a.kwarg.isNone && (decide (a.args.map (·.arg) = ps) && decide ps.Nodup))))
theorem plainB_ok {a : Arguments} {ps : List Str} (h : plainB a ps = true) : a.posonlyargs = [] ∧ a.kwonlyargs = [] ∧ a.vararg = none ∧ a.kwarg = none ∧ a.args.map (·.arg) = ps ∧ ps.Nodup := by
  unfold plainB at h
  simp only [Bool.and_eq_true, List.isEmpty_iff, Option.isNone_iff_eq_none, decide_eq_true_eq] at h
  exact h
/-- the names' scope, as a look -/
def scopeB (N ps : List Str) (sc : Scope) : Bool :=
  decide (sc.kind = .function) && (!sc.isCoroutine && (!sc.isGenerator && (decide N.Nodup && (decide (N.take ps.length = ps) && (ps.all (fun x => decide (sc.names.lookup x = some .local) || decide (sc.names.lookup x = some .cell)) && sc.names.all fun y => !decide (y.2 = .free))))))
theorem scopeB_ok {N ps : List Str} {sc : Scope} (h : scopeB N ps sc = true) : FnScope N ps sc := by
  unfold scopeB at h
  simp only [Bool.and_eq_true, Bool.not_eq_true', decide_eq_true_eq, List.all_eq_true, Bool.or_eq_true, decide_eq_false_iff_not] at h
  obtain ⟨h1, h2, h3, h4, h5, h6, h7⟩ := h
  exact ⟨h1, h2, h3, h4, h5, h6, h7⟩
theorem fnf_of {Z : Wd} {I : Inf} {x : Str} {q : List Str × Fn} {f : Addr} {fd : FuncData} {params : Arguments} {body : List Stmt} {scope : Scope} (F : FunD Z.K x x params body scope [] [] f fd) (hs : scopeB I.N q.1 scope = true) (hsc : I.sc = scope) (hm : mSs I q.2.body body = true) (hp : plainB params q.1 = true)
    (hmg : Z.mg x = some (.ref f)) (hb : I.blk = false) (hn : q.2.n = q.1.length) (hmm : q.2.m = I.N.length) (hfns : I.fns = Z.fns) (hfree : ∀ x ∈ I.free, Z.mg x = none) (hcon : ConOk Z.K Z.mg I)
    (hok : ∀ c name params body scope, I.okN c ⟨name, params, body, scope, [], [], []⟩ = true → ∃ ps fr N, Z.code c ⟨name, params, body, scope, ps, fr, N⟩ ∧ NdefX.ndefB I.sc scope fr = true ∧ (Z.fr c).map (fun j => I.N[j]?) = fr.map some)
    (htb : ∀ cdv, (∃ oc od osl, Z.K.lookup f = some ⟨oc, od, .func fd, osl⟩ ∧ fd.code = cdv) → PySem.W.codeIn Z.K cdv x = true → ∀ l k, I.defs l k ≠ Str.ofString "" → ∃ c P nm, LamX.TabB Z.base Z.mg c P ∧ cdv = .ref c ∧ (P, nm) ∈ Z.T ∧ (∀ p ∈ Z.T, p.1 = P → p.2 = nm) ∧ nm l k = (x ++ ".<locals>.") ++ I.defs l k) :
    FnF Z I x q f := by
  obtain ⟨oc, od, dV, kV, doc, pm, an, cdv, ct, osl, efd, lk, hcd, hD, hK⟩ := F.ex
  obtain ⟨p1, p2, p3, p4, p5, p6⟩ := plainB_ok hp
  have eV : dV = .none := by
    rcases hD with ⟨_, e⟩ | ⟨e, _⟩
    · exact e
    · exact absurd rfl e
  refine ⟨⟨fd, ⟨oc, od, params, body, scope, dV, kV, doc, pm, an, cdv, ct, osl, efd, lk, hcd, scopeB_ok hs, hsc, hm, htb cdv ⟨oc, od, osl, lk, by rw [efd]⟩ hcd⟩, ?_⟩, hmg, F.kp, hb, hn, hmm, hfns, hfree, hcon, hok⟩
  subst efd
  exact ⟨p1, p5, p3, p2, p4, eV, p6⟩
end EV

set_option maxRecDepth 100000
set_option maxHeartbeats 4000000
/-! EvEd: the end of a law: from the script's object to the answer. -/
namespace EV
open PySem PySem.Spec PyProof.Rows L2

/-- what the law's plain side says -/
def LawRun (p : Prg) (n : Nat) (q : List Str × Fn) (ns : List Int) : Prop := ∃ o h', runFn (level p n) q.2 [.scr ns] [] = .ok (.d (.bl true)) o h'
/-- the abstract heap at the start: the tables, and the script where it is not written already -/
def hp0 (K : PySem.W.Frag) (ts : List Addr) (a : Addr) (o : Obj) (ns : List Int) : Hp := fun b =>
  if b ∈ ts then some (.tbl #[]) else if b = a ∧ K.lookup a = none then some (.frz o (.lst (ns.map V.int))) else none
section
variable {K : PySem.W.Frag} {ts : List Addr} {a b : Addr} {o : Obj} {ns : List Int} {u : HO}
theorem hp0_tab (h : b ∈ ts) : hp0 K ts a o ns b = some (.tbl #[]) := if_pos h
theorem hp0_cases (e : hp0 K ts a o ns b = some u) : (b ∈ ts ∧ u = .tbl #[]) ∨ (b ∉ ts ∧ b = a ∧ K.lookup a = none ∧ u = .frz o (.lst (ns.map V.int))) := by
  unfold hp0 at e
  by_cases h1 : b ∈ ts
  · rw [if_pos h1] at e
    exact .inl ⟨h1, (Option.some.inj e).symm⟩
  · rw [if_neg h1] at e
    by_cases h2 : b = a ∧ K.lookup a = none
    · rw [if_pos h2] at e
      exact .inr ⟨h1, h2.1, h2.2, (Option.some.inj e).symm⟩
    · rw [if_neg h2] at e; cases e
theorem hp0_none (h1 : b ∉ ts) (h2 : ¬ (b = a ∧ K.lookup a = none)) : hp0 K ts a o ns b = none := by
  unfold hp0
  rw [if_neg h1, if_neg h2]
end
/-- an empty table -/
abbrev tabO : Obj := { cls := .none, data := .fields #[] }
section
variable {p : Prg} {If : Nat → Inf} {n : Nat} {li : Nat} {x : Str} {q : List Str × Fn} {f : Addr}
theorem law_end {P : Program} {w : World} {K : PySem.W.Frag} {mg mb : Str → Option Value} {Zb : Heap → Wd} {cs : List (Addr × Addr)} {a : Addr} {s₁ : Shared} {vs : List Value} {ns : List Int}
    (hZ : ∀ b, (Zb b).P = P ∧ (Zb b).w = w ∧ (Zb b).K = K ∧ (Zb b).mg = mg ∧ (Zb b).base = b) (hZT : ∀ b, ∀ t ∈ (Zb b).T, t.1 ∈ cs.map (·.2))
    (KX : K.In s₁.heap) (gG : s₁.heap.Ns mainGlobals mg) (gB : s₁.heap.Ns builtinsNs mb) (gBb : ∀ x : Str, x ≠ "__name__" → mb x = bootBuiltins x) (gL : s₁.heap.NoLimit) (gg : s₁.gens = #[])
    (tabs : ∀ t ∈ cs, s₁.heap.get? t.2 = some tabO) (tabN : ∀ t ∈ cs, K.lookup t.2 = none) (codes : ∀ t ∈ cs, PySem.W.CodeHd s₁.heap t.1 t.2)
    (gM : ∃ (bm : Addr) (ob : Obj), mg "__builtins__" = some (.ref bm) ∧ bm ≠ builtinsNs ∧ s₁.heap.get? bm = some ob ∧ ob.cls = .type "module" ∧ ob.dict = some builtinsNs ∧ ob.data = .plain)
    (scr : s₁.heap.get? a = some { cls := .type "list", data := .seq vs.toArray }) (hints : IntsAre vs ns) (len : ns.length ≤ sizeLine) (room : Room (n + 1) callerA)
    (F : ∀ b : Heap, K.In b → b.Ns mainGlobals mg → (∀ t ∈ cs, LamX.TabB b mg t.1 t.2) → PrgF (Zb b) p If ∧ FnF (Zb b) (If li) x q f) (hq : q.1.length = 1)
    (run : LawRun p n q ns) :
    codeAny (model P w) callerA (.call (.ref f) ⟨[.ref a], []⟩) (fun r s' => r = .ok (.ret (.bool true)) ∧ OldK s₁.heap s'.heap ∧ s'.os = s₁.os ∧ AllBare s'.gens) s₁ := by
  have rv := vals_ints hints
  have lv := hints.length
  generalize ho : ({ cls := .type "list", data := .seq vs.toArray } : Obj) = ob at scr
  let ts := cs.map (·.2)
  let H := hp0 K ts a ob ns
  have inT : ∀ b ∈ ts, s₁.heap.get? b = some tabO ∧ K.lookup b = none := fun b hb => by
    obtain ⟨t, ht, e⟩ := List.mem_map.mp hb
    rw [← e]
    exact ⟨tabs t ht, tabN t ht⟩
  have aT : a ∉ ts := fun z => by
    have q := (inT a z).1
    rw [scr, ← ho] at q
    exact nomatch congrArg Obj.data (Option.some.inj q)
  -- what is not tracked stands in the base
  have plainN : ∀ {b : Addr} {o : Obj}, s₁.heap.get? b = some o → (∀ xs k, o.data ≠ .seq xs k) → o.data ≠ .fields #[] → H b = none := fun {b o} e h1 h2 => by
    refine hp0_none (fun z => h2 ?_) fun z => ?_
    · have q := (inT b z).1
      rw [e] at q
      rw [Option.some.inj q]
    · rw [z.1, scr] at e
      rw [← Option.some.inj e, ← ho] at h1
      exact h1 _ _ rfl
  have nsN : ∀ {b : Addr} {m : Str → Option Value}, s₁.heap.Ns b m → (hidT s₁.heap H).Ns b m := fun {b m} ⟨o, es, ep, e, d, r⟩ => ⟨o, es, ep, hidT_get e (plainN e (fun _ _ z => by rw [d] at z; cases z) fun z => by rw [d] at z; cases z), d, r⟩
  have Kb : K.In (hidT s₁.heap H) := fun b o e => hidT_get (KX b o e) (hp0_none (fun z => by rw [(inT b z).2] at e; cases e) fun z => by rw [z.1, z.2] at e; cases e)
  have M : L2.Mod K mg (hidT s₁.heap H) := ⟨Kb, nsN gG, ⟨mb, nsN gB, gBb⟩, let ⟨mc, h1, h2⟩ := gL; ⟨mc, nsN h1, h2⟩⟩
  have TB : ∀ t ∈ cs, LamX.TabB (hidT s₁.heap H) mg t.1 t.2 := fun t ht => by
    obtain ⟨o, us, file, tf, flags, tg, inF, text, tt, c1, r1, r2, r3, r4, r5, r6, r7, r8, ne⟩ := codes t ht
    obtain ⟨bm, om, b1, b2, b3, b4, b5, b6⟩ := gM
    obtain ⟨og, eg, pg, g1, g2, _⟩ := gG
    refine ⟨⟨o, us, file, tf, flags, tg, inF, text, tt, hidT_get c1 (plainN c1 (fun _ _ z => by rw [r2] at z; cases z) fun z => ?_), r1, r2, r3, r4, r5, r6, r7, r8, ne⟩, ⟨bm, om, b1, b2, fun z => ?_, fun z => ?_, hidT_get b3 (plainN b3 (fun _ _ z => by rw [b6] at z; cases z) fun z => by rw [b6] at z; cases z), b4, b5, b6⟩, fun z => ?_⟩
    · rw [r2] at z
      injection z with z
      rw [z] at r3
      simp at r3
    · rw [z, g1] at b3
      rw [← Option.some.inj b3, g2] at b6
      cases b6
    · rw [z, tabs t ht] at b3
      rw [← Option.some.inj b3] at b6
      cases b6
    · rw [z, tabs t ht] at g1
      rw [← Option.some.inj g1] at g2
      cases g2
  have okH : HOk P w H s₁.heap := fun b u e => by
    rcases hp0_cases e with ⟨hb, eu⟩ | ⟨_, eb, _, eu⟩
    · subst eu; exact (inT b hb).1
    · subst eu; subst eb
      exact ⟨scr, by rw [List.length_map]; exact len, vs, _, rv, by rw [scr, ← ho]⟩
  obtain ⟨z1, z2, z3, z4, z5⟩ := hZ (hidT s₁.heap H)
  obtain ⟨PF, FF⟩ := F (hidT s₁.heap H) Kb (nsN gG) TB
  obtain ⟨fd, FA, FP⟩ := FF.fd
  have e0 : Env0 P w K mg (hidT s₁.heap H) callerA [] s₁ H := ⟨rfl, M, fun b o e => of_hidT e, Nat.le_of_eq (hidT_size _ _), trivial, fun b hb => (by cases (show b ∈ ([] : List Addr) from hb)), okH, .of_eq gg⟩
  have sq : SqF K H a (ns.map V.int) := by
    cases hk : K.lookup a with
    | none =>
      refine .inl ⟨ob, ?_⟩
      show hp0 K ts a ob ns a = _
      unfold hp0
      rw [if_neg aT, if_pos ⟨rfl, hk⟩]
    | some o' =>
      have e := KX a o' hk
      rw [scr] at e
      have e := Option.some.inj e
      refine .inr ⟨o', vs.toArray, 0, hk, by rw [← e, ← ho], by rw [← e, ← ho], by rw [← e, ← ho], by rw [List.size_toArray, lv]; exact len, by simpa using rv⟩
  obtain ⟨o, h', hrun⟩ := run
  let C : Ct := { K := K, A1 := fun _ => False, μ := [], T := (Zb (hidT s₁.heap H)).T, code := (Zb (hidT s₁.heap H)).code, s0 := s₁.heap, H0 := H, nb := fun a => a ∈ frs ([] : List Env), mds := fun _ _ => False, cells := [], blk := false }
  have ent : Ent C H [.scr ns] [.ref a] [] :=
    ⟨⟨.ref a, [], rfl, ⟨a, rfl, sq⟩, rfl⟩, (fun i z => by simp at z), (fun c z => by simp at z), rfl, (fun j b z => by simp at z), (fun a z => by cases z), List.nodup_nil, (fun a z => z.elim), fun t ht => NdefX.TabN.nil (hp0_tab (hZT _ t ht))⟩
  have go := fn_core (lvl PF n) (fun y => (level_con n y).trans (PF.conF li y)) FF FA callerA [] s₁ H ⟨[.ref a], []⟩ [.ref a] [.ref a] C [.scr ns] [] (.d (.bl true)) o h' (fun v _ => v = .bl true) (fun _ _ _ => False) ⟨room, rfl⟩ (by rw [z1, z2, z3, z4, z5]; exact e0) (.of_eq (FP.pos hq.symm)) (.cons rfl .nil) z3.symm rfl rfl rfl rfl (fun _ z => z) rfl ent hrun (fun v H' ret => by
    have rv := ret.val
    cases o with
    | true => obtain ⟨_, _, _, _, z⟩ := rv; exact z.elim
    | false => exact rv)
  rw [z1, z2] at go
  refine codeAny_mono go fun r s' h => ?_
  cases r with
  | error e => exact False.elim h
  | ok fl =>
    cases fl with
    | next => exact False.elim h
    | brk => exact False.elim h
    | cont => exact False.elim h
    | ret u =>
      obtain ⟨v, H', os, bare, un, ok', rr, ev⟩ := h
      have ev : v = .bl true := ev
      subst ev
      have rr : u = Value.bool true := rr
      subst rr
      have same : ∀ b o, b ∉ ts → s₁.heap.get? b = some o → s'.heap.get? b = some o := fun b o nb e => by
        cases hb : H b with
        | none => exact un.keep b o e hb (fun z => by cases (show b ∈ ([] : List Addr) from z)) (fun z => by cases z)
        | some u =>
          rcases hp0_cases hb with ⟨z, _⟩ | ⟨_, eb, _, eu⟩
          · exact absurd z nb
          · subst eu
            have k1 := un.frzs b ob _ hb
            rw [(ok' b _ k1).1, ← e, eb, scr]
      have grown : ∀ t ∈ cs, ∃ more : Array Value, s'.heap.get? t.2 = some { cls := .none, data := .fields more } := fun t ht => by
        obtain ⟨more, k1⟩ := un.tbls t.2 #[] (hp0_tab (List.mem_map.mpr ⟨t, ht, rfl⟩))
        exact ⟨_, ok' t.2 _ k1⟩
      refine ⟨rfl, ⟨fun b o e => ?_, fun b o e => ?_⟩, os, bare⟩
      · by_cases hb : b ∈ ts
        · obtain ⟨t, ht, et⟩ := List.mem_map.mp hb
          obtain ⟨more, hm⟩ := grown t ht
          have e2 := tabs t ht
          rw [et] at hm e2
          rw [e] at e2
          have eo := Option.some.inj e2
          subst eo
          exact .inr (.inl ⟨by rw [← et]; exact ((codes t ht).tab (tabs t ht)).isCodeTable, rfl, #[], more, rfl, by rw [Array.empty_append]; exact hm⟩)
        · exact .inl (same b o hb e)
      · by_cases hb : b ∈ ts
        · obtain ⟨t, ht, et⟩ := List.mem_map.mp hb
          obtain ⟨more, hm⟩ := grown t ht
          exact ⟨_, by rw [← et]; exact hm⟩
        · exact ⟨o, same b o hb e⟩
end
end EV

set_option maxRecDepth 100000
set_option maxHeartbeats 4000000
/-! EvPk: a law's text as a table of records; from the head's facts to the law. -/
namespace EV
open PySem PySem.Spec PyProof.Rows L2

/-! ### the syntax of a def at the top -/
def stA (s : Stmt) : Arguments := match s with
  | .FunctionDef _ a _ _ _ _ _ _ _ _ => a
  | _ => ⟨[], [], none, [], [], none, []⟩
def stB (s : Stmt) : List Stmt := match s with
  | .FunctionDef _ _ b _ _ _ _ _ _ _ => b
  | _ => []
def stS (s : Stmt) : Scope := match s with
  | .FunctionDef _ _ _ _ _ _ sc _ _ _ => sc
  | _ => ⟨.function, [], false, false, []⟩
/-! ### records -/
structure FR where
  x : Str
  st : Nat
  N : List Str
  q : List Str × Fn
  d : List (Nat × Nat × Str)
structure NR where
  ps : List Str
  fr : List Str
  N : List Str
  q : Fn
  ix : List Nat
structure Txt where
  P : Program
  fs : List FR
  ns : List NR
  con : List (Str × D)
  free : List Str
  bf : List Str
def FR.at_ (T : Txt) (r : FR) : Stmt := T.P.main.body.getD r.st (.Pass ⟨0, 0, 0, 0⟩)
def dAt (d : List (Nat × Nat × Str)) (l k : Nat) : Str := match d.find? (fun t => t.1 == l && t.2.1 == k) with
  | some t => t.2.2
  | none => Str.ofString ""
def infN (T : Txt) (nr : NR) (sc : Scope) : Inf := { N := nr.N, sc := sc, blk := true, bf := T.bf, con := T.con, fns := T.fs.map (·.x), free := T.free, okN := fun _ _ => false, defs := fun _ _ => Str.ofString "" }
def nfB (T : Txt) (nr : NR) (n : NFd) : Bool := NdefX.nscB nr.N nr.ps nr.fr n.scope && (mSs (infN T nr n.scope) nr.q.body n.body && (plainB n.params nr.ps && (decide (nr.q.n = nr.ps.length) && decide (nr.q.m = nr.N.length))))
def okB (T : Txt) (r : FR) (c : Nat) (n : NFd) : Bool := match T.ns[c]? with
  | some nr => nfB T nr n && (NdefX.ndefB (stS (r.at_ T)) n.scope nr.fr && decide (nr.ix.map (fun j => r.N[j]?) = nr.fr.map some))
  | none => false
def infF (T : Txt) (r : FR) : Inf := { N := r.N, sc := stS (r.at_ T), blk := false, bf := T.bf, con := T.con, fns := T.fs.map (·.x), free := T.free, okN := okB T r, defs := dAt r.d }
def fB (T : Txt) (r : FR) : Bool := scopeB r.N r.q.1 (stS (r.at_ T)) && (mSs (infF T r) r.q.2.body (stB (r.at_ T)) && (plainB (stA (r.at_ T)) r.q.1 && (decide (r.q.2.n = r.q.1.length) && decide (r.q.2.m = r.N.length))))
def txtB (T : Txt) : Bool := T.fs.all (fB T)
def Txt.prg (T : Txt) : Prg := { con := fun x => T.con.lookup x, fns := T.fs.map (·.q), nfs := T.ns.map fun nr => (nr.q, nr.ix) }
def Txt.inf (T : Txt) (i : Nat) : Inf := match T.fs[i]? with
  | some r => infF T r
  | none => { N := [], sc := ⟨.function, [], false, false, []⟩, blk := false, con := T.con, fns := [], free := [], okN := fun _ _ => false, defs := fun _ _ => Str.ofString "" }
def Txt.code (T : Txt) (c : Nat) (n : NFd) : Prop := ∃ nr, T.ns[c]? = some nr ∧ n.ps = nr.ps ∧ n.fr = nr.fr ∧ nfB T nr n = true
def FR.hasT (r : FR) : Bool := !r.d.isEmpty
def FR.at' (r : FR) : He.Defn := (r.x, none)
def Txt.tf (T : Txt) : List He.Defn := (T.fs.filter FR.hasT).map FR.at'
def tabOfR (K : PySem.W.Frag) (r : FR) : NdefX.NTab := ((He.cT K r.at').2, fun l k => (r.x ++ ".<locals>.") ++ dAt r.d l k)
def Txt.tabs (T : Txt) (K : PySem.W.Frag) : List NdefX.NTab := (T.fs.filter FR.hasT).map (tabOfR K)
def Txt.wd (T : Txt) (w : World) (K : PySem.W.Frag) (mg : Str → Option Value) (b : Heap) : Wd := ⟨T.P, w, K, mg, b, fun c => (T.ns[c]?.map (·.ix)).getD [], T.fs.map (·.x), T.tabs K, T.code⟩
def dfOf (T : Txt) (r : FR) : He.DefD := ⟨(r.x, none), r.x, r.x, stA (r.at_ T), stB (r.at_ T), stS (r.at_ T), [], []⟩
def Txt.dfs (T : Txt) : List He.DefD := T.fs.map (dfOf T)
/-! ### constants -/
def flatVal : D → Value → Bool
  | .int i, .int j _ => decide (i = j)
  | .str x, .str y _ => decide (x = y) && (PyData.strOk x && decide (x.length ≤ sizeLine))
  | .bl b, .bool c => b == c
  | .non, .none => true
  | _, _ => false
def flatVals : List D → List Value → Bool
  | [], [] => true
  | d :: ds, v :: vs => flatVal d v && flatVals ds vs
  | _, _ => false
def conAt (K : PySem.W.Frag) (x : Str) (d : D) : Bool := match PySem.W.nsIn K mainGlobals x with
  | some (some v) => (match d with
    | .tup xs => (match v with
      | .ref a => (match K.lookup a with
        | some ⟨.type c, _, .seq its _, _⟩ => decide (c = "tuple") && (decide (its.size ≤ sizeLine) && flatVals xs its.toList)
        | _ => false)
      | _ => false)
    | d => flatVal d v)
  | _ => false
def gcdAt (K : PySem.W.Frag) (x : Str) : Bool := decide (PySem.W.nsIn K mainGlobals x = some (some (.builtin "math.gcd")))
def consB (T : Txt) (K : PySem.W.Frag) : Bool := (T.con.all fun p => conAt K p.1 p.2) && T.bf.all (gcdAt K)
theorem flatVal_ok {d : D} {u : Value} (h : flatVal d u = true) : ∃ v, RelV v u ∧ ∀ (K : PySem.W.Frag) (H : Hp) (A : Addr → Prop), RepD K H A d v := by
  cases d <;> cases u <;> first | (cases h; done) | skip
  · exact ⟨.non, rfl, fun _ _ _ => rfl⟩
  · rename_i b c
    have h : b = c := beq_iff_eq.mp h
    subst h
    exact ⟨.bl b, rfl, fun _ _ _ => rfl⟩
  · rename_i i j t
    have h : i = j := of_decide_eq_true h
    subst h
    exact ⟨.int i, ⟨t, rfl⟩, fun _ _ _ => rfl⟩
  · rename_i x y t
    have h : (decide (x = y) && (PyData.strOk x && decide (x.length ≤ sizeLine))) = true := h
    simp only [Bool.and_eq_true, decide_eq_true_eq] at h
    obtain ⟨h1, h2, h3⟩ := h
    subst h1
    exact ⟨.str x, ⟨t, rfl⟩, fun _ _ _ => ⟨rfl, h2, h3⟩⟩
theorem flatVals_ok : ∀ {ds : List D} {us : List Value}, flatVals ds us = true → ∃ vs, Vals vs us ∧ ∀ (K : PySem.W.Frag) (H : Hp) (A : Addr → Prop), RepDs K H A ds vs
  | [], [], _ => ⟨[], .nil, fun _ _ _ => rfl⟩
  | d :: ds, u :: us, h => by
    have h : (flatVal d u && flatVals ds us) = true := h
    rw [Bool.and_eq_true] at h
    obtain ⟨v, r1, q1⟩ := flatVal_ok h.1
    obtain ⟨vs, r2, q2⟩ := flatVals_ok h.2
    exact ⟨v :: vs, .cons r1 r2, fun K H A => ⟨v, vs, rfl, q1 K H A, q2 K H A⟩⟩
  | [], _ :: _, h => by cases h
  | _ :: _, [], h => by cases h
theorem conAt_ok {K : PySem.W.Frag} {h : Heap} {mg : Str → Option Value} {x : Str} {d : D} (X : K.In h) (G : h.Ns mainGlobals mg) (c : conAt K x d = true) : ∃ u v, mg x = some u ∧ RelV v u ∧ ConR K d v := by
  unfold conAt at c
  cases e : PySem.W.nsIn K mainGlobals x with
  | none => rw [e] at c; cases c
  | some r =>
    rw [e] at c
    cases r with
    | none => cases c
    | some u =>
      have hm := PySem.W.mg_of X G e
      have fl : flatVal d u = true → (∀ xs, d ≠ .tup xs) → ∃ u v, mg x = some u ∧ RelV v u ∧ ConR K d v := fun h nt => by
        obtain ⟨v, r, q⟩ := flatVal_ok h
        refine ⟨u, v, hm, r, ?_⟩
        cases d <;> first | exact absurd rfl (nt _) | exact fun H A => q K H A
      cases d with
      | tup xs =>
        cases u <;> first | (cases c; done) | skip
        rename_i a
        have c : (match K.lookup a with
          | some ⟨.type c, _, .seq its _, _⟩ => decide (c = "tuple") && (decide (its.size ≤ sizeLine) && flatVals xs its.toList)
          | _ => false) = true := c
        cases ek : K.lookup a with
        | none => rw [ek] at c; cases c
        | some o =>
          obtain ⟨oc, od, dt, sl⟩ := o
          rw [ek] at c
          cases oc <;> first | (cases c; done) | skip
          cases dt <;> first | (cases c; done) | skip
          rename_i cn its k
          have c : (decide (cn = "tuple") && (decide (its.size ≤ sizeLine) && flatVals xs its.toList)) = true := c
          simp only [Bool.and_eq_true, decide_eq_true_eq] at c
          obtain ⟨c1, c2, c3⟩ := c
          obtain ⟨vs, rv, q⟩ := flatVals_ok c3
          exact ⟨.ref a, .ref a, hm, rfl, a, vs, rfl, ⟨_, its, k, ek, by rw [c1], rfl, c2, rv⟩, fun H A => q K H A⟩
      | _ => exact fl c fun _ z => by cases z
theorem look_mem {α : Type} {x : Str} {d : α} : ∀ {l : List (Str × α)}, l.lookup x = some d → (x, d) ∈ l
  | [], h => by cases h
  | (y, e) :: r, h => by
    have h : (match x == y with | true => some e | false => r.lookup x) = some d := h
    cases q : x == y with
    | true =>
      rw [q] at h
      rw [beq_iff_eq.mp q, Option.some.inj h]
      exact List.mem_cons_self
    | false =>
      rw [q] at h
      exact List.mem_cons_of_mem _ (look_mem h)
theorem nodup_eq {α β : Type} {f : α → β} : ∀ {l : List α}, (l.map f).Nodup → ∀ x ∈ l, ∀ y ∈ l, f x = f y → x = y
  | [], _, x, hx, _, _, _ => by cases hx
  | a :: l, h, x, hx, y, hy, e => by
    obtain ⟨h1, h2⟩ := List.nodup_cons.mp (show (f a :: l.map f).Nodup from h)
    rcases List.mem_cons.mp hx with ex | hx
    · rcases List.mem_cons.mp hy with ey | hy
      · rw [ex, ey]
      · exact absurd (List.mem_map.mpr ⟨y, hy, by rw [← e, ex]⟩) h1
    · rcases List.mem_cons.mp hy with ey | hy
      · exact absurd (List.mem_map.mpr ⟨x, hx, by rw [e, ey]⟩) h1
      · exact nodup_eq h2 x hx y hy e
theorem cons_ok {T : Txt} {K : PySem.W.Frag} {h : Heap} {mg : Str → Option Value} {I : Inf} (X : K.In h) (G : h.Ns mainGlobals mg) (hc : consB T K = true) (e1 : I.con = T.con) (e2 : I.bf = T.bf) : ConOk K mg I := by
  unfold consB at hc
  rw [Bool.and_eq_true] at hc
  refine ⟨fun x d e => ?_, fun x hx => ?_⟩
  · rw [e1] at e
    exact conAt_ok X G (List.all_eq_true.mp hc.1 (x, d) (look_mem e))
  · rw [e2] at hx
    exact PySem.W.mg_of X G (of_decide_eq_true (List.all_eq_true.mp hc.2 x hx))
/-! ### from the facts to the functions -/
section
variable {T : Txt} {w : World} {K : PySem.W.Frag} {mg : Str → Option Value} {b h0 : Heap}
theorem nr_ok {nr : NR} {n : NFd} (X : K.In h0) (G : h0.Ns mainGlobals mg) (hc : consB T K = true) (hf : ∀ x ∈ T.free, mg x = none) (e1 : n.ps = nr.ps) (e2 : n.fr = nr.fr) (h : nfB T nr n = true) : NfF (T.wd w K mg b) (infN T nr n.scope) nr.q n := by
  unfold nfB at h
  simp only [Bool.and_eq_true, decide_eq_true_eq] at h
  obtain ⟨h1, h2, h3, h4, h5⟩ := h
  obtain ⟨p1, p2, p3, p4, p5, p6⟩ := plainB_ok h3
  refine { S := by rw [e1, e2]; exact NdefX.nscope_by h1, sc := rfl, blk := rfl, cel := fun _ => rfl, look := h2, nn := by rw [e1]; exact h4, m := h5, fns := rfl, free := hf, con := cons_ok X G hc rfl rfl, okN := fun _ _ => rfl, binds := fun qual cl c doc pm ctv us hl => ?_ }
  · exact bind_plain p1 (by rw [e1]; exact p5) p3 p2 p4 rfl (by rw [e1]; exact p6) hl
theorem pack {fa : List He.Fa} {ex : PySem.W.Frag → Bool} {h : Heap} (X : K.In h) (G : h.Ns mainGlobals mg) (Xb : K.In b) (Gb : b.Ns mainGlobals mg) (c : He.SaysX fa T.dfs [] T.tf ex w h K) (look : txtB T = true) (hc : consB T K = true) (glo : ∀ r ∈ T.fs, He.Fa.glo r.x ∈ fa) (fre : ∀ x ∈ T.free, He.Fa.free x ∈ fa)
    (tn : ((T.tabs K).map (·.1)).Nodup) (TB : ∀ t ∈ T.tf.map (He.cT K), LamX.TabB b mg t.1 t.2) : PrgF (T.wd w K mg b) T.prg T.inf := by
  have free : ∀ x ∈ T.free, mg x = none := fun x hx => He.free_ok X G (c.t.d.facts (fre x hx))
  have uniq : ∀ p ∈ T.tabs K, ∀ r ∈ T.tabs K, p.1 = r.1 → p = r := nodup_eq tn
  refine { conF := fun i x => ?_, fns := fun i x e => ?_, nfs := fun cc n hcn => ?_, fr := fun cc => ?_ }
  · show T.con.lookup x = (T.inf i).con.lookup x
    unfold Txt.inf
    cases T.fs[i]? <;> rfl
  · have e : (T.fs.map (·.x))[i]? = some x := e
    rw [List.getElem?_map] at e
    cases er : T.fs[i]? with
    | none => rw [er] at e; cases e
    | some r =>
      rw [er] at e
      have ex' : r.x = x := Option.some.inj e
      have hr : r ∈ T.fs := List.mem_of_getElem? er
      have lk := List.all_eq_true.mp look r hr
      unfold fB at lk
      simp only [Bool.and_eq_true, decide_eq_true_eq] at lk
      obtain ⟨l1, l2, l3, l4, l5⟩ := lk
      obtain ⟨fd, FD⟩ := c.t.d.defs (d := dfOf T r) (List.mem_map.mpr ⟨r, hr, rfl⟩)
      have ei : T.inf i = infF T r := by unfold Txt.inf; rw [er]
      refine ⟨r.q, He.ga K r.x, by show (T.fs.map (·.q))[i]? = _; rw [List.getElem?_map, er]; rfl, ?_⟩
      rw [ei, ← ex']
      refine fnf_of (params := stA (r.at_ T)) (body := stB (r.at_ T)) (scope := stS (r.at_ T)) (fd := fd) FD l1 rfl l2 l3 (He.glo_ok X G (c.t.d.facts (glo r hr))) rfl l4 l5 rfl free (cons_ok X G hc rfl rfl) (fun cc name params body scope hk => ?_) fun cdv hcd hin l k hd => ?_
      · have hk : okB T r cc ⟨name, params, body, scope, [], [], []⟩ = true := hk
        unfold okB at hk
        cases en : T.ns[cc]? with
        | none => rw [en] at hk; cases hk
        | some nr =>
          rw [en] at hk
          have hk : (nfB T nr ⟨name, params, body, scope, [], [], []⟩ && (NdefX.ndefB (stS (r.at_ T)) scope nr.fr && decide (nr.ix.map (fun j => r.N[j]?) = nr.fr.map some))) = true := hk
          simp only [Bool.and_eq_true, decide_eq_true_eq] at hk
          refine ⟨nr.ps, nr.fr, nr.N, ⟨nr, en, rfl, rfl, hk.1⟩, hk.2.1, ?_⟩
          show ((T.ns[cc]?.map (·.ix)).getD []).map (fun j => r.N[j]?) = _
          rw [en]
          exact hk.2.2
      · have hT : r.hasT = true := by
          unfold FR.hasT
          cases ed : r.d with
          | nil => exact absurd (by show dAt r.d l k = _; rw [ed]; rfl) hd
          | cons _ _ => rfl
        have hm : r ∈ T.fs.filter FR.hasT := List.mem_filter.mpr ⟨hr, hT⟩
        obtain ⟨oc, od, osl, lk, ecd⟩ := hcd
        obtain ⟨cc, ecc⟩ := He.codeIn_ref hin
        have e1 : He.codeOf K r.at' = cc := He.codeOf_eq (p := r.at') lk (by rw [ecd, ecc])
        have tb := TB (He.cT K r.at') (List.mem_map.mpr ⟨r.at', List.mem_map.mpr ⟨r, hm, rfl⟩, rfl⟩)
        refine ⟨cc, (He.cT K r.at').2, (tabOfR K r).2, ?_, ecc, List.mem_map.mpr ⟨r, hm, rfl⟩, fun p hp e2 => ?_, rfl⟩
        · have : (He.cT K r.at').1 = cc := e1
          rw [← this]
          exact tb
        · exact congrArg Prod.snd (uniq p hp (tabOfR K r) (List.mem_map.mpr ⟨r, hm, rfl⟩) e2)
  · obtain ⟨nr, en, e1, e2, hn⟩ := hcn
    refine ⟨(nr.q, nr.ix), infN T nr n.scope, by show (T.ns.map _)[cc]? = _; rw [List.getElem?_map, en]; rfl, fun x => rfl, nr_ok X G hc free e1 e2 hn⟩
  · show ((T.ns[cc]?.map (·.ix)).getD []) = (((T.ns.map fun nr => (nr.q, nr.ix))[cc]?.map (·.2)).getD [])
    rw [List.getElem?_map]
    cases T.ns[cc]? <;> rfl
end
end EV

set_option maxRecDepth 100000
set_option maxHeartbeats 4000000
/-! EvWk: from the table of records to the walk that the head asks. -/
namespace EV
open PySem PySem.Spec PyProof.Rows L2

/-- what the head tells beside the functions: the constants, the tables' addresses apart -/
def exT (T : Txt) (K : PySem.W.Frag) : Bool := consB T K && decide (((T.tabs K).map (·.1)).Nodup)
theorem walk_txt {l : PySem.W.OpenLaw} {q : Program} {loose : List Str} {XP : (Str → Option Value) → Heap → Prop} {d : DefRec} {T : Txt} {fa : List He.Fa} {m n li : Nat} {rl : FR}
    (hn : l.most = some 63) (hdf : d.params.defaults = []) (room : Room (n + 1) callerA) (hP : l.prog = T.P) (hx : d.name = rl.x) (hli : T.fs[li]? = some rl) (h1 : rl.q.1.length = 1)
    (look : txtB T = true) (glo : ∀ r ∈ T.fs, He.Fa.glo r.x ∈ fa) (fre : ∀ x ∈ T.free, He.Fa.free x ∈ fa)
    (run : ∀ ns : List Int, ns.length ≤ 63 → LawRun T.prg n rl.q ns) :
    PySem.W.WalkO q loose XP (He.hookX m fa T.dfs [] T.tf (exT T)).says l.row.toRowW d [] (fun f vs => PySem.call f vs) := by
  refine Att.attach_callB hn hdf fun w s₀ s₁ mg mb f o pm cd doc a vs ns G Y ho hd hcd hmg hobj hints hlen hbits hg => ?_
  obtain ⟨K, KX, c⟩ := Y
  have ex := c.more
  unfold exT at ex
  simp only [Bool.and_eq_true, decide_eq_true_eq] at ex
  obtain ⟨ex1, ex2⟩ := ex
  have hr : rl ∈ T.fs := List.mem_of_getElem? hli
  have hf : f = He.ga K rl.x := by
    have e := He.glo_ok KX G.T.g (c.t.d.facts (glo rl hr))
    have h2 := hmg
    rw [hx] at h2
    rw [h2] at e
    exact Value.ref.inj (Option.some.inj e)
  subst hf
  have mem : ∀ t ∈ T.tf.map (He.cT K), ∃ p ∈ T.tf, t = He.cT K p := fun t ht => by
    obtain ⟨p, hp, e⟩ := List.mem_map.mp ht
    exact ⟨p, hp, e.symm⟩
  rw [hP]
  refine law_end (p := T.prg) (If := T.inf) (n := n) (li := li) (x := rl.x) (q := rl.q) (K := K) (mg := mg) (mb := mb) (Zb := fun b => T.wd w K mg b) (cs := T.tf.map (He.cT K)) (fun b => ⟨rfl, rfl, rfl, rfl, rfl⟩) (fun b t ht => ?_) KX G.T.g G.T.b G.T.builtins G.T.nolimit hg (fun t ht => ?_) (fun t ht => ?_) (fun t ht => ?_) G.T.bmain hobj hints (Nat.le_trans hlen (by decide)) room (fun b Kb Gb TB => ?_) h1 (run ns hlen)
  · obtain ⟨r, hr, e⟩ := List.mem_map.mp (show t ∈ (T.fs.filter FR.hasT).map (tabOfR K) from ht)
    rw [← e, List.map_map]
    exact List.mem_map.mpr ⟨r.at', List.mem_map.mpr ⟨r, hr, rfl⟩, rfl⟩
  · obtain ⟨p, hp, e⟩ := mem t ht
    rw [e]; exact c.empty p hp
  · obtain ⟨p, hp, e⟩ := mem t ht
    rw [e]; exact c.out p hp
  · obtain ⟨p, hp, e⟩ := mem t ht
    rw [e]; exact PySem.W.codeHd_of_K KX (c.hd p hp)
  · have PF := pack (b := b) KX G.T.g Kb Gb c look ex1 glo fre ex2 TB
    refine ⟨PF, ?_⟩
    obtain ⟨q', f', e1, e2⟩ := PF.fns li rl.x (by show (T.fs.map (·.x))[li]? = _; rw [List.getElem?_map, hli]; rfl)
    have e1 : (T.fs.map (·.q))[li]? = some q' := e1
    rw [List.getElem?_map, hli] at e1
    have e1 := Option.some.inj e1
    have e1 : rl.q = q' := e1
    subst e1
    have e3 := e2.mg
    have e4 : mg rl.x = some (.ref (He.ga K rl.x)) := He.glo_ok KX G.T.g (c.t.d.facts (glo rl hr))
    have e3 : mg rl.x = some (.ref f') := e3
    rw [e4] at e3
    rw [Value.ref.inj (Option.some.inj e3)]
    exact e2
end EV

set_option maxRecDepth 100000
set_option maxHeartbeats 0
namespace Law
open PySem PySem.Spec PyProof.Rows L2 EV
set_option maxRecDepth 100000
/-- law(script) -/
def b_law : Fn := ⟨1, 2, [(.ret (.bi .all [(.lc (.callb 1 (.call 2 [(.v 0), (.v 1)])) (.nm 1) (.range1 (.bi .max2 [(.int 1), (.bi .min2 [(.bi .len [(.v 0)]), (.int 3)])])) [] [1])]))]⟩
def r_law : FR := ⟨.ofString "law", 69, [.ofString "script", .ofString "lap"], ([.ofString "script"], b_law), []⟩
/-- _law_right(urn) -/
def b__law_right : Fn := ⟨1, 20, [(.forr (.nm 1) (.range1 (.int 3)) [(.set (.nm 2) (.call 3 [(.v 0), (.int 6), (.int 9), (.int 2)])), (.par [(3, false), (4, false)] [(.call 4 [(.v 0), (.v 2)]), (.call 5 [(.v 0), (.v 2), (.call 6 [(.v 0), (.lst [(.int 1), (.int 3), (.int 40)])])])]), (.par [(5, false), (6, false)] [(.call 7 [(.v 2), (.v 3), (.v 4)]), (.lc (.ix (.v 7) (.int 0)) (.nm 7) (.seq (.ix (.v 2) (.int 1))) [] [7])]), (.set (.nm 8) (.bi .len [(.v 5)])), (.forr (.nm 9) (.seq (.tup [(.int 0), (.bin .Sub (.v 8) (.int 1)), (.call 8 [(.v 0), (.v 8)])])) [(.set (.nm 10) (.call 6 [(.v 0), (.lst [(.int 0), (.int 1), (.v 8), (.bin .Add (.int 1) (.call 8 [(.v 0), (.v 8)]))])])), (.set (.nm 11) (.lc (.ix (.v 5) (.bin .Mod (.bi .int [(.bin .Add (.v 9) (.v 12))]) (.v 8))) (.nm 12) (.range1 (.v 10)) [] [12])), (.set (.nm 13) (.bi .tuple [(.lc (.o2 .count (.v 11) (.v 14)) (.nm 14) (.seq (.v 6)) [] [14])])), (.setOwn 15 (.lst [(.call 9 [(.v 2), (.v 3), (.v 4), (.v 9), (.v 10)])])), (.ex (.app 15 (.callk 9 [] ["closed", "hour", "hours", "order", "canal"] [(.v 10), (.v 9), (.v 4), (.v 3), (.v 2)]))), (.ite (.cmp .NotEq (.bi2 .repr (.v 15)) (.bi2 .repr (.lst [(.v 13), (.v 13)]))) [(.ret (.bl false))] []), (.set (.nm 13) (.call 10 [(.v 5), (.v 9), (.v 10)])), (.setOwn 15 (.lst [(.call 11 [(.v 2), (.v 3), (.v 4), (.v 9), (.v 10)])])), (.ex (.app 15 (.callk 11 [] ["closed", "hour", "hours", "order", "canal"] [(.v 10), (.v 9), (.v 4), (.v 3), (.v 2)]))), (.ite (.cmp .NotEq (.bi2 .repr (.v 15)) (.bi2 .repr (.lst [(.v 13), (.v 13)]))) [(.ret (.bl false))] []), (.setOwn 16 (.bin .Mult (.lst [(.int 0)]) (.bi .len [(.v 6)]))), (.forr (.nm 17) (.range1 (.v 8)) [(.forr (.nm 12) (.range1 (.v 10)) [(.set (.nm 18) (.o2 .index (.v 6) (.ix (.v 5) (.bin .Mod (.bi .int [(.bin .Add (.v 17) (.v 12))]) (.v 8))))), (.set (.sub (.v 16) (.v 18)) (.bin .Add (.ix (.v 16) (.v 18)) (.int 1)))])]), (.setOwn 15 (.lst [(.call 12 [(.v 2), (.v 3), (.v 4), (.v 10)])])), (.ex (.app 15 (.callk 12 [] ["closed", "hours", "order", "canal"] [(.v 10), (.v 4), (.v 3), (.v 2)]))), (.ite (.bop false [(.cmp .NotEq (.bi2 .repr (.v 15)) (.bi2 .repr (.bin .Mult (.lst [(.bi .tuple [(.v 16)])]) (.int 2)))), (.cmp .NotEq (.v 16) (.lc (.bin .Mult (.v 19) (.v 10)) (.nm 19) (.seq (.v 4)) [] [19]))]) [(.ret (.bl false))] [])]), (.set (.nm 15) (.lst [(.call 9 [(.v 2), (.v 3), (.v 4), (.int 0), (.int 0)]), (.call 12 [(.v 2), (.v 3), (.v 4), (.int 0)])])), (.ite (.cmp .NotEq (.bi2 .repr (.v 15)) (.bi2 .repr (.bin .Mult (.lst [(.bin .Mult (.tup [(.int 0)]) (.bi .len [(.v 6)]))]) (.int 2)))) [(.ret (.bl false))] [])]), (.ret (.bl true))]⟩
def r__law_right : FR := ⟨.ofString "_law_right", 68, [.ofString "urn", .ofString "turn", .ofString "canal", .ofString "order", .ofString "hours", .ofString "clock", .ofString "names", .ofString "row", .ofString "whole", .ofString "hour", .ofString "closed", .ofString "shut", .ofString "k", .ofString "due", .ofString "name", .ofString "told", .ofString "sums", .ofString "first", .ofString "at", .ofString "each"], ([.ofString "urn"], b__law_right), []⟩
/-- _law_urn(script, lap) -/
def b__law_urn : Fn := ⟨2, 5, [(.set (.nm 2) (.bin .Add (.int 725087) (.bin .Mult (.int 8111) (.v 1)))), (.forr (.nm 3) (.seq (.sl (.v 0) none (some (.int 9)))) [(.set (.nm 2) (.bin .Mod (.bi .int [(.bin .Add (.bin .Add (.bin .Mult (.v 2) (.int 50021)) (.bin .Mult (.bin .Mod (.bi .int [(.v 3)]) (.int 2147483477)) (.int 13))) (.int 41))]) (.int 2147483629)))]), (.set (.nm 4) (.ife (.cmp .Lt (.v 1) (.bi .len [(.v 0)])) (.bi .int [(.ix (.v 0) (.v 1))]) (.int 0))), (.set (.nm 2) (.bin .Mod (.bi .int [(.bin .Add (.bin .Add (.bin .Mult (.v 2) (.int 59)) (.bin .Mult (.bin .Mod (.bi .int [(.v 4)]) (.int 2147483477)) (.int 30029))) (.int 5))]) (.int 2147483629))), (.retOwn (.lst [(.ife (.bop false [(.cmp .Lt (.v 4) (.int 0)), (.cmp .GtE (.v 4) (.bin .Pow (.int 10) (.int 15)))]) (.bi .abs [(.v 4)]) (.int 0)), (.v 2), (.int 0)]))]⟩
def r__law_urn : FR := ⟨.ofString "_law_urn", 59, [.ofString "script", .ofString "lap", .ofString "mixed", .ofString "cell", .ofString "own"], ([.ofString "script", .ofString "lap"], b__law_urn), []⟩
/-- _law_canal(urn, many, holds, seeps) -/
def b__law_canal : Fn := ⟨4, 10, [(.par [(4, false), (5, true)] [(.call 13 [(.v 0), (.bin .Add (.int 1) (.call 8 [(.v 0), (.int 7)]))]), (.lst [])]), (.forr (.nm 6) (.range1 (.bi .len [(.v 4)])) [(.set (.nm 7) (.ife (.bop true [(.cmp .Gt (.v 6) (.int 0)), (.cmp .Gt (.call 8 [(.v 0), (.int 4)]) (.int 0))]) (.ix (.v 4) (.call 8 [(.v 0), (.v 6)])) (.str ""))), (.ex (.app 5 (.tup [(.ix (.v 4) (.v 6)), (.v 7), (.call 6 [(.v 0), (.lst [(.int 0), (.v 2), (.bin .Add (.int 1) (.call 8 [(.v 0), (.v 2)]))])]), (.call 8 [(.v 0), (.bin .Add (.v 3) (.int 1))])])))]), (.setOwn 8 (.lst [])), (.forr (.nm 9) (.seq (.call 13 [(.v 0), (.bin .Add (.int 2) (.call 8 [(.v 0), (.bin .Sub (.v 1) (.int 1))]))])) [(.ex (.app 8 (.tup [(.v 9), (.call 6 [(.v 0), (.v 4)]), (.call 6 [(.v 0), (.lst [(.int 1), (.int 2), (.int 3), (.bin .Add (.int 1) (.call 8 [(.v 0), (.int 9)]))])])])))]), (.ret (.tup [(.bi .tuple [(.bi2 .sorted (.v 5))]), (.bi .tuple [(.bi2 .sorted (.v 8))])]))]⟩
def r__law_canal : FR := ⟨.ofString "_law_canal", 63, [.ofString "urn", .ofString "many", .ofString "holds", .ofString "seeps", .ofString "names", .ofString "rows", .ofString "at", .ofString "above", .ofString "found", .ofString "name"], ([.ofString "urn", .ofString "many", .ofString "holds", .ofString "seeps"], b__law_canal), []⟩
/-- _law_order(urn, canal) -/
def b__law_order : Fn := ⟨2, 6, [(.par [(2, true), (3, false)] [(.lc (.ix (.v 4) (.int 0)) (.nm 4) (.seq (.ix (.v 1) (.int 1))) [] [4]), (.tup [])]), (.forr (.nm 5) (.range1 (.bi .len [(.v 2)])) [(.set (.nm 3) (.bin .Add (.v 3) (.tup [(.popAt 2 (.call 8 [(.v 0), (.bi .len [(.v 2)])]))])))]), (.ret (.v 3))]⟩
def r__law_order : FR := ⟨.ofString "_law_order", 64, [.ofString "urn", .ofString "canal", .ofString "left", .ofString "found", .ofString "row", .ofString "turn"], ([.ofString "urn", .ofString "canal"], b__law_order), []⟩
/-- _law_hours(urn, canal, most) -/
def b__law_hours : Fn := ⟨3, 5, [(.set (.nm 3) (.tup [])), (.forr (.nm 4) (.seq (.ix (.v 1) (.int 1))) [(.set (.nm 3) (.bin .Add (.v 3) (.tup [(.bin .Add (.int 1) (.call 8 [(.v 0), (.v 2)]))])))]), (.ret (.v 3))]⟩
def r__law_hours : FR := ⟨.ofString "_law_hours", 65, [.ofString "urn", .ofString "canal", .ofString "most", .ofString "found", .ofString "row"], ([.ofString "urn", .ofString "canal", .ofString "most"], b__law_hours), []⟩
/-- _law_of(urn, some) -/
def b__law_of : Fn := ⟨2, 2, [(.ret (.ix (.v 1) (.call 8 [(.v 0), (.bi .len [(.v 1)])])))]⟩
def r__law_of : FR := ⟨.ofString "_law_of", 61, [.ofString "urn", .ofString "some"], ([.ofString "urn", .ofString "some"], b__law_of), []⟩
/-- _law_clock(canal, order, hours) -/
def b__law_clock : Fn := ⟨3, 7, [(.par [(3, false), (4, false)] [(.dzip (.lc (.ix (.v 5) (.int 0)) (.nm 5) (.seq (.ix (.v 0) (.int 1))) [] [5]) (.v 2)), (.lst [])]), (.forr (.nm 6) (.seq (.v 1)) [(.set (.nm 4) (.bin .Add (.v 4) (.bin .Mult (.lst [(.v 6)]) (.ix (.v 3) (.v 6)))))]), (.ret (.v 4))]⟩
def r__law_clock : FR := ⟨.ofString "_law_clock", 66, [.ofString "canal", .ofString "order", .ofString "hours", .ofString "table", .ofString "found", .ofString "row", .ofString "field"], ([.ofString "canal", .ofString "order", .ofString "hours"], b__law_clock), []⟩
/-- _law_take(urn, many) -/
def b__law_take : Fn := ⟨2, 4, [(.ite (.cmp .Gt (.ix (.v 0) (.int 0)) (.int 0)) [(.set (.tp [(.sub (.v 0) (.int 0)), (.nm 2)]) (.bi .divmod [(.ix (.v 0) (.int 0)), (.v 1)])), (.ret (.v 2))] []), (.set (.sub (.v 0) (.int 2)) (.bin .Add (.ix (.v 0) (.int 2)) (.int 1))), (.set (.nm 3) (.bin .Mod (.bi .int [(.bin .Add (.bin .Mult (.ix (.v 0) (.int 1)) (.int 40009)) (.bin .Mult (.int 15013) (.ix (.v 0) (.int 2))))]) (.int 2147483629))), (.set (.sub (.v 0) (.int 1)) (.bin .Mod (.bi .int [(.bin .Add (.bin .Mult (.v 3) (.bin .Add (.bin .Mod (.bi .int [(.v 3)]) (.int 5003)) (.int 30011))) (.bin .Mult (.int 3) (.ix (.v 0) (.int 2))))]) (.int 2147483629))), (.ret (.bin .Mod (.bi .int [(.bin .FloorDiv (.ix (.v 0) (.int 1)) (.int 907))]) (.v 1)))]⟩
def r__law_take : FR := ⟨.ofString "_law_take", 60, [.ofString "urn", .ofString "many", .ofString "figure", .ofString "stir"], ([.ofString "urn", .ofString "many"], b__law_take), []⟩
/-- lost(canal, order, hours, hour, closed) -/
def b_lost : Fn := ⟨5, 7, [(.ex (.call 14 [(.v 0), (.v 1), (.v 2), (.v 3), (.v 4)])), (.set (.nm 5) (.call 15 [(.v 0), (.v 1), (.v 2)])), (.ret (.bi .tuple [(.lc (.call 17 [(.ix (.v 5) (.v 6)), (.bi .sum [(.v 2)]), (.v 3), (.v 4)]) (.nm 6) (.seq (.call 16 [(.v 0)])) [] [6])]))]⟩
def r_lost : FR := ⟨.ofString "lost", 55, [.ofString "canal", .ofString "order", .ofString "hours", .ofString "hour", .ofString "closed", .ofString "times", .ofString "field"], ([.ofString "canal", .ofString "order", .ofString "hours", .ofString "hour", .ofString "closed"], b_lost), []⟩
/-- _law_put(clock, hour, closed) -/
def b__law_put : Fn := ⟨3, 6, [(.setOwn 3 (.lst [])), (.forr (.nm 4) (.range1 (.bi .len [(.v 0)])) [(.set (.nm 5) (.bin .Add (.v 4) (.ife (.cmp .GtE (.v 4) (.v 1)) (.v 2) (.int 0)))), (.ite (.bop true [(.cmp .NotEq (.v 3) (.lst [])), (.cmp .Eq (.ix (.ix (.v 3) (.neg (.int 1))) (.int 0)) (.ix (.v 0) (.v 4))), (.cmp .Eq (.ix (.ix (.v 3) (.neg (.int 1))) (.int 2)) (.v 5))]) [(.set (.sub (.v 3) (.neg (.int 1))) (.tup [(.ix (.v 0) (.v 4)), (.ix (.ix (.v 3) (.neg (.int 1))) (.int 1)), (.bin .Add (.v 5) (.int 1))]))] [(.ex (.app 3 (.tup [(.ix (.v 0) (.v 4)), (.v 5), (.bin .Add (.v 5) (.int 1))])))])]), (.ret (.bi .tuple [(.v 3)]))]⟩
def r__law_put : FR := ⟨.ofString "_law_put", 67, [.ofString "clock", .ofString "hour", .ofString "closed", .ofString "found", .ofString "at", .ofString "here"], ([.ofString "clock", .ofString "hour", .ofString "closed"], b__law_put), []⟩
/-- put_off(canal, order, hours, hour, closed) -/
def b_put_off : Fn := ⟨5, 7, [(.ex (.call 14 [(.v 0), (.v 1), (.v 2), (.v 3), (.v 4)])), (.setOwn 5 (.lst [])), (.forr (.nm 6) (.seq (.call 18 [(.v 0), (.v 1), (.v 2)])) [(.ex (.ext 5 (.call 19 [(.v 6), (.v 3), (.v 4)])))]), (.ret (.bi .tuple [(.v 5)]))]⟩
def r_put_off : FR := ⟨.ofString "put_off", 56, [.ofString "canal", .ofString "order", .ofString "hours", .ofString "hour", .ofString "closed", .ofString "found", .ofString "turn"], ([.ofString "canal", .ofString "order", .ofString "hours", .ofString "hour", .ofString "closed"], b_put_off), []⟩
/-- lost_over_all(canal, order, hours, closed) -/
def b_lost_over_all : Fn := ⟨4, 5, [(.ex (.call 20 [(.v 0), (.v 1), (.v 2)])), (.ex (.call 21 [(.v 3), (.int 0), (.bi .sum [(.v 2)])])), (.ret (.bi .tuple [(.lc (.bin .Mult (.v 4) (.v 3)) (.nm 4) (.seq (.v 2)) [] [4])]))]⟩
def r_lost_over_all : FR := ⟨.ofString "lost_over_all", 57, [.ofString "canal", .ofString "order", .ofString "hours", .ofString "closed", .ofString "own"], ([.ofString "canal", .ofString "order", .ofString "hours", .ofString "closed"], b_lost_over_all), []⟩
/-- _law_names(urn, many) -/
def b__law_names : Fn := ⟨2, 9, [(.par [(2, true), (3, false)] [(.lst []), (.str "abcdefghijklmnopqrstuvwxyz")]), (.forr (.nm 4) (.range1 (.v 1)) [(.par [(5, false), (6, false)] [(.call 6 [(.v 0), (.lst [(.int 0), (.int 0), (.int 1), (.int 3), (.int 6)])]), (.str "")]), (.forr (.nm 7) (.range1 (.v 5)) [(.set (.nm 6) (.bin .Add (.v 6) (.call 6 [(.v 0), (.v 3)])))]), (.set (.nm 8) (.call 8 [(.v 0), (.bin .Add (.v 5) (.int 1))])), (.set (.nm 6) (.bin .Add (.bin .Add (.bin .Add (.sl (.v 6) none (some (.v 8))) (.ix (.v 3) (.v 4))) (.sl (.str "q") none (some (.v 5)))) (.sl (.v 6) (some (.v 8)) none))), (.ex (.app 2 (.ife (.cmp .NotIn (.v 6) (.v 2)) (.v 6) (.bin .Add (.bin .Mult (.ix (.v 3) (.v 4)) (.int 7)) (.str "q")))))]), (.retNm 2)]⟩
def r__law_names : FR := ⟨.ofString "_law_names", 62, [.ofString "urn", .ofString "many", .ofString "found", .ofString "letters", .ofString "turn", .ofString "size", .ofString "name", .ofString "lap", .ofString "at"], ([.ofString "urn", .ofString "many"], b__law_names), []⟩
/-- check_closing(canal, order, hours, hour, closed) -/
def b_check_closing : Fn := ⟨5, 5, [(.ex (.call 20 [(.v 0), (.v 1), (.v 2)])), (.ex (.call 21 [(.v 3), (.int 0), (.bin .Sub (.bi .sum [(.v 2)]) (.int 1))])), (.ex (.call 21 [(.v 4), (.int 0), (.bi .sum [(.v 2)])]))]⟩
def r_check_closing : FR := ⟨.ofString "check_closing", 51, [.ofString "canal", .ofString "order", .ofString "hours", .ofString "hour", .ofString "closed"], ([.ofString "canal", .ofString "order", .ofString "hours", .ofString "hour", .ofString "closed"], b_check_closing), []⟩
/-- times_by(canal, order, hours) -/
def b_times_by : Fn := ⟨3, 6, [(.retOwn (.dc (.v 3) (.tup [(.v 4), (.v 5)]) (.tp [(.nm 3), (.nm 4), (.nm 5)]) (.seq (.call 18 [(.v 0), (.v 1), (.v 2)])) [] [3, 4, 5] false))]⟩
def r_times_by : FR := ⟨.ofString "times_by", 49, [.ofString "canal", .ofString "order", .ofString "hours", .ofString "field", .ofString "start", .ofString "end"], ([.ofString "canal", .ofString "order", .ofString "hours"], b_times_by), []⟩
/-- names_of(canal) -/
def b_names_of : Fn := ⟨1, 2, [(.ret (.bi .tuple [(.lc (.ix (.v 1) (.int 0)) (.nm 1) (.seq (.ix (.v 0) (.int 1))) [] [1])]))]⟩
def r_names_of : FR := ⟨.ofString "names_of", 34, [.ofString "canal", .ofString "field"], ([.ofString "canal"], b_names_of), []⟩
/-- lost_by(times, week, hour, closed) -/
def b_lost_by : Fn := ⟨4, 6, [(.set (.tp [(.nm 4), (.nm 5)]) (.v 0)), (.ret (.bin .Add (.call 22 [(.v 4), (.v 5), (.v 2), (.bin .Add (.v 2) (.v 3))]) (.call 22 [(.bin .Add (.v 4) (.v 1)), (.bin .Add (.v 5) (.v 1)), (.v 2), (.bin .Add (.v 2) (.v 3))])))]⟩
def r_lost_by : FR := ⟨.ofString "lost_by", 53, [.ofString "times", .ofString "week", .ofString "hour", .ofString "closed", .ofString "start", .ofString "end"], ([.ofString "times", .ofString "week", .ofString "hour", .ofString "closed"], b_lost_by), []⟩
/-- turns_of(canal, order, hours) -/
def b_turns_of : Fn := ⟨3, 7, [(.par [(3, false), (4, true), (5, false)] [(.call 23 [(.v 0), (.v 2)]), (.lst []), (.int 0)]), (.forr (.nm 6) (.seq (.v 1)) [(.ex (.app 4 (.tup [(.v 6), (.v 5), (.bin .Add (.v 5) (.ix (.v 3) (.v 6)))]))), (.aug 5 .Add (.ix (.v 3) (.v 6)))]), (.retNm 4)]⟩
def r_turns_of : FR := ⟨.ofString "turns_of", 48, [.ofString "canal", .ofString "order", .ofString "hours", .ofString "own", .ofString "found", .ofString "start", .ofString "field"], ([.ofString "canal", .ofString "order", .ofString "hours"], b_turns_of), []⟩
/-- put_behind(turn, hour, closed) -/
def b_put_behind : Fn := ⟨3, 6, [(.set (.tp [(.nm 3), (.nm 4), (.nm 5)]) (.v 0)), (.ite (.bop false [(.cmp .LtE (.v 5) (.v 1)), (.cmp .Eq (.v 2) (.int 0))]) [(.retOwn (.lst [(.v 0)]))] []), (.ite (.cmp .GtE (.v 4) (.v 1)) [(.retOwn (.lst [(.tup [(.v 3), (.bin .Add (.v 4) (.v 2)), (.bin .Add (.v 5) (.v 2))])]))] []), (.retOwn (.lst [(.tup [(.v 3), (.v 4), (.v 1)]), (.tup [(.v 3), (.bin .Add (.v 1) (.v 2)), (.bin .Add (.v 5) (.v 2))])]))]⟩
def r_put_behind : FR := ⟨.ofString "put_behind", 54, [.ofString "turn", .ofString "hour", .ofString "closed", .ofString "field", .ofString "start", .ofString "end"], ([.ofString "turn", .ofString "hour", .ofString "closed"], b_put_behind), []⟩
/-- check_week_turns(canal, order, hours) -/
def b_check_week_turns : Fn := ⟨3, 3, [(.ex (.call 24 [(.v 0), (.v 1)])), (.ex (.call 25 [(.v 0), (.v 2)]))]⟩
def r_check_week_turns : FR := ⟨.ofString "check_week_turns", 44, [.ofString "canal", .ofString "order", .ofString "hours"], ([.ofString "canal", .ofString "order", .ofString "hours"], b_check_week_turns), []⟩
/-- check_number(value, low, high) -/
def b_check_number : Fn := ⟨3, 3, [(.ite (.not (.call 26 [(.v 0), (.v 1), (.v 2)])) [.nev] [])]⟩
def r_check_number : FR := ⟨.ofString "check_number", 12, [.ofString "value", .ofString "low", .ofString "high"], ([.ofString "value", .ofString "low", .ofString "high"], b_check_number), []⟩
/-- overlap(first, last, start, end) -/
def b_overlap : Fn := ⟨4, 4, [(.ret (.bi .max2 [(.int 0), (.bin .Sub (.bi .min2 [(.v 1), (.v 3)]) (.bi .max2 [(.v 0), (.v 2)]))]))]⟩
def r_overlap : FR := ⟨.ofString "overlap", 52, [.ofString "first", .ofString "last", .ofString "start", .ofString "end"], ([.ofString "first", .ofString "last", .ofString "start", .ofString "end"], b_overlap), []⟩
/-- hours_by(canal, hours) -/
def b_hours_by : Fn := ⟨2, 2, [(.ret (.dzip (.call 16 [(.v 0)]) (.v 1)))]⟩
def r_hours_by : FR := ⟨.ofString "hours_by", 46, [.ofString "canal", .ofString "hours"], ([.ofString "canal", .ofString "hours"], b_hours_by), []⟩
/-- check_turns(canal, order) -/
def b_check_turns : Fn := ⟨2, 2, [(.ex (.call 27 [(.v 0)])), (.ex (.call 28 [(.v 0), (.v 1)]))]⟩
def r_check_turns : FR := ⟨.ofString "check_turns", 41, [.ofString "canal", .ofString "order"], ([.ofString "canal", .ofString "order"], b_check_turns), []⟩
/-- check_hours(canal, value) -/
def b_check_hours : Fn := ⟨2, 3, [(.set (.nm 2) (.call 29 [(.v 0), (.int 1), (.g "MOST_HOURS"), (.v 1)])), (.ite (.cmp .NotEq (.v 2) (.lst [])) [.nev] [])]⟩
def r_check_hours : FR := ⟨.ofString "check_hours", 43, [.ofString "canal", .ofString "value", .ofString "wrong"], ([.ofString "canal", .ofString "value"], b_check_hours), []⟩
/-- is_number(value, low, high) -/
def b_is_number : Fn := ⟨3, 3, [(.ite (.bop false [(.not (.call 30 [(.v 0)])), (.bop true [(.cmp .IsNot (.v 1) .non), (.cmp .Lt (.v 0) (.v 1))])]) [(.ret (.bl false))] []), (.ret (.bop false [(.cmp .Is (.v 2) .non), (.cmp .LtE (.v 0) (.v 2))]))]⟩
def r_is_number : FR := ⟨.ofString "is_number", 11, [.ofString "value", .ofString "low", .ofString "high"], ([.ofString "value", .ofString "low", .ofString "high"], b_is_number), []⟩
/-- check_canal(value) -/
def b_check_canal : Fn := ⟨1, 1, [(.ite (.not (.call 31 [(.v 0)])) [.nev] [])]⟩
def r_check_canal : FR := ⟨.ofString "check_canal", 37, [.ofString "value"], ([.ofString "value"], b_check_canal), []⟩
/-- check_order(canal, value) -/
def b_check_order : Fn := ⟨2, 2, [(.ex (.call 32 [(.call 16 [(.v 0)]), (.v 1)]))]⟩
def r_check_order : FR := ⟨.ofString "check_order", 40, [.ofString "canal", .ofString "value"], ([.ofString "canal", .ofString "value"], b_check_order), []⟩
/-- wrong_hours(canal, least, most, value) -/
def b_wrong_hours : Fn := ⟨4, 5, [(.ndef 4 0), (.ret (.call 33 [(.v 3), (.bi .len [(.ix (.v 0) (.int 1))]), (.v 4)]))]⟩
def r_wrong_hours : FR := ⟨.ofString "wrong_hours", 42, [.ofString "canal", .ofString "least", .ofString "most", .ofString "value", .ofString "is_right"], ([.ofString "canal", .ofString "least", .ofString "most", .ofString "value"], b_wrong_hours), [(122, 4, .ofString "is_right")]⟩
/-- is_whole(value) -/
def b_is_whole : Fn := ⟨1, 1, [(.ret (.bop true [(.isi (.v 0) .int), (.not (.isi (.v 0) .bool))]))]⟩
def r_is_whole : FR := ⟨.ofString "is_whole", 10, [.ofString "value"], ([.ofString "value"], b_is_whole), []⟩
/-- is_canal_form(value) -/
def b_is_canal_form : Fn := ⟨1, 2, [(.ite (.bop false [(.not (.call 34 [(.v 0), (.int 2)])), (.not (.call 35 [(.ix (.v 0) (.int 0))])), (.not (.call 36 [(.ix (.v 0) (.int 0))]))]) [(.ret (.bl false))] []), (.ret (.call 37 [(.lc (.ix (.v 1) (.int 0)) (.nm 1) (.seq (.ix (.v 0) (.int 0))) [] [1]), (.ix (.v 0) (.int 1))]))]⟩
def r_is_canal_form : FR := ⟨.ofString "is_canal_form", 33, [.ofString "value", .ofString "stretch"], ([.ofString "value"], b_is_canal_form), []⟩
/-- check_round_of(fields, value) -/
def b_check_round_of : Fn := ⟨2, 3, [(.set (.nm 2) (.call 38 [(.v 0), (.v 1)])), (.ite (.cmp .NotEq (.v 2) (.lst [])) [.nev] [])]⟩
def r_check_round_of : FR := ⟨.ofString "check_round_of", 39, [.ofString "fields", .ofString "value", .ofString "wrong"], ([.ofString "fields", .ofString "value"], b_check_round_of), []⟩
/-- wrong_for_all(values, many, is_right) -/
def b_wrong_for_all : Fn := ⟨3, 4, [(.set (.nm 3) (.call 39 [(.v 0), .non, (.v 2)])), (.ite (.bop true [(.cmp .Eq (.v 3) (.lst [])), (.cmp .NotEq (.bi .len [(.v 0)]) (.v 1))]) [(.retOwn (.lst [.non]))] []), (.ret (.v 3))]⟩
def r_wrong_for_all : FR := ⟨.ofString "wrong_for_all", 16, [.ofString "values", .ofString "many", .ofString "is_right", .ofString "found"], ([.ofString "values", .ofString "many", .ofString "is_right"], b_wrong_for_all), []⟩
/-- is_tuple_of(value, many) -/
def b_is_tuple_of : Fn := ⟨2, 2, [(.ret (.bop true [(.isi (.v 0) .tuple), (.cmp .Eq (.bi .len [(.v 0)]) (.v 1))]))]⟩
def r_is_tuple_of : FR := ⟨.ofString "is_tuple_of", 13, [.ofString "value", .ofString "many"], ([.ofString "value", .ofString "many"], b_is_tuple_of), []⟩
/-- are_stretches_form(value) -/
def b_are_stretches_form : Fn := ⟨1, 2, [(.ndef 1 1), (.ret (.cmp .Eq (.call 41 [(.v 0), (.g "MOST_STRETCHES"), (.v 1)]) (.lst [])))]⟩
def r_are_stretches_form : FR := ⟨.ofString "are_stretches_form", 29, [.ofString "value", .ofString "is_right"], ([.ofString "value"], b_are_stretches_form), [(77, 4, .ofString "is_right")]⟩
/-- all_lead_up(stretches) -/
def b_all_lead_up : Fn := ⟨1, 5, [(.set (.nm 1) (.call 42 [(.v 0)])), (.set (.nm 2) (.lst [(.g "HEAD")])), (.forr (.nm 3) (.range1 (.bi .len [(.v 0)])) [(.set (.nm 2) (.bin .Add (.v 2) (.lc (.v 4) (.nm 4) (.seq (.v 1)) [(.bop true [(.cmp .NotIn (.v 4) (.v 2)), (.cmp .In (.ix (.v 1) (.v 4)) (.v 2))])] [4])))]), (.ret (.cmp .Eq (.bi .len [(.v 2)]) (.bin .Add (.bi .len [(.v 0)]) (.int 1))))]⟩
def r_all_lead_up : FR := ⟨.ofString "all_lead_up", 31, [.ofString "stretches", .ofString "above", .ofString "reached", .ofString "turn", .ofString "name"], ([.ofString "stretches"], b_all_lead_up), []⟩
/-- are_fields_form(names, value) -/
def b_are_fields_form : Fn := ⟨2, 3, [(.ndef 2 2), (.ret (.bop true [(.cmp .Eq (.call 41 [(.v 1), (.g "MOST_FIELDS"), (.v 2)]) (.lst [])), (.cmp .GtE (.bi .len [(.v 1)]) (.g "LEAST_FIELDS"))]))]⟩
def r_are_fields_form : FR := ⟨.ofString "are_fields_form", 32, [.ofString "names", .ofString "value", .ofString "is_right"], ([.ofString "names", .ofString "value"], b_are_fields_form), [(90, 4, .ofString "is_right")]⟩
/-- wrong_round(fields, value) -/
def b_wrong_round : Fn := ⟨2, 3, [(.ndef 2 3), (.ret (.call 33 [(.v 1), (.bi .len [(.v 0)]), (.v 2)]))]⟩
def r_wrong_round : FR := ⟨.ofString "wrong_round", 38, [.ofString "fields", .ofString "value", .ofString "is_right"], ([.ofString "fields", .ofString "value"], b_wrong_round), [(108, 4, .ofString "is_right")]⟩
/-- wrong_at(values, most, is_right) -/
def b_wrong_at : Fn := ⟨3, 5, [(.ite (.not (.isi (.v 0) .tuple)) [(.retOwn (.lst [.non]))] []), (.forr (.tp [(.nm 3), (.nm 4)]) (.enum (.v 0)) [(.ite (.bop false [(.cmp .Eq (.v 3) (.v 1)), (.not (.calln 2 [(.v 4), (.sl (.v 0) none (some (.v 3)))]))]) [(.retOwn (.lst [(.v 3)]))] [])]), (.retOwn (.lst []))]⟩
def r_wrong_at : FR := ⟨.ofString "wrong_at", 14, [.ofString "values", .ofString "most", .ofString "is_right", .ofString "at", .ofString "value"], ([.ofString "values", .ofString "most", .ofString "is_right"], b_wrong_at), []⟩
/-- is_stretch_form(value) -/
def b_is_stretch_form : Fn := ⟨1, 1, [(.ite (.bop false [(.not (.call 34 [(.v 0), (.int 4)])), (.not (.call 43 [(.ix (.v 0) (.int 0))])), (.not (.isi (.ix (.v 0) (.int 1)) .str))]) [(.ret (.bl false))] []), (.ret (.bop true [(.call 26 [(.ix (.v 0) (.int 2)), (.int 0), (.g "MOST_HOLDS")]), (.call 26 [(.ix (.v 0) (.int 3)), (.int 0), (.g "MOST_SEEPS")])]))]⟩
def r_is_stretch_form : FR := ⟨.ofString "is_stretch_form", 28, [.ofString "value"], ([.ofString "value"], b_is_stretch_form), []⟩
/-- wrong_from_one(values, most, is_right) -/
def b_wrong_from_one : Fn := ⟨3, 3, [(.ite (.bop false [(.not (.isi (.v 0) .tuple)), (.cmp .Eq (.v 0) (.tup []))]) [(.retOwn (.lst [.non]))] []), (.ret (.call 39 [(.v 0), (.v 1), (.v 2)]))]⟩
def r_wrong_from_one : FR := ⟨.ofString "wrong_from_one", 15, [.ofString "values", .ofString "most", .ofString "is_right"], ([.ofString "values", .ofString "most", .ofString "is_right"], b_wrong_from_one), []⟩
/-- above_by(stretches) -/
def b_above_by : Fn := ⟨1, 5, [(.retOwn (.dc (.v 1) (.v 2) (.tp [(.nm 1), (.nm 2), (.nm 3), (.nm 4)]) (.seq (.v 0)) [] [1, 2, 3, 4] false))]⟩
def r_above_by : FR := ⟨.ofString "above_by", 30, [.ofString "stretches", .ofString "name", .ofString "above", .ofString "holds", .ofString "seeps"], ([.ofString "stretches"], b_above_by), []⟩
/-- is_name(value) -/
def b_is_name : Fn := ⟨1, 1, [(.ret (.bop true [(.call 45 [(.v 0), (.int 1), (.g "MOST_IN_NAME")]), (.cmp .NotIn (.v 0) (.g "WORDS"))]))]⟩
def r_is_name : FR := ⟨.ofString "is_name", 18, [.ofString "value"], ([.ofString "value"], b_is_name), []⟩
/-- is_one_of(value, words) -/
def b_is_one_of : Fn := ⟨2, 2, [(.ret (.bop true [(.isi (.v 0) .str), (.cmp .In (.v 0) (.v 1))]))]⟩
def r_is_one_of : FR := ⟨.ofString "is_one_of", 19, [.ofString "value", .ofString "words"], ([.ofString "value", .ofString "words"], b_is_one_of), []⟩
/-- is_letters(value, least, most) -/
def b_is_letters : Fn := ⟨3, 4, [(.ite (.bop false [(.not (.isi (.v 0) .str)), (.not (.ch .LtE .LtE (.v 1) (.bi .len [(.v 0)]) (.v 2)))]) [(.ret (.bl false))] []), (.ret (.bi .all [(.lc (.cmp .In (.v 3) (.g "SMALL_LETTERS")) (.nm 3) (.seq (.v 0)) [] [3])]))]⟩
def r_is_letters : FR := ⟨.ofString "is_letters", 17, [.ofString "value", .ofString "least", .ofString "most", .ofString "letter"], ([.ofString "value", .ofString "least", .ofString "most"], b_is_letters), []⟩
/-- is_right in wrong_hours: captures ['least', 'most'], names ['each', 'before', 'least', 'most'] -/
def n_0 : NR := ⟨[.ofString "each", .ofString "before"], [.ofString "least", .ofString "most"], [.ofString "each", .ofString "before", .ofString "least", .ofString "most"], ⟨2, 4, [(.ret (.call 26 [(.v 0), (.v 2), (.v 3)]))]⟩, [1, 2]⟩
/-- is_right in are_stretches_form: captures [], names ['each', 'before'] -/
def n_1 : NR := ⟨[.ofString "each", .ofString "before"], [], [.ofString "each", .ofString "before"], ⟨2, 2, [(.ret (.bop true [(.call 40 [(.v 0)]), (.bop false [(.cmp .Eq (.v 1) (.tup [])), (.cmp .Lt (.ix (.ix (.v 1) (.neg (.int 1))) (.int 0)) (.ix (.v 0) (.int 0)))])]))]⟩, []⟩
/-- is_right in are_fields_form: captures ['names'], names ['each', 'before', 'names'] -/
def n_2 : NR := ⟨[.ofString "each", .ofString "before"], [.ofString "names"], [.ofString "each", .ofString "before", .ofString "names"], ⟨2, 3, [(.ite (.bop false [(.not (.call 34 [(.v 0), (.int 3)])), (.not (.call 43 [(.ix (.v 0) (.int 0))])), (.not (.call 44 [(.ix (.v 0) (.int 1)), (.v 2)]))]) [(.ret (.bl false))] []), (.ret (.bop true [(.call 26 [(.ix (.v 0) (.int 2)), (.int 1), (.g "MOST_LAND")]), (.bop false [(.cmp .Eq (.v 1) (.tup [])), (.cmp .Lt (.ix (.ix (.v 1) (.neg (.int 1))) (.int 0)) (.ix (.v 0) (.int 0)))])]))]⟩, [0]⟩
/-- is_right in wrong_round: captures ['fields'], names ['each', 'before', 'fields'] -/
def n_3 : NR := ⟨[.ofString "each", .ofString "before"], [.ofString "fields"], [.ofString "each", .ofString "before", .ofString "fields"], ⟨2, 3, [(.ret (.bop true [(.call 44 [(.v 0), (.v 2)]), (.cmp .NotIn (.v 0) (.v 1))]))]⟩, [0]⟩
def cons : List (Str × D) := [(.ofString "SMALL_LETTERS", (.str "abcdefghijklmnopqrstuvwxyz")), (.ofString "MOST_IN_NAME", (.int 8)), (.ofString "WORDS", (.tup [(.str "above"), (.str "all"), (.str "at"), (.str "book"), (.str "by"), (.str "canal"), (.str "close"), (.str "closed"), (.str "fair"), (.str "field"), (.str "fields"), (.str "fill"), (.str "from"), (.str "get"), (.str "give"), (.str "head"), (.str "holds"), (.str "hours"), (.str "in"), (.str "land"), (.str "least"), (.str "lend"), (.str "no"), (.str "none"), (.str "of"), (.str "on"), (.str "out"), (.str "owes"), (.str "pay"), (.str "round"), (.str "seeps"), (.str "sell"), (.str "stretch"), (.str "swap"), (.str "take"), (.str "to"), (.str "turn"), (.str "turns"), (.str "week"), (.str "yes")])), (.ofString "MOST_STRETCHES", (.int 14)), (.ofString "LEAST_FIELDS", (.int 2)), (.ofString "MOST_FIELDS", (.int 7)), (.ofString "MOST_HOLDS", (.int 999)), (.ofString "MOST_SEEPS", (.int 99)), (.ofString "MOST_LAND", (.int 999)), (.ofString "HEAD", (.str "")), (.ofString "MOST_HOURS", (.int 168))]
def tx : Txt := ⟨PySem.Challenge.pw_waterturns_k72_whole_closings_led_hour_b, [r_law, r__law_right, r__law_urn, r__law_canal, r__law_order, r__law_hours, r__law_of, r__law_clock, r__law_take, r_lost, r__law_put, r_put_off, r_lost_over_all, r__law_names, r_check_closing, r_times_by, r_names_of, r_lost_by, r_turns_of, r_put_behind, r_check_week_turns, r_check_number, r_overlap, r_hours_by, r_check_turns, r_check_hours, r_is_number, r_check_canal, r_check_order, r_wrong_hours, r_is_whole, r_is_canal_form, r_check_round_of, r_wrong_for_all, r_is_tuple_of, r_are_stretches_form, r_all_lead_up, r_are_fields_form, r_wrong_round, r_wrong_at, r_is_stretch_form, r_wrong_from_one, r_above_by, r_is_name, r_is_one_of, r_is_letters], [n_0, n_1, n_2, n_3], cons, [.ofString "ValueError", .ofString "enumerate", .ofString "all", .ofString "range", .ofString "tuple", .ofString "dict", .ofString "max", .ofString "isinstance", .ofString "int", .ofString "str", .ofString "len", .ofString "zip", .ofString "sum", .ofString "divmod", .ofString "bool", .ofString "min", .ofString "abs", .ofString "sorted", .ofString "repr", .ofString "super"], []⟩
def pr : Prg := tx.prg
end Law

set_option maxRecDepth 100000
set_option maxHeartbeats 0
namespace LawE
open PySem PySem.Spec PyProof.Rows L2 EV Law
def fa0 : List He.Fa := [.glo (.ofString "law"), .glo (.ofString "_law_right"), .glo (.ofString "_law_urn"), .glo (.ofString "_law_canal"), .glo (.ofString "_law_order"), .glo (.ofString "_law_hours"), .glo (.ofString "_law_of"), .glo (.ofString "_law_clock"), .glo (.ofString "_law_take"), .glo (.ofString "lost"), .glo (.ofString "_law_put"), .glo (.ofString "put_off"), .glo (.ofString "lost_over_all"), .glo (.ofString "_law_names"), .glo (.ofString "check_closing"), .glo (.ofString "times_by"), .glo (.ofString "names_of"), .glo (.ofString "lost_by"), .glo (.ofString "turns_of"), .glo (.ofString "put_behind"), .glo (.ofString "check_week_turns"), .glo (.ofString "check_number"), .glo (.ofString "overlap"), .glo (.ofString "hours_by"), .glo (.ofString "check_turns"), .glo (.ofString "check_hours"), .glo (.ofString "is_number"), .glo (.ofString "check_canal"), .glo (.ofString "check_order"), .glo (.ofString "wrong_hours")]
def fa1 : List He.Fa := [.glo (.ofString "is_whole"), .glo (.ofString "is_canal_form"), .glo (.ofString "check_round_of"), .glo (.ofString "wrong_for_all"), .glo (.ofString "is_tuple_of"), .glo (.ofString "are_stretches_form"), .glo (.ofString "all_lead_up"), .glo (.ofString "are_fields_form"), .glo (.ofString "wrong_round"), .glo (.ofString "wrong_at"), .glo (.ofString "is_stretch_form"), .glo (.ofString "wrong_from_one"), .glo (.ofString "above_by"), .glo (.ofString "is_name"), .glo (.ofString "is_one_of"), .glo (.ofString "is_letters"), .free (.ofString "ValueError"), .free (.ofString "enumerate"), .free (.ofString "all"), .free (.ofString "range"), .free (.ofString "tuple"), .free (.ofString "dict"), .free (.ofString "max"), .free (.ofString "isinstance"), .free (.ofString "int"), .free (.ofString "str"), .free (.ofString "len"), .free (.ofString "zip"), .free (.ofString "sum"), .free (.ofString "divmod")]
def fa2 : List He.Fa := [.free (.ofString "bool"), .free (.ofString "min"), .free (.ofString "abs"), .free (.ofString "sorted"), .free (.ofString "repr"), .free (.ofString "super")]
def fa : List He.Fa := fa0 ++ fa1 ++ fa2
def lo0 : List PySem.Str := [.ofString "WaterError", .ofString "InvalidCanal", .ofString "InvalidNumber", .ofString "InvalidRound", .ofString "InvalidHours", .ofString "SMALL_LETTERS", .ofString "MOST_IN_NAME", .ofString "WORDS", .ofString "is_whole", .ofString "is_number", .ofString "check_number", .ofString "is_tuple_of", .ofString "wrong_at", .ofString "wrong_from_one", .ofString "wrong_for_all", .ofString "is_letters", .ofString "is_name", .ofString "is_one_of", .ofString "MOST_STRETCHES", .ofString "LEAST_FIELDS", .ofString "MOST_FIELDS", .ofString "MOST_HOLDS", .ofString "MOST_SEEPS", .ofString "MOST_LAND", .ofString "HEAD", .ofString "is_stretch_form", .ofString "are_stretches_form", .ofString "above_by", .ofString "all_lead_up", .ofString "are_fields_form"]
def lo1 : List PySem.Str := [.ofString "is_canal_form", .ofString "names_of", .ofString "MOST_HOURS", .ofString "check_canal", .ofString "wrong_round", .ofString "check_round_of", .ofString "check_order", .ofString "check_turns", .ofString "wrong_hours", .ofString "check_hours", .ofString "check_week_turns", .ofString "hours_by", .ofString "turns_of", .ofString "times_by", .ofString "check_closing", .ofString "overlap", .ofString "lost_by", .ofString "put_behind", .ofString "lost", .ofString "put_off", .ofString "lost_over_all", .ofString "_law_urn", .ofString "_law_take", .ofString "_law_of", .ofString "_law_names", .ofString "_law_canal", .ofString "_law_order", .ofString "_law_hours", .ofString "_law_clock", .ofString "_law_put"]
def lo2 : List PySem.Str := [.ofString "_law_right"]
def lo : List PySem.Str := lo0 ++ lo1 ++ lo2
theorem look : txtB tx = true := by decide +kernel
theorem glo : ∀ r ∈ tx.fs, He.Fa.glo r.x ∈ fa := by
  have h : (tx.fs.all fun r => fa.any fun f => match f with | .glo x => decide (x = r.x) | _ => false) = true := by decide +kernel
  intro r hr
  obtain ⟨f, hf, e⟩ := List.any_eq_true.mp (List.all_eq_true.mp h r hr)
  cases f <;> first | (cases e; done) | (rw [← of_decide_eq_true e]; exact hf)
theorem fre : ∀ x ∈ tx.free, He.Fa.free x ∈ fa := by
  have h : (tx.free.all fun r => fa.any fun f => match f with | .free x => decide (x = r) | _ => false) = true := by decide +kernel
  intro r hr
  obtain ⟨f, hf, e⟩ := List.any_eq_true.mp (List.all_eq_true.mp h r hr)
  cases f <;> first | (cases e; done) | (rw [← of_decide_eq_true e]; exact hf)
abbrev R : PySem.W.OpenRow := PySem.W.OpenLaw.row PySem.Challenge.rw_waterturns_k72_whole_closings_led_hour_b
abbrev hk : PySem.W.Hook := He.hookX 2 fa tx.dfs [] tx.tf (exT tx)
def ob (s : PySem.W.SharedT) : He.AlX := He.obsX 2 fa tx.dfs [] tx.tf (exT tx) (HandSHeadRun.getT s)
theorem ob_eq (s : PySem.W.SharedT) : ob s = hk.obs s.abs := He.obsX_eq (HandSHeadRun.getT_eq s)
theorem map3 {α β γ δ : Type} {E : Option α} {A : α → β} {B : α → γ} {C : α → δ} {a : β} {b : γ} {c : δ} (h1 : E.map A = some a) (h2 : E.map B = some b) (h3 : E.map C = some c) : E.map (fun s => (A s, B s, C s)) = some (a, b, c) := by
  cases E with
  | none => cases h1
  | some s => cases h1; cases h2; cases h3; rfl
section
open PySem.W PySem.Calls HandSHeadRun
abbrev vw : PySem.Program := PySem.W.view R.prog [69]
theorem run1 (w : World) (os : OsState) : (endF (stepQ (denQ tabQ) R.prog w) 4000 R.prog w os).map (fun s => looksF R.prog (boot_heap w.params) s.abs) = some true := by kernel_rfl
theorem run2 (w : World) (os : OsState) : (endF (stepQ (denQ tabQ) R.prog w) 4000 R.prog w os).map (fun s => seenQ vw lo (importedModules R.prog.main.body) (fun s => xlAt vw [] s && recOk R.toRowW.records s) s.abs) = some (openGood vw lo) := by kernel_rfl
theorem run3 (w : World) (os : OsState) : (endF (stepQ (denQ tabQ) R.prog w) 4000 R.prog w os).map ob = some (hk.val w) := by kernel_rfl
theorem run (w : World) : HandSHeadRun.RunEq R vw hk ob 4000 lo w := fun os => map3 (run1 w os) (run2 w os) (run3 w os)
end
end LawE

set_option maxRecDepth 100000
set_option maxHeartbeats 1000000
/-! EvPl: running the small language in plain Lean: equations with the frame applied, lazy continuations, loops. -/
namespace EV
open PySem PySem.Spec PyProof.Rows L2

/-- (the type names f, so that simp leaves f alone) -/
@[reducible] def OutA {α β : Type} (_ : α → M β) : Type := Out α
@[reducible] def OutS {α : Type} (_ : α → MS) : Type := Out α
@[reducible] def SOf (_ : MS) : Type := SO
def Out.th {α β : Type} (f : α → M β) (o : OutA f) : Out β := match o with
  | .ok a ρ h => f a ρ h
  | .bad => .bad
def Out.ts {α : Type} (f : α → MS) (o : OutS f) : SO := match o with
  | .ok a ρ h => f a ρ h
  | .bad => .bad
def SO.sq (n : MS) (o : SOf n) : SO := match o with
  | .nx ρ h => n ρ h
  | o => o
def SO.lp (n : MS) (o : SOf n) : SO := match o with
  | .nx ρ h => n ρ h
  | .ct ρ h => n ρ h
  | .bk ρ h => .nx ρ h
  | o => o
def FO.of (o : SO) : FO := match o with
  | .rt w o h => .ok w o h
  | .nx _ h => .ok (.d .non) false h
  | _ => .bad
section
variable {α β : Type} {G : Gv} {ρ : Ev} {h : Hh}
theorem th_ok {a : α} {f : α → M β} : Out.th f (.ok a ρ h) = f a ρ h := rfl
theorem th_bad {f : α → M β} : Out.th f .bad = .bad := rfl
theorem ts_ok {a : α} {f : α → MS} : Out.ts f (.ok a ρ h) = f a ρ h := rfl
theorem sq_nx {n : MS} : SO.sq n (.nx ρ h) = n ρ h := rfl
theorem sq_rt {n : MS} {w : Val} {o : Bool} : SO.sq n (.rt w o h) = .rt w o h := rfl
theorem sq_bk {n : MS} : SO.sq n (.bk ρ h) = .bk ρ h := rfl
theorem sq_ct {n : MS} : SO.sq n (.ct ρ h) = .ct ρ h := rfl
theorem of_rt {w : Val} {o : Bool} : FO.of (.rt w o h) = .ok w o h := rfl
theorem of_nx : FO.of (.nx ρ h) = .ok (.d .non) false h := rfl
theorem lp_nx {n : MS} : SO.lp n (.nx ρ h) = n ρ h := rfl
theorem lp_ct {n : MS} : SO.lp n (.ct ρ h) = n ρ h := rfl
theorem lp_bk {n : MS} : SO.lp n (.bk ρ h) = .nx ρ h := rfl
theorem lp_rt {n : MS} {w : Val} {o : Bool} : SO.lp n (.rt w o h) = .rt w o h := rfl
theorem bind_at {m : M α} {f : α → M β} : M.bind m f ρ h = Out.th f (m ρ h) := by
  unfold M.bind Out.th; cases m ρ h <;> rfl
theorem ret_at {a : α} : M.ret a ρ h = .ok a ρ h := rfl
theorem fail_at : (M.fail : M α) ρ h = .bad := rfl
theorem ths_at {m : M α} {f : α → MS} : thenS m f ρ h = Out.ts f (m ρ h) := by
  unfold thenS Out.ts; cases m ρ h <;> rfl
theorem seq_at {m n : MS} : seqS m n ρ h = SO.sq n (m ρ h) := by
  unfold seqS SO.sq; cases m ρ h <;> rfl
theorem ite_at {c : Prop} [Decidable c] {m n : M α} : (if c then m else n) ρ h = if c then m ρ h else n ρ h := by split <;> rfl
theorem ites_at {c : Prop} [Decidable c] {m n : MS} : (if c then m else n) ρ h = if c then m ρ h else n ρ h := by split <;> rfl
/-! the equations, with the frame applied (printed by pl.py) -/
section
set_option autoImplicit true
theorem q_den_0 : den G .non ρ h = (M.ret (.d .non) : M Val) ρ h := by first | (rw [den]; done) | (rw [den]; rfl)
theorem q_den_1 : den G (.bl b) ρ h = (M.ret (.d (.bl b)) : M Val) ρ h := by first | (rw [den]; done) | (rw [den]; rfl)
theorem q_den_2 : den G (.int i) ρ h = (M.ret (.d (.int i)) : M Val) ρ h := by first | (rw [den]; done) | (rw [den]; rfl)
theorem q_den_3 : den G (.str x) ρ h = (M.ret (.d (.str x)) : M Val) ρ h := by first | (rw [den]; done) | (rw [den]; rfl)
theorem q_den_4 : den G (.v i) ρ h = (nameM i : M Val) ρ h := by first | (rw [den]; done) | (rw [den]; rfl)
theorem q_den_5 : den G (.g x) ρ h = ((match G.con x with
    | some (.tup xs) => M.ret (.kon xs)
    | some d => M.ret (.d d)
    | none => M.fail) : M Val) ρ h := by first | (rw [den]; done) | (rw [den]; rfl)
theorem q_den_6 : den G (.bin op a b) ρ h = ((den G a).bind fun x => (den G b).bind fun y => binM op x y : M Val) ρ h := by first | (rw [den]; done) | (rw [den]; rfl)
theorem q_den_7 : den G (.neg a) ρ h = ((den G a).bind fun x => lift1 (fun d => match d with | .int i => some (.int (-i)) | _ => none) x : M Val) ρ h := by first | (rw [den]; done) | (rw [den]; rfl)
theorem q_den_8 : den G (.cmp op a b) ρ h = ((den G a).bind fun x => (den G b).bind fun y => cmpM op x y : M Val) ρ h := by first | (rw [den]; done) | (rw [den]; rfl)
theorem q_den_9 : den G (.ch op op2 a b c) ρ h = ((den G a).bind fun x => (den G b).bind fun y => (cmpM op x y).bind fun k => (match k with
    | .d (.bl true) => (den G c).bind fun z => cmpM op2 y z
    | .d (.bl false) => M.ret (.d (.bl false))
    | _ => M.fail) : M Val) ρ h := by first | (rw [den]; done) | (rw [den]; rfl)
theorem q_den_10 : den G (.bop isAnd es) ρ h = (denB G isAnd es : M Val) ρ h := by first | (rw [den]; done) | (rw [den]; rfl)
theorem q_den_11 : den G (.not a) ρ h = ((den G a).bind fun x => (match x with
    | .d (.bl b) => M.ret (.d (.bl (!b)))
    | _ => M.fail) : M Val) ρ h := by first | (rw [den]; done) | (rw [den]; rfl)
theorem q_den_12 : den G (.ife t a b) ρ h = ((denT G t).bind fun c => if c = true then den G a else den G b : M Val) ρ h := by first | (rw [den]; done) | (rw [den]; rfl)
theorem q_den_13 : den G (.tup es) ρ h = ((dens G es).bind fun xs => (match plains xs with
    | some ds => if ds.length ≤ sizeLine then M.ret (.d (.tup ds)) else M.fail
    | none => M.fail) : M Val) ρ h := by first | (rw [den]; done) | (rw [den]; rfl)
theorem q_den_14 : den G (.lst es) ρ h = ((dens G es).bind fun xs => (match plains xs with
    | some ds => if ds.length ≤ sizeLine then M.ret (.d (.lst ds)) else M.fail
    | none => M.fail) : M Val) ρ h := by first | (rw [den]; done) | (rw [den]; rfl)
theorem q_den_15 : den G (.ix a b) ρ h = ((den G a).bind fun x => (den G b).bind fun y => ixM x y : M Val) ρ h := by first | (rw [den]; done) | (rw [den]; rfl)
theorem q_den_16 {lo hi : Option Ex} : den G (.sl a lo hi) ρ h = ((den G a).bind fun x => (denO G lo).bind fun l => (denO G hi).bind fun u => slM x l u : M Val) ρ h := by first | (rw [den]; done) | (rw [den]; rfl)
theorem q_den_17 : den G (.call f es) ρ h = ((dens G es).bind fun xs => callM G f xs : M Val) ρ h := by first | (rw [den]; done) | (rw [den]; rfl)
theorem q_den_18 : den G (.callb f e) ρ h = ((denF G e).bind fun x => callbM G f x : M Val) ρ h := by first | (rw [den]; done) | (rw [den]; rfl)
theorem q_den_19 : den G (.callk f es ks kes) ρ h = ((dens G es).bind fun xs => (dens G kes).bind fun vs => callkM G f xs ks vs : M Val) ρ h := by first | (rw [den]; done) | (rw [den]; rfl)
theorem q_den_20 : den G (.calln i es) ρ h = ((nameM i).bind fun x => (dens G es).bind fun xs => callnM G x xs : M Val) ρ h := by first | (rw [den]; done) | (rw [den]; rfl)
theorem q_den_21 : den G (.bi b es) ρ h = ((dens G es).bind fun xs => biM b xs : M Val) ρ h := by first | (rw [den]; done) | (rw [den]; rfl)
theorem q_den_22 : den G (.isi a t) ρ h = ((den G a).bind fun x => lift1 (isiO t) x : M Val) ρ h := by first | (rw [den]; done) | (rw [den]; rfl)
theorem q_den_23 : den G (.app i e) ρ h = ((isOwn i).bind fun _ => (den G e).bind fun x => appM i x : M Val) ρ h := by first | (rw [den]; done) | (rw [den]; rfl)
theorem q_den_24 : den G (.popAt i e) ρ h = ((isOwn i).bind fun _ => (den G e).bind fun x => popM i x : M Val) ρ h := by first | (rw [den]; done) | (rw [den]; rfl)
theorem q_den_25 : den G (.get o k) ρ h = ((den G o).bind fun x => (den G k).bind fun y => get2M x y (.d .non) : M Val) ρ h := by first | (rw [den]; done) | (rw [den]; rfl)
theorem q_den_26 : den G (.get2 o k d) ρ h = ((den G o).bind fun x => (den G k).bind fun y => (den G d).bind fun z => get2M x y z : M Val) ρ h := by first | (rw [den]; done) | (rw [den]; rfl)
theorem q_den_27 : den G (.lc elt tg it ifs vs) ρ h = ((denI G it).bind fun xs => lcM vs (asg G tg) (denTs G ifs) (den G elt) xs : M Val) ρ h := by first | (rw [den]; done) | (rw [den]; rfl)
theorem q_den_28 : den G (.dc k e tg it ifs vs tk) ρ h = ((denI G it).bind fun xs => dcM vs (asg G tg) (denTs G ifs) (den G k) (den G e) xs : M Val) ρ h := by first | (rw [den]; done) | (rw [den]; rfl)
theorem q_den_29 : den G (.dnew tk) ρ h = (M.ret (.d (if tk = true then .dit [] [] else .dic [] [])) : M Val) ρ h := by first | (rw [den]; done) | (rw [den]; rfl)
theorem q_den_30 : den G (.bi2 b e) ρ h = ((den G e).bind fun x => lift1 (bi2D b) x : M Val) ρ h := by first | (rw [den]; done) | (rw [den]; rfl)
theorem q_den_31 : den G (.rev o) ρ h = ((den G o).bind fun x => lift1 revD x : M Val) ρ h := by first | (rw [den]; done) | (rw [den]; rfl)
theorem q_den_33 : den G (.o1 o a) ρ h = ((den G a).bind fun x => lift1 (o1D o) x : M Val) ρ h := by first | (rw [den]; done) | (rw [den]; rfl)
theorem q_den_34 : den G (.o2 o a b) ρ h = ((den G a).bind fun x => (preM o x).bind fun _ => (den G b).bind fun y => lift2 (o2D o) x y : M Val) ρ h := by first | (rw [den]; done) | (rw [den]; rfl)
theorem q_den_35 : den G (.ext i e) ρ h = ((isOwn i).bind fun _ => (den G e).bind fun x => extM i x : M Val) ρ h := by first | (rw [den]; done) | (rw [den]; rfl)
theorem q_den_32 : den G (.dzip a b) ρ h = ((den G a).bind fun x => (den G b).bind fun y => lift2 dzipD x y : M Val) ρ h := by first | (rw [den]; done) | (rw [den]; rfl)
theorem q_denF_0 : denF G (.call f es) ρ h = ((dens G es).bind fun xs => callO G f xs : M Val) ρ h := by first | (rw [denF]; done) | (rw [denF]; rfl)
theorem q_denF_1 : denF G (.lst es) ρ h = ((dens G es).bind fun xs => lstM xs : M Val) ρ h := by first | (rw [denF]; done) | (rw [denF]; rfl)
theorem q_denF_2 : denF G (.dnew tk) ρ h = (M.ret (.d (if tk = true then .dit [] [] else .dic [] [])) : M Val) ρ h := by first | (rw [denF]; done) | (rw [denF]; rfl)
theorem q_denF_3 : denF G (.lc elt tg it ifs vs) ρ h = ((denI G it).bind fun xs => lcM vs (asg G tg) (denTs G ifs) (den G elt) xs : M Val) ρ h := by first | (rw [denF]; done) | (rw [denF]; rfl)
theorem q_denF_4 : denF G (.dc k e tg it ifs vs tk) ρ h = ((denI G it).bind fun xs => dcM vs (asg G tg) (denTs G ifs) (den G k) (den G e) xs : M Val) ρ h := by first | (rw [denF]; done) | (rw [denF]; rfl)
theorem q_denF_5 : denF G (.dzip a b) ρ h = ((den G a).bind fun x => (den G b).bind fun y => lift2 dzipD x y : M Val) ρ h := by first | (rw [denF]; done) | (rw [denF]; rfl)
theorem q_dens_0 : dens G [] ρ h = (M.ret [] : M (List Val)) ρ h := by first | (rw [dens]; done) | (rw [dens]; rfl)
theorem q_dens_1 : dens G (e :: es) ρ h = ((den G e).bind fun x => (dens G es).bind fun xs => M.ret (x :: xs) : M (List Val)) ρ h := by first | (rw [dens]; done) | (rw [dens]; rfl)
theorem q_denO_0 : denO G none ρ h = (M.ret none : M (Option Int)) ρ h := by first | (rw [denO]; done) | (rw [denO]; rfl)
theorem q_denO_1 : denO G (some e) ρ h = ((den G e).bind fun x => (match partI x with
    | some i => M.ret (some i)
    | none => M.fail) : M (Option Int)) ρ h := by first | (rw [denO]; done) | (rw [denO]; rfl)
theorem q_denB_0 : denB G isAnd [] ρ h = (M.fail : M Val) ρ h := by first | (rw [denB]; done) | (rw [denB]; rfl)
theorem q_denB_1 : denB G isAnd (e :: es) ρ h = ((den G e).bind fun x => denBr G isAnd x es : M Val) ρ h := by first | (rw [denB]; done) | (rw [denB]; rfl)
theorem q_denBr_0 : denBr G isAnd x [] ρ h = (M.ret x : M Val) ρ h := by first | (rw [denBr]; done) | (rw [denBr]; rfl)
theorem q_denT_0 : denT G (.bop isAnd es) ρ h = (denTB G isAnd es : M Bool) ρ h := by first | (rw [denT]; done) | (rw [denT]; rfl)
theorem q_denT_1 : denT G (.not a) ρ h = ((denT G a).bind fun b => M.ret (!b) : M Bool) ρ h := by first | (rw [denT]; done) | (rw [denT]; rfl)
theorem q_denT_2 : denT G (.cmp op a b) ρ h = ((den G a).bind fun x => (den G b).bind fun y => (cmpM op x y).bind fun k => truM k : M Bool) ρ h := by first | (rw [denT]; done) | (rw [denT]; rfl)
theorem q_denT_3 : denT G (.ch op op2 a b c) ρ h = ((den G a).bind fun x => (den G b).bind fun y => (cmpM op x y).bind fun k => (match k with
    | .d (.bl true) => (den G c).bind fun z => (cmpM op2 y z).bind fun r => truM r
    | .d (.bl false) => M.ret false
    | _ => M.fail) : M Bool) ρ h := by first | (rw [denT]; done) | (rw [denT]; rfl)
theorem q_denT_4 : denT G (.v i) ρ h = ((nameM i).bind truM : M Bool) ρ h := by first | (rw [denT]; done) | (rw [denT]; rfl)
theorem q_denT_5 : denT G (.bl b) ρ h = (M.ret b : M Bool) ρ h := by first | (rw [denT]; done) | (rw [denT]; rfl)
theorem q_denT_6 : denT G (.call f es) ρ h = (((dens G es).bind fun xs => callM G f xs).bind truM : M Bool) ρ h := by first | (rw [denT]; done) | (rw [denT]; rfl)
theorem q_denT_7 : denT G (.calln i es) ρ h = (((nameM i).bind fun x => (dens G es).bind fun xs => callnM G x xs).bind truM : M Bool) ρ h := by first | (rw [denT]; done) | (rw [denT]; rfl)
theorem q_denT_8 : denT G (.callk f es ks kes) ρ h = (((dens G es).bind fun xs => (dens G kes).bind fun vs => callkM G f xs ks vs).bind truM : M Bool) ρ h := by first | (rw [denT]; done) | (rw [denT]; rfl)
theorem q_denT_9 : denT G (.bi b es) ρ h = (((dens G es).bind fun xs => biM b xs).bind truM : M Bool) ρ h := by first | (rw [denT]; done) | (rw [denT]; rfl)
theorem q_denT_10 : denT G (.isi a t) ρ h = (((den G a).bind fun x => lift1 (isiO t) x).bind truM : M Bool) ρ h := by first | (rw [denT]; done) | (rw [denT]; rfl)
theorem q_denT_11 : denT G (.ix a b) ρ h = (((den G a).bind fun x => (den G b).bind fun y => ixM x y).bind truM : M Bool) ρ h := by first | (rw [denT]; done) | (rw [denT]; rfl)
theorem q_denT_12 : denT G (.bin op a b) ρ h = (((den G a).bind fun x => (den G b).bind fun y => binM op x y).bind truM : M Bool) ρ h := by first | (rw [denT]; done) | (rw [denT]; rfl)
theorem q_denTB_0 : denTB G isAnd [] ρ h = (M.ret isAnd : M Bool) ρ h := by first | (rw [denTB]; done) | (rw [denTB]; rfl)
theorem q_denTB_1 : denTB G isAnd (e :: es) ρ h = ((denT G e).bind fun b => if b = isAnd then denTB G isAnd es else M.ret b : M Bool) ρ h := by first | (rw [denTB]; done) | (rw [denTB]; rfl)
theorem q_denTs_0 : denTs G [] ρ h = (M.ret true : M Bool) ρ h := by first | (rw [denTs]; done) | (rw [denTs]; rfl)
theorem q_denTs_1 : denTs G [e] ρ h = (denT G e : M Bool) ρ h := by first | (rw [denTs]; done) | (rw [denTs]; rfl)
theorem q_denI_0 : denI G (.seq e) ρ h = ((den G e).bind fun x => itemsM x : M (List D)) ρ h := by first | (rw [denI]; done) | (rw [denI]; rfl)
theorem q_denI_1 : denI G (.vals e) ρ h = ((den G e).bind fun x => dicM valsD x : M (List D)) ρ h := by first | (rw [denI]; done) | (rw [denI]; rfl)
theorem q_denI_2 : denI G (.items e) ρ h = ((den G e).bind fun x => dicM itemsPD x : M (List D)) ρ h := by first | (rw [denI]; done) | (rw [denI]; rfl)
theorem q_denI_3 : denI G (.range1 a) ρ h = ((den G a).bind fun x => rangeM (.d (.int 0)) x : M (List D)) ρ h := by first | (rw [denI]; done) | (rw [denI]; rfl)
theorem q_denI_4 : denI G (.range2 a b) ρ h = ((den G a).bind fun x => (den G b).bind fun y => rangeM x y : M (List D)) ρ h := by first | (rw [denI]; done) | (rw [denI]; rfl)
theorem q_denI_5 : denI G (.enum e) ρ h = ((den G e).bind fun x => (seqM x).bind fun xs => M.ret (number 0 xs) : M (List D)) ρ h := by first | (rw [denI]; done) | (rw [denI]; rfl)
theorem q_denI_6 : denI G (.zip a b) ρ h = ((den G a).bind fun x => (den G b).bind fun y => zipM x y : M (List D)) ρ h := by first | (rw [denI]; done) | (rw [denI]; rfl)
theorem q_asg_0 : asg G (.nm i) x ρ h = (setM i x : M Unit) ρ h := by first | (rw [asg]; done) | (rw [asg]; rfl)
theorem q_asg_1 : asg G (.sub o k) x ρ h = ((den G o).bind fun y => (den G k).bind fun z => putM y z x : M Unit) ρ h := by first | (rw [asg]; done) | (rw [asg]; rfl)
theorem q_asgs_0 : asgs G [] [] ρ h = (M.ret () : M Unit) ρ h := by first | (rw [asgs]; done) | (rw [asgs]; rfl)
theorem q_asgs_1 : asgs G (t :: ts) (x :: xs) ρ h = ((asg G t (.d x)).bind fun _ => asgs G ts xs : M Unit) ρ h := by first | (rw [asgs]; done) | (rw [asgs]; rfl)
theorem q_denS_0 : denS G (.ex e) ρ h = (thenS (den G e) fun _ ρ h => .nx ρ h : MS) ρ h := by first | (rw [denS]; done) | (rw [denS]; rfl)
theorem q_denS_1 : denS G (.set tg e) ρ h = (thenS (den G e) fun x => thenS (asg G tg x) fun _ ρ h => .nx ρ h : MS) ρ h := by first | (rw [denS]; done) | (rw [denS]; rfl)
theorem q_denS_2 : denS G (.setOwn i e) ρ h = (thenS (denF G e) fun x => ownM i x : MS) ρ h := by first | (rw [denS]; done) | (rw [denS]; rfl)
theorem q_denS_3 : denS G (.par is es) ρ h = (thenS (denFs G is es) fun xs => parM is xs : MS) ρ h := by first | (rw [denS]; done) | (rw [denS]; rfl)
theorem q_denS_4 : denS G (.ret e) ρ h = (thenS (den G e) fun x => retM x : MS) ρ h := by first | (rw [denS]; done) | (rw [denS]; rfl)
theorem q_denS_5 : denS G (.retOwn e) ρ h = (thenS (denF G e) fun x => retOwnM x : MS) ρ h := by first | (rw [denS]; done) | (rw [denS]; rfl)
theorem q_denS_6 : denS G (.retNm i) ρ h = (retNmM i : MS) ρ h := by first | (rw [denS]; done) | (rw [denS]; rfl)
theorem q_denS_7 : denS G .retN ρ h = (fun _ h => .rt (.d .non) false h : MS) ρ h := by first | (rw [denS]; done) | (rw [denS]; rfl)
theorem q_denS_8 : denS G (.ite t a b) ρ h = (thenS (denT G t) fun c => if c = true then denSs G a else denSs G b : MS) ρ h := by first | (rw [denS]; done) | (rw [denS]; rfl)
theorem q_denS_9 : denS G (.whil t b) ρ h = (whileLoop (denT G t) (denSs G b) whileFuel : MS) ρ h := by first | (rw [denS]; done) | (rw [denS]; rfl)
theorem q_denS_10 : denS G (.forr tg it b) ρ h = (thenS (denI G it) fun xs => forLoop (asg G tg) (denSs G b) xs : MS) ρ h := by first | (rw [denS]; done) | (rw [denS]; rfl)
theorem q_denS_11 : denS G (.freeze i) ρ h = (freezeM i : MS) ρ h := by first | (rw [denS]; done) | (rw [denS]; rfl)
theorem q_denS_12 : denS G (.ndef i c) ρ h = (fun ρ h => if i < ρ.length then .nx (ρ.set i (.val (.mk c))) h else .bad : MS) ρ h := by first | (rw [denS]; done) | (rw [denS]; rfl)
theorem q_denS_13 : denS G .brk ρ h = (fun ρ h => .bk ρ h : MS) ρ h := by first | (rw [denS]; done) | (rw [denS]; rfl)
theorem q_denS_14 : denS G .cnt ρ h = (fun ρ h => .ct ρ h : MS) ρ h := by first | (rw [denS]; done) | (rw [denS]; rfl)
theorem q_denS_15 : denS G .pass ρ h = (fun ρ h => .nx ρ h : MS) ρ h := by first | (rw [denS]; done) | (rw [denS]; rfl)
theorem q_denS_16 : denS G .nev ρ h = (fun _ _ => .bad : MS) ρ h := by first | (rw [denS]; done) | (rw [denS]; rfl)
theorem q_denS_17 : denS G (.aug i op e) ρ h = (thenS (nameM i) fun x => thenS (den G e) fun y => thenS (augM op x y) fun z => thenS (setM i z) fun _ ρ h => .nx ρ h : MS) ρ h := by first | (rw [denS]; done) | (rw [denS]; rfl)
theorem q_denS_18 : denS G (.augS o k op e) ρ h = (thenS (den G o) fun x => thenS (den G k) fun y => thenS (ixM x y) fun v => thenS (den G e) fun z => thenS (augM op v z) fun u => thenS (putM x y u) fun _ ρ h => .nx ρ h : MS) ρ h := by first | (rw [denS]; done) | (rw [denS]; rfl)
theorem q_denSs_0 : denSs G [] ρ h = (fun ρ h => .nx ρ h : MS) ρ h := by first | (rw [denSs]; done) | (rw [denSs]; rfl)
theorem q_denSs_1 : denSs G (s :: ss) ρ h = (seqS (denS G s) (denSs G ss) : MS) ρ h := by first | (rw [denSs]; done) | (rw [denSs]; rfl)
theorem q_denBr_1 {isAnd b : Bool} {e : Ex} {es : List Ex} : denBr G isAnd (.d (.bl b)) (e :: es) ρ h = (if b = isAnd then (den G e).bind fun y => denBr G isAnd y es else M.ret (.d (.bl b))) ρ h := by rw [denBr]
theorem q_asg_tp {ts : List Tg} {xs : List D} : asg G (.tp ts) (.d (.tup xs)) ρ h = asgs G ts xs ρ h := by rw [asg]
theorem q_denF_bi {es : List Ex} : denF G (.bi .list es) ρ h = ((dens G es).bind fun xs => biM .list xs) ρ h := by rw [denF]
theorem q_denF_so {e : Ex} : denF G (.bi2 .sorted e) ρ h = ((den G e).bind fun x => lift1 (bi2D .sorted) x) ρ h := by rw [denF]
theorem q_denF_di {e : Ex} : denF G (.bi2 .dict e) ρ h = ((den G e).bind fun x => lift1 (bi2D .dict) x) ρ h := by rw [denF]
theorem q_denF_bin {a b : Ex} : denF G (.bin .Mult a b) ρ h = ((denF G a).bind fun x => (den G b).bind fun y => repM x y) ρ h := by rw [denF]
theorem q_fs_0 : denFs G [] [] ρ h = .ok [] ρ h := rfl
theorem q_fs_t {i : Nat} {ps : List (Nat × Bool)} {e : Ex} {es : List Ex} : denFs G ((i, true) :: ps) (e :: es) ρ h = ((denF G e).bind fun x => (denFs G ps es).bind fun xs => M.ret (x :: xs)) ρ h := rfl
theorem q_fs_f {i : Nat} {ps : List (Nat × Bool)} {e : Ex} {es : List Ex} : denFs G ((i, false) :: ps) (e :: es) ρ h = ((den G e).bind fun x => (denFs G ps es).bind fun xs => M.ret (x :: xs)) ρ h := rfl
end
theorem for_nil {tg : Val → M Unit} {b : MS} : forLoop tg b [] ρ h = .nx ρ h := rfl
theorem for_cons {tg : Val → M Unit} {b : MS} {x : D} {xs : List D} : forLoop tg b (x :: xs) ρ h = SO.lp (forLoop tg b xs) (Out.ts (fun _ => b) (tg (.d x) ρ h)) := by
  show thenS _ _ _ _ = _
  unfold thenS Out.ts
  cases tg (.d x) ρ h with
  | bad => rfl
  | ok a ρ h => show (match b ρ h with | .nx ρ' h' => forLoop tg b xs ρ' h' | .ct ρ' h' => forLoop tg b xs ρ' h' | .bk ρ' h' => .nx ρ' h' | o => o) = SO.lp _ (b ρ h); cases b ρ h <;> rfl
theorem whl_at {t : M Bool} {b : MS} {n : Nat} : whileLoop t b (n + 1) ρ h = Out.ts (fun c ρ h => if c = true then SO.lp (whileLoop t b n) (b ρ h) else .nx ρ h) (t ρ h) := by
  show thenS _ _ _ _ = _
  unfold thenS Out.ts
  cases t ρ h with
  | bad => rfl
  | ok c ρ h => cases c with
    | false => rfl
    | true => show (match b ρ h with | .nx ρ' h' => whileLoop t b n ρ' h' | .ct ρ' h' => whileLoop t b n ρ' h' | .bk ρ' h' => .nx ρ' h' | o => o) = SO.lp _ (b ρ h); cases b ρ h <;> rfl
theorem run_at {f : Fn} {ws : List Val} (e : ws.length = f.n) : runFn G f ws h = FO.of (denSs G f.body (ws.map .val ++ List.replicate (f.m - f.n) .no) h) := by
  unfold runFn
  rw [if_pos e]
  unfold FO.of
  cases denSs G f.body (ws.map .val ++ List.replicate (f.m - f.n) .no) h <;> rfl
theorem runN_at {f : Fn} {caps : List (Option D)} {ws : List Val} (e : ws.length = f.n) : runNf G f caps ws h = FO.of (denSs G f.body (ws.map .val ++ (caps.map capSl ++ List.replicate (f.m - f.n - caps.length) .no)) h) := by
  unfold runNf
  rw [if_pos e]
  unfold FO.of
  cases denSs G f.body (ws.map .val ++ (caps.map capSl ++ List.replicate (f.m - f.n - caps.length) .no)) h <;> rfl
theorem lvl_con {p : Prg} {n : Nat} : (level p n).con = p.con := by cases n <;> rfl
theorem lvl_fr {p : Prg} {n : Nat} {c : Nat} : (level p n).fr c = (p.nfs[c]?.map (·.2)).getD [] := by cases n <;> rfl
theorem lvl_ar {p : Prg} {n : Nat} {f : Nat} : (level p n).arity f = (p.fns[f]?.map (·.1)).getD [] := by cases n <;> rfl
theorem lvl_call {p : Prg} {n f : Nat} {ws : List Val} {q : List Str × Fn} (e : p.fns[f]? = some q) : (level p (n + 1)).call f ws h = runFn (level p n) q.2 ws h := by
  show (match p.fns[f]? with
      | some q => runFn (level p n) q.2 ws h
      | none => .bad) = _
  rw [e]
theorem lvl_calln {p : Prg} {n c : Nat} {caps : List (Option D)} {ws : List Val} {q : Fn × List Nat} (e : p.nfs[c]? = some q) : (level p (n + 1)).calln c caps ws h = runNf (level p n) q.1 caps ws h := by
  show (match p.nfs[c]? with
      | some q => runNf (level p n) q.1 caps ws h
      | none => .bad) = _
  rw [e]

/-! ### comprehensions -/
/-- one turn -/
def LcT (vs : List Nat) (tg : Val → M Unit) (test : M Bool) (elt : M Val) (σ : Ev) (h : Hh) (x : D) (o : Option D) : Prop :=
  ∃ ρ', Out.th (fun _ ρ h => Out.th (fun b ρ h => if b = true then Out.th (fun y ρ h => (match y with | .d d => .ok (some d) ρ h | _ => .bad)) (elt ρ h) else .ok none ρ h) (test ρ h)) (tg (.d x) σ h) = .ok o ρ' h ∧ noOwn ρ' vs = true ∧ wipeE ρ' vs = σ
theorem lc_run {γ : Type} {vs : List Nat} {tg : Val → M Unit} {test : M Bool} {elt : M Val} {σ : Ev} {h : Hh} (g : γ → D) (f : γ → Option D) : ∀ (L : List γ) (acc : List D), acc.length + L.length ≤ sizeLine → (∀ l ∈ L, LcT vs tg test elt σ h (g l) (f l)) →
    lcLoop vs tg test elt (L.map g) acc σ h = .ok (acc ++ L.filterMap f) σ h
  | [], acc, _, _ => by simp [lcLoop, M.ret]
  | l :: L, acc, hl, k => by
    obtain ⟨ρ', e, no, wi⟩ := k l List.mem_cons_self
    have hl2 : acc.length + (L.length + 1) ≤ sizeLine := hl
    have k2 : ∀ l ∈ L, LcT vs tg test elt σ h (g l) (f l) := fun l hl => k l (List.mem_cons_of_mem _ hl)
    rw [List.map_cons]
    unfold lcLoop
    unfold M.bind
    unfold Out.th at e
    cases e1 : tg (.d (g l)) σ h with
    | bad => rw [e1] at e; cases e
    | ok a ρ1 h1 =>
      rw [e1] at e
      simp only at e ⊢
      cases e2 : test ρ1 h1 with
      | bad => rw [e2] at e; cases e
      | ok b ρ2 h2 =>
        rw [e2] at e
        simp only at e ⊢
        cases b with
        | true =>
          simp only [if_true] at e ⊢
          cases e3 : elt ρ2 h2 with
          | bad => rw [e3] at e; cases e
          | ok y ρ3 h3 =>
            rw [e3] at e
            simp only at e
            cases y <;> first | (cases e; done) | skip
            rename_i d
            injection e with z1 z2 z3
            subst z2; subst z3
            simp only [plainV, M.ret]
            rw [if_pos ⟨by omega, no⟩, wi, lc_run g f L (acc ++ [d]) (by rw [List.length_append, List.length_singleton]; omega) k2, List.filterMap_cons, ← z1, List.append_assoc]; rfl
        | false =>
          simp only [Bool.false_eq_true, if_false] at e ⊢
          injection e with z1 z2 z3
          subst z2; subst z3
          rw [if_pos no, wi, lc_run g f L acc (by omega) k2, List.filterMap_cons, ← z1]
theorem lc_ok {γ : Type} {vs : List Nat} {tg : Val → M Unit} {test : M Bool} {elt : M Val} {ρ : Ev} {h : Hh} (L : List γ) (g : γ → D) (f : γ → Option D) (hn : noOwn ρ vs = true) (hl : L.length ≤ sizeLine) (k : ∀ l ∈ L, LcT vs tg test elt (blkE ρ vs) h (g l) (f l)) :
    lcM vs tg test elt (L.map g) ρ h = .ok (.d (.lst (L.filterMap f))) (outE ρ (blkE ρ vs)) h := by
  unfold lcM
  rw [if_pos hn, lc_run g f L [] (by simpa using hl) k]
  rfl
/-- without a clause -/
theorem lc_map {γ : Type} {vs : List Nat} {tg : Val → M Unit} {test : M Bool} {elt : M Val} {ρ : Ev} {h : Hh} (L : List γ) (g : γ → D) (f : γ → D) (hn : noOwn ρ vs = true) (hl : L.length ≤ sizeLine) (k : ∀ l ∈ L, LcT vs tg test elt (blkE ρ vs) h (g l) (some (f l))) :
    lcM vs tg test elt (L.map g) ρ h = .ok (.d (.lst (L.map f))) (outE ρ (blkE ρ vs)) h := by
  rw [lc_ok L g (fun l => some (f l)) hn hl k]
  simp
theorem lc_fil {γ : Type} {vs : List Nat} {tg : Val → M Unit} {test : M Bool} {elt : M Val} {ρ : Ev} {h : Hh} (L : List γ) (g : γ → D) (p : γ → Bool) (f : γ → D) (hn : noOwn ρ vs = true) (hl : L.length ≤ sizeLine) (k : ∀ l ∈ L, LcT vs tg test elt (blkE ρ vs) h (g l) (if p l = true then some (f l) else none)) :
    lcM vs tg test elt (L.map g) ρ h = .ok (.d (.lst ((L.filter p).map f))) (outE ρ (blkE ρ vs)) h := by
  rw [lc_ok L g (fun l => if p l = true then some (f l) else none) hn hl k]
  congr 3
  clear k hl
  induction L with
  | nil => rfl
  | cons l L ih =>
    rw [List.filterMap_cons, List.filter_cons]
    by_cases hp : p l = true
    · simp only [hp, if_true, List.map_cons, ih]
    · simp only [hp, if_false, ih]; rfl
/-- a dict: keys in the order of their first store -/
def DcT (vs : List Nat) (tg : Val → M Unit) (test : M Bool) (key val : M Val) (σ : Ev) (h : Hh) (x : D) (k : Key) (d : D) : Prop :=
  ∃ ρ' y, Out.th (fun _ ρ h => Out.th (fun b ρ h => if b = true then Out.th (fun y ρ h => Out.th (fun z ρ h => (match z with | .d d => .ok (some (y, d)) ρ h | _ => .bad)) (val ρ h)) (key ρ h) else .ok none ρ h) (test ρ h)) (tg (.d x) σ h) = .ok (some (y, d)) ρ' h ∧ keyV y = some k ∧ noOwn ρ' vs = true ∧ wipeE ρ' vs = σ
theorem putKs_new {κ : Type} [DecidableEq κ] {ks : List κ} {k : κ} (n : k ∉ ks) : putKs ks k = ks ++ [k] := by unfold putKs; rw [if_neg n]
theorem putDs_new {κ : Type} [DecidableEq κ] {ks : List κ} {ds : List D} {k : κ} {v : D} (n : k ∉ ks) : putDs ks ds k v = ds ++ [v] := by unfold putDs; rw [if_neg n]
theorem dc_run {γ : Type} {vs : List Nat} {tg : Val → M Unit} {test : M Bool} {key val : M Val} {σ : Ev} {h : Hh} (g : γ → D) (f : γ → Key) (d : γ → D) : ∀ (L : List γ) (ks : List Key) (ds : List D), ks.length + L.length ≤ sizeLine → (ks ++ L.map f).Nodup → (∀ l ∈ L, DcT vs tg test key val σ h (g l) (f l) (d l)) →
    dcLoop vs tg test key val (L.map g) ks ds σ h = .ok (ks ++ L.map f, ds ++ L.map d) σ h
  | [], ks, ds, _, _, _ => by simp [dcLoop, M.ret]
  | l :: L, ks, ds, hl, nd, k => by
    obtain ⟨ρ', y, e, ey, no, wi⟩ := k l List.mem_cons_self
    have hl2 : ks.length + (L.length + 1) ≤ sizeLine := hl
    have k2 : ∀ l ∈ L, DcT vs tg test key val σ h (g l) (f l) (d l) := fun l hl => k l (List.mem_cons_of_mem _ hl)
    have nk : f l ∉ ks := fun z => by
      have := (List.nodup_append.mp nd).2.2 _ z _ (List.mem_map_of_mem (f := f) (List.mem_cons_self (a := l) (l := L)))
      exact this rfl
    rw [List.map_cons]
    unfold dcLoop
    unfold M.bind
    unfold Out.th at e
    cases e1 : tg (.d (g l)) σ h with
    | bad => rw [e1] at e; cases e
    | ok a ρ1 h1 =>
      rw [e1] at e
      simp only at e ⊢
      cases e2 : test ρ1 h1 with
      | bad => rw [e2] at e; cases e
      | ok b ρ2 h2 =>
        rw [e2] at e
        simp only at e ⊢
        cases b with
        | false => simp only [Bool.false_eq_true, if_false] at e; cases e
        | true =>
          simp only [if_true] at e ⊢
          cases e3 : key ρ2 h2 with
          | bad => rw [e3] at e; cases e
          | ok y3 ρ3 h3 =>
            rw [e3] at e
            simp only at e ⊢
            cases e4 : val ρ3 h3 with
            | bad => rw [e4] at e; cases e
            | ok z ρ4 h4 =>
              rw [e4] at e
              simp only at e ⊢
              cases z <;> first | (cases e; done) | skip
              injection e with z1 z2 z3
              injection z1 with z1
              injection z1 with z1 z4
              subst z1; subst z2; subst z3; subst z4
              simp only [plainV, M.ret, ey]
              rw [if_pos ⟨by omega, no⟩, wi, putKs_new nk, putDs_new nk, dc_run g f d L (ks ++ [f l]) _ (by rw [List.length_append, List.length_singleton]; omega) (by rw [List.append_assoc]; exact nd) k2]
              simp
theorem dc_ok {γ : Type} {vs : List Nat} {tg : Val → M Unit} {test : M Bool} {key val : M Val} {ρ : Ev} {h : Hh} (L : List γ) (g : γ → D) (f : γ → Key) (d : γ → D) (hn : noOwn ρ vs = true) (hl : L.length ≤ sizeLine) (nd : (L.map f).Nodup) (k : ∀ l ∈ L, DcT vs tg test key val (blkE ρ vs) h (g l) (f l) (d l)) :
    dcM vs tg test key val (L.map g) ρ h = .ok (.d (.dic (L.map f) (L.map d))) (outE ρ (blkE ρ vs)) h := by
  unfold dcM
  rw [if_pos hn, dc_run g f d L [] [] (by simpa using hl) (by simpa using nd) k]
  rfl
/-! ### loops -/
theorem for_ex {γ : Type} {tg : Val → M Unit} {body : MS} (g : γ → D) (I : List γ → Ev → Hh → Prop) : ∀ (L done : List γ) (ρ : Ev) (h : Hh), (∀ pre x post ρ h, done ++ L = pre ++ x :: post → I pre ρ h → ∃ ρ' h', Out.ts (fun _ => body) (tg (.d (g x)) ρ h) = .nx ρ' h' ∧ I (pre ++ [x]) ρ' h') → I done ρ h →
    ∃ ρ' h', forLoop tg body (L.map g) ρ h = .nx ρ' h' ∧ I (done ++ L) ρ' h'
  | [], done, ρ, h, _, i => ⟨ρ, h, rfl, by rw [List.append_nil]; exact i⟩
  | x :: L, done, ρ, h, step, i => by
    obtain ⟨ρ1, h1, e1, i1⟩ := step done x L ρ h rfl i
    obtain ⟨ρ2, h2, e2, i2⟩ := for_ex g I L (done ++ [x]) ρ1 h1 (fun pre y post ρ h e => step pre y post ρ h (by rw [← e, List.append_assoc]; rfl)) i1
    refine ⟨ρ2, h2, ?_, by rw [List.append_assoc] at i2; exact i2⟩
    rw [List.map_cons, for_cons, e1, lp_nx, e2]
theorem for_inv {γ : Type} {tg : Val → M Unit} {body : MS} (g : γ → D) (I : List γ → Ev → Hh → Prop) (L : List γ) {ρ : Ev} {h : Hh} (i : I [] ρ h) (step : ∀ pre x post ρ h, L = pre ++ x :: post → I pre ρ h → ∃ ρ' h', Out.ts (fun _ => body) (tg (.d (g x)) ρ h) = .nx ρ' h' ∧ I (pre ++ [x]) ρ' h') :
    ∃ ρ' h', forLoop tg body (L.map g) ρ h = .nx ρ' h' ∧ I L ρ' h' := for_ex g I L [] ρ h (fun pre x post ρ h e => step pre x post ρ h e) i
/-- range(n) -/
theorem upto_map : ∀ (n : Nat) (lo : Nat), upto lo n = (List.range' lo n).map fun i => D.int (i : Nat)
  | 0, _ => rfl
  | n + 1, lo => by
    rw [List.range'_succ, List.map_cons]
    show D.int lo :: upto ((lo : Int) + 1) n = _
    rw [show ((lo : Int) + 1) = ((lo + 1 : Nat) : Int) from by omega, upto_map n (lo + 1)]
theorem range_at {n : Int} (h0 : 0 ≤ n) (h1 : n < 2 ^ 62) : rangeM (.d (.int 0)) (.d (.int n)) ρ h = .ok ((List.range n.toNat).map fun i => D.int (i : Nat)) ρ h := by
  unfold rangeM
  simp only
  rw [if_pos ⟨by omega, by omega, by omega, h1⟩]
  show Out.ok _ _ _ = _
  rw [show n - 0 = n from by omega, show (0 : Int) = ((0 : Nat) : Int) from rfl, upto_map, List.range_eq_range']
end
end EV

set_option maxRecDepth 100000
set_option maxHeartbeats 1000000
/-! EvPm: laws of the data operations. -/
namespace EV
open PySem PySem.Spec PyProof.Rows L2

/-! ### a comprehension's turn, by running -/
def LcX (vs : List Nat) (σ : Ev) (h : Hh) (r : Option D) (o : Out (Option D)) : Prop := match o with
  | .ok o ρ' h' => o = r ∧ h' = h ∧ noOwn ρ' vs = true ∧ wipeE ρ' vs = σ
  | .bad => False
theorem lcx_ok {vs : List Nat} {σ ρ' : Ev} {h h' : Hh} {r o : Option D} : LcX vs σ h r (.ok o ρ' h') = (o = r ∧ h' = h ∧ noOwn ρ' vs = true ∧ wipeE ρ' vs = σ) := rfl
theorem lct {vs : List Nat} {tg : Val → M Unit} {test : M Bool} {elt : M Val} {σ : Ev} {h : Hh} {x : D} {o : Option D}
    (e : LcX vs σ h o (Out.th (fun _ ρ h => Out.th (fun b ρ h => if b = true then Out.th (fun y ρ h => (match y with | .d d => .ok (some d) ρ h | _ => .bad)) (elt ρ h) else .ok none ρ h) (test ρ h)) (tg (.d x) σ h))) : LcT vs tg test elt σ h x o := by
  unfold LcT
  generalize Out.th (fun _ ρ h => Out.th (fun b ρ h => if b = true then Out.th (fun y ρ h => (match y with | .d d => .ok (some d) ρ h | _ => .bad)) (elt ρ h) else .ok none ρ h) (test ρ h)) (tg (.d x) σ h) = z at e ⊢
  cases z with
  | bad => exact e.elim
  | ok o' ρ' h' => obtain ⟨e1, e2, e3, e4⟩ := e; subst e1; subst e2; exact ⟨ρ', rfl, e3, e4⟩
def DcX (vs : List Nat) (σ : Ev) (h : Hh) (k : Key) (d : D) (o : Out (Option (Val × D))) : Prop := match o with
  | .ok (some p) ρ' h' => keyV p.1 = some k ∧ p.2 = d ∧ h' = h ∧ noOwn ρ' vs = true ∧ wipeE ρ' vs = σ
  | _ => False
theorem dcx_ok {vs : List Nat} {σ ρ' : Ev} {h h' : Hh} {k : Key} {d d' : D} {y : Val} : DcX vs σ h k d (.ok (some (y, d')) ρ' h') = (keyV y = some k ∧ d' = d ∧ h' = h ∧ noOwn ρ' vs = true ∧ wipeE ρ' vs = σ) := rfl
theorem dct {vs : List Nat} {tg : Val → M Unit} {test : M Bool} {key val : M Val} {σ : Ev} {h : Hh} {x d : D} {k : Key}
    (e : DcX vs σ h k d (Out.th (fun _ ρ h => Out.th (fun b ρ h => if b = true then Out.th (fun y ρ h => Out.th (fun z ρ h => (match z with | .d d => .ok (some (y, d)) ρ h | _ => .bad)) (val ρ h)) (key ρ h) else .ok none ρ h) (test ρ h)) (tg (.d x) σ h))) : DcT vs tg test key val σ h x k d := by
  unfold DcT
  generalize Out.th (fun _ ρ h => Out.th (fun b ρ h => if b = true then Out.th (fun y ρ h => Out.th (fun z ρ h => (match z with | .d d => .ok (some (y, d)) ρ h | _ => .bad)) (val ρ h)) (key ρ h) else .ok none ρ h) (test ρ h)) (tg (.d x) σ h) = z at e ⊢
  cases z with
  | bad => exact e.elim
  | ok o' ρ' h' =>
    cases o' with
    | none => exact e.elim
    | some p => obtain ⟨e1, e2, e3, e4, e5⟩ := e; subst e2; subst e3; exact ⟨ρ', p.1, rfl, e1, e4, e5⟩
theorem lz0 : (0 < sizeLine) = True := by decide
theorem lz1 : (1 < sizeLine) = True := by decide
theorem lz2 : (2 < sizeLine) = True := by decide
theorem lz3 : (3 < sizeLine) = True := by decide
theorem sz0 : (0 ≤ sizeLine) = True := by decide
theorem sz1 : (1 ≤ sizeLine) = True := by decide
theorem sz2 : (2 ≤ sizeLine) = True := by decide
theorem sz3 : (3 ≤ sizeLine) = True := by decide
theorem sz4 : (4 ≤ sizeLine) = True := by decide
theorem sz5 : (5 ≤ sizeLine) = True := by decide
theorem sz6 : (6 ≤ sizeLine) = True := by decide
theorem sz7 : (7 ≤ sizeLine) = True := by decide
/-! ### equality -/
theorem eqD_int {a b : Int} : eqD (.int a) (.int b) = some (decide (a = b)) := by
  show (if (0 : Nat) ≤ 64 ∧ (0 : Nat) ≤ 64 then some (PyData.eqv (.int a) (.int b)) else none) = _
  rw [if_pos ⟨by omega, by omega⟩]
  show some (a == b) = _
  by_cases h : a = b <;> simp [h]
theorem eqD_str {a b : Str} : eqD (.str a) (.str b) = some (decide (a = b)) := by
  show (if (0 : Nat) ≤ 64 ∧ (0 : Nat) ≤ 64 then some (PyData.eqv (.str a) (.str b)) else none) = _
  rw [if_pos ⟨by omega, by omega⟩]
  show some (a == b) = _
  by_cases h : a = b <;> simp [h]
theorem eqD_bl {a b : Bool} : eqD (.bl a) (.bl b) = some (decide (a = b)) := by
  show (if (0 : Nat) ≤ 64 ∧ (0 : Nat) ≤ 64 then some (PyData.eqv (.bool a) (.bool b)) else none) = _
  rw [if_pos ⟨by omega, by omega⟩]
  cases a <;> cases b <;> rfl
theorem eqD_int_non {a : Int} : eqD (.int a) .non = some false := rfl
/-- plain data of some depth -/
def Flt (n : Nat) (d : D) : Prop := ∃ p, toP d = some p ∧ p.depth ≤ n
def Flts (n : Nat) (ds : List D) : Prop := ∃ ps, toPs ds = some ps ∧ PyData.depthAll ps ≤ n
theorem flt_int {n : Nat} {i : Int} : Flt n (.int i) := ⟨_, rfl, Nat.zero_le _⟩
theorem flt_str {n : Nat} {x : Str} : Flt n (.str x) := ⟨_, rfl, Nat.zero_le _⟩
theorem flt_bl {n : Nat} {x : Bool} : Flt n (.bl x) := ⟨_, rfl, Nat.zero_le _⟩
theorem flt_non {n : Nat} : Flt n .non := ⟨_, rfl, Nat.zero_le _⟩
theorem flts {n : Nat} : ∀ {ds : List D}, (∀ d ∈ ds, Flt n d) → Flts n ds
  | [], _ => ⟨[], rfl, Nat.zero_le _⟩
  | d :: ds, h => by
    obtain ⟨p, e1, e2⟩ := h d List.mem_cons_self
    obtain ⟨ps, e3, e4⟩ := flts (ds := ds) fun d hd => h d (List.mem_cons_of_mem _ hd)
    exact ⟨p :: ps, by rw [toPs, e1, e3], Nat.max_le.mpr ⟨e2, e4⟩⟩
theorem flt_tup {n : Nat} {ds : List D} (h : ∀ d ∈ ds, Flt n d) : Flt (n + 1) (.tup ds) := by
  obtain ⟨ps, e1, e2⟩ := flts h
  exact ⟨.tuple ps, by rw [toP, e1]; rfl, Nat.succ_le_succ e2⟩
theorem flt_lst {n : Nat} {ds : List D} (h : ∀ d ∈ ds, Flt n d) : Flt (n + 1) (.lst ds) := by
  obtain ⟨ps, e1, e2⟩ := flts h
  exact ⟨.list ps, by rw [toP, e1]; rfl, Nat.succ_le_succ e2⟩
theorem Flt.mono {n m : Nat} {d : D} (f : Flt n d) (h : n ≤ m) : Flt m d := by obtain ⟨p, e, q⟩ := f; exact ⟨p, e, Nat.le_trans q h⟩
theorem eqD_lst_nil {xs : List D} (h : Flt 60 (.lst xs)) : eqD (.lst xs) (.lst []) = some (decide (xs = [])) := by
  obtain ⟨p, e, q⟩ := h
  cases xs with
  | nil => rfl
  | cons x xs =>
    unfold eqD
    rw [e]
    show (if p.depth ≤ 64 ∧ (0 + 1 : Nat) ≤ 64 then some (PyData.eqv p (.list [])) else none) = _
    rw [if_pos ⟨by omega, by omega⟩]
    rw [toP, toPs] at e
    cases e1 : toP x with
    | none => rw [e1] at e; cases e
    | some y =>
      cases e2 : toPs xs with
      | none => rw [e1, e2] at e; cases e
      | some ys => rw [e1, e2] at e; cases e; rfl
theorem eqD_tup_nil {xs : List D} (h : Flt 60 (.tup xs)) : eqD (.tup xs) (.tup []) = some (decide (xs = [])) := by
  obtain ⟨p, e, q⟩ := h
  cases xs with
  | nil => rfl
  | cons x xs =>
    unfold eqD
    rw [e]
    show (if p.depth ≤ 64 ∧ (0 + 1 : Nat) ≤ 64 then some (PyData.eqv p (.tuple [])) else none) = _
    rw [if_pos ⟨by omega, by omega⟩]
    rw [toP, toPs] at e
    cases e1 : toP x with
    | none => rw [e1] at e; cases e
    | some y =>
      cases e2 : toPs xs with
      | none => rw [e1, e2] at e; cases e
      | some ys => rw [e1, e2] at e; cases e; rfl
/-! ### places -/
theorem atI_nat {α : Type} {xs : List α} {i : Nat} : atI xs (i : Int) = xs[i]? := by
  unfold atI ixN
  rw [if_pos (by omega)]
  by_cases h : i < xs.length
  · rw [if_pos (by omega)]; simp
  · rw [if_neg (by omega)]; simp; omega
theorem atI_0 {α : Type} {x : α} {xs : List α} : atI (x :: xs) 0 = some x := atI_nat (i := 0)
theorem atI_1 {α : Type} {x y : α} {xs : List α} : atI (x :: y :: xs) 1 = some y := atI_nat (i := 1)
theorem atI_2 {α : Type} {x y z : α} {xs : List α} : atI (x :: y :: z :: xs) 2 = some z := atI_nat (i := 2)
theorem atI_3 {α : Type} {x y z w : α} {xs : List α} : atI (x :: y :: z :: w :: xs) 3 = some w := atI_nat (i := 3)
theorem ixN_last {n : Nat} : ixN (n + 1) (-1) = some n := by
  unfold ixN
  rw [if_neg (by omega), if_pos (by omega)]
  congr 1; omega
theorem ixN_nat {n i : Nat} (h : i < n) : ixN n (i : Int) = some i := by
  unfold ixN
  rw [if_pos (by omega), if_pos (by omega)]; simp
theorem atI_lt {α : Type} {xs : List α} {i : Int} (h0 : 0 ≤ i) (h1 : i < xs.length) : ∃ x, atI xs i = some x ∧ xs[i.toNat]? = some x := by
  have e : i = (i.toNat : Int) := by omega
  have h2 : i.toNat < xs.length := by omega
  obtain ⟨j, rfl⟩ : ∃ j : Nat, i = j := ⟨i.toNat, e⟩
  refine ⟨xs[j], ?_, ?_⟩
  · rw [atI_nat]; exact List.getElem?_eq_getElem (by omega)
  · exact List.getElem?_eq_getElem (by omega)
theorem cut_take {pre post : List D} : cutD (pre ++ post) none (some (pre.length : Int)) = pre := by
  unfold cutD
  rw [HT.sIx_none, HT.sIx_nat, List.drop_zero, Nat.sub_zero, Nat.min_eq_left (by simp)]
  simp
/-! ### members -/
theorem flats_str : ∀ (L : List Str), flats (L.map D.str) = some (L.map V.str)
  | [] => rfl
  | x :: L => by
    rw [List.map_cons, flats, flats_str L]; rfl
theorem inV_str {x : Str} : ∀ (L : List Str), inV (.str x) (L.map V.str) = decide (x ∈ L)
  | [] => rfl
  | y :: L => by
    have ih := inV_str (x := x) L
    unfold inV at ih ⊢
    rw [List.map_cons, List.any_cons, ih]
    show (y == x || _) = _
    by_cases h : y = x
    · subst h; simp
    · have h2 : ¬ x = y := fun z => h z.symm
      simp [h, h2]
theorem in_tup {x : Str} {L : List Str} : inD (.str x) (.tup (L.map D.str)) = some (decide (x ∈ L)) := by
  unfold inD; simp only [flatD, flats_str, inV_str]
theorem in_lst {x : Str} {L : List Str} : inD (.str x) (.lst (L.map D.str)) = some (decide (x ∈ L)) := by
  unfold inD; simp only [flatD, flats_str, inV_str]
theorem in_chr {c : Nat} {z : Str} : inD (.str ⟨#[c]⟩) (.str z) = some (decide (c ∈ z.cps.toList)) := rfl
theorem look_map {κ γ : Type} [DecidableEq κ] {f : γ → κ} {d : γ → D} : ∀ {L : List γ} {l : γ}, (L.map f).Nodup → l ∈ L → look (L.map f) (L.map d) (f l) = some (d l)
  | [], _, _, h => by cases h
  | a :: L, l, nd, h => by
    rw [List.map_cons, List.map_cons, look]
    rw [List.map_cons, List.nodup_cons] at nd
    by_cases e : f a = f l
    · rw [if_pos e]
      rcases List.mem_cons.mp h with z | z
      · rw [z]
      · exact absurd (List.mem_map.mpr ⟨l, z, e.symm⟩) nd.1
    · rw [if_neg e]
      rcases List.mem_cons.mp h with z | z
      · rw [z] at e; exact absurd rfl e
      · exact look_map nd.2 z
theorem look_none {κ γ : Type} [DecidableEq κ] {f : γ → κ} {d : γ → D} {k : κ} : ∀ {L : List γ}, k ∉ L.map f → look (L.map f) (L.map d) k = none
  | [], _ => rfl
  | a :: L, h => by
    rw [List.map_cons, List.map_cons, look, if_neg fun z => h (by rw [← z]; simp)]
    exact look_none fun z => h (by simp at z ⊢; exact .inr z)
/-! ### enumerate -/
theorem for_num {tg : Val → M Unit} {body : MS} (I : List D → Ev → Hh → Prop) : ∀ (L done : List D) (ρ : Ev) (h : Hh), (∀ pre x post ρ h, done ++ L = pre ++ x :: post → I pre ρ h → ∃ ρ' h', Out.ts (fun _ => body) (tg (.d (.tup [.int (pre.length : Nat), x])) ρ h) = .nx ρ' h' ∧ I (pre ++ [x]) ρ' h') → I done ρ h →
    ∃ ρ' h', forLoop tg body (number done.length L) ρ h = .nx ρ' h' ∧ I (done ++ L) ρ' h'
  | [], done, ρ, h, _, i => ⟨ρ, h, rfl, by rw [List.append_nil]; exact i⟩
  | x :: L, done, ρ, h, step, i => by
    obtain ⟨ρ1, h1, e1, i1⟩ := step done x L ρ h rfl i
    obtain ⟨ρ2, h2, e2, i2⟩ := for_num I L (done ++ [x]) ρ1 h1 (fun pre y post ρ h e => step pre y post ρ h (by rw [← e, List.append_assoc]; rfl)) i1
    refine ⟨ρ2, h2, ?_, by rw [List.append_assoc] at i2; exact i2⟩
    show forLoop tg body (.tup [.int (done.length : Nat), x] :: number (done.length + 1) L) ρ h = _
    rw [for_cons, e1, lp_nx]
    rw [List.length_append, List.length_singleton] at e2
    exact e2
theorem for_enum {tg : Val → M Unit} {body : MS} (I : List D → Ev → Hh → Prop) (L : List D) {ρ : Ev} {h : Hh} (i : I [] ρ h) (step : ∀ pre x post ρ h, L = pre ++ x :: post → I pre ρ h → ∃ ρ' h', Out.ts (fun _ => body) (tg (.d (.tup [.int (pre.length : Nat), x])) ρ h) = .nx ρ' h' ∧ I (pre ++ [x]) ρ' h') :
    ∃ ρ' h', forLoop tg body (number 0 L) ρ h = .nx ρ' h' ∧ I L ρ' h' := for_num I L [] ρ h (fun pre x post ρ h e => step pre x post ρ h e) i
theorem bools_true {γ : Type} : ∀ {L : List γ}, boolsD (L.map fun _ => D.bl true) = some (L.map fun _ => true)
  | [] => rfl
  | _ :: L => by rw [List.map_cons, boolsD, bools_true]; rfl
theorem all_true {γ : Type} {L : List γ} : (boolsD (L.map fun _ => D.bl true)).map (fun bs => D.bl (bs.all id)) = some (.bl true) := by
  rw [bools_true]; simp
theorem ints_map {γ : Type} {f : γ → Int} : ∀ {L : List γ}, intsD (L.map fun l => D.int (f l)) = some (L.map f)
  | [] => rfl
  | _ :: L => by rw [List.map_cons, intsD, ints_map]; rfl
theorem plains_d : ∀ (xs : List D), plains (xs.map .d) = some xs
  | [] => rfl
  | x :: xs => by rw [List.map_cons, plains, plains_d]; rfl
theorem flt_str_ok {x : Str} : flatD (.str x) = some (.str x) := rfl
/-! ### what is wanted behind a run -/
@[irreducible] def OkF (o : FO) (P : Val → Bool → Hh → Prop) : Prop := match o with
  | .ok w b h => P w b h
  | .bad => False
@[irreducible] def OkN (o : SO) (P : Ev → Hh → Prop) : Prop := match o with
  | .nx ρ h => P ρ h
  | _ => False
theorem okf_ok {w : Val} {b : Bool} {h : Hh} {P : Val → Bool → Hh → Prop} : OkF (.ok w b h) P = P w b h := by unfold OkF; rfl
theorem okn_nx {ρ : Ev} {h : Hh} {P : Ev → Hh → Prop} : OkN (.nx ρ h) P = P ρ h := by unfold OkN; rfl
theorem okf_get {o : FO} {P : Val → Bool → Hh → Prop} (e : OkF o P) : ∃ w b h, o = .ok w b h ∧ P w b h := by
  unfold OkF at e
  cases o with
  | bad => exact e.elim
  | ok w b h => exact ⟨w, b, h, rfl, e⟩
theorem okn_get {o : SO} {P : Ev → Hh → Prop} (e : OkN o P) : ∃ ρ h, o = .nx ρ h ∧ P ρ h := by
  unfold OkN at e
  cases o <;> first | exact e.elim | exact ⟨_, _, rfl, e⟩
theorem okf_to {o : FO} {w : Val} {b : Bool} {h : Hh} (e : OkF o fun w' b' h' => w' = w ∧ b' = b ∧ h' = h) : o = .ok w b h := by
  obtain ⟨w', b', h', e1, rfl, rfl, rfl⟩ := okf_get e; exact e1
section
variable {γ : Type} {tg : Val → M Unit} {body k : MS} {g : γ → D} {L : List γ} {ρ : Ev} {h : Hh}
theorem for_p (I : List γ → Ev → Hh → Prop) (i : I [] ρ h) (step : ∀ pre x post ρ h, L = pre ++ x :: post → I pre ρ h → OkN (Out.ts (fun _ => body) (tg (.d (g x)) ρ h)) fun ρ' h' => I (pre ++ [x]) ρ' h') :
    ∃ ρ' h', forLoop tg body (L.map g) ρ h = .nx ρ' h' ∧ I L ρ' h' :=
  for_inv g I L i fun pre x post ρ h e i => okn_get (step pre x post ρ h e i)
theorem for_f {P : Val → Bool → Hh → Prop} (I : List γ → Ev → Hh → Prop) (i : I [] ρ h) (step : ∀ pre x post ρ h, L = pre ++ x :: post → I pre ρ h → OkN (Out.ts (fun _ => body) (tg (.d (g x)) ρ h)) fun ρ' h' => I (pre ++ [x]) ρ' h')
    (fin : ∀ ρ' h', I L ρ' h' → OkF (FO.of (k ρ' h')) P) : OkF (FO.of (SO.sq k (forLoop tg body (L.map g) ρ h))) P := by
  obtain ⟨ρ', h', e, i'⟩ := for_p I i step
  rw [e, sq_nx]; exact fin ρ' h' i'
theorem for_n {P : Ev → Hh → Prop} (I : List γ → Ev → Hh → Prop) (i : I [] ρ h) (step : ∀ pre x post ρ h, L = pre ++ x :: post → I pre ρ h → OkN (Out.ts (fun _ => body) (tg (.d (g x)) ρ h)) fun ρ' h' => I (pre ++ [x]) ρ' h')
    (fin : ∀ ρ' h', I L ρ' h' → OkN (k ρ' h') P) : OkN (SO.sq k (forLoop tg body (L.map g) ρ h)) P := by
  obtain ⟨ρ', h', e, i'⟩ := for_p I i step
  rw [e, sq_nx]; exact fin ρ' h' i'
end
theorem range_nat {ρ : Ev} {h : Hh} {n : Nat} (hn : n < 2 ^ 62) : rangeM (.d (.int 0)) (.d (.int (n : Int))) ρ h = .ok ((List.range n).map fun i => D.int (i : Nat)) ρ h := by
  rw [range_at (by omega) (by omega), Int.toNat_natCast]
theorem range_split {n : Nat} {pre post : List Nat} {x : Nat} (e : List.range n = pre ++ x :: post) : x = pre.length ∧ pre.length < n ∧ pre = List.range pre.length := by
  have h1 : pre.length < n := by have := congrArg List.length e; simp at this; omega
  have h2 : (List.range n)[pre.length]? = some x := by rw [e]; simp
  rw [List.getElem?_range h1] at h2
  refine ⟨(Option.some.inj h2).symm, h1, ?_⟩
  have h3 : (List.range n).take pre.length = pre := by rw [e]; simp
  rw [← h3]; simp [List.take_range, Nat.min_eq_left (Nat.le_of_lt h1)]
/-- both without doubles, the same members -/
theorem len_same {α : Type} [BEq α] [LawfulBEq α] {a b : List α} (ha : a.Nodup) (hb : b.Nodup) (h1 : ∀ x ∈ a, x ∈ b) (h2 : ∀ x ∈ b, x ∈ a) : a.length = b.length :=
  Nat.le_antisymm (ha.length_le_of_subset h1) (hb.length_le_of_subset h2)
theorem putD_last {xs : List D} {a v : D} : putD (.lst (xs ++ [a])) (.int (-1)) v = some (.lst (xs ++ [v])) := by
  show (ixN (xs ++ [a]).length (-1)).map (fun j => D.lst ((xs ++ [a]).set j v)) = _
  rw [List.length_append, List.length_singleton, ixN_last]
  simp [List.set_append_right]
theorem foldK_new : ∀ (L : List (Key × D)) (ks : List Key) (ds : List D), (ks ++ L.map (·.1)).Nodup → foldK L ks ds = (ks ++ L.map (·.1), ds ++ L.map (·.2))
  | [], ks, ds, _ => by simp [foldK]
  | p :: L, ks, ds, nd => by
    have nk : p.1 ∉ ks := fun z => (List.nodup_append.mp nd).2.2 _ z _ (List.mem_cons_self (a := p.1) (l := L.map (·.1))) rfl
    rw [foldK, putKs_new nk, putDs_new nk, foldK_new L _ _ (by rw [List.append_assoc]; exact nd)]
    simp
theorem keyDs_str {α : Type} {f : α → Str} : ∀ (L : List α), keyDs (L.map fun x => D.str (f x)) = some (L.map fun x => Sum.inr (f x))
  | [] => rfl
  | x :: L => by rw [List.map_cons, keyDs, keyDs_str L]; rfl
theorem dzip_new {α : Type} {f : α → Str} {L : List α} {ys : List D} (nd : (L.map fun x => (Sum.inr (f x) : Key)).Nodup) (hl : ys.length = L.length) : dictD ((L.map fun x => (Sum.inr (f x) : Key)).zip ys) = .dic (L.map fun x => Sum.inr (f x)) ys := by
  have h1 : ((L.map fun x => (Sum.inr (f x) : Key)).zip ys).map (·.1) = L.map fun x => Sum.inr (f x) := List.map_fst_zip (by rw [List.length_map]; omega)
  have h2 : ((L.map fun x => (Sum.inr (f x) : Key)).zip ys).map (·.2) = ys := List.map_snd_zip (by rw [List.length_map]; omega)
  unfold dictD
  rw [foldK_new _ _ _ (by rw [List.nil_append, h1]; exact nd), h1, h2]; simp
theorem dzipD_tt {α : Type} {f : α → Str} {L : List α} {ys : List D} (nd : (L.map fun x => (Sum.inr (f x) : Key)).Nodup) (hl : ys.length = L.length) : dzipD (.tup (L.map fun x => D.str (f x))) (.tup ys) = some (.dic (L.map fun x => Sum.inr (f x)) ys) := by
  unfold dzipD
  simp only [seqD, keyDs_str, Option.map_some, dzip_new nd hl]
theorem dzipD_lt {α : Type} {f : α → Str} {L : List α} {ys : List D} (nd : (L.map fun x => (Sum.inr (f x) : Key)).Nodup) (hl : ys.length = L.length) : dzipD (.lst (L.map fun x => D.str (f x))) (.tup ys) = some (.dic (L.map fun x => Sum.inr (f x)) ys) := by
  unfold dzipD
  simp only [seqD, keyDs_str, Option.map_some, dzip_new nd hl]
/-- dict of a list of pairs -/
theorem pairs_map {α : Type} {f : α → Str} {d : α → D} : ∀ (L : List α), pairsD (L.map fun x => D.tup [.str (f x), d x]) = some (L.map fun x => (Sum.inr (f x), d x))
  | [] => rfl
  | x :: L => by rw [List.map_cons, pairsD, pairs_map L]; rfl
theorem dict_pairs {α : Type} {f : α → Str} {d : α → D} {L : List α} (nd : (L.map fun x => (Sum.inr (f x) : Key)).Nodup) : bi2D .dict (.lst (L.map fun x => D.tup [.str (f x), d x])) = some (.dic (L.map fun x => Sum.inr (f x)) (L.map d)) := by
  show (pairsD (L.map fun x => D.tup [.str (f x), d x])).map dictD = _
  rw [pairs_map]
  show some (dictD _) = _
  unfold dictD
  rw [foldK_new _ _ _ (by rw [List.nil_append, List.map_map]; exact nd), List.map_map, List.map_map]
  simp [Function.comp_def]
end EV

set_option maxRecDepth 100000
set_option maxHeartbeats 1000000
/-! EvPn: laws of texts, sums and sorting. -/
namespace EV
open PySem PySem.Spec PyProof.Rows L2

/-! ### texts as lists of signs -/
def mk (l : List Nat) : Str := ⟨l.toArray⟩
theorem mk_cps {l : List Nat} : (mk l).cps.toList = l := by unfold mk; simp
theorem mk_len {l : List Nat} : (mk l).length = l.length := by unfold mk; show l.toArray.size = _; simp
theorem mk_app {a b : List Nat} : mk a ++ mk b = mk (a ++ b) := by
  apply strEq
  show ((mk a).cps ++ (mk b).cps).toList = _
  rw [Array.toList_append, mk_cps, mk_cps, mk_cps]
theorem mk_inj {a b : List Nat} (h : mk a = mk b) : a = b := by have := congrArg (fun x : Str => x.cps.toList) h; simpa [mk_cps] using this
theorem mk_one {c : Nat} : (⟨#[c]⟩ : Str) = mk [c] := rfl
theorem mk_of {x : Str} : x = mk x.cps.toList := strEq (by rw [mk_cps])
theorem cut_lo {l : List Nat} {k : Nat} : cutS (mk l) none (some (k : Int)) = mk (l.take k) := by
  unfold cutS
  rw [HT.sIx_none, HT.sIx_nat, mk_cps, mk_len, List.drop_zero, Nat.sub_zero]
  show mk _ = _
  congr 1
  by_cases h : k ≤ l.length
  · rw [Nat.min_eq_left h]
  · rw [Nat.min_eq_right (by omega), List.take_of_length_le (by omega), List.take_of_length_le (by omega)]
theorem cut_hi {l : List Nat} {k : Nat} : cutS (mk l) (some (k : Int)) none = mk (l.drop k) := by
  unfold cutS
  rw [HT.sIx_none, HT.sIx_nat, mk_cps, mk_len]
  show mk _ = _
  congr 1
  by_cases h : k ≤ l.length
  · rw [Nat.min_eq_left h, List.take_of_length_le (by simp)]
  · rw [Nat.min_eq_right (by omega), List.drop_of_length_le (Nat.le_refl _), List.drop_of_length_le (by omega)]; simp
theorem rep_one {c n : Nat} : repS (mk [c]) n = mk (List.replicate n c) := by
  unfold repS
  rw [mk_cps]
  show mk _ = _
  congr 1
  induction n with
  | zero => rfl
  | succ n ih => rw [List.replicate_succ, List.flatten_cons, ih, List.replicate_succ]; rfl
/-! ### numbers -/
theorem mul_int {a b : Int} (h : (-(2 ^ 64) < a ∧ a < 2 ^ 64) ∨ (-(2 ^ 64) < b ∧ b < 2 ^ 64)) : mulD (.int a) (.int b) = some (.int (a * b)) := by
  unfold mulD; simp only; rw [if_pos h]
theorem mul_r {a b : Int} (h : decide (-(2 ^ 64) < b) = true) (h2 : decide (b < 2 ^ 64) = true) : mulD (.int a) (.int b) = some (.int (a * b)) := mul_int (.inr ⟨of_decide_eq_true h, of_decide_eq_true h2⟩)
theorem mul_l {a b : Int} (h : decide (-(2 ^ 64) < a) = true) (h2 : decide (a < 2 ^ 64) = true) : mulD (.int a) (.int b) = some (.int (a * b)) := mul_int (.inl ⟨of_decide_eq_true h, of_decide_eq_true h2⟩)
theorem mul_str {x : Str} {k : Int} (h : 2 ≤ k ∧ k < 2147483648 ∧ 0 < x.length ∧ x.length * k.toNat ≤ sizeLine) : mulD (.str x) (.int k) = some (.str (repS x k.toNat)) := by
  unfold mulD; simp only; rw [if_pos h]
theorem mul_lst {x : D} {k : Int} (h : 0 ≤ k ∧ k < 1000000) : mulD (.lst [x]) (.int k) = some (.lst (List.replicate k.toNat x)) := by
  unfold mulD
  have h1 : 1000000 ≤ sizeLine := by decide
  simp only
  rw [if_pos ⟨h.1, by omega, by simp; omega⟩]
  congr 2
  generalize k.toNat = n
  induction n with
  | zero => rfl
  | succ n ih => rw [List.replicate_succ, List.flatten_cons, ih, List.replicate_succ]; rfl
theorem put3_0 {a b c v : D} : putD (.lst [a, b, c]) (.int 0) v = some (.lst [v, b, c]) := rfl
theorem put3_1 {a b c v : D} : putD (.lst [a, b, c]) (.int 1) v = some (.lst [a, v, c]) := rfl
theorem put3_2 {a b c v : D} : putD (.lst [a, b, c]) (.int 2) v = some (.lst [a, b, v]) := rfl
theorem mem_strs {x : Str} {L : List Str} : D.str x ∈ L.map D.str ↔ x ∈ L := by
  constructor
  · intro h; obtain ⟨y, hy, e⟩ := List.mem_map.mp h; cases e; exact hy
  · intro h; exact List.mem_map.mpr ⟨x, h, rfl⟩
/-! ### sorting -/
theorem insD_map {α β : Type} {g : α → β} {lt : β → β → Bool} (x : α) : ∀ L : List α, insD lt (g x) (L.map g) = (insD (fun a b => lt (g a) (g b)) x L).map g
  | [] => rfl
  | y :: L => by
    rw [List.map_cons, insD, insD]
    by_cases h : lt (g y) (g x) = true
    · rw [if_pos h, if_pos h, insD_map x L]; rfl
    · rw [if_neg h, if_neg h]; rfl
theorem isort_map {α β : Type} {g : α → β} {lt : β → β → Bool} : ∀ L : List α, isort lt (L.map g) = (isort (fun a b => lt (g a) (g b)) L).map g
  | [] => rfl
  | x :: L => by rw [List.map_cons, isort, isort, isort_map L, insD_map]
theorem ltS_tri {a b : Str} (h1 : ltS a b = false) (h2 : ltS b a = false) : a = b := by
  have e : ∀ x y : Str, x ≠ y → ltKs [.inr x] [.inr y] = ltS x y := fun x y n => by
    show (if (Sum.inr x : Key) = .inr y then false else decide (x.cps.toList < y.cps.toList)) = _
    rw [if_neg fun z => n (Sum.inr.inj z)]; rfl
  by_cases n : a = b
  · exact n
  · have := ltKs_total (a := [.inr a]) (b := [.inr b]) (by rw [e a b n]; exact h1) (by rw [e b a fun z => n z.symm]; exact h2)
    cases this; rfl
/-- records that begin with a name, no two of one name -/
theorem srt_named {α : Type} {g : α → D} {nm : α → Str} {rest : α → List Key} (hk : ∀ a, kyD (g a) = .inr (nm a) :: rest a) {L : List α} (nd : (L.map nm).Nodup) :
    ∃ S : List α, isort ltD (L.map g) = S.map g ∧ S.Perm L ∧ S.Pairwise (fun a b => ltS (nm a) (nm b) = true) := by
  refine ⟨isort (fun a b => ltD (g a) (g b)) L, isort_map L, isort_perm L, ?_⟩
  have O : SrtO.Swo (fun a b => ltD (g a) (g b)) := ltKs_swo fun a => kyD (g a)
  have s := isort_srtd O L
  have nd2 : ((isort (fun a b => ltD (g a) (g b)) L).map nm).Nodup := ((isort_perm L).map nm).symm.nodup nd
  have ne : (isort (fun a b => ltD (g a) (g b)) L).Pairwise (fun a b => nm a ≠ nm b) := List.pairwise_map.mp nd2
  refine (List.Pairwise.and s ne).imp fun {a b} ⟨h1, h2⟩ => ?_
  have h1 : ltKs (kyD (g b)) (kyD (g a)) = false := h1
  rw [hk, hk] at h1
  have h1 : (if (Sum.inr (nm b) : Key) = .inr (nm a) then ltKs (rest b) (rest a) else decide ((nm b).cps.toList < (nm a).cps.toList)) = false := h1
  rw [if_neg fun z => h2 (Sum.inr.inj z).symm] at h1
  cases h3 : ltS (nm a) (nm b) with
  | true => rfl
  | false => exact absurd (ltS_tri h3 h1) h2
theorem sort_named {α : Type} {g : α → D} {nm : α → Str} {rest : α → List Key} {sh : List Bool} (hk : ∀ a, ∃ xs, g a = .tup xs ∧ keyDs xs = some (.inr (nm a) :: rest a) ∧ (Sum.inr (nm a) :: rest a : List Key).map isS = sh) {L : List α} (nd : (L.map nm).Nodup) :
    ∃ S : List α, bi2D .sorted (.lst (L.map g)) = some (.lst (S.map g)) ∧ S.Perm L ∧ S.Pairwise (fun a b => ltS (nm a) (nm b) = true) := by
  have hk2 : ∀ a, kyD (g a) = .inr (nm a) :: rest a := fun a => by
    obtain ⟨xs, e1, e2, _⟩ := hk a
    rw [e1]; show (keyDs xs).getD [] = _; rw [e2]; rfl
  obtain ⟨S, e1, e2, e3⟩ := srt_named hk2 nd
  refine ⟨S, ?_, e2, e3⟩
  show sortD (L.map g) = _
  unfold sortD
  have ok : sortOk (L.map g) = true := by
    unfold sortOk
    cases L with
    | nil => rfl
    | cons l L =>
      have t : tupsOk ((l :: L).map g) = true := by
        rw [List.map_cons, tupsOk]
        have hs : ∀ a, (kyD (g a)).map isS = sh := fun a => by
          obtain ⟨xs, _, _, e⟩ := hk a; rw [hk2 a]; exact e
        have hne : sh.isEmpty = false := by rw [← hs l, hk2 l]; rfl
        rw [hs l, hne, Bool.not_false, Bool.true_and, ← List.map_cons, List.all_eq_true]
        intro d hd
        obtain ⟨a, _, e⟩ := List.mem_map.mp hd
        subst e
        obtain ⟨xs, q1, q2, q3⟩ := hk a
        rw [q1]
        show (match keyDs xs with | some ks => decide (ks.map isS = sh) | none => false) = true
        rw [q2]; exact decide_eq_true q3
      rw [t]; simp
  rw [if_pos ok, e1]
/-! ### picking -/
theorem pick_mem {α : Type} {xs : List α} {r : Int} (h0 : 0 ≤ r) (h1 : r < xs.length) : ∃ x, x ∈ xs ∧ atI xs r = some x := by
  obtain ⟨x, e1, e2⟩ := atI_lt h0 h1
  exact ⟨x, List.mem_of_getElem? e2, e1⟩
theorem ixN_lt {n : Nat} {r : Int} (h0 : 0 ≤ r) (h1 : r < n) : ixN n r = some r.toNat := by
  unfold ixN; rw [if_pos h0, if_pos h1]
theorem erase_perm {α : Type} : ∀ {L : List α} {j : Nat} (h : j < L.length), (L[j] :: L.eraseIdx j).Perm L
  | [], _, h => absurd h (by simp)
  | x :: L, 0, _ => List.Perm.refl _
  | x :: L, j + 1, h => by
    have hj : j < L.length := by simpa using h
    show (L[j] :: x :: L.eraseIdx j).Perm (x :: L)
    exact (List.Perm.swap x L[j] _).trans ((erase_perm hj).cons x)
theorem erase_map {α β : Type} {f : α → β} : ∀ {L : List α} {j : Nat}, (L.map f).eraseIdx j = (L.eraseIdx j).map f
  | [], _ => rfl
  | x :: L, 0 => rfl
  | x :: L, j + 1 => by show f x :: (L.map f).eraseIdx j = _; rw [erase_map]; rfl
end EV

set_option maxRecDepth 100000
set_option maxHeartbeats 1000000
/-! EvPo: what may be shown; sums. -/
namespace EV
open PySem PySem.Spec PyProof.Rows L2

structure ShP (w dep : Nat) (p : PyData) : Prop where
  a : p.canLay0 = true
  b : p.depth ≤ dep
  c : p.weight ≤ w
  d : p.intsShort 13 = true
  e : p.showable = true
structure ShPs (w dep : Nat) (ps : List PyData) : Prop where
  a : PyData.canLayAll0 ps = true
  b : PyData.depthAll ps ≤ dep
  c : PyData.weightAll ps ≤ w
  d : PyData.intsShortAll 13 ps = true
  e : PyData.showableAll ps = true
def Shw (w dep : Nat) (d : D) : Prop := ∃ p, toP d = some p ∧ ShP w dep p
def Shws (w dep : Nat) (ds : List D) : Prop := ∃ ps, toPs ds = some ps ∧ ShPs w dep ps
theorem shw_int {i : Int} {w dep : Nat} (h1 : -1000000000 ≤ i) (h2 : i ≤ 1000000000) (hw : 32 ≤ w) : Shw w dep (.int i) := by
  have hl : i.natAbs < 2 ^ 30 := by omega
  have hg : i.natAbs.log2 < 30 := by
    by_cases z : i.natAbs = 0
    · rw [z]; decide
    · exact (Nat.log2_lt z).mpr hl
  refine ⟨.int i, rfl, rfl, Nat.zero_le _, ?_, ?_, ?_⟩
  · show (if i == 0 then 0 else i.natAbs.log2 + 1) ≤ w
    split <;> omega
  · exact intsShort_of_noneOrIn (lo := -1000000001) (hi := 1000000001) (by omega) (by omega) (.int i) (by
      show (decide (-1000000001 < i) && decide (i < 1000000001)) = true
      rw [decide_eq_true (by omega), decide_eq_true (by omega)]; rfl)
  · exact decide_eq_true (by omega)
theorem shw_str {x : Str} {w dep : Nat} (h1 : PyData.strOk x = true) (h2 : x.length ≤ w) : Shw w dep (.str x) :=
  ⟨.str x, rfl, h1, Nat.zero_le _, h2, rfl, rfl⟩
theorem shw_bl {b : Bool} {w dep : Nat} : Shw w dep (.bl b) := ⟨.bool b, rfl, rfl, Nat.zero_le _, Nat.zero_le _, rfl, rfl⟩
theorem shw_non {w dep : Nat} : Shw w dep .non := ⟨.none, rfl, rfl, Nat.zero_le _, Nat.zero_le _, rfl, rfl⟩
theorem shws {w dep : Nat} : ∀ {ds : List D}, (∀ d ∈ ds, Shw w dep d) → Shws (ds.length * (w + 1)) dep ds
  | [], _ => ⟨[], rfl, rfl, Nat.zero_le _, Nat.zero_le _, rfl, rfl⟩
  | d :: ds, h => by
    obtain ⟨p, e1, a⟩ := h d List.mem_cons_self
    obtain ⟨ps, e2, b⟩ := shws (ds := ds) fun x hx => h x (List.mem_cons_of_mem _ hx)
    refine ⟨p :: ps, by rw [toPs, e1, e2], ?_, Nat.max_le.mpr ⟨a.b, b.b⟩, ?_, ?_, ?_⟩
    · show (p.canLay0 && PyData.canLayAll0 ps) = true; rw [a.a, b.a]; rfl
    · show p.weight + 1 + PyData.weightAll ps ≤ _
      have := a.c; have := b.c
      rw [List.length_cons, Nat.succ_mul]; omega
    · show (p.intsShort 13 && PyData.intsShortAll 13 ps) = true; rw [a.d, b.d]; rfl
    · show (p.showable && PyData.showableAll ps) = true; rw [a.e, b.e]; rfl
theorem shw_tup {w dep n : Nat} {ds : List D} (h : ∀ d ∈ ds, Shw w dep d) (hn : ds.length ≤ n) : Shw (n * (w + 1)) (dep + 1) (.tup ds) := by
  obtain ⟨ps, e, a⟩ := shws h
  exact ⟨.tuple ps, by rw [toP, e]; rfl, a.a, Nat.succ_le_succ a.b, Nat.le_trans a.c (Nat.mul_le_mul_right _ hn), a.d, a.e⟩
theorem shw_lst {w dep n : Nat} {ds : List D} (h : ∀ d ∈ ds, Shw w dep d) (hn : ds.length ≤ n) : Shw (n * (w + 1)) (dep + 1) (.lst ds) := by
  obtain ⟨ps, e, a⟩ := shws h
  exact ⟨.list ps, by rw [toP, e]; rfl, a.a, Nat.succ_le_succ a.b, Nat.le_trans a.c (Nat.mul_le_mul_right _ hn), a.d, a.e⟩
theorem Shw.mono {w w' dep dep' : Nat} {d : D} (h : Shw w dep d) (h1 : w ≤ w') (h2 : dep ≤ dep') : Shw w' dep' d := by
  obtain ⟨p, e, a⟩ := h
  exact ⟨p, e, a.a, Nat.le_trans a.b h2, Nat.le_trans a.c h1, a.d, a.e⟩
theorem repr_lst {w dep : Nat} {ds : List D} (h : Shw w dep (.lst ds)) (h1 : w ≤ 2 ^ 20) (h2 : dep ≤ 50) : ∃ x, bi2D .repr (.lst ds) = some (.str x) := by
  obtain ⟨p, e, a⟩ := h
  refine ⟨p.shown, ?_⟩
  have ok : showOk p = true := by
    unfold showOk
    rw [a.a, a.d, a.e, decide_eq_true (Nat.le_trans a.b h2), decide_eq_true (Nat.le_trans a.c h1)]; rfl
  show (match toP (.lst ds) with
    | some p => if showOk p = true then some (D.str p.shown) else none
    | none => none) = _
  rw [e]
  show (if showOk p = true then some (D.str p.shown) else none) = _
  rw [if_pos ok]
theorem perm_sum {a b : List Int} (p : a.Perm b) : a.sum = b.sum := by
  induction p with
  | nil => rfl
  | cons x _ ih => simp [ih]
  | swap x y l => simp; omega
  | trans _ _ h1 h2 => rw [h1, h2]
/-! ### slots through a comprehension -/
theorem pick_drop {a : Sl} : pick a (dropF a) = a := by
  cases a with
  | no => rfl
  | own b => rfl
  | val v => rfl
theorem pick_own {b : D} {s : Sl} : pick (.own b) s = s := rfl
theorem pick_val {v : Val} {s : Sl} : pick (.val v) s = .val v := rfl
theorem pick_no {s : Sl} : pick .no s = .no := rfl
theorem drop_no : dropF .no = .no := rfl
theorem drop_own {b : D} : dropF (.own b) = .own b := rfl
theorem drop_d {x : D} : dropF (.val (.d x)) = .val (.d x) := rfl
theorem drop_ref {j : Nat} : dropF (.val (.ref j)) = .val (.ref j) := rfl
theorem drop_scr {ns : List Int} : dropF (.val (.scr ns)) = .val (.scr ns) := rfl
theorem drop_kon {xs : List D} : dropF (.val (.kon xs)) = .val (.kon xs) := rfl
theorem drop_clo {c : Nat} {cs : List (Option D)} : dropF (.val (.clo c cs)) = .no := rfl
theorem drop_mk {c : Nat} : dropF (.val (.mk c)) = .no := rfl
theorem pow_int {a b : Int} (h : 0 ≤ b ∧ b ≤ 1000000 ∧ a.natAbs < 2 ^ 64) : powD (.int a) (.int b) = some (.int (a ^ b.toNat)) := by unfold powD; simp only; rw [if_pos h]
theorem pow_10_15 : powD (.int 10) (.int 15) = some (.int 1000000000000000) := pow_int ⟨by decide, by decide, by decide⟩
theorem cut_map {α : Type} {f : α → D} {L : List α} {lo hi : Option Int} : ∃ L' : List α, cutD (L.map f) lo hi = L'.map f := by
  unfold cutD
  rw [← List.map_drop, ← List.map_take]
  exact ⟨_, rfl⟩
theorem ixD_lst {xs : List D} {i : Int} : ixD (.lst xs) (.int i) = atI xs i := rfl
theorem ixD_tup {xs : List D} {i : Int} : ixD (.tup xs) (.int i) = atI xs i := rfl
theorem ixD_str {x : Str} {i : Int} : ixD (.str x) (.int i) = (atI x.cps.toList i).map fun c => .str ⟨#[c]⟩ := rfl
theorem ixD_dic {ks : List Key} {ds : List D} {k : D} : ixD (.dic ks ds) k = (keyD k).bind (look ks ds) := rfl
theorem ixD_dit {ks : List (List Key)} {ds : List D} {k : D} : ixD (.dit ks ds) k = (keyT k).bind (look ks ds) := rfl
end EV

set_option maxHeartbeats 0
namespace Law
open PySem PySem.Spec PyProof.Rows L2 EV
local macro_rules | `(tactic| exists $es,*) => `(tactic| simp -implicitDefEqProofs only [th_ok, th_bad, ts_ok, sq_nx, sq_rt, sq_bk, sq_ct, of_rt, of_nx, lp_nx, lp_ct, lp_bk, lp_rt, ↓bind_at, ↓ths_at, ↓seq_at, ↓ite_at, ↓ites_at, ret_at, fail_at, q_den_0, q_den_1, q_den_2, q_den_3, q_den_4, q_den_5, q_den_6, q_den_7, q_den_8, q_den_9, q_den_10, q_den_11, q_den_12, q_den_13, q_den_14, q_den_15, q_den_16, q_den_17, q_den_18, q_den_19, q_den_20, q_den_21, q_den_22, q_den_23, q_den_24, q_den_25, q_den_26, q_den_27, q_den_28, q_den_29, q_den_30, q_den_31, q_den_32, q_den_33, q_den_34, q_den_35, preM, extM, q_denF_0, q_denF_1, q_denF_2, q_denF_3, q_denF_4, q_denF_5, q_dens_0, q_dens_1, q_denO_0, q_denO_1, q_denB_0, q_denB_1, q_denBr_0, q_denT_0, q_denT_1, q_denT_2, q_denT_3, q_denT_4, q_denT_5, q_denT_6, q_denT_7, q_denT_8, q_denT_9, q_denT_10, q_denT_11, q_denT_12, q_denTB_0, q_denTB_1, q_denTs_0, q_denTs_1, q_denI_0, q_denI_1, q_denI_2, q_denI_3, q_denI_4, q_denI_5, q_denI_6, q_asg_0, q_asg_1, q_asgs_0, q_asgs_1, q_denS_0, q_denS_1, q_denS_2, q_denS_3, q_denS_4, q_denS_5, q_denS_6, q_denS_7, q_denS_8, q_denS_9, q_denS_10, q_denS_11, q_denS_12, q_denS_13, q_denS_14, q_denS_15, q_denS_16, q_denS_17, q_denS_18, q_denSs_0, q_denSs_1, q_denBr_1, q_asg_tp, q_denF_bi, q_denF_so, q_denF_di, q_denF_bin, q_fs_0, q_fs_t, q_fs_f, for_nil, nameM, isOwn, appM, popM, get2M, setM, putM, itemsM, itemsD, valsD, itemsPD, dicM, seqM, zipM, ownM, retM, retOwnM, retNmM, freezeM, parM, augM, lift1, lift2, binM, cmpM, ixM, slM, partI, truM, truOk, truD, rds, biM, plainV, plains, capAt, capsAt, hand, hands, backM, backO, callM, callM0, lendM, callO, callbM, callnM, lstM, repM, keyV, isiO, isiD, opD, addD, subD, fdivD, modD, slD, biD, rd, cmpD, lvl_con, lvl_fr, lvl_ar, isNonD, keyD, List.map_cons, List.map_nil, List.length_cons, List.length_nil, List.getElem?_cons_zero, List.getElem?_cons_succ, List.set_cons_zero, List.set_cons_succ, List.replicate, List.append_eq, List.cons_append, List.nil_append, Option.map_some, Option.map_none, Option.bind_some, Option.some.injEq, Bool.not_true, Bool.not_false, Nat.reduceAdd, Nat.reduceSub, Nat.reduceLT, Nat.reduceLeDiff, Bool.false_eq_true, if_true, if_false, reduceIte, reduceCtorEq, true_and, and_true, and_self, not_true_eq_false, not_false_eq_true, lcx_ok, dcx_ok, blkE, wipeE, noOwn, outE, List.all_cons, List.all_nil, Bool.and_true, List.zipWith_cons_cons, List.zipWith_nil_left, eqD_int, eqD_str, eqD_bl, eqD_int_non, atI_0, atI_1, atI_2, atI_3, atI_last, in_chr, in_tup, in_lst, decide_true, decide_false, sz0, sz1, sz2, sz3, sz4, sz5, sz6, sz7, Nat.zero_le, Int.cast_ofNat_Int, eq_self, okf_ok, okn_nx, putD_last, Int.reduceLT, Int.reduceLE, Int.reducePow, Int.reduceNeg, gt_iff_lt, Int.zero_add, lz0, lz1, lz2, lz3, pick_drop, pick_own, pick_val, pick_no, drop_no, drop_own, drop_d, drop_ref, drop_scr, drop_kon, drop_clo, drop_mk, pow_10_15, ixD_lst, ixD_tup, ixD_str, ixD_dic, ixD_dit, $[$es:term],*])
local macro_rules | `(tactic| exists trivial, $es,*) => `(tactic| simp -implicitDefEqProofs only [th_ok, th_bad, ts_ok, sq_nx, sq_rt, sq_bk, sq_ct, of_rt, of_nx, lp_nx, lp_ct, lp_bk, lp_rt, ↓bind_at, ↓ths_at, ↓seq_at, ↓ite_at, ↓ites_at, ret_at, fail_at, q_den_0, q_den_1, q_den_2, q_den_3, q_den_4, q_den_5, q_den_6, q_den_7, q_den_8, q_den_9, q_den_10, q_den_11, q_den_12, q_den_13, q_den_14, q_den_15, q_den_16, q_den_17, q_den_18, q_den_19, q_den_20, q_den_21, q_den_22, q_den_23, q_den_24, q_den_25, q_den_26, q_den_27, q_den_28, q_den_29, q_den_30, q_den_31, q_den_32, q_den_33, q_den_34, q_den_35, preM, extM, q_denF_0, q_denF_1, q_denF_2, q_denF_3, q_denF_4, q_denF_5, q_dens_0, q_dens_1, q_denO_0, q_denO_1, q_denB_0, q_denB_1, q_denBr_0, q_denT_0, q_denT_1, q_denT_2, q_denT_3, q_denT_4, q_denT_5, q_denT_6, q_denT_7, q_denT_8, q_denT_9, q_denT_10, q_denT_11, q_denT_12, q_denTB_0, q_denTB_1, q_denTs_0, q_denTs_1, q_denI_0, q_denI_1, q_denI_2, q_denI_3, q_denI_4, q_denI_5, q_denI_6, q_asg_0, q_asg_1, q_asgs_0, q_asgs_1, q_denS_0, q_denS_1, q_denS_2, q_denS_3, q_denS_4, q_denS_5, q_denS_6, q_denS_7, q_denS_8, q_denS_9, q_denS_10, q_denS_11, q_denS_12, q_denS_13, q_denS_14, q_denS_15, q_denS_16, q_denS_17, q_denS_18, q_denSs_0, q_denSs_1, q_denBr_1, q_asg_tp, q_denF_bi, q_denF_so, q_denF_di, q_denF_bin, q_fs_0, q_fs_t, q_fs_f, for_nil, nameM, isOwn, appM, popM, get2M, setM, putM, itemsM, itemsD, valsD, itemsPD, dicM, seqM, zipM, ownM, retM, retOwnM, retNmM, freezeM, parM, augM, lift1, lift2, binM, cmpM, ixM, slM, partI, truM, truOk, truD, rds, biM, plainV, plains, capAt, capsAt, hand, hands, backM, backO, callM0, lendM, callO, callbM, callnM, lstM, repM, keyV, isiO, isiD, opD, addD, subD, fdivD, modD, slD, biD, rd, cmpD, lvl_con, lvl_fr, lvl_ar, isNonD, keyD, List.map_cons, List.map_nil, List.length_cons, List.length_nil, List.getElem?_cons_zero, List.getElem?_cons_succ, List.set_cons_zero, List.set_cons_succ, List.replicate, List.append_eq, List.cons_append, List.nil_append, Option.map_some, Option.map_none, Option.bind_some, Option.some.injEq, Bool.not_true, Bool.not_false, Nat.reduceAdd, Nat.reduceSub, Nat.reduceLT, Nat.reduceLeDiff, Bool.false_eq_true, if_true, if_false, reduceIte, reduceCtorEq, true_and, and_true, and_self, not_true_eq_false, not_false_eq_true, lcx_ok, dcx_ok, blkE, wipeE, noOwn, outE, List.all_cons, List.all_nil, Bool.and_true, List.zipWith_cons_cons, List.zipWith_nil_left, eqD_int, eqD_str, eqD_bl, eqD_int_non, atI_0, atI_1, atI_2, atI_3, atI_last, in_chr, in_tup, in_lst, decide_true, decide_false, sz0, sz1, sz2, sz3, sz4, sz5, sz6, sz7, Nat.zero_le, Int.cast_ofNat_Int, eq_self, okf_ok, okn_nx, putD_last, Int.reduceLT, Int.reduceLE, Int.reducePow, Int.reduceNeg, gt_iff_lt, Int.zero_add, lz0, lz1, lz2, lz3, pick_drop, pick_own, pick_val, pick_no, drop_no, drop_own, drop_d, drop_ref, drop_scr, drop_kon, drop_clo, drop_mk, pow_10_15, ixD_lst, ixD_tup, ixD_str, ixD_dic, ixD_dit, $[$es:term],*])
/-! ### words and names -/
def LET : Str := "abcdefghijklmnopqrstuvwxyz"
def words : List Str := [.ofString "above", .ofString "all", .ofString "at", .ofString "book", .ofString "by", .ofString "canal", .ofString "close", .ofString "closed", .ofString "fair", .ofString "field", .ofString "fields", .ofString "fill", .ofString "from", .ofString "get", .ofString "give", .ofString "head", .ofString "holds", .ofString "hours", .ofString "in", .ofString "land", .ofString "least", .ofString "lend", .ofString "no", .ofString "none", .ofString "of", .ofString "on", .ofString "out", .ofString "owes", .ofString "pay", .ofString "round", .ofString "seeps", .ofString "sell", .ofString "stretch", .ofString "swap", .ofString "take", .ofString "to", .ofString "turn", .ofString "turns", .ofString "week", .ofString "yes"]
structure Nm (x : Str) : Prop where
  lo : 1 ≤ x.length
  hi : x.length ≤ 8
  le : ∀ c ∈ x.cps.toList, c ∈ LET.cps.toList
  nw : x ∉ words
theorem con_SMALL_LETTERS : pr.con "SMALL_LETTERS" = some (.str LET) := rfl
theorem con_MOST_IN_NAME : pr.con "MOST_IN_NAME" = some (.int 8) := rfl
theorem con_WORDS : pr.con "WORDS" = some (.tup (words.map .str)) := rfl
theorem con_MOST_STRETCHES : pr.con "MOST_STRETCHES" = some (.int 14) := rfl
theorem con_LEAST_FIELDS : pr.con "LEAST_FIELDS" = some (.int 2) := rfl
theorem con_MOST_FIELDS : pr.con "MOST_FIELDS" = some (.int 7) := rfl
theorem con_MOST_HOLDS : pr.con "MOST_HOLDS" = some (.int 999) := rfl
theorem con_MOST_SEEPS : pr.con "MOST_SEEPS" = some (.int 99) := rfl
theorem con_MOST_LAND : pr.con "MOST_LAND" = some (.int 999) := rfl
theorem con_HEAD : pr.con "HEAD" = some (.str "") := rfl
theorem c_is_whole (n : Nat) (i : Int) (h : Hh) : (level pr (n+1)).call 30 [.d (.int i)] h = .ok (.d (.bl true)) false h := by
  rw [lvl_call (q := r_is_whole.q) rfl, run_at rfl]
  exists r_is_whole, b_is_whole
theorem c_is_number (n : Nat) (i lo hi : Int) (h : Hh) (h1 : lo ≤ i) (h2 : i ≤ hi) : (level pr (n+2)).call 26 [.d (.int i), .d (.int lo), .d (.int hi)] h = .ok (.d (.bl true)) false h := by
  rw [lvl_call (q := r_is_number.q) rfl, run_at rfl]
  exists r_is_number, b_is_number, c_is_whole, (Int.not_lt.mpr h1), h2
theorem c_is_tuple_of (n : Nat) (xs : List D) (k : Int) (h : Hh) : (level pr (n+1)).call 34 [.d (.tup xs), .d (.int k)] h = .ok (.d (.bl (decide ((xs.length : Int) = k)))) false h := by
  rw [lvl_call (q := r_is_tuple_of.q) rfl, run_at rfl]
  exists r_is_tuple_of, b_is_tuple_of
theorem c_is_letters (n : Nat) (x : Str) (lo hi : Int) (h : Hh) (h1 : lo ≤ x.length) (h2 : (x.length : Int) ≤ hi) (h3 : ∀ c ∈ x.cps.toList, c ∈ LET.cps.toList) (h4 : x.length ≤ sizeLine) : (level pr (n+1)).call 45 [.d (.str x), .d (.int lo), .d (.int hi)] h = .ok (.d (.bl true)) false h := by
  rw [lvl_call (q := r_is_letters.q) rfl, run_at rfl]
  exists r_is_letters, b_is_letters, h1, h2, con_SMALL_LETTERS
  rw [lc_map x.cps.toList _ (fun _ => .bl true) rfl h4 fun c hc => lct (by exists con_SMALL_LETTERS, h3 c hc)]
  exists all_true
theorem c_is_name (n : Nat) (x : Str) (h : Hh) (hx : Nm x) : (level pr (n+2)).call 43 [.d (.str x)] h = .ok (.d (.bl true)) false h := by
  have c := c_is_letters n x 1 8 h (by have := hx.lo; omega) (by have := hx.hi; omega) hx.le (Nat.le_trans hx.hi (by decide))
  rw [lvl_call (q := r_is_name.q) rfl, run_at rfl]
  exists r_is_name, b_is_name, con_MOST_IN_NAME, con_WORDS, c, hx.nw
theorem c_is_one_of (n : Nat) (x : Str) (L : List Str) (h : Hh) (hx : x ∈ L) : (level pr (n+1)).call 44 [.d (.str x), .d (.tup (L.map D.str))] h = .ok (.d (.bl true)) false h := by
  rw [lvl_call (q := r_is_one_of.q) rfl, run_at rfl]
  exists r_is_one_of, b_is_one_of, hx
theorem c_is_one_of_l (n : Nat) (x : Str) (L : List Str) (h : Hh) (hx : x ∈ L) : (level pr (n+1)).call 44 [.d (.str x), .d (.lst (L.map D.str))] h = .ok (.d (.bl true)) false h := by
  rw [lvl_call (q := r_is_one_of.q) rfl, run_at rfl]
  exists r_is_one_of, b_is_one_of, hx
theorem c_wrong_at (n : Nat) (xs : List D) (most : D) (c : Nat) (caps : List (Option D)) (h : Hh) (hm : ∀ i < xs.length, eqD (.int (i : Nat)) most = some false)
    (hk : ∀ pre x post, xs = pre ++ x :: post → (level pr n).calln c caps [.d x, .d (.tup pre)] h = .ok (.d (.bl true)) false h) : (level pr (n+1)).call 39 [.d (.tup xs), .d most, .clo c caps] h = .ok (.d (.lst [])) true h := by
  rw [lvl_call (q := r_wrong_at.q) rfl, run_at rfl]
  exists r_wrong_at, b_wrong_at
  obtain ⟨ρ', h', e, a, b, eρ, eh⟩ := for_enum (tg := asg (level pr n) (.tp [(.nm 3), (.nm 4)])) (body := denSs (level pr n) [(.ite (.bop false [(.cmp .Eq (.v 3) (.v 1)), (.not (.calln 2 [(.v 4), (.sl (.v 0) none (some (.v 3)))]))]) [(.retOwn (.lst [(.v 3)]))] [])])
    (fun pre ρ' h' => ∃ a b, ρ' = [.val (.d (.tup xs)), .val (.d most), .val (.clo c caps), a, b] ∧ h' = h) xs (ρ := [.val (.d (.tup xs)), .val (.d most), .val (.clo c caps), .no, .no]) (h := h) ⟨.no, .no, rfl, rfl⟩ (fun pre x post ρ' h' ex ⟨a, b, eρ, eh⟩ => by
      subst eρ; subst eh
      refine ⟨_, _, ?_, .val (.d (.int (pre.length : Nat))), .val (.d x), rfl, rfl⟩
      have e1 := hm pre.length (by rw [ex]; simp)
      have e2 := hk pre x post ex
      have e3 : cutD xs none (some (pre.length : Int)) = pre := by rw [ex]; exact cut_take
      exists e1, e2, e3)
  exists e
  subst eh
  rfl
theorem c_wrong_from_one (n : Nat) (xs : List D) (most : D) (c : Nat) (caps : List (Option D)) (h : Hh) (hx : xs ≠ []) (fl : Flt 60 (.tup xs)) (hm : ∀ i < xs.length, eqD (.int (i : Nat)) most = some false)
    (hk : ∀ pre x post, xs = pre ++ x :: post → (level pr n).calln c caps [.d x, .d (.tup pre)] h = .ok (.d (.bl true)) false h) : (level pr (n+2)).call 41 [.d (.tup xs), .d most, .clo c caps] h = .ok (.d (.lst [])) false h := by
  rw [lvl_call (q := r_wrong_from_one.q) rfl, run_at rfl]
  exists r_wrong_from_one, b_wrong_from_one, eqD_tup_nil fl, hx, c_wrong_at n xs most c caps h hm hk
theorem c_wrong_for_all (n : Nat) (xs : List D) (many : Int) (c : Nat) (caps : List (Option D)) (h : Hh) (hn : (xs.length : Int) = many)
    (hk : ∀ pre x post, xs = pre ++ x :: post → (level pr n).calln c caps [.d x, .d (.tup pre)] h = .ok (.d (.bl true)) false h) : (level pr (n+2)).call 33 [.d (.tup xs), .d (.int many), .clo c caps] h = .ok (.d (.lst [])) false h := by
  have e0 : eqD (.lst []) (.lst []) = some true := rfl
  rw [lvl_call (q := r_wrong_for_all.q) rfl, run_at rfl]
  exists r_wrong_for_all, b_wrong_for_all, e0, hn, c_wrong_at n xs .non c caps h (fun i _ => eqD_int_non) hk

/-! ### canals -/
abbrev Row := Str × Str × Int × Int
abbrev Fld := Str × Str × Int
def rowD (r : Row) : D := .tup [.str r.1, .str r.2.1, .int r.2.2.1, .int r.2.2.2]
def fldD (f : Fld) : D := .tup [.str f.1, .str f.2.1, .int f.2.2]
def canD (R : List Row) (F : List Fld) : D := .tup [.tup (R.map rowD), .tup (F.map fldD)]
theorem ix_can0 {R : List Row} {F : List Fld} : ixD (canD R F) (.int 0) = some (.tup (R.map rowD)) := rfl
theorem ix_can1 {R : List Row} {F : List Fld} : ixD (canD R F) (.int 1) = some (.tup (F.map fldD)) := rfl
structure GoodR (R : List Row) (rk : Str → Nat) : Prop where
  ne : R ≠ []
  len : R.length ≤ 14
  srt : R.Pairwise fun a b => ltS a.1 b.1 = true
  nd : (R.map (·.1)).Nodup
  nm : ∀ r ∈ R, Nm r.1
  ab : ∀ r ∈ R, r.2.1 = "" ∨ ∃ s ∈ R, s.1 = r.2.1 ∧ rk s.1 < rk r.1
  rk : ∀ r ∈ R, rk r.1 < R.length
  ho : ∀ r ∈ R, 0 ≤ r.2.2.1 ∧ r.2.2.1 ≤ 999
  se : ∀ r ∈ R, 0 ≤ r.2.2.2 ∧ r.2.2.2 ≤ 99
structure GoodF (R : List Row) (F : List Fld) : Prop where
  lo : 2 ≤ F.length
  hi : F.length ≤ 7
  srt : F.Pairwise fun a b => ltS a.1 b.1 = true
  nd : (F.map (·.1)).Nodup
  nm : ∀ f ∈ F, Nm f.1
  st : ∀ f ∈ F, f.2.1 ∈ R.map (·.1)
  la : ∀ f ∈ F, 1 ≤ f.2.2 ∧ f.2.2 ≤ 999
theorem flt_row {r : Row} : Flt 1 (rowD r) := flt_tup (by intro d hd; simp at hd; rcases hd with z | z | z | z <;> subst z <;> first | exact flt_str | exact flt_int)
theorem flt_fld {f : Fld} : Flt 1 (fldD f) := flt_tup (by intro d hd; simp at hd; rcases hd with z | z | z <;> subst z <;> first | exact flt_str | exact flt_int)
theorem flt_rows {R : List Row} : Flt 60 (.tup (R.map rowD)) := (flt_tup (n := 1) fun d hd => by obtain ⟨r, _, e⟩ := List.mem_map.mp hd; subst e; exact flt_row).mono (by omega)
theorem flt_flds {F : List Fld} : Flt 60 (.tup (F.map fldD)) := (flt_tup (n := 1) fun d hd => by obtain ⟨r, _, e⟩ := List.mem_map.mp hd; subst e; exact flt_fld).mono (by omega)
theorem Nm.ne {x : Str} (h : Nm x) : x ≠ "" := fun e => by have := h.lo; rw [e] at this; exact absurd this (by decide)
theorem let_ok : ∀ c ∈ LET.cps.toList, c < 0x110000 := by decide
theorem Nm.key {x : Str} (h : Nm x) : keyOkB (.inr x) = true := by
  show (PyData.strOk x && decide (x.length ≤ sizeLine)) = true
  have h1 : PyData.strOk x = true := by
    show x.cps.all (· < 0x110000) = true
    rw [← Array.all_toList, List.all_eq_true]
    intro c hc
    exact decide_eq_true (let_ok c (h.le c hc))
  rw [h1, Bool.true_and]
  exact decide_eq_true (Nat.le_trans h.hi (by decide))
theorem split_map {α β : Type} {f : α → β} {L : List α} {pre post : List β} {x : β} (e : L.map f = pre ++ x :: post) : ∃ p y q, L = p ++ y :: q ∧ pre = p.map f ∧ x = f y := by
  obtain ⟨p, q, e1, e2, e3⟩ := List.map_eq_append_iff.mp e
  obtain ⟨y, q', e4, e5, e6⟩ := List.map_eq_cons_iff.mp e3
  exact ⟨p, y, q', by rw [e1, e4], e2.symm, e5.symm⟩
theorem nil_or_last {α : Type} (p : List α) : p = [] ∨ ∃ q l, p = q ++ [l] := by
  rcases List.eq_nil_or_concat p with h | ⟨q, l, h⟩
  · exact .inl h
  · exact .inr ⟨q, l, by rw [h, List.concat_eq_append]⟩
theorem pair_last {α : Type} {S : α → α → Prop} {q post : List α} {l x : α} (h : ((q ++ [l]) ++ x :: post).Pairwise S) : S l x :=
  (List.pairwise_append.mp h).2.2 l (by simp) x (by simp)
theorem app_ne {α : Type} {q : List α} {l : α} : q ++ [l] ≠ [] := by simp
theorem c_is_stretch_form (n : Nat) (r : Row) (h : Hh) (h1 : Nm r.1) (h2 : 0 ≤ r.2.2.1 ∧ r.2.2.1 ≤ 999) (h3 : 0 ≤ r.2.2.2 ∧ r.2.2.2 ≤ 99) : (level pr (n+3)).call 40 [.d (rowD r)] h = .ok (.d (.bl true)) false h := by
  rw [lvl_call (q := r_is_stretch_form.q) rfl, run_at rfl]
  exists r_is_stretch_form, b_is_stretch_form, rowD, c_is_tuple_of, c_is_name _ _ _ h1, con_MOST_HOLDS, con_MOST_SEEPS, c_is_number _ _ _ _ _ h2.1 h2.2, c_is_number _ _ _ _ _ h3.1 h3.2
theorem nf_are_stretches_form : pr.nfs[1]? = some (n_1.q, n_1.ix) := rfl
theorem k_are_stretches_form (n : Nat) (R : List Row) (rk : Str → Nat) (h : Hh) (g : GoodR R rk) : ∀ pre x post, R.map rowD = pre ++ x :: post → (level pr (n+4)).calln 1 [] [.d x, .d (.tup pre)] h = .ok (.d (.bl true)) false h := by
  intro pre x post e
  obtain ⟨p, y, q, e1, e2, e3⟩ := split_map e
  subst e2; subst e3
  have hy : y ∈ R := by rw [e1]; simp
  have c := c_is_stretch_form (n := n) y h (g.nm y hy) (g.ho y hy) (g.se y hy)
  rw [lvl_calln nf_are_stretches_form, runN_at rfl]
  rcases nil_or_last p with ep | ⟨s, l, ep⟩
  · subst ep
    exists n_1, c, eqD_tup_nil (xs := []) ⟨.tuple [], rfl, by decide⟩
  · subst ep
    have lt := pair_last (e1 ▸ g.srt)
    have e4 := eqD_tup_nil (flt_rows (R := s ++ [l]))
    rw [List.map_append, List.map_cons, List.map_nil] at e4
    rw [List.map_append, List.map_cons, List.map_nil]
    exists n_1, c, e4, app_ne
    exists rowD, lt
theorem c_are_stretches_form (n : Nat) (R : List Row) (rk : Str → Nat) (h : Hh) (g : GoodR R rk) : (level pr (n+7)).call 35 [.d (.tup (R.map rowD))] h = .ok (.d (.bl true)) false h := by
  have c := c_wrong_from_one (n+4) (R.map rowD) (.int 14) 1 [] h (by simpa using g.ne) flt_rows (fun i hi => by rw [eqD_int]; have := g.len; rw [List.length_map] at hi; congr 1; exact decide_eq_false (by omega)) (k_are_stretches_form n R rk h g)
  have e0 : eqD (.lst []) (.lst []) = some true := rfl
  rw [lvl_call (q := r_are_stretches_form.q) rfl, run_at rfl]
  exists r_are_stretches_form, b_are_stretches_form, con_MOST_STRETCHES, nf_are_stretches_form, n_1, Option.getD_some, c, e0
theorem c_above_by (n : Nat) (R : List Row) (rk : Str → Nat) (h : Hh) (g : GoodR R rk) : (level pr (n+1)).call 42 [.d (.tup (R.map rowD))] h = .ok (.d (.dic (R.map fun r => .inr r.1) (R.map fun r => .str r.2.1))) true h := by
  rw [lvl_call (q := r_above_by.q) rfl, run_at rfl]
  exists r_above_by, b_above_by
  rw [dc_ok R rowD (fun r => .inr r.1) (fun r => .str r.2.1) rfl (Nat.le_trans g.len (by decide)) (by have := g.nd; rw [show (fun r : Row => (Sum.inr r.1 : Key)) = (Sum.inr ∘ fun r : Row => r.1) from rfl, ← List.map_map]; exact List.Pairwise.map _ (fun a b h z => h (Sum.inr.inj z)) this) fun l hl => dct (by exists rowD)]
  exists th_ok

theorem keys_ok {R : List Row} {rk : Str → Nat} (g : GoodR R rk) : (R.map fun r => (Sum.inr r.1 : Key)).all keyOkB = true := by
  rw [List.all_eq_true]; intro k hk; obtain ⟨r, hr, e⟩ := List.mem_map.mp hk; subst e; exact (g.nm r hr).key
theorem keys_d {R : List Row} : (R.map fun r => (Sum.inr r.1 : Key)).map kD = R.map fun r => D.str r.1 := by rw [List.map_map]; rfl
theorem keys_nd {α : Type} {R : List (Str × α)} (h : (R.map (·.1)).Nodup) : (R.map fun r => (Sum.inr r.1 : Key)).Nodup := by
  rw [show (fun r : Str × α => (Sum.inr r.1 : Key)) = (Sum.inr ∘ fun r : Str × α => r.1) from rfl, ← List.map_map]
  exact List.Pairwise.map _ (fun a b h z => h (Sum.inr.inj z)) h
theorem kf_ok {R : List Row} {F : List Fld} (g : GoodF R F) : (F.map fun r => (Sum.inr r.1 : Key)).all keyOkB = true := by
  rw [List.all_eq_true]; intro k hk; obtain ⟨r, hr, e⟩ := List.mem_map.mp hk; subst e; exact (g.nm r hr).key
theorem kf_d {F : List Fld} : (F.map fun r => (Sum.inr r.1 : Key)).map kD = F.map fun r => D.str r.1 := by rw [List.map_map]; rfl
theorem nd_name {α : Type} {R : List (Str × α)} {r s : Str × α} (nd : (R.map (·.1)).Nodup) (hr : r ∈ R) (hs : s ∈ R) (e : r.1 = s.1) : r = s := by
  induction R with
  | nil => cases hr
  | cons a R ih =>
    rw [List.map_cons, List.nodup_cons] at nd
    rcases List.mem_cons.mp hr with z | z <;> rcases List.mem_cons.mp hs with y | y
    · rw [z, y]
    · exact absurd (List.mem_map.mpr ⟨s, y, by rw [← e, z]⟩) nd.1
    · exact absurd (List.mem_map.mpr ⟨r, z, by rw [e, y]⟩) nd.1
    · exact ih nd.2 z y
theorem lead_step {R : List Row} {rk : Str → Nat} (g : GoodR R rk) {S : List Str} {t : Nat} (nd : S.Nodup) (hd : (Str.ofString "") ∈ S) (sub : ∀ x ∈ S, x = (Str.ofString "") ∨ x ∈ R.map (·.1)) (al : ∀ r ∈ R, rk r.1 < t → r.1 ∈ S) (p : Row → Bool) (hp : ∀ r, p r = decide (r.1 ∉ S ∧ r.2.1 ∈ S)) :
    (S ++ (R.filter p).map (·.1)).Nodup ∧ (Str.ofString "") ∈ S ++ (R.filter p).map (·.1) ∧ (∀ x ∈ S ++ (R.filter p).map (·.1), x = (Str.ofString "") ∨ x ∈ R.map (·.1)) ∧ ∀ r ∈ R, rk r.1 < t + 1 → r.1 ∈ S ++ (R.filter p).map (·.1) := by
  refine ⟨List.nodup_append.mpr ⟨nd, (List.filter_sublist.map _).nodup g.nd, fun x hx y hy e => ?_⟩, List.mem_append_left _ hd, fun x hx => ?_, fun r hr hk => ?_⟩
  · obtain ⟨r, hr, e1⟩ := List.mem_map.mp hy
    have := (List.mem_filter.mp hr).2
    rw [hp] at this
    exact (of_decide_eq_true this).1 (by rw [e1, ← e]; exact hx)
  · rcases List.mem_append.mp hx with z | z
    · exact sub x z
    · obtain ⟨r, hr, e1⟩ := List.mem_map.mp z
      exact .inr (List.mem_map.mpr ⟨r, (List.mem_filter.mp hr).1, e1⟩)
  · by_cases h1 : r.1 ∈ S
    · exact List.mem_append_left _ h1
    · refine List.mem_append_right _ (List.mem_map.mpr ⟨r, List.mem_filter.mpr ⟨hr, ?_⟩, rfl⟩)
      rw [hp]
      refine decide_eq_true ⟨h1, ?_⟩
      rcases g.ab r hr with e | ⟨s, hs, e1, e2⟩
      · rw [e]; exact hd
      · rw [← e1]; exact al s hs (by omega)
theorem lead_len {R : List Row} {rk : Str → Nat} (g : GoodR R rk) {S : List Str} (nd : S.Nodup) (hd : (Str.ofString "") ∈ S) (sub : ∀ x ∈ S, x = (Str.ofString "") ∨ x ∈ R.map (·.1)) (al : ∀ r ∈ R, rk r.1 < R.length → r.1 ∈ S) : S.length = R.length + 1 := by
  have e : S.length = ((Str.ofString "") :: R.map (·.1)).length := len_same nd (List.nodup_cons.mpr ⟨fun z => by
    obtain ⟨r, hr, e⟩ := List.mem_map.mp z
    exact (g.nm r hr).ne e, g.nd⟩) (fun x hx => by rcases sub x hx with z | z <;> simp [z] <;> simpa using z) (fun x hx => by
    rcases List.mem_cons.mp hx with z | z
    · rw [z]; exact hd
    · obtain ⟨r, hr, e⟩ := List.mem_map.mp z
      rw [← e]; exact al r hr (g.rk r hr))
  rw [e]; simp
theorem lead_le {R : List Row} {rk : Str → Nat} (g : GoodR R rk) {S : List Str} (nd : S.Nodup) (sub : ∀ x ∈ S, x = (Str.ofString "") ∨ x ∈ R.map (·.1)) : S.length ≤ 15 := by
  have : S.length ≤ ((Str.ofString "") :: R.map (·.1)).length := nd.length_le_of_subset fun x hx => by rcases sub x hx with z | z <;> simp [z] <;> simpa using z
  have := g.len
  simp at *; omega
theorem c_all_lead_up (n : Nat) (R : List Row) (rk : Str → Nat) (h : Hh) (g : GoodR R rk) : (level pr (n+2)).call 36 [.d (.tup (R.map rowD))] h = .ok (.d (.bl true)) false h := by
  have hlen := g.len
  rw [lvl_call (q := r_all_lead_up.q) rfl, run_at rfl]
  exists r_all_lead_up, b_all_lead_up, con_HEAD, c_above_by _ _ _ _ g, List.length_map, range_nat (n := R.length) (by omega)
  refine okf_to (for_f (fun pre ρ' h' => ∃ (S : List Str) (a : Sl), ρ' = [.val (.d (.tup (R.map rowD))), .val (.d (.dic (R.map fun r => .inr r.1) (R.map fun r => .str r.2.1))), .val (.d (.lst (S.map .str))), a, .no] ∧ h' = h ∧ S.Nodup ∧ (Str.ofString "") ∈ S ∧ (∀ x ∈ S, x = (Str.ofString "") ∨ x ∈ R.map (·.1)) ∧ ∀ r ∈ R, rk r.1 < pre.length → r.1 ∈ S)
    ⟨[(Str.ofString "")], .no, rfl, rfl, by simp, by simp, by simp, fun r hr z => absurd z (by simp)⟩ ?_ ?_)
  · rintro pre x post ρ' h' ex ⟨S, a, eρ, eh, nd, hd, sub, al⟩
    subst eρ; subst eh
    have st := lead_step g nd hd sub al (fun r => decide (r.1 ∉ S ∧ r.2.1 ∈ S)) fun _ => rfl
    have hS := lead_le g nd sub
    have hfl := List.length_filter_le (fun r : Row => decide (r.1 ∉ S ∧ r.2.1 ∈ S)) R
    exists keys_ok g, keys_d
    rw [lc_fil R _ (fun r => decide (r.1 ∉ S ∧ r.2.1 ∈ S)) (fun r => .str r.1) rfl (by have : 14 ≤ sizeLine := by decide
                                                                                       omega) fun r hr => lct (by
      by_cases h1 : r.1 ∈ S
      · exists h1, false_and
      · by_cases h2 : r.2.1 ∈ S
        · exists h1, h2, look_map (keys_nd g.nd) hr
        · exists h1, h2, look_map (keys_nd g.nd) hr)]
    have hz : S.length + (R.filter fun r => decide (r.1 ∉ S ∧ r.2.1 ∈ S)).length ≤ sizeLine := by
      have : 29 ≤ sizeLine := by decide
      omega
    exists List.length_map, hz
    refine ⟨S ++ (R.filter fun r => decide (r.1 ∉ S ∧ r.2.1 ∈ S)).map (·.1), _, by rw [List.map_append, List.map_map]; rfl, st.1, st.2.1, st.2.2.1, by rw [List.length_append, List.length_singleton]; exact st.2.2.2⟩
  · rintro ρ' h' ⟨S, a, eρ, eh, nd, hd, sub, al⟩
    subst eρ; subst eh
    have e := lead_len g nd hd sub (by rw [List.length_range] at al; exact al)
    have e2 : ((S.length : Nat) : Int) = (R.length : Int) + 1 := by omega
    exists List.length_map, e2

theorem nf_are_fields_form : pr.nfs[2]? = some (n_2.q, n_2.ix) := rfl
theorem k_are_fields_form (n : Nat) (R : List Row) (F : List Fld) (h : Hh) (g : GoodF R F) : ∀ pre x post, F.map fldD = pre ++ x :: post → (level pr (n+3)).calln 2 [some (.lst (R.map fun r => .str r.1))] [.d x, .d (.tup pre)] h = .ok (.d (.bl true)) false h := by
  intro pre x post e
  obtain ⟨p, y, q, e1, e2, e3⟩ := split_map e
  subst e2; subst e3
  have hy : y ∈ F := by rw [e1]; simp
  have c := c_is_one_of_l (n := n+1) y.2.1 (R.map (·.1)) h (g.st y hy)
  rw [List.map_map] at c
  have c : (level pr (n+2)).call 44 [.d (.str y.2.1), .d (.lst (R.map fun r => D.str r.1))] h = .ok (.d (.bl true)) false h := c
  have la := g.la y hy
  rw [lvl_calln nf_are_fields_form, runN_at rfl]
  rcases nil_or_last p with ep | ⟨s, l, ep⟩
  · subst ep
    exists n_2, capSl, fldD, c, c_is_tuple_of, c_is_name _ _ _ (g.nm y hy), con_MOST_LAND, c_is_number _ _ _ _ _ la.1 la.2, eqD_tup_nil (xs := []) ⟨.tuple [], rfl, by decide⟩
  · subst ep
    have lt := pair_last (e1 ▸ g.srt)
    have e4 := eqD_tup_nil (flt_flds (F := s ++ [l]))
    have e6 : (s ++ [l]).map fldD = s.map fldD ++ [fldD l] := by simp
    rw [e6] at e4 ⊢
    simp only [fldD] at e4
    exists n_2, capSl, fldD, c, c_is_tuple_of, c_is_name _ _ _ (g.nm y hy), con_MOST_LAND, c_is_number _ _ _ _ _ la.1 la.2, lt, e4, app_ne
theorem c_are_fields_form (n : Nat) (R : List Row) (F : List Fld) (h : Hh) (g : GoodF R F) : (level pr (n+6)).call 37 [.d (.lst (R.map fun r => .str r.1)), .d (.tup (F.map fldD))] h = .ok (.d (.bl true)) false h := by
  have hl := g.lo
  have c := c_wrong_from_one (n+3) (F.map fldD) (.int 7) 2 [some (.lst (R.map fun r => .str r.1))] h (fun z => by rw [List.map_eq_nil_iff] at z; rw [z] at hl; exact absurd hl (by decide)) flt_flds (fun i hi => by rw [eqD_int]; have := g.hi; rw [List.length_map] at hi; congr 1; exact decide_eq_false (by omega)) (k_are_fields_form n R F h g)
  have e0 : eqD (.lst []) (.lst []) = some true := rfl
  have e1 : (2 : Int) ≤ (F.length : Int) := by omega
  rw [lvl_call (q := r_are_fields_form.q) rfl, run_at rfl]
  exists r_are_fields_form, b_are_fields_form, con_MOST_FIELDS, con_LEAST_FIELDS, nf_are_fields_form, n_2, Option.getD_some, c, e0, List.length_map, e1
theorem c_is_canal_form (n : Nat) (R : List Row) (F : List Fld) (rk : Str → Nat) (h : Hh) (g : GoodR R rk) (gf : GoodF R F) : (level pr (n+8)).call 31 [.d (canD R F)] h = .ok (.d (.bl true)) false h := by
  have hl : R.length ≤ sizeLine := Nat.le_trans g.len (by decide)
  rw [lvl_call (q := r_is_canal_form.q) rfl, run_at rfl]
  exists r_is_canal_form, b_is_canal_form, canD, c_is_tuple_of, c_are_stretches_form _ _ _ _ g, c_all_lead_up _ _ _ _ g
  rw [lc_map R rowD (fun r => .str r.1) rfl hl fun r _ => lct (by exists rowD)]
  exists c_are_fields_form _ _ _ _ gf
theorem c_names_of (n : Nat) (R : List Row) (F : List Fld) (h : Hh) (gf : GoodF R F) : (level pr (n+1)).call 16 [.d (canD R F)] h = .ok (.d (.tup (F.map fun f => .str f.1))) false h := by
  have hl : F.length ≤ sizeLine := Nat.le_trans gf.hi (by decide)
  rw [lvl_call (q := r_names_of.q) rfl, run_at rfl]
  exists r_names_of, b_names_of, canD
  rw [lc_map F fldD (fun r => .str r.1) rfl hl fun r _ => lct (by exists fldD)]
  exists th_ok

theorem c_check_canal (n : Nat) (R : List Row) (F : List Fld) (rk : Str → Nat) (h : Hh) (g : GoodR R rk) (gf : GoodF R F) : (level pr (n+9)).call 27 [.d (canD R F)] h = .ok (.d .non) false h := by
  rw [lvl_call (q := r_check_canal.q) rfl, run_at rfl]
  exists r_check_canal, b_check_canal, c_is_canal_form _ _ _ _ _ g gf
structure GoodO (N O : List Str) : Prop where
  nd : O.Nodup
  sub : ∀ x ∈ O, x ∈ N
  len : O.length = N.length
theorem nf_wrong_round : pr.nfs[3]? = some (n_3.q, n_3.ix) := rfl
theorem k_wrong_round (n : Nat) (N O : List Str) (h : Hh) (g : GoodO N O) : ∀ pre x post, O.map D.str = pre ++ x :: post → (level pr (n+2)).calln 3 [some (.tup (N.map D.str))] [.d x, .d (.tup pre)] h = .ok (.d (.bl true)) false h := by
  intro pre x post e
  obtain ⟨p, y, q, e1, e2, e3⟩ := split_map e
  subst e2; subst e3
  have hy : y ∈ O := by rw [e1]; simp
  have c := c_is_one_of n y N h (g.sub y hy)
  have nw : y ∉ p := fun z => by
    have nd := g.nd
    rw [e1] at nd
    exact (List.nodup_append.mp nd).2.2 y z y List.mem_cons_self rfl
  rw [lvl_calln nf_wrong_round, runN_at rfl]
  exists n_3, capSl, c, nw
theorem c_wrong_round (n : Nat) (N O : List Str) (h : Hh) (g : GoodO N O) : (level pr (n+5)).call 38 [.d (.tup (N.map D.str)), .d (.tup (O.map D.str))] h = .ok (.d (.lst [])) false h := by
  have c := c_wrong_for_all (n+2) (O.map D.str) (N.length : Nat) 3 [some (.tup (N.map D.str))] h (by rw [List.length_map, g.len]) (k_wrong_round n N O h g)
  rw [lvl_call (q := r_wrong_round.q) rfl, run_at rfl]
  exists r_wrong_round, b_wrong_round, nf_wrong_round, n_3, Option.getD_some, List.length_map, c
theorem c_check_round_of (n : Nat) (N O : List Str) (h : Hh) (g : GoodO N O) : (level pr (n+6)).call 32 [.d (.tup (N.map D.str)), .d (.tup (O.map D.str))] h = .ok (.d .non) false h := by
  have e0 : eqD (.lst []) (.lst []) = some true := rfl
  rw [lvl_call (q := r_check_round_of.q) rfl, run_at rfl]
  exists r_check_round_of, b_check_round_of, c_wrong_round _ _ _ _ g, e0
theorem c_check_order (n : Nat) (R : List Row) (F : List Fld) (O : List Str) (h : Hh) (gf : GoodF R F) (go : GoodO (F.map (·.1)) O) : (level pr (n+7)).call 28 [.d (canD R F), .d (.tup (O.map D.str))] h = .ok (.d .non) false h := by
  have c := c_names_of (n+5) R F h gf
  have e : (F.map fun f => D.str f.1) = (F.map (·.1)).map D.str := by rw [List.map_map]; rfl
  rw [e] at c
  rw [lvl_call (q := r_check_order.q) rfl, run_at rfl]
  exists r_check_order, b_check_order, c, c_check_round_of _ _ _ _ go
theorem c_check_turns (n : Nat) (R : List Row) (F : List Fld) (rk : Str → Nat) (O : List Str) (h : Hh) (g : GoodR R rk) (gf : GoodF R F) (go : GoodO (F.map (·.1)) O) : (level pr (n+10)).call 24 [.d (canD R F), .d (.tup (O.map D.str))] h = .ok (.d .non) false h := by
  rw [lvl_call (q := r_check_turns.q) rfl, run_at rfl]
  exists r_check_turns, b_check_turns, c_check_canal _ _ _ _ _ g gf, c_check_order _ _ _ _ _ gf go
structure GoodH (F : List Fld) (hs : List Int) : Prop where
  len : hs.length = F.length
  ok : ∀ i ∈ hs, 1 ≤ i ∧ i ≤ 168
theorem nf_wrong_hours : pr.nfs[0]? = some (n_0.q, n_0.ix) := rfl
theorem k_wrong_hours (n : Nat) (F : List Fld) (hs : List Int) (h : Hh) (g : GoodH F hs) : ∀ pre x post, hs.map D.int = pre ++ x :: post → (level pr (n+3)).calln 0 [some (.int 1), some (.int 168)] [.d x, .d (.tup pre)] h = .ok (.d (.bl true)) false h := by
  intro pre x post e
  obtain ⟨p, y, q, e1, e2, e3⟩ := split_map e
  subst e2; subst e3
  have hy := g.ok y (by rw [e1]; simp)
  rw [lvl_calln nf_wrong_hours, runN_at rfl]
  exists n_0, capSl, c_is_number _ _ _ _ _ hy.1 hy.2
theorem c_wrong_hours (n : Nat) (R : List Row) (F : List Fld) (hs : List Int) (h : Hh) (g : GoodH F hs) : (level pr (n+6)).call 29 [.d (canD R F), .d (.int 1), .d (.int 168), .d (.tup (hs.map D.int))] h = .ok (.d (.lst [])) false h := by
  have c := c_wrong_for_all (n+3) (hs.map D.int) (F.length : Nat) 0 [some (.int 1), some (.int 168)] h (by rw [List.length_map, g.len]) (k_wrong_hours n F hs h g)
  rw [lvl_call (q := r_wrong_hours.q) rfl, run_at rfl]
  exists r_wrong_hours, b_wrong_hours, canD, nf_wrong_hours, n_0, Option.getD_some, List.length_map, c
theorem con_MOST_HOURS : pr.con "MOST_HOURS" = some (.int 168) := rfl
theorem c_check_hours (n : Nat) (R : List Row) (F : List Fld) (hs : List Int) (h : Hh) (g : GoodH F hs) : (level pr (n+7)).call 25 [.d (canD R F), .d (.tup (hs.map D.int))] h = .ok (.d .non) false h := by
  have e0 : eqD (.lst []) (.lst []) = some true := rfl
  rw [lvl_call (q := r_check_hours.q) rfl, run_at rfl]
  exists r_check_hours, b_check_hours, con_MOST_HOURS, c_wrong_hours _ _ _ _ _ g, e0
theorem c_check_week_turns (n : Nat) (R : List Row) (F : List Fld) (rk : Str → Nat) (O : List Str) (hs : List Int) (h : Hh) (g : GoodR R rk) (gf : GoodF R F) (go : GoodO (F.map (·.1)) O) (gh : GoodH F hs) : (level pr (n+11)).call 20 [.d (canD R F), .d (.tup (O.map D.str)), .d (.tup (hs.map D.int))] h = .ok (.d .non) false h := by
  rw [lvl_call (q := r_check_week_turns.q) rfl, run_at rfl]
  exists r_check_week_turns, b_check_week_turns, c_check_turns _ _ _ _ _ _ g gf go, c_check_hours _ _ _ _ _ gh
/-- a field's hours -/
def hr : List Fld → List Int → Str → Int
  | f :: F, i :: hs, x => if f.1 = x then i else hr F hs x
  | _, _, _ => 0
theorem hr_look : ∀ {F : List Fld} {hs : List Int} {x : Str}, hs.length = F.length → x ∈ F.map (·.1) → look (F.map fun f => (Sum.inr f.1 : Key)) (hs.map D.int) (.inr x) = some (.int (hr F hs x)) ∧ hr F hs x ∈ hs
  | [], _, _, _, hx => by cases hx
  | _ :: _, [], _, hl, _ => by cases hl
  | f :: F, i :: hs, x, hl, hx => by
    rw [List.map_cons, List.map_cons, look, hr]
    by_cases e : f.1 = x
    · rw [if_pos (by rw [e]), if_pos e]; exact ⟨rfl, List.mem_cons_self⟩
    · rw [if_neg (fun z => e (Sum.inr.inj z)), if_neg e]
      rcases List.mem_cons.mp hx with z | z
      · exact absurd z.symm e
      · have := hr_look (F := F) (hs := hs) (x := x) (by simpa using hl) z
        exact ⟨this.1, List.mem_cons_of_mem _ this.2⟩
theorem c_hours_by (n : Nat) (R : List Row) (F : List Fld) (hs : List Int) (h : Hh) (gf : GoodF R F) (gh : GoodH F hs) : (level pr (n+2)).call 23 [.d (canD R F), .d (.tup (hs.map D.int))] h = .ok (.d (.dic (F.map fun f => .inr f.1) (hs.map D.int))) false h := by
  rw [lvl_call (q := r_hours_by.q) rfl, run_at rfl]
  exists r_hours_by, b_hours_by, c_names_of _ R _ _ gf, dzipD_tt (f := fun f : Fld => f.1) (keys_nd gf.nd) ((List.length_map ..).trans gh.len)

/-! ### calls within calls, comprehensions that change the urn -/
theorem callM_ok {G : Gv} {f : Nat} {xs : List Val} {ρ : Ev} {h h' : List D} {w : Val} {b : Bool} (e : G.call f xs h = .ok w b h') (hl : h'.length = h.length) (hh : hands G ρ xs = some xs) : callM G f xs ρ h = .ok w ρ h' := by
  show (match hands G ρ xs with
    | some ys => backM (G.call f ys h) ρ h
    | none => lendM G f xs ρ h) = _
  rw [hh]
  show backM (G.call f xs h) ρ h = _
  rw [e]
  exact if_pos hl
theorem cM {G : Gv} {f : Nat} {xs : List Val} {h h' : List D} {w : Val} {b : Bool} (e : G.call f xs h = .ok w b h') (hl : h'.length = h.length := by rfl) (hh : ∀ ρ, hands G ρ xs = some xs := by intro ρ; rfl) : ∀ ρ, callM G f xs ρ h = .ok w ρ h' := fun ρ => callM_ok e hl (hh ρ)
/-! ### comprehensions that change the urn -/
def LcH (vs : List Nat) (σ : Ev) (I : Hh → Prop) (Q : D → Prop) (o : Out (Option D)) : Prop := match o with
  | .ok (some d) ρ' h' => Q d ∧ I h' ∧ noOwn ρ' vs = true ∧ wipeE ρ' vs = σ
  | _ => False
theorem lch_ok {vs : List Nat} {σ ρ' : Ev} {I : Hh → Prop} {Q : D → Prop} {d : D} {h' : Hh} : LcH vs σ I Q (.ok (some d) ρ' h') = (Q d ∧ I h' ∧ noOwn ρ' vs = true ∧ wipeE ρ' vs = σ) := rfl
theorem lc_heap {γ : Type} {vs : List Nat} {tg : Val → M Unit} {test : M Bool} {elt : M Val} {σ : Ev} (g : γ → D) (I : Hh → Prop) (Q : γ → D → Prop) : ∀ (L : List γ) (acc : List D) (h : Hh), acc.length + L.length ≤ sizeLine → I h →
    (∀ l ∈ L, ∀ h, I h → LcH vs σ I (Q l) (Out.th (fun _ ρ h => Out.th (fun b ρ h => if b = true then Out.th (fun y ρ h => (match y with | .d d => .ok (some d) ρ h | _ => .bad)) (elt ρ h) else .ok none ρ h) (test ρ h)) (tg (.d (g l)) σ h))) →
    ∃ (T : List (γ × D)) (h' : Hh), lcLoop vs tg test elt (L.map g) acc σ h = .ok (acc ++ T.map (·.2)) σ h' ∧ T.map (·.1) = L ∧ (∀ t ∈ T, Q t.1 t.2) ∧ I h'
  | [], acc, h, _, i, _ => ⟨[], h, by simp [lcLoop, M.ret], rfl, by simp, i⟩
  | l :: L, acc, h, hl, i, k => by
    have e := k l List.mem_cons_self h i
    have hl2 : acc.length + (L.length + 1) ≤ sizeLine := hl
    have k2 := fun l hl => k l (List.mem_cons_of_mem _ hl)
    rw [List.map_cons]
    unfold lcLoop
    unfold M.bind
    unfold Out.th at e
    cases e1 : tg (.d (g l)) σ h with
    | bad => rw [e1] at e; exact e.elim
    | ok a ρ1 h1 =>
      rw [e1] at e
      simp only at e ⊢
      cases e2 : test ρ1 h1 with
      | bad => rw [e2] at e; exact e.elim
      | ok b ρ2 h2 =>
        rw [e2] at e
        simp only at e ⊢
        cases b with
        | true =>
          simp only [if_true] at e ⊢
          cases e3 : elt ρ2 h2 with
          | bad => rw [e3] at e; exact e.elim
          | ok y ρ3 h3 =>
            rw [e3] at e
            simp only at e
            cases y <;> first | (exact e.elim; done) | skip
            rename_i d
            obtain ⟨q, i3, no, wi⟩ := e
            obtain ⟨T, h', e4, e5, e6, e7⟩ := lc_heap g I Q L (acc ++ [d]) h3 (by rw [List.length_append, List.length_singleton]; omega) i3 k2
            simp only [plainV, M.ret]
            rw [if_pos ⟨by omega, no⟩, wi, e4]
            exact ⟨(l, d) :: T, h', by rw [List.append_assoc]; rfl, by simp [e5], fun x hx => by
              rcases List.mem_cons.mp hx with z | z
              · rw [z]; exact q
              · exact e6 x z, e7⟩
        | false =>
          simp only [Bool.false_eq_true, if_false] at e
          exact e.elim
theorem lc_urn {γ : Type} {vs : List Nat} {tg : Val → M Unit} {test : M Bool} {elt : M Val} {ρ : Ev} {h : Hh} (L : List γ) (g : γ → D) (I : Hh → Prop) (Q : γ → D → Prop) (hn : noOwn ρ vs = true) (hl : L.length ≤ sizeLine) (i : I h)
    (k : ∀ l ∈ L, ∀ h, I h → LcH vs (blkE ρ vs) I (Q l) (Out.th (fun _ ρ h => Out.th (fun b ρ h => if b = true then Out.th (fun y ρ h => (match y with | .d d => .ok (some d) ρ h | _ => .bad)) (elt ρ h) else .ok none ρ h) (test ρ h)) (tg (.d (g l)) (blkE ρ vs) h))) :
    ∃ (T : List (γ × D)) (h' : Hh), lcM vs tg test elt (L.map g) ρ h = .ok (.d (.lst (T.map (·.2)))) (outE ρ (blkE ρ vs)) h' ∧ T.map (·.1) = L ∧ (∀ t ∈ T, Q t.1 t.2) ∧ I h' := by
  obtain ⟨T, h', e, e5, e6, e7⟩ := lc_heap g I Q L [] h (by simpa using hl) i k
  refine ⟨T, h', ?_, e5, e6, e7⟩
  unfold lcM
  rw [if_pos hn, e]
  rfl
theorem lc_n {α β γ : Type} {P : Ev → Hh → Prop} {K : MS} {f : β → MS} {g2 : α → M β} {g1 : Val → M α} {vs : List Nat} {tg : Val → M Unit} {test : M Bool} {elt : M Val} {ρ : Ev} {h : Hh} (L : List γ) (g : γ → D) (I : Hh → Prop) (Q : γ → D → Prop) (hn : noOwn ρ vs = true) (hl : L.length ≤ sizeLine) (i : I h)
    (k : ∀ l ∈ L, ∀ h, I h → LcH vs (blkE ρ vs) I (Q l) (Out.th (fun _ ρ h => Out.th (fun b ρ h => if b = true then Out.th (fun y ρ h => (match y with | .d d => .ok (some d) ρ h | _ => .bad)) (elt ρ h) else .ok none ρ h) (test ρ h)) (tg (.d (g l)) (blkE ρ vs) h)))
    (fin : ∀ (T : List (γ × D)) (h' : Hh), T.map (·.1) = L → (∀ t ∈ T, Q t.1 t.2) → I h' → OkN (SO.sq K (Out.ts f (Out.th g2 (g1 (.d (.lst (T.map (·.2)))) (outE ρ (blkE ρ vs)) h')))) P) : OkN (SO.sq K (Out.ts f (Out.th g2 (Out.th g1 (lcM vs tg test elt (L.map g) ρ h))))) P := by
  obtain ⟨T, h', e, e5, e6, e7⟩ := lc_urn L g I Q hn hl i k
  rw [e, th_ok]
  exact fin T h' e5 e6 e7

/-! ### the urn -/
abbrev Urn := Int × Int × Int
def uD (u : Urn) : D := .lst [.int u.1, .int u.2.1, .int u.2.2]
def stir (u : Urn) : Int := (u.2.1 * 40009 + 15013 * (u.2.2 + 1)) % 2147483629
def nx1 (u : Urn) : Int := (stir u * (stir u % 5003 + 30011) + 3 * (u.2.2 + 1)) % 2147483629
def tk (u : Urn) (m : Int) : Int := if u.1 > 0 then u.1 % m else (nx1 u / 907) % m
def nx (u : Urn) (m : Int) : Urn := if u.1 > 0 then (u.1 / m, u.2.1, u.2.2) else (u.1, nx1 u, u.2.2 + 1)
theorem tk_lo {u : Urn} {m : Int} (h : 0 < m) : 0 ≤ tk u m := by unfold tk; split <;> exact Int.emod_nonneg _ (by omega)
theorem tk_hi {u : Urn} {m : Int} (h : 0 < m) : tk u m < m := by unfold tk; split <;> exact Int.emod_lt_of_pos _ h
theorem c_take (n : Nat) (u : Urn) (m : Int) (h0 : 0 < m) (h1 : m < 1073741824) : (level pr (n+1)).call 8 [.ref 0, .d (.int m)] [uD u] = .ok (.d (.int (tk u m))) false [uD (nx u m)] := by
  rw [lvl_call (q := r__law_take.q) rfl, run_at rfl]
  by_cases h : 0 < u.1
  · have e1 : tk u m = u.1 % m := if_pos h
    have e2 : nx u m = (u.1 / m, u.2.1, u.2.2) := if_pos h
    rw [e1, e2]
    exists r__law_take, b__law_take, uD, h, h0, h1, put3_0
  · have e1 : tk u m = (nx1 u / 907) % m := if_neg h
    have e2 : nx u m = (u.1, nx1 u, u.2.2 + 1) := if_neg h
    rw [e1, e2]
    have hm : mulD (.int (stir u)) (.int (stir u % 5003 + 30011)) = some (.int (stir u * (stir u % 5003 + 30011))) := mul_int (.inr (by constructor <;> omega))
    unfold stir at hm
    unfold nx1 stir
    exists r__law_take, b__law_take, uD, h, h0, put3_1, put3_2, mul_r (b := 40009) (by decide) (by decide), mul_l (a := 15013) (by decide) (by decide), mul_l (a := 3) (by decide) (by decide), hm
theorem c_of (n : Nat) (u : Urn) (xs : List D) (x : D) (h1 : xs.length < 1073741824) (h0 : xs ≠ []) (hx : atI xs (tk u xs.length) = some x) : (level pr (n+2)).call 6 [.ref 0, .d (.lst xs)] [uD u] = .ok (.d x) false [uD (nx u xs.length)] := by
  have hp : 0 < xs.length := List.length_pos_iff.mpr h0
  rw [lvl_call (q := r__law_of.q) rfl, run_at rfl]
  exists r__law_of, b__law_of, c_take _ _ (xs.length : Nat) (by omega) (by omega), hx
theorem c_ofS (n : Nat) (u : Urn) (x : Str) (c : Nat) (h1 : x.length < 1073741824) (h0 : 0 < x.length) (hx : atI x.cps.toList (tk u x.length) = some c) : (level pr (n+2)).call 6 [.ref 0, .d (.str x)] [uD u] = .ok (.d (.str (mk [c]))) false [uD (nx u x.length)] := by
  rw [lvl_call (q := r__law_of.q) rfl, run_at rfl]
  exists r__law_of, b__law_of, c_take _ _ (x.length : Nat) (by omega) (by omega), hx
  rfl
theorem of_ex (n : Nat) (u : Urn) (xs : List D) (h1 : xs.length < 1073741824) (h0 : xs ≠ []) : ∃ x u', x ∈ xs ∧ (level pr (n+2)).call 6 [.ref 0, .d (.lst xs)] [uD u] = .ok (.d x) false [uD u'] := by
  have hp : 0 < xs.length := List.length_pos_iff.mpr h0
  obtain ⟨x, hx, e⟩ := pick_mem (xs := xs) (tk_lo (u := u) (m := (xs.length : Nat)) (by omega)) (tk_hi (by omega))
  exact ⟨x, _, hx, c_of n u xs x h1 h0 e⟩
theorem ofS_ex (n : Nat) (u : Urn) (x : Str) (h1 : x.length < 1073741824) (h0 : 0 < x.length) : ∃ c u', c ∈ x.cps.toList ∧ (level pr (n+2)).call 6 [.ref 0, .d (.str x)] [uD u] = .ok (.d (.str (mk [c]))) false [uD u'] := by
  obtain ⟨c, hc, e⟩ := pick_mem (xs := x.cps.toList) (r := tk u (x.length : Nat)) (tk_lo (by omega)) (by have := tk_hi (u := u) (m := (x.length : Nat)) (by omega); exact this)
  exact ⟨c, _, hc, c_ofS n u x c h1 h0 e⟩
/-- the name behind a clash -/
def fb (t : Nat) : Str := mk (List.replicate 7 (97 + t) ++ [113])
theorem words_q : ∀ w ∈ words, w.length ≠ 1 ∧ 113 ∉ w.cps.toList := by decide
theorem let_at {t : Nat} (h : t < 26) : atI LET.cps.toList (t : Int) = some (97 + t) := by
  rw [EV.atI_nat]
  have e : LET.cps.toList = (List.range 26).map (97 + ·) := by decide
  rw [e, List.getElem?_map, List.getElem?_range h]; rfl
theorem let_mem {c : Nat} : c ∈ LET.cps.toList ↔ 97 ≤ c ∧ c < 123 := by
  have e : LET.cps.toList = (List.range 26).map (97 + ·) := by decide
  rw [e]
  constructor
  · intro h; obtain ⟨k, hk, e⟩ := List.mem_map.mp h; have := List.mem_range.mp hk; omega
  · intro h; exact List.mem_map.mpr ⟨c - 97, List.mem_range.mpr (by omega), by omega⟩
/-- what a drawn name is made of -/
def nmL (l : List Nat) (a t : Nat) : List Nat := l.take a ++ [97 + t] ++ [113].take l.length ++ l.drop a
theorem nmL_ok {l : List Nat} {a t : Nat} (hl : l.length ≤ 6) (ha : a ≤ l.length) (ht : t < 26) (hc : ∀ c ∈ l, c ∈ LET.cps.toList) : Nm (mk (nmL l a t)) := by
  have hlen : (nmL l a t).length = l.length + 1 + min l.length 1 := by unfold nmL; simp; omega
  refine ⟨by rw [mk_len, hlen]; omega, by rw [mk_len, hlen]; omega, fun c h => ?_, fun h => ?_⟩
  · rw [mk_cps] at h
    unfold nmL at h
    rcases List.mem_append.mp h with h | h
    · rcases List.mem_append.mp h with h | h
      · rcases List.mem_append.mp h with h | h
        · exact hc c (List.mem_of_mem_take h)
        · rw [List.mem_singleton.mp h]; exact let_mem.mpr (by omega)
      · rw [List.mem_singleton.mp (List.mem_of_mem_take h)]; exact let_mem.mpr (by omega)
    · exact hc c (List.mem_of_mem_drop h)
  · have w := words_q _ h
    rw [mk_len, mk_cps, hlen] at w
    cases l with
    | nil => exact w.1 rfl
    | cons b l => exact w.2 (by unfold nmL; simp)
theorem nmL_fb {l : List Nat} {a t t' : Nat} (hl : l.length ≤ 6) (ha : a ≤ l.length) (ne : t ≠ t') : mk (nmL l a t) ≠ fb t' := fun e => by
  have e := mk_inj e
  have h1 : (nmL l a t)[a]? = some (97 + t) := by
    unfold nmL
    rw [List.append_assoc, List.append_assoc, List.getElem?_append_right (by simp; omega)]
    simp [Nat.min_eq_left ha]
  rw [e, List.getElem?_append_left (by simp; omega), List.getElem?_replicate, if_pos (by omega)] at h1
  have := Option.some.inj h1
  omega
theorem fb_ok {t : Nat} (ht : t < 26) : Nm (fb t) := by
  refine ⟨by unfold fb; rw [mk_len]; simp, by unfold fb; rw [mk_len]; simp, fun c h => ?_, fun h => ?_⟩
  · unfold fb at h
    rw [mk_cps] at h
    rcases List.mem_append.mp h with h | h
    · rw [List.eq_of_mem_replicate h]; exact let_mem.mpr (by omega)
    · rw [List.mem_singleton.mp h]; exact let_mem.mpr (by omega)
  · have w := words_q _ h
    exact w.2 (by unfold fb; rw [mk_cps]; simp)
theorem fb_ne {t t' : Nat} (ne : t ≠ t') : fb t ≠ fb t' := fun e => by
  have e := mk_inj e
  have h1 := congrArg (fun l : List Nat => l[0]?) e
  simp at h1
  exact ne h1
theorem c_names (n : Nat) (u : Urn) (m : Nat) (hm : m ≤ 26) : OkF ((level pr (n+3)).call 13 [.ref 0, .d (.int (m : Nat))] [uD u]) fun w b h' => ∃ (ns : List Str) (u' : Urn), w = .d (.lst (ns.map D.str)) ∧ b = true ∧ h' = [uD u'] ∧ ns.length = m ∧ ns.Nodup ∧ ∀ x ∈ ns, Nm x := by
  rw [lvl_call (q := r__law_names.q) rfl, run_at rfl]
  exists r__law_names, b__law_names, range_nat (n := m) (by omega)
  refine for_f (fun pre ρ' h' => ∃ (ns : List Str) (u' : Urn) (a b c d e : Sl), ρ' = [.val (.ref 0), .val (.d (.int (m : Nat))), .own (.lst (ns.map D.str)), .val (.d (.str LET)), a, b, c, d, e] ∧ h' = [uD u'] ∧ ns.length = pre.length ∧ ns.Nodup ∧ (∀ x ∈ ns, Nm x) ∧ ∀ x ∈ ns, ∀ t, pre.length ≤ t → x ≠ fb t)
    ⟨[], u, .no, .no, .no, .no, .no, rfl, rfl, rfl, List.nodup_nil, by simp, by simp⟩ ?_ ?_
  · rintro pre x post ρ' h' ex ⟨ns, u', a, b, c, d, e, eρ, eh, hl, nd, nm, nf⟩
    subst eρ; subst eh
    obtain ⟨hx, hx2, _⟩ := range_split ex
    subst hx
    obtain ⟨sz, u1, hsz, e1⟩ := of_ex n u' [.int 0, .int 0, .int 1, .int 3, .int 6] (by decide) (by simp)
    obtain ⟨k, hk, hk6⟩ : ∃ k : Nat, sz = .int (k : Int) ∧ k ≤ 6 := by
      simp at hsz
      rcases hsz with z | z | z | z <;> subst z
      · exact ⟨0, rfl, by omega⟩
      · exact ⟨1, rfl, by omega⟩
      · exact ⟨3, rfl, by omega⟩
      · exact ⟨6, rfl, by omega⟩
    subst hk
    exists e1, range_nat (n := k) (by omega)
    refine for_n (fun q ρ' h' => ∃ (l : List Nat) (u' : Urn) (s : Sl), ρ' = [.val (.ref 0), .val (.d (.int (m : Nat))), .own (.lst (ns.map D.str)), .val (.d (.str LET)), .val (.d (.int (pre.length : Nat))), .val (.d (.int (k : Nat))), .val (.d (.str (mk l))), s, e] ∧ h' = [uD u'] ∧ l.length = q.length ∧ ∀ c ∈ l, c ∈ LET.cps.toList)
      ⟨[], u1, d, rfl, rfl, rfl, by simp⟩ ?_ ?_
    · rintro q y qs ρ' h' eq ⟨l, u2, s, eρ, eh, hl2, hc⟩
      subst eρ; subst eh
      obtain ⟨_, hq, _⟩ := range_split eq
      obtain ⟨ch, u3, hch, e2⟩ := ofS_ex n u2 LET (by decide) (by decide)
      have hz : l.length + 1 ≤ sizeLine := by
        have : 10 ≤ sizeLine := by decide
        omega
      exists e2, mk_len, mk_app, hz
      refine ⟨l ++ [ch], u3, .val (.d (.int (y : Nat))), rfl, rfl, by simp [hl2], fun c hc2 => ?_⟩
      rcases List.mem_append.mp hc2 with z | z
      · exact hc c z
      · rw [List.mem_singleton.mp z]; exact hch
    · rintro ρ' h' ⟨l, u2, s, eρ, eh, hl2, hc⟩
      subst eρ; subst eh
      rw [List.length_range] at hl2
      have hp : (0 : Int) < (k : Int) + 1 := by omega
      obtain ⟨at_, ha⟩ : ∃ at_ : Nat, tk u2 ((k : Int) + 1) = (at_ : Int) := ⟨(tk u2 ((k : Int) + 1)).toNat, by have := tk_lo (u := u2) hp; omega⟩
      have ha2 : at_ ≤ l.length := by have := tk_hi (u := u2) hp; omega
      have e3 := c_take (n+1) u2 ((k : Int) + 1) hp (by omega)
      rw [ha] at e3
      have lt := let_at (t := pre.length) (by omega)
      have z10 : 40 ≤ sizeLine := by decide
      have z1 : (l.take at_).length + 1 ≤ sizeLine := by rw [List.length_take]; omega
      have z2 : (l.take at_ ++ [97 + pre.length]).length + ([113].take k).length ≤ sizeLine := by simp; omega
      have z3 : (l.take at_ ++ [97 + pre.length] ++ [113].take k).length + (l.drop at_).length ≤ sizeLine := by simp; omega
      have eq1 : (Str.ofString "q") = mk [113] := rfl
      have enm : l.take at_ ++ [97 + pre.length] ++ [113].take k ++ l.drop at_ = nmL l at_ pre.length := by unfold nmL; rw [hl2]
      have es : ns.length < sizeLine := by omega
      have ec : ns.contains (mk (nmL l at_ pre.length)) = decide (mk (nmL l at_ pre.length) ∈ ns) := by simp
      have hfb : mulD (.str (mk [97 + pre.length])) (.int 7) = some (.str (mk (List.replicate 7 (97 + pre.length)))) := by
        rw [mul_str ⟨by decide, by decide, by rw [mk_len]; simp, by rw [mk_len]; show 1 * 7 ≤ sizeLine; decide⟩, show (7 : Int).toNat = 7 from rfl, rep_one]
      have hfz : 7 + 1 ≤ sizeLine := by decide
      by_cases hin : mk (nmL l at_ pre.length) ∈ ns
      · exists e3, cut_lo, cut_hi, lt, mk_one, mk_len, mk_app, z1, z2, z3, eq1, enm, hin, hfb, hfz, es, List.length_map, List.length_replicate
        refine ⟨ns ++ [fb pre.length], _, _, _, _, _, _, by rw [List.map_append]; rfl, rfl, by simp [hl], List.nodup_append.mpr ⟨nd, by simp, fun x hx y hy e => ?_⟩, fun x hx => ?_, fun x hx t ht => ?_⟩
        · rw [List.mem_singleton.mp hy] at e; exact nf x hx _ (Nat.le_refl _) e
        · rcases List.mem_append.mp hx with z | z
          · exact nm x z
          · rw [List.mem_singleton.mp z]; exact fb_ok (by omega)
        · rw [List.length_append, List.length_singleton] at ht
          rcases List.mem_append.mp hx with z | z
          · exact nf x z t (by omega)
          · rw [List.mem_singleton.mp z]; exact fb_ne (by omega)
      · exists e3, cut_lo, cut_hi, lt, mk_one, mk_len, mk_app, z1, z2, z3, eq1, enm, hin, hfb, hfz, es, List.length_map, List.length_replicate
        refine ⟨ns ++ [mk (nmL l at_ pre.length)], _, _, _, _, _, _, by rw [List.map_append]; rfl, rfl, by simp [hl], List.nodup_append.mpr ⟨nd, by simp, fun x hx y hy e => ?_⟩, fun x hx => ?_, fun x hx t ht => ?_⟩
        · rw [List.mem_singleton.mp hy] at e; exact hin (e ▸ hx)
        · rcases List.mem_append.mp hx with z | z
          · exact nm x z
          · rw [List.mem_singleton.mp z]; exact nmL_ok (by omega) ha2 (by omega) hc
        · rw [List.length_append, List.length_singleton] at ht
          rcases List.mem_append.mp hx with z | z
          · exact nf x z t (by omega)
          · rw [List.mem_singleton.mp z]; exact nmL_fb (by omega) ha2 (by omega)
  · rintro ρ' h' ⟨ns, u', a, b, c, d, e, eρ, eh, hl, nd, nm, nf⟩
    subst eρ; subst eh
    exists th_ok
    exact ⟨ns, u', rfl, rfl, by simpa using hl, nd, nm⟩
theorem names_ex (n : Nat) (u : Urn) (m : Nat) (hm : m ≤ 26) : ∃ (ns : List Str) (u' : Urn), (level pr (n+3)).call 13 [.ref 0, .d (.int (m : Nat))] [uD u] = .ok (.d (.lst (ns.map D.str))) true [uD u'] ∧ ns.length = m ∧ ns.Nodup ∧ ∀ x ∈ ns, Nm x := by
  have c := c_names n u m hm
  generalize (level pr (n+3)).call 13 [.ref 0, .d (.int (m : Nat))] [uD u] = o at c
  obtain ⟨w, b, h', e, ns, u', e1, e2, e3, r⟩ := okf_get c
  exact ⟨ns, u', by rw [e, e1, e2, e3], r⟩

theorem idx_lt {L : List Str} {i j : Nat} {x y : Str} (nd : L.Nodup) (hx : L[i]? = some x) (hy : L[j]? = some y) (h : i < j) : L.idxOf x < L.idxOf y := by
  obtain ⟨hi, ei⟩ := List.getElem?_eq_some_iff.mp hx
  obtain ⟨hj, ej⟩ := List.getElem?_eq_some_iff.mp hy
  rw [← ei, ← ej, nd.idxOf_getElem, nd.idxOf_getElem]; exact h
theorem keyDs_row {r : Row} : ∃ xs, rowD r = .tup xs ∧ keyDs xs = some (.inr r.1 :: [.inr r.2.1, .inl r.2.2.1, .inl r.2.2.2]) ∧ (Sum.inr r.1 :: [.inr r.2.1, .inl r.2.2.1, .inl r.2.2.2] : List Key).map isS = [true, true, false, false] := ⟨_, rfl, rfl, rfl⟩
theorem keyDs_fld {r : Fld} : ∃ xs, fldD r = .tup xs ∧ keyDs xs = some (.inr r.1 :: [.inr r.2.1, .inl r.2.2]) ∧ (Sum.inr r.1 :: [.inr r.2.1, .inl r.2.2] : List Key).map isS = [true, true, false] := ⟨_, rfl, rfl, rfl⟩
theorem goodR_of {ns : List Str} {R0 R : List Row} (nd : ns.Nodup) (nm : ∀ x ∈ ns, Nm x) (h1 : ns ≠ []) (h2 : ns.length ≤ 14) (hn : R0.map (·.1) = ns) (hp : R.Perm R0) (hs : R.Pairwise fun a b => ltS a.1 b.1 = true)
    (ab : ∀ r ∈ R0, r.2.1 = (Str.ofString "") ∨ r.2.1 ∈ ns ∧ ns.idxOf r.2.1 < ns.idxOf r.1) (ho : ∀ r ∈ R0, 0 ≤ r.2.2.1 ∧ r.2.2.1 ≤ 999) (se : ∀ r ∈ R0, 0 ≤ r.2.2.2 ∧ r.2.2.2 ≤ 99) : GoodR R (fun x => ns.idxOf x) := by
  have hl : R.length = ns.length := by rw [hp.length_eq, ← hn, List.length_map]
  have hnp : (R.map (·.1)).Perm ns := by rw [← hn]; exact hp.map _
  refine ⟨fun z => h1 (by rw [z] at hl; exact List.eq_nil_of_length_eq_zero hl.symm), by omega, hs, hnp.symm.nodup nd, fun r hr => nm _ (hnp.mem_iff.mp (List.mem_map_of_mem hr)), fun r hr => ?_, fun r hr => ?_, fun r hr => ho r (hp.mem_iff.mp hr), fun r hr => se r (hp.mem_iff.mp hr)⟩
  · rcases ab r (hp.mem_iff.mp hr) with z | ⟨z1, z2⟩
    · exact .inl z
    · obtain ⟨s, hs, e⟩ := List.mem_map.mp (hnp.mem_iff.mpr z1)
      exact .inr ⟨s, hs, e, by rw [e]; exact z2⟩
  · rw [hl]; exact List.idxOf_lt_length_of_mem (hnp.mem_iff.mp (List.mem_map_of_mem hr))
theorem goodF_of {R : List Row} {ns : List Str} {F0 F : List Fld} (nd : ns.Nodup) (nm : ∀ x ∈ ns, Nm x) (h1 : 2 ≤ ns.length) (h2 : ns.length ≤ 7) (hn : F0.map (·.1) = ns) (hp : F.Perm F0) (hs : F.Pairwise fun a b => ltS a.1 b.1 = true)
    (st : ∀ f ∈ F0, f.2.1 ∈ R.map (·.1)) (la : ∀ f ∈ F0, 1 ≤ f.2.2 ∧ f.2.2 ≤ 999) : GoodF R F := by
  have hl : F.length = ns.length := by rw [hp.length_eq, ← hn, List.length_map]
  have hnp : (F.map (·.1)).Perm ns := by rw [← hn]; exact hp.map _
  exact ⟨by omega, by omega, hs, hnp.symm.nodup nd, fun r hr => nm _ (hnp.mem_iff.mp (List.mem_map_of_mem hr)), fun r hr => st r (hp.mem_iff.mp hr), fun r hr => la r (hp.mem_iff.mp hr)⟩
theorem row_ex (n : Nat) (u2 : Urn) (holds seeps : Int) (hh : 1 ≤ holds ∧ holds ≤ 999) (hs : 0 ≤ seeps ∧ seeps ≤ 99) : ∃ (hv sv a : Int) (u3 u4 u5 : Urn), 0 ≤ hv ∧ hv ≤ 999 ∧ 0 ≤ sv ∧ sv ≤ 99 ∧
    (level pr (n+3)).call 8 [.ref 0, .d (.int holds)] [uD u2] = .ok (.d (.int a)) false [uD u3] ∧ (level pr (n+3)).call 6 [.ref 0, .d (.lst [.int 0, .int holds, .int (1 + a)])] [uD u3] = .ok (.d (.int hv)) false [uD u4] ∧ (level pr (n+3)).call 8 [.ref 0, .d (.int (seeps + 1))] [uD u4] = .ok (.d (.int sv)) false [uD u5] := by
  obtain ⟨x, u3, hx, e3⟩ := of_ex (n+1) (nx u2 holds) [.int 0, .int holds, .int (1 + tk u2 holds)] (by simp) (by simp)
  obtain ⟨hv, ehv, hv1, hv2⟩ : ∃ hv : Int, x = .int hv ∧ 0 ≤ hv ∧ hv ≤ 999 := by
    have := tk_lo (u := u2) (m := holds) (by omega); have := tk_hi (u := u2) (m := holds) (by omega)
    simp at hx
    rcases hx with z | z | z
    · exact ⟨0, z, by omega, by omega⟩
    · exact ⟨_, z, by omega, by omega⟩
    · exact ⟨_, z, by omega, by omega⟩
  subst ehv
  have e4 := c_take (n+2) u3 (seeps + 1) (by omega) (by omega)
  have s1 := tk_lo (u := u3) (m := seeps + 1) (by omega)
  have s2 := tk_hi (u := u3) (m := seeps + 1) (by omega)
  exact ⟨hv, _, _, _, _, _, hv1, hv2, s1, by omega, c_take (n+2) u2 holds (by omega) (by omega), e3, e4⟩
theorem c_canal (n : Nat) (u : Urn) (many holds seeps : Int) (hm : 2 ≤ many ∧ many ≤ 7) (hh : 1 ≤ holds ∧ holds ≤ 999) (hs : 0 ≤ seeps ∧ seeps ≤ 99) :
    OkF ((level pr (n+4)).call 3 [.ref 0, .d (.int many), .d (.int holds), .d (.int seeps)] [uD u]) fun w b h' => ∃ (R : List Row) (F : List Fld) (rk : Str → Nat) (u' : Urn), w = .d (canD R F) ∧ h' = [uD u'] ∧ GoodR R rk ∧ GoodF R F := by
  rw [lvl_call (q := r__law_canal.q) rfl, run_at rfl]
  obtain ⟨m, hm1, hm2⟩ : ∃ m : Nat, 1 + tk u 7 = (m : Int) ∧ 1 ≤ m ∧ m ≤ 7 := by
    have := tk_lo (u := u) (m := 7) (by decide); have := tk_hi (u := u) (m := 7) (by decide)
    exact ⟨(1 + tk u 7).toNat, by omega, by omega⟩
  obtain ⟨ns, u1, e1, hl1, nd1, nm1⟩ := names_ex n (nx u 7) m (by omega)
  exists r__law_canal, b__law_canal, c_take _ _ 7 (by decide) (by decide)
  rw [hm1]
  exists e1, List.length_map, range_nat (n := ns.length) (by omega)
  refine for_f (fun pre ρ' h' => ∃ (R0 : List Row) (u' : Urn) (a b : Sl), ρ' = [.val (.ref 0), .val (.d (.int many)), .val (.d (.int holds)), .val (.d (.int seeps)), .val (.d (.lst (ns.map D.str))), .own (.lst (R0.map rowD)), a, b, .no, .no] ∧ h' = [uD u'] ∧ R0.map (·.1) = ns.take pre.length ∧
      (∀ r ∈ R0, r.2.1 = (Str.ofString "") ∨ r.2.1 ∈ ns ∧ ns.idxOf r.2.1 < ns.idxOf r.1) ∧ (∀ r ∈ R0, 0 ≤ r.2.2.1 ∧ r.2.2.1 ≤ 999) ∧ (∀ r ∈ R0, 0 ≤ r.2.2.2 ∧ r.2.2.2 ≤ 99)) ⟨[], u1, .no, .no, rfl, rfl, rfl, by simp, by simp, by simp⟩ ?_ ?_
  · rintro pre x post ρ' h' ex ⟨R0, u', a, b, eρ, eh, hn, ab, ho, se⟩
    subst eρ; subst eh
    obtain ⟨hx, hx2, _⟩ := range_split ex
    subst hx
    obtain ⟨nm, hnm⟩ : ∃ nm, ns[pre.length]? = some nm := ⟨_, List.getElem?_eq_getElem hx2⟩
    have hat : atI (ns.map D.str) ((pre.length : Nat) : Int) = some (.str nm) := by
      rw [EV.atI_nat, List.getElem?_map, hnm]; rfl
    have hlen : R0.length = pre.length := by have := congrArg List.length hn; simp at this; omega
    have hz : R0.length < sizeLine := by
      have : 100 ≤ sizeLine := by decide
      omega
    have fin : ∀ (ab_ : Str) (hv sv : Int) (u' : Urn) (a b : Sl), (ab_ = (Str.ofString "") ∨ ab_ ∈ ns ∧ ns.idxOf ab_ < ns.idxOf nm) → 0 ≤ hv → hv ≤ 999 → 0 ≤ sv → sv ≤ 99 → ∃ (R1 : List Row) (u'' : Urn) (a' b' : Sl), ([.val (.ref 0), .val (.d (.int many)), .val (.d (.int holds)), .val (.d (.int seeps)), .val (.d (.lst (ns.map D.str))), .own (.lst (R0.map rowD ++ [.tup [.str nm, .str ab_, .int hv, .int sv]])), a, b, .no, .no] : Ev) = [.val (.ref 0), .val (.d (.int many)), .val (.d (.int holds)), .val (.d (.int seeps)), .val (.d (.lst (ns.map D.str))), .own (.lst (R1.map rowD)), a', b', .no, .no] ∧ [uD u'] = [uD u''] ∧ R1.map (·.1) = ns.take (pre ++ [pre.length]).length ∧
        (∀ r ∈ R1, r.2.1 = (Str.ofString "") ∨ r.2.1 ∈ ns ∧ ns.idxOf r.2.1 < ns.idxOf r.1) ∧ (∀ r ∈ R1, 0 ≤ r.2.2.1 ∧ r.2.2.1 ≤ 999) ∧ (∀ r ∈ R1, 0 ≤ r.2.2.2 ∧ r.2.2.2 ≤ 99) := by
      intro ab_ hv sv u' a b hab hv1 hv2 s1 s2
      refine ⟨R0 ++ [(nm, ab_, hv, sv)], u', a, b, by rw [List.map_append]; rfl, rfl, ?_, fun r hr => ?_, fun r hr => ?_, fun r hr => ?_⟩
      · rw [List.map_append, hn, List.length_append, List.length_singleton, List.take_add_one, hnm]; rfl
      · rcases List.mem_append.mp hr with z | z
        · exact ab r z
        · rw [List.mem_singleton.mp z]; exact hab
      · rcases List.mem_append.mp hr with z | z
        · exact ho r z
        · rw [List.mem_singleton.mp z]; exact ⟨hv1, hv2⟩
      · rcases List.mem_append.mp hr with z | z
        · exact se r z
        · rw [List.mem_singleton.mp z]; exact ⟨s1, s2⟩
    by_cases h0 : 0 < pre.length
    · have h0' : (0 : Int) < ((pre.length : Nat) : Int) := by omega
      by_cases h4 : 0 < tk u' 4
      · have q1 := tk_lo (u := nx u' 4) (m := (pre.length : Nat)) h0'
        have q2 := tk_hi (u := nx u' 4) (m := (pre.length : Nat)) h0'
        obtain ⟨j, hj⟩ : ∃ j : Nat, tk (nx u' 4) (pre.length : Nat) = (j : Int) := ⟨_, (Int.toNat_of_nonneg q1).symm⟩
        have hj2 : j < pre.length := by omega
        obtain ⟨an, han⟩ : ∃ an, ns[j]? = some an := ⟨_, List.getElem?_eq_getElem (by omega)⟩
        have haj : atI (ns.map D.str) ((j : Nat) : Int) = some (.str an) := by
          rw [EV.atI_nat, List.getElem?_map, han]; rfl
        have e5 := c_take (n+2) u' 4 (by decide) (by decide)
        have e6 := c_take (n+2) (nx u' 4) (pre.length : Nat) h0' (by omega)
        rw [hj] at e6
        obtain ⟨hv, sv, a, u3, u4, u5, b1, b2, b3, b4, r1, r2, r3⟩ := row_ex n (nx (nx u' 4) (pre.length : Nat)) holds seeps hh hs
        exists h0', e5, h4
        exists e6, haj, hat, r1, r2, r3, List.length_map, hz
        exact fin an hv sv u5 _ _ (.inr ⟨List.mem_of_getElem? han, idx_lt nd1 han hnm hj2⟩) b1 b2 b3 b4
      · have e5 := c_take (n+2) u' 4 (by decide) (by decide)
        obtain ⟨hv, sv, a, u3, u4, u5, b1, b2, b3, b4, r1, r2, r3⟩ := row_ex n (nx u' 4) holds seeps hh hs
        exists h0', e5, h4
        exists hat, r1, r2, r3, List.length_map, hz
        exact fin (Str.ofString "") hv sv u5 _ _ (.inl rfl) b1 b2 b3 b4
    · have h0' : ¬ (0 : Int) < ((pre.length : Nat) : Int) := by omega
      obtain ⟨hv, sv, a, u3, u4, u5, b1, b2, b3, b4, r1, r2, r3⟩ := row_ex n u' holds seeps hh hs
      exists h0'
      exists hat, r1, r2, r3, List.length_map, hz
      exact fin (Str.ofString "") hv sv u5 _ _ (.inl rfl) b1 b2 b3 b4
  · rintro ρ' h' ⟨R0, u', a, b, eρ, eh, hn, ab, ho, se⟩
    subst eρ; subst eh
    rw [List.length_range, List.take_length] at hn
    obtain ⟨m2, hm21, hm22⟩ : ∃ m2 : Nat, 2 + tk u' (many - 1) = (m2 : Int) ∧ 2 ≤ m2 ∧ m2 ≤ 7 := by
      have := tk_lo (u := u') (m := many - 1) (by omega); have := tk_hi (u := u') (m := many - 1) (by omega)
      exact ⟨(2 + tk u' (many - 1)).toNat, by omega, by omega⟩
    obtain ⟨fs, u2, e2, hl2, nd2, nm2⟩ := names_ex n (nx u' (many - 1)) m2 (by omega)
    exists c_take (n := n+2) u' (many - 1) (by omega) (by omega)
    rw [hm21]
    exists e2
    have hne : ns ≠ [] := fun z => by rw [z] at hl1; simp at hl1; omega
    refine for_f (fun pre ρ' h' => ∃ (F0 : List Fld) (u' : Urn) (c : Sl), ρ' = [.val (.ref 0), .val (.d (.int many)), .val (.d (.int holds)), .val (.d (.int seeps)), .val (.d (.lst (ns.map D.str))), .own (.lst (R0.map rowD)), a, b, .own (.lst (F0.map fldD)), c] ∧ h' = [uD u'] ∧ F0.map (·.1) = pre ∧
        (∀ f ∈ F0, f.2.1 ∈ ns) ∧ (∀ f ∈ F0, 1 ≤ f.2.2 ∧ f.2.2 ≤ 999)) ⟨[], u2, .no, rfl, rfl, rfl, by simp, by simp⟩ ?_ ?_
    · rintro pre x post ρ' h' ex ⟨F0, u', c, eρ, eh, hn2, st, la⟩
      subst eρ; subst eh
      obtain ⟨s, u3, hs3, e3⟩ := of_ex (n+1) u' (ns.map D.str) (by rw [List.length_map]; omega) (fun z => hne (List.map_eq_nil_iff.mp z))
      obtain ⟨sn, hsn, esn⟩ := List.mem_map.mp hs3
      subst esn
      have e4 := c_take (n+2) u3 9 (by decide) (by decide)
      obtain ⟨y, u4, hy, e5⟩ := of_ex (n+1) (nx u3 9) [.int 1, .int 2, .int 3, .int (1 + tk u3 9)] (by simp) (by simp)
      obtain ⟨lv, elv, lv1, lv2⟩ : ∃ lv : Int, y = .int lv ∧ 1 ≤ lv ∧ lv ≤ 999 := by
        have := tk_lo (u := u3) (m := 9) (by omega); have := tk_hi (u := u3) (m := 9) (by omega)
        simp at hy
        rcases hy with z | z | z | z
        · exact ⟨1, z, by omega, by omega⟩
        · exact ⟨2, z, by omega, by omega⟩
        · exact ⟨3, z, by omega, by omega⟩
        · exact ⟨_, z, by omega, by omega⟩
      subst elv
      have hz : F0.length < sizeLine := by
        have h1 : F0.length = pre.length := by have := congrArg List.length hn2; simpa using this
        have h2 : pre.length < fs.length := by have := congrArg List.length ex; simp at this; omega
        have : 100 ≤ sizeLine := by decide
        omega
      exists e3, e4, e5, List.length_map, hz
      refine ⟨F0 ++ [(x, sn, lv)], u4, _, by rw [List.map_append]; rfl, rfl, by rw [List.map_append, hn2]; rfl, fun f hf => ?_, fun f hf => ?_⟩
      · rcases List.mem_append.mp hf with z | z
        · exact st f z
        · rw [List.mem_singleton.mp z]; exact hsn
      · rcases List.mem_append.mp hf with z | z
        · exact la f z
        · rw [List.mem_singleton.mp z]; exact ⟨lv1, lv2⟩
    · rintro ρ' h' ⟨F0, u', c, eρ, eh, hn2, st, la⟩
      subst eρ; subst eh
      obtain ⟨R, er, hp, hsR⟩ := sort_named (g := rowD) (nm := fun r : Row => r.1) (fun r => keyDs_row) (L := R0) (by rw [hn]; exact nd1)
      obtain ⟨F, ef, hpF, hsF⟩ := sort_named (g := fldD) (nm := fun r : Fld => r.1) (fun r => keyDs_fld) (L := F0) (by rw [hn2]; exact nd2)
      have g := goodR_of nd1 nm1 hne (by omega) hn hp hsR ab ho se
      have gm : (R.map (·.1)).Perm ns := by rw [← hn]; exact hp.map _
      have gf := goodF_of (R := R) nd2 nm2 (by omega) (by omega) hn2 hpF hsF (fun f hf => gm.mem_iff.mpr (st f hf)) la
      exists er, ef
      exact ⟨R, F, _, u', rfl, rfl, g, gf⟩
theorem canal_ex (n : Nat) (u : Urn) (many holds seeps : Int) (hm : 2 ≤ many ∧ many ≤ 7) (hh : 1 ≤ holds ∧ holds ≤ 999) (hs : 0 ≤ seeps ∧ seeps ≤ 99) :
    ∃ (R : List Row) (F : List Fld) (rk : Str → Nat) (u' : Urn) (o : Bool), (level pr (n+4)).call 3 [.ref 0, .d (.int many), .d (.int holds), .d (.int seeps)] [uD u] = .ok (.d (canD R F)) o [uD u'] ∧ GoodR R rk ∧ GoodF R F := by
  have c := c_canal n u many holds seeps hm hh hs
  generalize (level pr (n+4)).call 3 [.ref 0, .d (.int many), .d (.int holds), .d (.int seeps)] [uD u] = x at c
  obtain ⟨w, b, h', e, R, F, rk, u', e1, e2, g, gf⟩ := okf_get c
  exact ⟨R, F, rk, u', b, by rw [e, e1, e2], g, gf⟩

theorem order_ex (n : Nat) (u : Urn) (R : List Row) (F : List Fld) (gf : GoodF R F) : ∃ (O : List Str) (u' : Urn) (o : Bool), (level pr (n+2)).call 4 [.ref 0, .d (canD R F)] [uD u] = .ok (.d (.tup (O.map D.str))) o [uD u'] ∧ GoodO (F.map (·.1)) O ∧ O.Perm (F.map (·.1)) := by
  suffices c : OkF ((level pr (n+2)).call 4 [.ref 0, .d (canD R F)] [uD u]) fun w b h' => ∃ (O : List Str) (u' : Urn), w = .d (.tup (O.map D.str)) ∧ h' = [uD u'] ∧ O.Perm (F.map (·.1)) by
    generalize (level pr (n+2)).call 4 [.ref 0, .d (canD R F)] [uD u] = x at c
    obtain ⟨w, b, h', e, O, u', e1, e2, p⟩ := okf_get c
    exact ⟨O, u', b, by rw [e, e1, e2], ⟨p.symm.nodup gf.nd, fun x hx => p.mem_iff.mp hx, p.length_eq⟩, p⟩
  have hl : F.length ≤ sizeLine := Nat.le_trans gf.hi (by decide)
  have hhi := gf.hi
  rw [lvl_call (q := r__law_order.q) rfl, run_at rfl]
  exists r__law_order, b__law_order, canD
  rw [lc_map F fldD (fun r => .str r.1) rfl hl fun r _ => lct (by exists fldD)]
  exists List.length_map, range_nat (n := F.length) (by omega)
  refine for_f (fun pre ρ' h' => ∃ (left O : List Str) (u' : Urn) (a b : Sl), ρ' = [.val (.ref 0), .val (.d (canD R F)), .own (.lst (left.map D.str)), .val (.d (.tup (O.map D.str))), a, b] ∧ h' = [uD u'] ∧ left.length + pre.length = F.length ∧ (O ++ left).Perm (F.map (·.1)))
    ⟨F.map (·.1), [], u, .no, .no, by rw [List.map_map]; rfl, rfl, by simp, by simp⟩ ?_ ?_
  · rintro pre x post ρ' h' ex ⟨left, O, u', a, b, eρ, eh, hn, hp⟩
    subst eρ; subst eh
    obtain ⟨hx, hx2, _⟩ := range_split ex
    have hp0 : (0 : Int) < ((left.length : Nat) : Int) := by omega
    have q1 := tk_lo (u := u') hp0
    have q2 := tk_hi (u := u') hp0
    have e5 := c_take n u' (left.length : Nat) hp0 (by omega)
    obtain ⟨j, hj⟩ : ∃ j : Nat, tk u' (left.length : Nat) = (j : Int) := ⟨_, (Int.toNat_of_nonneg q1).symm⟩
    rw [hj] at e5 q2
    have hjl : j < left.length := by omega
    have hi : ixN left.length (j : Int) = some j := EV.ixN_nat hjl
    have hg : (left.map D.str)[j]? = some (.str left[j]) := by rw [List.getElem?_map, List.getElem?_eq_getElem hjl]; rfl
    have hz : -(2 ^ 63) ≤ (j : Int) ∧ (j : Int) < 2 ^ 63 := by constructor <;> omega
    have hz1 : (-9223372036854775808 : Int) ≤ (j : Int) := by omega
    have hz2 : (j : Int) < 9223372036854775808 := by omega
    have ho : O.length + 1 ≤ sizeLine := by
      have := hp.length_eq
      rw [List.length_append, List.length_map] at this
      have : 100 ≤ sizeLine := by decide
      omega
    exists List.length_map, e5, hi, hg, hz1, hz2, ho
    have pe : (left[j] :: left.eraseIdx j).Perm left := erase_perm hjl
    refine ⟨left.eraseIdx j, O ++ [left[j]], _, _, _, by rw [List.map_append, erase_map]; rfl, rfl, ?_, ?_⟩
    · rw [List.length_eraseIdx_of_lt hjl, List.length_append, List.length_singleton]; omega
    · rw [List.append_assoc]
      exact (List.Perm.append_left O pe).trans hp
  · rintro ρ' h' ⟨left, O, u', a, b, eρ, eh, hn, hp⟩
    subst eρ; subst eh
    rw [List.length_range] at hn
    have : left = [] := List.eq_nil_of_length_eq_zero (by omega)
    rw [this, List.append_nil] at hp
    exists th_ok
    exact ⟨O, u', rfl, rfl, hp⟩
theorem hours_ex (n : Nat) (u : Urn) (R : List Row) (F : List Fld) (most : Int) (hm : 1 ≤ most ∧ most ≤ 168) (gf : GoodF R F) : ∃ (hs : List Int) (u' : Urn) (o : Bool), (level pr (n+2)).call 5 [.ref 0, .d (canD R F), .d (.int most)] [uD u] = .ok (.d (.tup (hs.map D.int))) o [uD u'] ∧ GoodH F hs := by
  suffices c : OkF ((level pr (n+2)).call 5 [.ref 0, .d (canD R F), .d (.int most)] [uD u]) fun w b h' => ∃ (hs : List Int) (u' : Urn), w = .d (.tup (hs.map D.int)) ∧ h' = [uD u'] ∧ GoodH F hs by
    generalize (level pr (n+2)).call 5 [.ref 0, .d (canD R F), .d (.int most)] [uD u] = x at c
    obtain ⟨w, b, h', e, O, u', e1, e2, p⟩ := okf_get c
    exact ⟨O, u', b, by rw [e, e1, e2], p⟩
  have hhi := gf.hi
  rw [lvl_call (q := r__law_hours.q) rfl, run_at rfl]
  exists r__law_hours, b__law_hours, canD
  refine for_f (fun pre ρ' h' => ∃ (hs : List Int) (u' : Urn) (a : Sl), ρ' = [.val (.ref 0), .val (.d (canD R F)), .val (.d (.int most)), .val (.d (.tup (hs.map D.int))), a] ∧ h' = [uD u'] ∧ hs.length = pre.length ∧ ∀ i ∈ hs, 1 ≤ i ∧ i ≤ 168)
    ⟨[], u, .no, rfl, rfl, rfl, by simp⟩ ?_ ?_
  · rintro pre x post ρ' h' ex ⟨hs, u', a, eρ, eh, hn, ok⟩
    subst eρ; subst eh
    have q1 := tk_lo (u := u') (m := most) (by omega)
    have q2 := tk_hi (u := u') (m := most) (by omega)
    have e5 := c_take n u' most (by omega) (by omega)
    have ho : hs.length + 1 ≤ sizeLine := by
      have h1 := congrArg List.length ex
      simp at h1
      have : 100 ≤ sizeLine := by decide
      omega
    exists e5, List.length_map, ho
    refine ⟨hs ++ [1 + tk u' most], _, _, by rw [List.map_append]; rfl, rfl, by simp [hn], fun i hi => ?_⟩
    rcases List.mem_append.mp hi with z | z
    · exact ok i z
    · rw [List.mem_singleton.mp z]; omega
  · rintro ρ' h' ⟨hs, u', a, eρ, eh, hn, ok⟩
    subst eρ; subst eh
    exists th_ok
    exact ⟨hs, u', rfl, rfl, hn, ok⟩
def clk (w : Str → Int) (O : List Str) : List Str := O.flatMap fun x => List.replicate (w x).toNat x
theorem clk_app {w : Str → Int} {O : List Str} {x : Str} : clk w (O ++ [x]) = clk w O ++ List.replicate (w x).toNat x := by simp [clk]
theorem clk_len {w : Str → Int} : ∀ {O : List Str}, (∀ x ∈ O, 1 ≤ w x ∧ w x ≤ 168) → (clk w O).length ≤ 168 * O.length
  | [], _ => Nat.le_refl _
  | x :: O, h => by
    have h1 := h x List.mem_cons_self
    have ih := clk_len (O := O) fun y hy => h y (List.mem_cons_of_mem _ hy)
    show ((List.replicate (w x).toNat x) ++ clk w O).length ≤ _
    rw [List.length_append, List.length_replicate, List.length_cons]; omega
theorem hr_ok {F : List Fld} {hs : List Int} {O : List Str} (go : GoodO (F.map (·.1)) O) (gh : GoodH F hs) : ∀ x ∈ O, 1 ≤ hr F hs x ∧ hr F hs x ≤ 168 := fun x hx => gh.ok _ (hr_look gh.len (go.sub x hx)).2
theorem c_clock (n : Nat) (R : List Row) (F : List Fld) (O : List Str) (hs : List Int) (h : Hh) (gf : GoodF R F) (go : GoodO (F.map (·.1)) O) (gh : GoodH F hs) : (level pr (n+1)).call 7 [.d (canD R F), .d (.tup (O.map D.str)), .d (.tup (hs.map D.int))] h = .ok (.d (.lst ((clk (hr F hs) O).map D.str))) false h := by
  have hl : F.length ≤ sizeLine := Nat.le_trans gf.hi (by decide)
  rw [lvl_call (q := r__law_clock.q) rfl, run_at rfl]
  exists r__law_clock, b__law_clock, canD
  rw [lc_map F fldD (fun r => .str r.1) rfl hl fun r _ => lct (by exists fldD)]
  exists dzipD_lt (f := fun f : Fld => f.1) (keys_nd gf.nd) ((List.length_map ..).trans gh.len)
  refine okf_to (for_f (fun pre ρ' h' => ∃ (a b : Sl), ρ' = [.val (.d (canD R F)), .val (.d (.tup (O.map D.str))), .val (.d (.tup (hs.map D.int))), .val (.d (.dic (F.map fun f => .inr f.1) (hs.map D.int))), .val (.d (.lst ((clk (hr F hs) pre).map D.str))), a, b] ∧ h' = h)
    ⟨.no, .no, rfl, rfl⟩ ?_ ?_)
  · rintro pre x post ρ' h' ex ⟨a, b, eρ, eh⟩
    subst eρ; subst eh
    have hx : x ∈ O := by rw [ex]; simp
    have lk := (hr_look gh.len (go.sub x hx)).1
    have hx2 := hr_ok go gh x hx
    have hm := mul_lst (x := .str x) (k := hr F hs x) (by omega)
    have ho : (clk (hr F hs) pre).length + (hr F hs x).toNat ≤ sizeLine := by
      have h1 := clk_len (w := hr F hs) (O := pre) fun y hy => hr_ok go gh y (by rw [ex]; simp [hy])
      have h2 := go.len
      have h3 := gf.hi
      rw [ex, List.length_map] at h2
      simp at h2
      have : 100000 ≤ sizeLine := by decide
      omega
    exists lk, hm, List.length_map, List.length_replicate, ho
    rw [clk_app, List.map_append, List.map_replicate]
    first | exact ⟨_, _, rfl, rfl⟩ | exact ⟨_, _, rfl⟩
  · rintro ρ' h' ⟨a, b, eρ, eh⟩
    subst eρ; subst eh
    exists th_ok

/-! ### shown -/
theorem Nm.ok {x : Str} (h : Nm x) : PyData.strOk x = true := by
  show x.cps.all (· < 0x110000) = true
  rw [← Array.all_toList, List.all_eq_true]
  intro c hc
  exact decide_eq_true (let_ok c (h.le c hc))
theorem shw_nm {x : Str} (h : Nm x) {dep : Nat} : Shw 32 dep (.str x) := shw_str h.ok (Nat.le_trans h.hi (by omega))
theorem shw_nms {L : List Str} (h : ∀ x ∈ L, Nm x) (hl : L.length ≤ 14) : Shw 500 2 (.tup (L.map D.str)) := by
  refine (shw_tup (w := 32) (dep := 0) (n := 14) (fun d hd => ?_) (by rw [List.length_map]; exact hl)).mono (by omega) (by omega)
  obtain ⟨x, hx, e⟩ := List.mem_map.mp hd
  subst e; exact shw_nm (h x hx)
theorem repr_two {d : D} {w dep : Nat} (h : Shw w dep d) (h1 : w ≤ 100000) (h2 : dep ≤ 40) : ∃ x, bi2D .repr (.lst [d, d]) = some (.str x) :=
  repr_lst (shw_lst (w := w) (dep := dep) (n := 2) (fun d2 hd => by simp at hd; rw [hd]; exact h) (by simp)) (by omega) (by omega)
theorem shw_can {R : List Row} {F : List Fld} {rk : Str → Nat} (g : GoodR R rk) (gf : GoodF R F) : Shw 4000 4 (canD R F) := by
  have nmR : ∀ x ∈ R.map (·.1), Nm x := fun x hx => by obtain ⟨r, hr, e⟩ := List.mem_map.mp hx; subst e; exact g.nm r hr
  have s1 : Shw 1862 2 (.tup (R.map rowD)) := by
    refine (shw_tup (w := 132) (dep := 1) (n := 14) (fun d hd => ?_) (by rw [List.length_map]; exact g.len)).mono (by omega) (by omega)
    obtain ⟨r, hr, e⟩ := List.mem_map.mp hd
    subst e
    refine (shw_tup (w := 32) (dep := 0) (n := 4) (fun d hd => ?_) (by simp)).mono (by omega) (by omega)
    simp at hd
    have ho := g.ho r hr
    have se := g.se r hr
    rcases hd with z | z | z | z <;> subst z
    · exact shw_nm (g.nm r hr)
    · rcases g.ab r hr with y | ⟨s, hs, y, _⟩
      · rw [y]; exact shw_str (by first | rfl | kernel_rfl | (simp [PyData.strOk, Str.ofString]; done)) (by decide)
      · rw [← y]; exact shw_nm (g.nm s hs)
    · exact shw_int (by omega) (by omega) (by omega)
    · exact shw_int (by omega) (by omega) (by omega)
  have s2 : Shw 1862 2 (.tup (F.map fldD)) := by
    refine (shw_tup (w := 99) (dep := 1) (n := 7) (fun d hd => ?_) (by rw [List.length_map]; exact gf.hi)).mono (by omega) (by omega)
    obtain ⟨r, hr, e⟩ := List.mem_map.mp hd
    subst e
    refine (shw_tup (w := 32) (dep := 0) (n := 3) (fun d hd => ?_) (by simp)).mono (by omega) (by omega)
    simp at hd
    have la := gf.la r hr
    rcases hd with z | z | z <;> subst z
    · exact shw_nm (gf.nm r hr)
    · exact shw_nm (nmR _ (gf.st r hr))
    · exact shw_int (by omega) (by omega) (by omega)
  refine (shw_tup (w := 1862) (dep := 2) (n := 2) (fun d hd => ?_) (by simp)).mono (by omega) (by omega)
  simp at hd
  rcases hd with z | z <;> subst z
  · exact s1
  · exact s2
theorem eqD_self {w dep : Nat} {d : D} (h : Shw w dep d) (h2 : dep ≤ 50) : eqD d d = some true := by
  obtain ⟨p, e, a⟩ := h
  unfold eqD
  rw [e]
  show (if p.depth ≤ 64 ∧ p.depth ≤ 64 then some (PyData.eqv p p) else none) = _
  rw [if_pos ⟨Nat.le_trans a.b (by omega), Nat.le_trans a.b (by omega)⟩, PySem.SeqAt.eqv_refl p a.a]

theorem urn_ex (n : Nat) (ns : List Int) (lap : Nat) : ∃ u : Urn, (level pr (n+1)).call 2 [.scr ns, .d (.int (lap : Nat))] [] = .ok (.d (uD u)) true [] := by
  suffices c : OkF ((level pr (n+1)).call 2 [.scr ns, .d (.int (lap : Nat))] []) fun w b h' => ∃ u : Urn, w = .d (uD u) ∧ b = true ∧ h' = [] by
    generalize (level pr (n+1)).call 2 [.scr ns, .d (.int (lap : Nat))] [] = x at c
    obtain ⟨w, b, h', e, u, e1, e2, e3⟩ := okf_get c
    exact ⟨u, by rw [e, e1, e2, e3]⟩
  obtain ⟨L, eL⟩ := cut_map (f := D.int) (L := ns) (lo := none) (hi := some 9)
  rw [lvl_call (q := r__law_urn.q) rfl, run_at rfl]
  exists r__law_urn, b__law_urn, mul_r (b := 50021) (by decide) (by decide), mul_l (a := 8111) (by decide) (by decide)
  rw [eL]
  refine for_f (fun pre ρ' h' => ∃ (m : Int) (a : Sl), ρ' = [.val (.scr ns), .val (.d (.int (lap : Nat))), .val (.d (.int m)), a, .no] ∧ h' = [])
    ⟨_, .no, rfl, rfl⟩ ?_ ?_
  · rintro pre x post ρ' h' ex ⟨m, a, eρ, eh⟩
    subst eρ; subst eh
    exists mul_r (b := 50021) (by decide) (by decide), mul_r (b := 13) (by decide) (by decide)
    first | exact ⟨_, _, rfl, rfl⟩ | exact ⟨_, _, rfl⟩
  · rintro ρ' h' ⟨m, a, eρ, eh⟩
    subst eρ; subst eh
    by_cases hl : (lap : Int) < (ns.length : Int)
    · obtain ⟨v, hv⟩ : ∃ v, ns[lap]? = some v := ⟨_, List.getElem?_eq_getElem (by omega)⟩
      have ha : atI ns (lap : Int) = some v := by rw [EV.atI_nat, hv]
      by_cases h1 : v < 0
      · exists hl, scrIx, ha, mul_r (b := 59) (by decide) (by decide), mul_r (b := 30029) (by decide) (by decide), h1
        first | exact ⟨(_, _, _), rfl⟩ | exact ⟨(_, _, _), rfl, rfl⟩
      · by_cases h2 : 1000000000000000 ≤ v
        · exists hl, scrIx, ha, mul_r (b := 59) (by decide) (by decide), mul_r (b := 30029) (by decide) (by decide), h1, h2
          first | exact ⟨(_, _, _), rfl⟩ | exact ⟨(_, _, _), rfl, rfl⟩
        · exists hl, scrIx, ha, mul_r (b := 59) (by decide) (by decide), mul_r (b := 30029) (by decide) (by decide), h1, h2
          first | exact ⟨(_, _, _), rfl⟩ | exact ⟨(_, _, _), rfl, rfl⟩
    · exists hl, mul_r (b := 59) (by decide) (by decide), mul_r (b := 30029) (by decide) (by decide)
      first | exact ⟨(_, _, _), rfl⟩ | exact ⟨(_, _, _), rfl, rfl⟩

/-- turns with their starts and ends -/
def turnsL (w : Str → Int) : Int → List Str → List (Str × Int × Int)
  | _, [] => []
  | s, x :: o => (x, s, s + w x) :: turnsL w (s + w x) o
def tot (w : Str → Int) (o : List Str) : Int := (o.map w).sum
theorem tot_app {w : Str → Int} {o : List Str} {x : Str} : tot w (o ++ [x]) = tot w o + w x := by simp [tot]
theorem turns_app {w : Str → Int} : ∀ {o : List Str} {s : Int} {x : Str}, turnsL w s (o ++ [x]) = turnsL w s o ++ [(x, s + tot w o, s + tot w o + w x)]
  | [], s, x => by simp [turnsL, tot]
  | y :: o, s, x => by
    rw [List.cons_append, turnsL, turnsL, turns_app, List.cons_append]
    simp [tot, Int.add_assoc]
def tD (t : Str × Int × Int) : D := .tup [.str t.1, .int t.2.1, .int t.2.2]
theorem turns_len {w : Str → Int} : ∀ {o : List Str} {s : Int}, (turnsL w s o).length = o.length
  | [], _ => rfl
  | _ :: o, s => by rw [turnsL, List.length_cons, turns_len, List.length_cons]
theorem c_turns_of (n : Nat) (R : List Row) (F : List Fld) (O : List Str) (hs : List Int) (h : Hh) (gf : GoodF R F) (go : GoodO (F.map (·.1)) O) (gh : GoodH F hs) : (level pr (n+3)).call 18 [.d (canD R F), .d (.tup (O.map D.str)), .d (.tup (hs.map D.int))] h = .ok (.d (.lst ((turnsL (hr F hs) 0 O).map tD))) true h := by
  rw [lvl_call (q := r_turns_of.q) rfl, run_at rfl]
  exists r_turns_of, b_turns_of, c_hours_by _ _ _ _ _ gf gh
  refine okf_to (for_f (fun pre ρ' h' => ∃ (a : Sl), ρ' = [.val (.d (canD R F)), .val (.d (.tup (O.map D.str))), .val (.d (.tup (hs.map D.int))), .val (.d (.dic (F.map fun f => .inr f.1) (hs.map D.int))), .own (.lst ((turnsL (hr F hs) 0 pre).map tD)), .val (.d (.int (tot (hr F hs) pre))), a] ∧ h' = h)
    ⟨.no, rfl, rfl⟩ ?_ ?_)
  · rintro pre x post ρ' h' ex ⟨a, eρ, eh⟩
    subst eρ; subst eh
    have hx : x ∈ O := by rw [ex]; simp
    have lk := (hr_look gh.len (go.sub x hx)).1
    have hl : (turnsL (hr F hs) 0 pre).length < sizeLine := by
      have h1 := go.len
      rw [ex, List.length_map] at h1
      have h2 := gf.hi
      have h3 : 8 ≤ sizeLine := by decide
      rw [turns_len]; simp at h1; omega
    exists lk, List.length_map, hl
    refine ⟨.val (.d (.str x)), ?_⟩
    rw [turns_app, tot_app, List.map_append, Int.zero_add]
    rfl
  · rintro ρ' h' ⟨a, eρ, eh⟩
    subst eρ; subst eh
    exists th_ok

/-! ### closings: the program -/
abbrev T3 := Str × Int × Int
theorem ints_id : ∀ {hs : List Int}, intsD (hs.map D.int) = some hs
  | [] => rfl
  | i :: hs => by rw [List.map_cons, intsD, ints_id]; rfl
theorem turns_fst {w : Str → Int} : ∀ {O : List Str} {s : Int}, (turnsL w s O).map (·.1) = O
  | [], _ => rfl
  | x :: O, s => by rw [turnsL, List.map_cons, turns_fst]
theorem turns_lo {w : Str → Int} : ∀ {O : List Str} {s : Int}, (∀ x ∈ O, 1 ≤ w x) → ∀ t ∈ turnsL w s O, s ≤ t.2.1 ∧ t.2.1 < t.2.2 ∧ t.2.2 ≤ s + tot w O
  | [], _, _, _, h => by cases h
  | x :: O, s, hw, t, h => by
    have hx := hw x List.mem_cons_self
    have pos : 0 ≤ tot w O := by
      have : ∀ (L : List Str), (∀ x ∈ L, 1 ≤ w x) → 0 ≤ tot w L := fun L => by
        induction L with
        | nil => intro _; simp [tot]
        | cons y L ih => intro h; have h1 := h y List.mem_cons_self; have h2 := ih fun z hz => h z (List.mem_cons_of_mem _ hz); unfold tot at h2 ⊢; rw [List.map_cons, List.sum_cons]; omega
      exact this O fun y hy => hw y (List.mem_cons_of_mem _ hy)
    have et : tot w (x :: O) = w x + tot w O := by simp [tot]
    rw [et]
    rcases List.mem_cons.mp h with z | z
    · rw [z]; simp only; omega
    · have := turns_lo (fun y hy => hw y (List.mem_cons_of_mem _ hy)) t z
      omega
theorem c_check_number (n : Nat) (i lo hi : Int) (h : Hh) (h1 : lo ≤ i) (h2 : i ≤ hi) : (level pr (n+3)).call 21 [.d (.int i), .d (.int lo), .d (.int hi)] h = .ok (.d .non) false h := by
  rw [lvl_call (q := r_check_number.q) rfl, run_at rfl]
  exists r_check_number, b_check_number, c_is_number _ _ _ _ _ h1 h2
theorem c_check_closing (n : Nat) (R : List Row) (F : List Fld) (rk : Str → Nat) (O : List Str) (hs : List Int) (hh c : Int) (h : Hh) (g : GoodR R rk) (gf : GoodF R F) (go : GoodO (F.map (·.1)) O) (gh : GoodH F hs) (h1 : 0 ≤ hh) (h2 : hh ≤ hs.sum - 1) (h3 : 0 ≤ c) (h4 : c ≤ hs.sum) :
    (level pr (n+12)).call 14 [.d (canD R F), .d (.tup (O.map D.str)), .d (.tup (hs.map D.int)), .d (.int hh), .d (.int c)] h = .ok (.d .non) false h := by
  rw [lvl_call (q := r_check_closing.q) rfl, run_at rfl]
  exists r_check_closing, b_check_closing, c_check_week_turns _ _ _ _ _ _ _ g gf go gh, ints_id, c_check_number (n+8) hh 0 (hs.sum - 1) h h1 h2, c_check_number (n+8) c 0 hs.sum h h3 h4
def t2D (t : T3) : D := .tup [.int t.2.1, .int t.2.2]
theorem c_times_by (n : Nat) (R : List Row) (F : List Fld) (O : List Str) (hs : List Int) (h : Hh) (gf : GoodF R F) (go : GoodO (F.map (·.1)) O) (gh : GoodH F hs) : (level pr (n+4)).call 15 [.d (canD R F), .d (.tup (O.map D.str)), .d (.tup (hs.map D.int))] h =
    .ok (.d (.dic ((turnsL (hr F hs) 0 O).map fun t => .inr t.1) ((turnsL (hr F hs) 0 O).map t2D))) true h := by
  have hl : (turnsL (hr F hs) 0 O).length ≤ sizeLine := by
    have h1 := go.len
    rw [List.length_map] at h1
    have h2 := gf.hi
    rw [turns_len]
    exact Nat.le_trans (show O.length ≤ 7 by omega) (by decide)
  rw [lvl_call (q := r_times_by.q) rfl, run_at rfl]
  exists r_times_by, b_times_by, c_turns_of n R F O hs h gf go gh
  rw [dc_ok (turnsL (hr F hs) 0 O) tD (fun t => .inr t.1) t2D rfl hl (keys_nd (by rw [turns_fst]; exact go.nd)) fun t ht => dct (by exists tD, t2D)]
  exists th_ok
def ovl (a b c d : Int) : Int := if 0 < (if d < b then d else b) - (if a < c then c else a) then (if d < b then d else b) - (if a < c then c else a) else 0
theorem ovl_eq {a b c d : Int} : ovl a b c d = max 0 (min b d - max a c) := by
  unfold ovl
  rw [Int.max_def, Int.min_def, Int.max_def]
  by_cases h1 : d < b <;> by_cases h2 : a < c <;> by_cases h3 : b ≤ d <;> by_cases h4 : a ≤ c <;> simp only [h1, h2, h3, h4, if_true, if_false] <;> split <;> split <;> omega
theorem c_overlap (n : Nat) (a b c d : Int) (h : Hh) : (level pr (n+1)).call 22 [.d (.int a), .d (.int b), .d (.int c), .d (.int d)] h = .ok (.d (.int (ovl a b c d))) false h := by
  rw [lvl_call (q := r_overlap.q) rfl, run_at rfl]
  exists r_overlap, b_overlap, ovl
def lsb (W hh c : Int) (t : T3) : Int := ovl t.2.1 t.2.2 hh (hh + c) + ovl (t.2.1 + W) (t.2.2 + W) hh (hh + c)
theorem c_lost_by (n : Nat) (W hh c : Int) (t : T3) (h : Hh) : (level pr (n+2)).call 17 [.d (t2D t), .d (.int W), .d (.int hh), .d (.int c)] h = .ok (.d (.int (lsb W hh c t))) false h := by
  rw [lvl_call (q := r_lost_by.q) rfl, run_at rfl]
  exists r_lost_by, b_lost_by, t2D, c_overlap, lsb
theorem c_lost (n : Nat) (R : List Row) (F : List Fld) (rk : Str → Nat) (O : List Str) (hs : List Int) (hh c : Int) (L : Str → Int) (h : Hh) (g : GoodR R rk) (gf : GoodF R F) (go : GoodO (F.map (·.1)) O) (pO : O.Perm (F.map (·.1))) (gh : GoodH F hs) (h1 : 0 ≤ hh) (h2 : hh ≤ hs.sum - 1) (h3 : 0 ≤ c) (h4 : c ≤ hs.sum)
    (hL : ∀ t ∈ turnsL (hr F hs) 0 O, lsb hs.sum hh c t = L t.1) :
    (level pr (n+13)).call 9 [.d (canD R F), .d (.tup (O.map D.str)), .d (.tup (hs.map D.int)), .d (.int hh), .d (.int c)] h = .ok (.d (.tup ((F.map (·.1)).map fun x => D.int (L x)))) false h := by
  have cn := c_names_of (n+11) R F h gf
  have e0 : (F.map fun f => D.str f.1) = (F.map (·.1)).map D.str := by rw [List.map_map]; rfl
  rw [e0] at cn
  have ct := c_times_by (n+8) R F O hs h gf go gh
  have hl : (F.map (·.1)).length ≤ sizeLine := by rw [List.length_map]; exact Nat.le_trans gf.hi (by decide)
  rw [lvl_call (q := r_lost.q) rfl, run_at rfl]
  exists trivial, r_lost, b_lost, cM (c_check_closing n R F rk O hs hh c h g gf go gh h1 h2 h3 h4), cM ct, cM cn
  rw [lc_map (F.map (·.1)) D.str (fun x => D.int (L x)) rfl hl fun x hx => lct (by
    obtain ⟨t, ht, e⟩ : ∃ t ∈ turnsL (hr F hs) 0 O, t.1 = x := List.mem_map.mp (by rw [turns_fst]; exact pO.mem_iff.mpr hx)
    subst e
    have lk := look_map (f := fun t : T3 => (Sum.inr t.1 : Key)) (d := t2D) (keys_nd (by rw [turns_fst]; exact go.nd)) ht
    exists trivial, lk, ints_id, cM (c_lost_by (n+10) hs.sum hh c t h), hL t ht)]
  exists th_ok
def pbh (hh c : Int) (t : T3) : List T3 := if t.2.2 ≤ hh ∨ c = 0 then [t] else if hh ≤ t.2.1 then [(t.1, t.2.1 + c, t.2.2 + c)] else [(t.1, t.2.1, hh), (t.1, hh + c, t.2.2 + c)]
theorem c_put_behind (n : Nat) (hh c : Int) (t : T3) (h : Hh) : (level pr (n+1)).call 19 [.d (tD t), .d (.int hh), .d (.int c)] h = .ok (.d (.lst ((pbh hh c t).map tD))) true h := by
  unfold pbh
  rw [lvl_call (q := r_put_behind.q) rfl, run_at rfl]
  by_cases q1 : t.2.2 ≤ hh
  · rw [if_pos (.inl q1)]
    exists r_put_behind, b_put_behind, tD, q1
  · by_cases q2 : c = 0
    · rw [if_pos (.inr q2)]
      exists r_put_behind, b_put_behind, tD, q1, q2
    · rw [if_neg (fun z => z.elim q1 q2)]
      by_cases q3 : hh ≤ t.2.1
      · rw [if_pos q3]
        exists r_put_behind, b_put_behind, tD, q1, q2, q3
      · rw [if_neg q3]
        exists r_put_behind, b_put_behind, tD, q1, q2, q3
theorem pbh_len {hh c : Int} {t : T3} : (pbh hh c t).length ≤ 2 := by unfold pbh; split <;> (try split) <;> simp
theorem pbhs_len {hh c : Int} : ∀ {T : List T3}, (T.flatMap (pbh hh c)).length ≤ 2 * T.length
  | [] => by simp
  | t :: T => by rw [List.flatMap_cons, List.length_append, List.length_cons]; have := pbh_len (hh := hh) (c := c) (t := t); have := pbhs_len (hh := hh) (c := c) (T := T); omega
theorem c_put_off (n : Nat) (R : List Row) (F : List Fld) (rk : Str → Nat) (O : List Str) (hs : List Int) (hh c : Int) (h : Hh) (g : GoodR R rk) (gf : GoodF R F) (go : GoodO (F.map (·.1)) O) (gh : GoodH F hs) (h1 : 0 ≤ hh) (h2 : hh ≤ hs.sum - 1) (h3 : 0 ≤ c) (h4 : c ≤ hs.sum) :
    (level pr (n+13)).call 11 [.d (canD R F), .d (.tup (O.map D.str)), .d (.tup (hs.map D.int)), .d (.int hh), .d (.int c)] h = .ok (.d (.tup (((turnsL (hr F hs) 0 O).flatMap (pbh hh c)).map tD))) false h := by
  have ct := c_turns_of (n+9) R F O hs h gf go gh
  have hO : O.length ≤ 7 := by have h1 := go.len; rw [List.length_map] at h1; have := gf.hi; omega
  rw [lvl_call (q := r_put_off.q) rfl, run_at rfl]
  exists trivial, r_put_off, b_put_off, cM (c_check_closing n R F rk O hs hh c h g gf go gh h1 h2 h3 h4), cM ct
  refine okf_to (for_f (fun pre ρ' h' => ∃ (a : Sl), ρ' = [.val (.d (canD R F)), .val (.d (.tup (O.map D.str))), .val (.d (.tup (hs.map D.int))), .val (.d (.int hh)), .val (.d (.int c)), .own (.lst ((pre.flatMap (pbh hh c)).map tD)), a] ∧ h' = h)
    ⟨.no, rfl, rfl⟩ ?_ ?_)
  · rintro pre t post ρ' h' ex ⟨a, eρ, eh⟩
    subst eρ; subst eh
    have hz : (pre.flatMap (pbh hh c)).length + (pbh hh c t).length ≤ sizeLine := by
      have q1 := pbhs_len (hh := hh) (c := c) (T := pre)
      have q2 := pbh_len (hh := hh) (c := c) (t := t)
      have q3 := congrArg List.length ex
      rw [turns_len, List.length_append, List.length_cons] at q3
      have : 100 ≤ sizeLine := by decide
      omega
    exists trivial, cM (c_put_behind (n+11) hh c t h'), List.length_map, hz
    rw [show (pre ++ [t]).flatMap (pbh hh c) = pre.flatMap (pbh hh c) ++ pbh hh c t from by simp, List.map_append]
    first | exact ⟨_, rfl⟩ | exact ⟨_, rfl, rfl⟩
  · rintro ρ' h' ⟨a, eρ, eh⟩
    subst eρ; subst eh
    exists th_ok
theorem c_lost_over_all (n : Nat) (R : List Row) (F : List Fld) (rk : Str → Nat) (O : List Str) (hs : List Int) (c : Int) (h : Hh) (g : GoodR R rk) (gf : GoodF R F) (go : GoodO (F.map (·.1)) O) (gh : GoodH F hs) (h3 : 0 ≤ c) (h4 : c ≤ hs.sum) (h5 : c ≤ 100000) :
    (level pr (n+12)).call 12 [.d (canD R F), .d (.tup (O.map D.str)), .d (.tup (hs.map D.int)), .d (.int c)] h = .ok (.d (.tup (hs.map fun i => D.int (i * c)))) false h := by
  have hl : hs.length ≤ sizeLine := by rw [gh.len]; exact Nat.le_trans gf.hi (by decide)
  have mu : ∀ i : Int, mulD (.int i) (.int c) = some (.int (i * c)) := fun i => mul_int (.inr ⟨by omega, by omega⟩)
  rw [lvl_call (q := r_lost_over_all.q) rfl, run_at rfl]
  exists r_lost_over_all, b_lost_over_all, c_check_week_turns _ _ _ _ _ _ _ g gf go gh, ints_id, c_check_number (n+8) c 0 hs.sum h h3 h4
  rw [lc_map hs D.int (fun i => D.int (i * c)) rfl hl fun i hi => lct (by exists mu i)]
  exists th_ok

/-! ### closings: the plain law -/
def lpt (hh c : Int) (S : List T3) (a : Int) (x : Str) : List T3 := match S.getLast? with
  | some l => if l.1 = x ∧ l.2.2 = a + (if hh ≤ a then c else 0) then S.dropLast ++ [(x, l.2.1, a + (if hh ≤ a then c else 0) + 1)] else S ++ [(x, a + (if hh ≤ a then c else 0), a + (if hh ≤ a then c else 0) + 1)]
  | none => [(x, a + (if hh ≤ a then c else 0), a + (if hh ≤ a then c else 0) + 1)]
theorem lpt_nil {hh c a : Int} {x : Str} : lpt hh c [] a x = [(x, a + (if hh ≤ a then c else 0), a + (if hh ≤ a then c else 0) + 1)] := rfl
theorem lpt_app {hh c a : Int} {S : List T3} {l : T3} {x : Str} : lpt hh c (S ++ [l]) a x = if l.1 = x ∧ l.2.2 = a + (if hh ≤ a then c else 0) then S ++ [(x, l.2.1, a + (if hh ≤ a then c else 0) + 1)] else S ++ [l] ++ [(x, a + (if hh ≤ a then c else 0), a + (if hh ≤ a then c else 0) + 1)] := by
  unfold lpt; simp
theorem lpt_new {hh c a : Int} {S : List T3} {x : Str} (h : ∀ l, S.getLast? = some l → l.1 ≠ x) : lpt hh c S a x = S ++ [(x, a + (if hh ≤ a then c else 0), a + (if hh ≤ a then c else 0) + 1)] := by
  unfold lpt
  cases e : S.getLast? with
  | none => rw [List.getLast?_eq_none_iff.mp e]; rfl
  | some l => simp only; rw [if_neg fun z => h l e z.1]
def lgo (hh c : Int) : List Str → Int → List T3 → List T3
  | [], _, S => S
  | x :: W, a, S => lgo hh c W (a + 1) (lpt hh c S a x)
theorem lgo_app {hh c : Int} : ∀ {V W : List Str} {a : Int} {S : List T3}, lgo hh c (V ++ W) a S = lgo hh c W (a + (V.length : Nat)) (lgo hh c V a S)
  | [], W, a, S => by simp [lgo]
  | x :: V, W, a, S => by
    rw [List.cons_append, lgo, lgo, lgo_app]
    congr 1
    rw [List.length_cons]; omega
def lput (hh c : Int) (W : List Str) : List T3 := lgo hh c W 0 []
theorem lput_app {hh c : Int} {V : List Str} {x : Str} : lput hh c (V ++ [x]) = lpt hh c (lput hh c V) (V.length : Nat) x := by
  unfold lput
  rw [lgo_app, Int.zero_add]; rfl
theorem lpt_len {hh c a : Int} {S : List T3} {x : Str} : (lpt hh c S a x).length ≤ S.length + 1 := by
  rcases nil_or_last S with e | ⟨q, l, e⟩ <;> subst e
  · rw [lpt_nil]; simp
  · rw [lpt_app]; generalize (a + if hh ≤ a then c else 0) = z; split <;> simp
theorem lgo_len {hh c : Int} : ∀ {W : List Str} {a : Int} {S : List T3}, (lgo hh c W a S).length ≤ S.length + W.length
  | [], _, S => by simp [lgo]
  | x :: W, a, S => by rw [lgo]; have h1 := lgo_len (hh := hh) (c := c) (W := W) (a := a + 1) (S := lpt hh c S a x); have h2 := lpt_len (hh := hh) (c := c) (a := a) (S := S) (x := x); rw [List.length_cons]; omega
theorem pbh_name {hh c : Int} {t : T3} : ∀ u ∈ pbh hh c t, u.1 = t.1 := by
  intro u hu
  unfold pbh at hu
  split at hu
  · simp at hu; rw [hu]
  · split at hu
    · simp at hu; rw [hu]
    · simp at hu; rcases hu with z | z <;> rw [z]
theorem pbh_ne {hh c : Int} {t : T3} : pbh hh c t ≠ [] := by unfold pbh; split <;> (try split) <;> simp
theorem pbh1 {hh c s e : Int} {x : Str} (h : e ≤ hh ∨ c = 0) : pbh hh c (x, s, e) = [(x, s, e)] := by unfold pbh; rw [if_pos h]
theorem pbh2 {hh c s e : Int} {x : Str} (h : ¬ e ≤ hh) (h2 : ¬ c = 0) (h3 : hh ≤ s) : pbh hh c (x, s, e) = [(x, s + c, e + c)] := by unfold pbh; rw [if_neg (fun y => y.elim h h2), if_pos h3]
theorem pbh3 {hh c s e : Int} {x : Str} (h : ¬ e ≤ hh) (h2 : ¬ c = 0) (h3 : ¬ hh ≤ s) : pbh hh c (x, s, e) = [(x, s, hh), (x, hh + c, e + c)] := by unfold pbh; rw [if_neg (fun y => y.elim h h2), if_neg h3]
/-- one field's hours -/
theorem lgo_rep {hh c : Int} {x : Str} {S : List T3} (hc : 0 ≤ c) (h : ∀ l, S.getLast? = some l → l.1 ≠ x) (T : Int) : ∀ k : Nat, lgo hh c (List.replicate (k + 1) x) T S = S ++ pbh hh c (x, T, T + (k + 1 : Nat))
  | 0 => by
    show lpt hh c S T x = _
    rw [lpt_new h]
    congr 1
    by_cases q1 : T + ((0 + 1 : Nat) : Int) ≤ hh ∨ c = 0
    · have e : T + (if hh ≤ T then c else 0) = T := by split <;> omega
      rw [pbh1 q1, e]; rfl
    · have q2 : hh ≤ T := by omega
      rw [pbh2 (fun z => q1 (.inl z)) (fun z => q1 (.inr z)) q2, if_pos q2]
      congr 3; omega
  | k + 1 => by
    rw [List.replicate_succ', lgo_app, lgo_rep hc h T k, List.length_replicate]
    show lpt hh c (S ++ pbh hh c (x, T, T + (k + 1 : Nat))) (T + (k + 1 : Nat)) x = _
    have e0 : T + ((k + 1 + 1 : Nat) : Int) = T + ((k + 1 : Nat) : Int) + 1 := by omega
    rw [e0]
    generalize he : T + ((k + 1 : Nat) : Int) = e
    have hTe : T < e := by omega
    by_cases q0 : c = 0
    · have z : e + (if hh ≤ e then c else 0) = e := by split <;> omega
      rw [pbh1 (.inr q0), pbh1 (.inr q0), lpt_app, z, if_pos ⟨rfl, rfl⟩]
    · by_cases q1 : e ≤ hh
      · by_cases q2 : e + 1 ≤ hh
        · have z : e + (if hh ≤ e then c else 0) = e := by rw [if_neg (by omega)]; omega
          rw [pbh1 (.inl q1), pbh1 (.inl q2), lpt_app, z, if_pos ⟨rfl, rfl⟩]
        · have q3 : hh = e := by omega
          have z : e + (if hh ≤ e then c else 0) = e + c := by rw [if_pos (by omega)]
          rw [pbh1 (.inl q1), pbh3 q2 q0 (by omega), lpt_app, z, if_neg (fun y => by have y2 : e = e + c := y.2; omega), List.append_assoc, q3]
          congr 1
          have e5 : e + c + 1 = e + 1 + c := by omega
          rw [e5]; rfl
      · have z : e + (if hh ≤ e then c else 0) = e + c := by rw [if_pos (by omega)]
        have e5 : e + c + 1 = e + 1 + c := by omega
        by_cases q3 : hh ≤ T
        · rw [pbh2 q1 q0 q3, pbh2 (by omega) q0 q3, lpt_app, z, if_pos ⟨rfl, rfl⟩, e5]
        · rw [pbh3 q1 q0 q3, pbh3 (by omega) q0 q3, show S ++ [(x, T, hh), (x, hh + c, e + c)] = (S ++ [(x, T, hh)]) ++ [(x, hh + c, e + c)] from by simp, lpt_app, z, if_pos ⟨rfl, rfl⟩, e5, List.append_assoc]
          rfl
theorem lgo_clk {hh c : Int} {w : Str → Int} (hc : 0 ≤ c) : ∀ {O : List Str} {T : Int} {S : List T3}, O.Nodup → (∀ x ∈ O, 1 ≤ w x) → (∀ l, S.getLast? = some l → l.1 ∉ O) → lgo hh c (clk w O) T S = S ++ (turnsL w T O).flatMap (pbh hh c)
  | [], T, S, _, _, _ => by simp [clk, turnsL, lgo]
  | x :: O, T, S, nd, hw, h => by
    obtain ⟨nx, nd'⟩ := List.nodup_cons.mp nd
    have hx := hw x List.mem_cons_self
    obtain ⟨k, hk⟩ : ∃ k : Nat, (w x).toNat = k + 1 := ⟨(w x).toNat - 1, by omega⟩
    have e1 : clk w (x :: O) = List.replicate (k + 1) x ++ clk w O := by rw [← hk]; rfl
    have e2 : T + ((k + 1 : Nat) : Int) = T + w x := by omega
    rw [e1, lgo_app, lgo_rep hc (fun l hl z => h l hl (by rw [z]; exact List.mem_cons_self)) T k, List.length_replicate, e2, turnsL, List.flatMap_cons, ← List.append_assoc]
    refine lgo_clk hc nd' (fun y hy => hw y (List.mem_cons_of_mem _ hy)) fun l hl => ?_
    rw [List.getLast?_append] at hl
    cases hp : (pbh hh c (x, T, T + w x)).getLast? with
    | none => exact absurd (List.getLast?_eq_none_iff.mp hp) pbh_ne
    | some u =>
      rw [hp] at hl
      have e3 : u = l := Option.some.inj hl
      rw [← e3, pbh_name u (List.mem_of_getLast? hp)]
      exact nx
theorem put_all {hh c : Int} {w : Str → Int} {O : List Str} (hc : 0 ≤ c) (nd : O.Nodup) (hw : ∀ x ∈ O, 1 ≤ w x) : lput hh c (clk w O) = (turnsL w 0 O).flatMap (pbh hh c) := by
  unfold lput
  rw [lgo_clk hc nd hw (fun l z => by cases z)]; rfl
theorem flt_lst_t3 {S : List T3} : Flt 60 (.lst (S.map tD)) := (flt_lst (n := 1) fun d hd => by obtain ⟨r, _, e⟩ := List.mem_map.mp hd; subst e; exact flt_tup (by intro d hd; simp at hd; rcases hd with z | z | z <;> subst z <;> first | exact flt_str | exact flt_int)).mono (by omega)
theorem c_law_put (n : Nat) (W : List Str) (hh c : Int) (h : Hh) (hW : W.length ≤ 100000) : (level pr (n+1)).call 10 [.d (.lst (W.map D.str)), .d (.int hh), .d (.int c)] h = .ok (.d (.tup ((lput hh c W).map tD))) false h := by
  rw [lvl_call (q := r__law_put.q) rfl, run_at rfl]
  exists r__law_put, b__law_put, List.length_map, range_nat (n := W.length) (by omega)
  refine okf_to (for_f (fun pre ρ' h' => ∃ (a b : Sl), ρ' = [.val (.d (.lst (W.map D.str))), .val (.d (.int hh)), .val (.d (.int c)), .own (.lst ((lput hh c (W.take pre.length)).map tD)), a, b] ∧ h' = h)
    ⟨.no, .no, rfl, rfl⟩ ?_ ?_)
  · rintro pre x post ρ' h' ex ⟨a, b, eρ, eh⟩
    subst eρ; subst eh
    obtain ⟨hx, hx2, _⟩ := range_split ex
    subst hx
    obtain ⟨y, hy⟩ : ∃ y, W[pre.length]? = some y := ⟨_, List.getElem?_eq_getElem hx2⟩
    have ha : atI (W.map D.str) ((pre.length : Nat) : Int) = some (.str y) := by rw [EV.atI_nat, List.getElem?_map, hy]; rfl
    have ht : W.take (pre ++ [pre.length]).length = W.take pre.length ++ [y] := by rw [List.length_append, List.length_singleton, List.take_add_one, hy]; rfl
    have hV : (W.take pre.length).length = pre.length := by rw [List.length_take]; omega
    have hS : (lput hh c (W.take pre.length)).length ≤ pre.length := by
      have := lgo_len (hh := hh) (c := c) (W := W.take pre.length) (a := 0) (S := [])
      rw [hV] at this
      simpa [lput] using this
    have hz : (lput hh c (W.take pre.length)).length < sizeLine := by
      have : 200000 ≤ sizeLine := by decide
      omega
    rw [ht, lput_app, hV]
    have e4 := eqD_lst_nil (flt_lst_t3 (S := lput hh c (W.take pre.length)))
    generalize lput hh c (W.take pre.length) = S at hS hz e4 ⊢
    clear ht hV hS
    rcases nil_or_last S with e | ⟨q, l, e⟩
    · subst e
      rw [lpt_nil]
      have e0 : eqD (.lst []) (.lst []) = some true := rfl
      by_cases h1 : hh ≤ ((pre.length : Nat) : Int)
      · exists h1, e0, ha
        first | exact ⟨_, _, rfl⟩ | exact ⟨_, _, rfl, rfl⟩
      · exists h1, e0, ha, Int.add_zero
        first | exact ⟨_, _, rfl⟩ | exact ⟨_, _, rfl, rfl⟩
    · subst e
      have e6 : (q ++ [l]).map tD = q.map tD ++ [tD l] := by simp
      rw [e6] at e4 ⊢
      simp only [tD] at e4
      rw [lpt_app]
      rw [List.length_append, List.length_singleton] at hz
      have hz2 : q.length + 1 < sizeLine := hz
      by_cases h1 : hh ≤ ((pre.length : Nat) : Int)
      · rw [if_pos h1]
        by_cases h2 : l.1 = y
        · by_cases h3 : l.2.2 = ((pre.length : Nat) : Int) + c
          · rw [if_pos ⟨h2, h3⟩]
            exists tD, h1, e4, app_ne, ha, (eq_true h2 : (l.1 = y) = True), (eq_true h3 : (l.2.2 = ((pre.length : Nat) : Int) + c) = True), List.map_append
            first | exact ⟨_, _, rfl⟩ | exact ⟨_, _, rfl, rfl⟩
          · rw [if_neg fun z => h3 z.2]
            exists tD, h1, e4, app_ne, ha, (eq_true h2 : (l.1 = y) = True), h3, List.length_append, List.length_map, hz2, List.map_append
            first | exact ⟨_, _, rfl⟩ | exact ⟨_, _, rfl, rfl⟩
        · rw [if_neg fun z => h2 z.1]
          exists tD, h1, e4, app_ne, ha, h2, List.length_append, List.length_map, hz2, List.map_append
          first | exact ⟨_, _, rfl⟩ | exact ⟨_, _, rfl, rfl⟩
      · rw [if_neg h1]
        by_cases h2 : l.1 = y
        · by_cases h3 : l.2.2 = ((pre.length : Nat) : Int)
          · rw [if_pos ⟨h2, by rw [h3, Int.add_zero]⟩]
            exists tD, h1, e4, app_ne, ha, (eq_true h2 : (l.1 = y) = True), (eq_true h3 : (l.2.2 = ((pre.length : Nat) : Int)) = True), Int.add_zero, List.map_append
            first | exact ⟨_, _, rfl⟩ | exact ⟨_, _, rfl, rfl⟩
          · rw [if_neg fun z => h3 (by rw [z.2, Int.add_zero])]
            exists tD, h1, e4, app_ne, ha, (eq_true h2 : (l.1 = y) = True), h3, Int.add_zero, List.length_append, List.length_map, hz2, List.map_append
            first | exact ⟨_, _, rfl⟩ | exact ⟨_, _, rfl, rfl⟩
        · rw [if_neg fun z => h2 z.1]
          exists tD, h1, e4, app_ne, ha, h2, Int.add_zero, List.length_append, List.length_map, hz2, List.map_append
          first | exact ⟨_, _, rfl⟩ | exact ⟨_, _, rfl, rfl⟩
  · rintro ρ' h' ⟨a, b, eρ, eh⟩
    subst eρ; subst eh
    rw [List.length_range, List.take_length]
    exists th_ok

/-! ### closings: hours counted -/
theorem clk_mem {w : Str → Int} {O : List Str} {x : Str} (h : x ∈ clk w O) : x ∈ O := by
  obtain ⟨y, hy, hxy⟩ := List.mem_flatMap.mp h
  rw [List.eq_of_mem_replicate hxy]; exact hy
theorem clk_get {w : Str → Int} : ∀ {O : List Str} {T : Int}, O.Nodup → (∀ x ∈ O, 1 ≤ w x) → ∀ t ∈ turnsL w T O, ∀ j : Nat, (clk w O)[j]? = some t.1 ↔ t.2.1 ≤ T + j ∧ T + j < t.2.2
  | [], _, _, _, t, ht, _ => by cases ht
  | x :: O, T, nd, hw, t, ht, j => by
    obtain ⟨nx, nd'⟩ := List.nodup_cons.mp nd
    have hx := hw x List.mem_cons_self
    have e1 : clk w (x :: O) = List.replicate (w x).toNat x ++ clk w O := rfl
    rw [e1]
    rcases List.mem_cons.mp ht with z | z
    · rw [z]
      by_cases hj : j < (w x).toNat
      · rw [List.getElem?_append_left (by rw [List.length_replicate]; exact hj), List.getElem?_replicate, if_pos hj]
        simp; omega
      · rw [List.getElem?_append_right (by rw [List.length_replicate]; omega)]
        constructor
        · intro h
          exact absurd (clk_mem (List.mem_of_getElem? h)) nx
        · intro h; simp at h; omega
    · have hl := (turns_lo (fun y hy => hw y (List.mem_cons_of_mem _ hy)) t z).1
      have tO : t.1 ∈ O := by
        have := List.mem_map_of_mem (f := fun t : T3 => t.1) z
        rw [turns_fst] at this; exact this
      by_cases hj : j < (w x).toNat
      · rw [List.getElem?_append_left (by rw [List.length_replicate]; exact hj), List.getElem?_replicate, if_pos hj]
        constructor
        · intro h; exact absurd (by rw [Option.some.inj h]; exact tO) nx
        · intro h; omega
      · rw [List.getElem?_append_right (by rw [List.length_replicate]; omega), List.length_replicate, clk_get nd' (fun y hy => hw y (List.mem_cons_of_mem _ hy)) t z (j - (w x).toNat)]
        constructor <;> intro h <;> omega
theorem clk_tot {w : Str → Int} : ∀ {O : List Str}, (∀ x ∈ O, 1 ≤ w x) → ((clk w O).length : Int) = tot w O
  | [], _ => rfl
  | x :: O, hw => by
    have hx := hw x List.mem_cons_self
    have ih := clk_tot (w := w) (O := O) fun y hy => hw y (List.mem_cons_of_mem _ hy)
    have e1 : clk w (x :: O) = List.replicate (w x).toNat x ++ clk w O := rfl
    rw [e1, List.length_append, List.length_replicate]
    unfold tot at ih ⊢
    rw [List.map_cons, List.sum_cons]; omega
theorem clk_cnt {w : Str → Int} {x : Str} : ∀ {O : List Str}, O.Nodup → x ∈ O → (∀ x ∈ O, 1 ≤ w x) → ((clk w O).countP fun y => decide (y = x)) = (w x).toNat
  | [], _, h, _ => by cases h
  | z :: O, nd, h, hw => by
    obtain ⟨nz, nd'⟩ := List.nodup_cons.mp nd
    have e1 : clk w (z :: O) = List.replicate (w z).toNat z ++ clk w O := rfl
    rw [e1, List.countP_append, List.countP_replicate]
    rcases List.mem_cons.mp h with e | e
    · rw [e]
      have e0 : ((clk w O).countP fun y => decide (y = z)) = 0 := List.countP_eq_zero.mpr fun y hy => by
        have := clk_mem hy
        simp; intro q; rw [q] at this; exact nz this
      rw [e0]; simp
    · have ne : z ≠ x := fun q => nz (by rw [q]; exact e)
      rw [clk_cnt nd' e fun y hy => hw y (List.mem_cons_of_mem _ hy)]
      simp [ne]
/-- the fields of so many hours from one on, going round -/
def ev (C : List Str) (c i : Nat) : List Str := (List.range c).map fun k => C.getD ((i + k) % C.length) ""
theorem ev_len {C : List Str} {c i : Nat} : (ev C c i).length = c := by simp [ev]
theorem ev_succ {C : List Str} {c i : Nat} : ev C (c + 1) i = ev C c i ++ [C.getD ((i + c) % C.length) ""] := by simp [ev, List.range_succ]
theorem ovl_step {s e h : Int} {c : Nat} (hse : s < e) : ovl s e h (h + ((c + 1 : Nat) : Int)) = ovl s e h (h + (c : Nat)) + (if s ≤ h + (c : Nat) ∧ h + (c : Nat) < e then 1 else 0) := by
  rw [ovl_eq, ovl_eq]
  by_cases q : s ≤ h + (c : Nat) ∧ h + (c : Nat) < e
  · rw [if_pos q]; omega
  · rw [if_neg q]; omega
theorem lost_count {w : Str → Int} {O : List Str} {hh : Nat} (nd : O.Nodup) (hw : ∀ x ∈ O, 1 ≤ w x) (hW : hh < (clk w O).length) {t : T3} (ht : t ∈ turnsL w 0 O) : ∀ c : Nat, c ≤ (clk w O).length → lsb ((clk w O).length : Nat) (hh : Nat) (c : Nat) t = ((ev (clk w O) c hh).countP fun y => decide (y = t.1) : Nat)
  | 0, _ => by
    have h1 := turns_lo hw t ht
    unfold lsb
    rw [ovl_eq, ovl_eq]
    simp [ev]; omega
  | c + 1, hc => by
    have ih := lost_count nd hw hW ht c (by omega)
    have h1 := turns_lo hw t ht
    have h2 := clk_tot hw
    unfold lsb at ih ⊢
    rw [ovl_step h1.2.1, ovl_step (by omega), ev_succ, List.countP_append, List.countP_singleton]
    have hm : (hh + c) % (clk w O).length = if hh + c < (clk w O).length then hh + c else hh + c - (clk w O).length := by
      by_cases q : hh + c < (clk w O).length
      · rw [if_pos q, Nat.mod_eq_of_lt q]
      · rw [if_neg q, Nat.mod_eq_sub_mod (by omega), Nat.mod_eq_of_lt (by omega)]
    have hl : (hh + c) % (clk w O).length < (clk w O).length := Nat.mod_lt _ (by omega)
    have g := clk_get nd hw t ht ((hh + c) % (clk w O).length)
    rw [List.getElem?_eq_getElem hl] at g
    have gd : (clk w O).getD ((hh + c) % (clk w O).length) "" = (clk w O)[(hh + c) % (clk w O).length] := by rw [List.getD_eq_getElem?_getD, List.getElem?_eq_getElem hl]; rfl
    rw [gd]
    have g2 : ((clk w O)[(hh + c) % (clk w O).length] = t.1) ↔ (t.2.1 ≤ (0 : Int) + ((hh + c) % (clk w O).length : Nat) ∧ (0 : Int) + ((hh + c) % (clk w O).length : Nat) < t.2.2) := by
      rw [← g]; simp
    have h3 : t.2.2 ≤ ((clk w O).length : Int) := by rw [h2]; have := h1.2.2; omega
    clear g gd
    generalize (clk w O)[(hh + c) % (clk w O).length] = y at g2 ⊢
    clear hl
    generalize (clk w O).length = W at *
    by_cases q : y = t.1
    · have g3 := g2.mp q
      have e1 : (if decide (y = t.1) = true then 1 else 0) = 1 := by rw [if_pos (decide_eq_true q)]
      rw [e1]
      by_cases q2 : hh + c < W
      · rw [if_pos q2] at hm
        rw [hm] at g3
        rw [if_pos (by omega), if_neg (by omega)]; omega
      · rw [if_neg q2] at hm
        rw [hm] at g3
        rw [if_neg (by omega), if_pos (by omega)]; omega
    · have g3 : ¬ _ := fun z => q (g2.mpr z)
      have e1 : (if decide (y = t.1) = true then 1 else 0) = 0 := by rw [if_neg (by simpa using q)]
      rw [e1]
      by_cases q2 : hh + c < W
      · rw [if_pos q2] at hm
        rw [hm] at g3
        rw [if_neg (by omega), if_neg (by omega)]; omega
      · rw [if_neg q2] at hm
        rw [hm] at g3
        rw [if_neg (by omega), if_neg (by omega)]; omega
/-! sums over all beginnings -/
theorem rsum_succ {f : Nat → Nat} {n : Nat} : ((List.range (n + 1)).map f).sum = ((List.range n).map f).sum + f n := by rw [List.range_succ]; simp
theorem rsum_shift {f : Nat → Nat} : ∀ n : Nat, ((List.range n).map fun i => f (i + 1)).sum + f 0 = ((List.range n).map f).sum + f n
  | 0 => by simp
  | n + 1 => by
    have ih := rsum_shift (f := f) n
    rw [rsum_succ, rsum_succ (f := f)]; omega
theorem rsum_add {f g : Nat → Nat} : ∀ n : Nat, ((List.range n).map fun i => f i + g i).sum = ((List.range n).map f).sum + ((List.range n).map g).sum
  | 0 => by simp
  | n + 1 => by rw [rsum_succ (f := fun i => f i + g i), rsum_succ (f := f), rsum_succ (f := g), rsum_add n]; omega
theorem rsum_round {f : Nat → Nat} {W : Nat} : ∀ c : Nat, ((List.range W).map fun i => f ((i + c) % W)).sum = ((List.range W).map fun i => f (i % W)).sum
  | 0 => rfl
  | c + 1 => by
    have h := rsum_shift (f := fun i => f ((i + c) % W)) W
    have e1 : f ((W + c) % W) = f ((0 + c) % W) := by rw [Nat.add_mod_left, Nat.zero_add]
    have e2 : ((List.range W).map fun i => f ((i + 1 + c) % W)) = (List.range W).map fun i => f ((i + (c + 1)) % W) := List.map_congr_left fun i _ => by rw [show i + 1 + c = i + (c + 1) from by omega]
    simp only [e1, e2] at h
    rw [← rsum_round c]
    omega
theorem cnt_range {p : Str → Bool} (C : List Str) : ((List.range C.length).map fun i => if p (C.getD (i % C.length) "") = true then 1 else 0).sum = C.countP p := by
  have e1 : (List.range C.length).map (fun i => C.getD (i % C.length) "") = C := by
    apply List.ext_getElem
    · simp
    · intro i h1 h2
      simp only [List.length_map, List.length_range] at h1
      simp [Nat.mod_eq_of_lt h2, List.getD_eq_getElem?_getD, List.getElem?_eq_getElem h2]
  have e2 : ∀ L : List Nat, (L.map fun i => if p (C.getD (i % C.length) "") = true then 1 else 0).sum = (L.map fun i => C.getD (i % C.length) "").countP p := fun L => by
    induction L with
    | nil => rfl
    | cons a L ih => rw [List.map_cons, List.sum_cons, ih, List.map_cons, List.countP_cons]; omega
  rw [e2, e1]
theorem all_count {p : Str → Bool} (C : List Str) : ∀ c : Nat, ((List.range C.length).map fun i => (ev C c i).countP p).sum = c * C.countP p
  | 0 => by
    have : ∀ L : List Nat, (L.map fun i => (ev C 0 i).countP p).sum = 0 := fun L => by
      induction L with
      | nil => rfl
      | cons a L ih => rw [List.map_cons, List.sum_cons, ih]; simp [ev]
    rw [this]; simp
  | c + 1 => by
    have e : ((List.range C.length).map fun i => (ev C (c + 1) i).countP p) = (List.range C.length).map fun i => (ev C c i).countP p + (if p (C.getD ((i + c) % C.length) "") = true then 1 else 0) := List.map_congr_left fun i _ => by rw [ev_succ, List.countP_append, List.countP_singleton]
    rw [e, rsum_add (f := fun i => (ev C c i).countP p) (g := fun i => if p (C.getD ((i + c) % C.length) "") = true then 1 else 0), all_count C c, rsum_round (f := fun j => if p (C.getD j "") = true then 1 else 0), cnt_range, Nat.succ_mul]
theorem flat_count {p : Str → Bool} (C : List Str) (c : Nat) : ((List.range C.length).flatMap (ev C c)).countP p = c * C.countP p := by
  rw [List.countP_flatMap, ← all_count]; rfl
theorem hr_list : ∀ {F : List Fld} {hs : List Int}, hs.length = F.length → (F.map (·.1)).Nodup → F.map (fun f => hr F hs f.1) = hs
  | [], [], _, _ => rfl
  | [], _ :: _, h, _ => by cases h
  | _ :: _, [], h, _ => by cases h
  | f :: F, i :: hs, h, nd => by
    rw [List.map_cons, List.nodup_cons] at nd
    rw [List.map_cons]
    have e1 : hr (f :: F) (i :: hs) f.1 = i := by rw [hr, if_pos rfl]
    have e2 : F.map (fun g => hr (f :: F) (i :: hs) g.1) = F.map fun g => hr F hs g.1 := List.map_congr_left fun g hg => by
      rw [hr, if_neg fun z => nd.1 (by rw [z]; exact List.mem_map_of_mem hg)]
    rw [e1, e2, hr_list (by simpa using h) nd.2]
theorem tot_hours {F : List Fld} {hs : List Int} {O : List Str} (gf : (F.map (·.1)).Nodup) (gh : hs.length = F.length) (p : O.Perm (F.map (·.1))) : tot (hr F hs) O = hs.sum := by
  unfold tot
  rw [perm_sum (p.map _), List.map_map]
  have := hr_list gh gf
  rw [show (hr F hs ∘ fun x : Fld => x.1) = fun f : Fld => hr F hs f.1 from rfl, this]
/-! lists of names: places, stores -/
theorem toPs_strs : ∀ {L : List Str}, toPs (L.map D.str) = some (L.map PyData.str)
  | [] => rfl
  | x :: L => by rw [List.map_cons, toPs, toPs_strs]; rfl
theorem depth_strs : ∀ {L : List Str}, PyData.depthAll (L.map PyData.str) = 0
  | [] => rfl
  | x :: L => by rw [List.map_cons, PyData.depthAll, depth_strs]; rfl
theorem cnt_strs {L : List Str} {x : Str} : o2D .count (.lst (L.map D.str)) (.str x) = some (.int ((L.countP fun y => decide (y = x) : Nat))) := by
  show (match toP (.lst (L.map D.str)), toP (.str x) with
    | some (.list ds), some d => (cntP ds d).map fun j => D.int (j : Nat)
    | _, _ => none) = _
  have e1 : toP (.lst (L.map D.str)) = some (.list (L.map PyData.str)) := by rw [toP, toPs_strs]; rfl
  rw [e1]
  show (cntP (L.map PyData.str) (.str x)).map (fun j => D.int (j : Nat)) = _
  unfold cntP
  have d1 : (PyData.list (L.map PyData.str)).depth ≤ 64 := by
    show PyData.depthAll (L.map PyData.str) + 1 ≤ 64
    rw [depth_strs]; decide
  rw [if_pos ⟨d1, by show (0 : Nat) ≤ 60; decide⟩, List.countP_map]
  show some (D.int _) = _
  congr 3
theorem idx_strs {L : List Str} {x : Str} (h : x ∈ L) : o2D .index (.lst (L.map D.str)) (.str x) = some (.int ((L.idxOf x : Nat))) := by
  show (match toP (.lst (L.map D.str)), toP (.str x) with
    | some (.list ds), some d => (idxP ds d).map fun j => D.int (j : Nat)
    | _, _ => none) = _
  have e1 : toP (.lst (L.map D.str)) = some (.list (L.map PyData.str)) := by rw [toP, toPs_strs]; rfl
  rw [e1]
  show (idxP (L.map PyData.str) (.str x)).map (fun j => D.int (j : Nat)) = _
  unfold idxP
  have d1 : (PyData.list (L.map PyData.str)).depth ≤ 64 := by
    show PyData.depthAll (L.map PyData.str) + 1 ≤ 64
    rw [depth_strs]; decide
  rw [if_pos ⟨d1, by show (0 : Nat) ≤ 60; decide⟩]
  have e2 : (L.map PyData.str).findIdx? (fun z => PyData.eqv z (.str x)) = some (L.idxOf x) := by
    rw [List.findIdx?_map]
    rw [List.findIdx?_eq_some_iff_getElem]
    have hl : L.idxOf x < L.length := List.idxOf_lt_length_of_mem h
    refine ⟨hl, ?_, fun j hj => ?_⟩
    · show (L[L.idxOf x] == x) = true
      rw [List.getElem_idxOf hl]; simp
    · show ¬ (L[j] == x) = true
      intro z
      have := List.not_of_lt_findIdx hj
      rw [z] at this; cases this
  rw [e2]; rfl
/-- one more at a name's place -/
theorem put_at {N : List Str} {G : Str → Int} {x : Str} {v : Int} (nd : N.Nodup) (h : x ∈ N) : putD (.lst (N.map fun y => D.int (G y))) (.int (N.idxOf x : Nat)) (.int v) = some (.lst (N.map fun y => D.int (if y = x then v else G y))) := by
  have hl : N.idxOf x < N.length := List.idxOf_lt_length_of_mem h
  show (ixN (N.map fun y => D.int (G y)).length (N.idxOf x : Nat)).map (fun j => D.lst ((N.map fun y => D.int (G y)).set j (.int v))) = _
  rw [List.length_map, EV.ixN_nat hl]
  show some (D.lst _) = _
  congr 2
  apply List.ext_getElem
  · simp
  · intro i h1 h2
    simp only [List.length_set, List.length_map] at h1
    rw [List.getElem_set]
    simp only [List.getElem_map]
    by_cases q : N.idxOf x = i
    · rw [if_pos q, if_pos (by subst q; exact List.getElem_idxOf hl)]
    · rw [if_neg q, if_neg fun z => q (by rw [← z]; exact (List.Nodup.idxOf_getElem nd i h1))]
theorem get_at {N : List Str} {G : Str → Int} {x : Str} (h : x ∈ N) : atI (N.map fun y => D.int (G y)) (N.idxOf x : Nat) = some (.int (G x)) := by
  have hl : N.idxOf x < N.length := List.idxOf_lt_length_of_mem h
  rw [EV.atI_nat, List.getElem?_map, List.getElem?_eq_getElem hl, List.getElem_idxOf hl]; rfl
theorem mul_tup {x : D} {k : Int} (h : 2 ≤ k ∧ k ≤ 1000) : mulD (.tup [x]) (.int k) = some (.tup (List.replicate k.toNat x)) := by
  unfold mulD
  simp only
  rw [if_pos ⟨by simp, h.1, h.2, by simp⟩]
  congr 2
  generalize k.toNat = n
  induction n with
  | zero => rfl
  | succ n ih => rw [List.replicate_succ, List.flatten_cons, ih, List.replicate_succ]; rfl
def nown (s : Sl) : Bool := match s with
  | .own _ => false
  | _ => true
theorem pick_nown {s : Sl} (h : nown s = true) : pick s .no = s := by cases s <;> first | rfl | cases h

theorem k_lost (n : Nat) {ρ : Ev} {h : Hh} {a b c d e : D} : callkM (level pr n) 9 [] ["closed", "hour", "hours", "order", "canal"] [.d e, .d d, .d c, .d b, .d a] ρ h = callM (level pr n) 9 [.d a, .d b, .d c, .d d, .d e] ρ h := by
  have ar : (level pr n).arity 9 = [.ofString "canal", .ofString "order", .ofString "hours", .ofString "hour", .ofString "closed"] := by rw [lvl_ar]; rfl
  unfold callkM
  rw [ar]
  rfl
theorem k_put_off (n : Nat) {ρ : Ev} {h : Hh} {a b c d e : D} : callkM (level pr n) 11 [] ["closed", "hour", "hours", "order", "canal"] [.d e, .d d, .d c, .d b, .d a] ρ h = callM (level pr n) 11 [.d a, .d b, .d c, .d d, .d e] ρ h := by
  have ar : (level pr n).arity 11 = [.ofString "canal", .ofString "order", .ofString "hours", .ofString "hour", .ofString "closed"] := by rw [lvl_ar]; rfl
  unfold callkM
  rw [ar]
  rfl
theorem k_lost_over_all (n : Nat) {ρ : Ev} {h : Hh} {a b c e : D} : callkM (level pr n) 12 [] ["closed", "hours", "order", "canal"] [.d e, .d c, .d b, .d a] ρ h = callM (level pr n) 12 [.d a, .d b, .d c, .d e] ρ h := by
  have ar : (level pr n).arity 12 = [.ofString "canal", .ofString "order", .ofString "hours", .ofString "closed"] := by rw [lvl_ar]; rfl
  unfold callkM
  rw [ar]
  rfl
theorem take_ev {C : List Str} {c i k : Nat} (h : k < c) : (ev C c i).take (k + 1) = (ev C c i).take k ++ [C.getD ((i + k) % C.length) ""] := by
  rw [List.take_add_one]
  unfold ev
  rw [List.getElem?_map, List.getElem?_range h]; rfl
theorem c_right (n : Nat) (u : Urn) : OkF ((level pr (n+14)).call 1 [.ref 0] [uD u]) fun w b h' => w = .d (.bl true) ∧ ∃ u', h' = [uD u'] := by
  rw [lvl_call (q := r__law_right.q) rfl, run_at rfl]
  exists r__law_right, b__law_right, range_at (n := 3) (by decide) (by decide)
  refine for_f (fun pre ρ' h' => ∃ (u' : Urn) (a1 a2 a3 a4 a5 a6 a8 a9 a10 a11 a12 a13 a15 a16 a17 a18 : Sl), ρ' = [.val (.ref 0), a1, a2, a3, a4, a5, a6, .no, a8, a9, a10, a11, a12, a13, .no, a15, a16, a17, a18, .no] ∧ h' = [uD u'] ∧ nown a12 = true)
    ⟨u, _, _, _, _, _, _, _, _, _, _, _, _, _, _, _, _, rfl, rfl, rfl⟩ ?_ ?_
  · rintro pre x post ρ' h' ex ⟨u', a1, a2, a3, a4, a5, a6, a8, a9, a10, a11, a12, a13, a15, a16, a17, a18, eρ, eh, hn12⟩
    subst eρ; subst eh
    obtain ⟨R, F, rk, u1, o1, e1, g, gf⟩ := canal_ex (n+9) u' 6 9 2 (by decide) (by decide) (by decide)
    obtain ⟨O, u2, o2, e2, go, pO⟩ := order_ex (n+11) u1 R F gf
    obtain ⟨mo, u3, hmo, e3⟩ := of_ex (n+11) u2 [.int 1, .int 3, .int 40] (by decide) (by simp)
    obtain ⟨most, emo, hm⟩ : ∃ most : Int, mo = .int most ∧ 1 ≤ most ∧ most ≤ 168 := by
      simp at hmo
      rcases hmo with z | z | z
      · exact ⟨1, z, by decide⟩
      · exact ⟨3, z, by decide⟩
      · exact ⟨40, z, by decide⟩
    subst emo
    obtain ⟨hs, u4, o4, e4, gh⟩ := hours_ex (n+11) u3 R F most hm gf
    have e5 := c_clock (n+12) R F O hs [uD u4] gf go gh
    have hF7 := gf.hi
    have hF2 := gf.lo
    have hFl : F.length ≤ sizeLine := Nat.le_trans hF7 (by decide)
    have hO7 : O.length ≤ 7 := by have h1 := go.len; rw [List.length_map] at h1; omega
    have hO2 : 2 ≤ O.length := by have h1 := go.len; rw [List.length_map] at h1; omega
    have hw := fun x hx => (hr_ok go gh x hx).1
    have hcl : (clk (hr F hs) O).length ≤ 1176 := by have := clk_len (w := hr F hs) (O := O) (hr_ok go gh); omega
    have hct := clk_tot (w := hr F hs) (O := O) hw
    have hsum := tot_hours (hs := hs) gf.nd gh.len pO
    obtain ⟨C, hC⟩ : ∃ C, clk (hr F hs) O = C := ⟨_, rfl⟩
    obtain ⟨W, hW⟩ : ∃ W, C.length = W := ⟨_, rfl⟩
    have hWs : hs.sum = ((W : Nat) : Int) := by rw [← hsum, ← hct, hC, hW]
    have hWl : W ≤ 1176 := by rw [← hW, ← hC]; exact hcl
    have hW1 : 1 ≤ W := by
      have h1 : tot (hr F hs) O = ((W : Nat) : Int) := by rw [← hct, hC, hW]
      obtain ⟨y, O', eO⟩ : ∃ y O', O = y :: O' := by
        cases hO : O with
        | nil => rw [hO] at hO2; simp at hO2
        | cons a b => exact ⟨a, b, rfl⟩
      have h2 := hw y (by rw [eO]; simp)
      have h3 : ∀ (L : List Str), (∀ x ∈ L, 1 ≤ hr F hs x) → 0 ≤ tot (hr F hs) L := fun L => by
        induction L with
        | nil => intro _; simp [tot]
        | cons z L ih => intro h; have h1 := h z List.mem_cons_self; have h2 := ih fun q hq => h q (List.mem_cons_of_mem _ hq); unfold tot at h2 ⊢; rw [List.map_cons, List.sum_cons]; omega
      have h4 := h3 O' fun q hq => hw q (by rw [eO]; exact List.mem_cons_of_mem _ hq)
      have h5 : tot (hr F hs) O = hr F hs y + tot (hr F hs) O' := by rw [eO]; simp [tot]
      omega
    have hCm : ∀ y ∈ C, y ∈ F.map (·.1) := fun y hy => by rw [← hC] at hy; exact go.sub y (clk_mem hy)
    have hget : ∀ j : Nat, C.getD (j % W) "" ∈ F.map (·.1) ∧ atI (C.map D.str) (((j : Nat) : Int) % ((W : Nat) : Int)) = some (.str (C.getD (j % W) "")) := fun j => by
      have hl : j % W < C.length := by rw [hW]; exact Nat.mod_lt _ hW1
      have eg : C.getD (j % W) "" = C[j % W] := by rw [List.getD_eq_getElem?_getD, List.getElem?_eq_getElem hl]; rfl
      refine ⟨by rw [eg]; exact hCm _ (List.getElem_mem hl), ?_⟩
      rw [show ((j : Nat) : Int) % ((W : Nat) : Int) = ((j % W : Nat) : Int) from rfl, EV.atI_nat, List.getElem?_map, List.getElem?_eq_getElem hl, eg]; rfl
    have hWp : (0 : Int) < ((W : Nat) : Int) := by omega
    have evm : ∀ c i : Nat, ∀ y ∈ ev C c i, y ∈ F.map (·.1) := fun c i y hy => by
      unfold ev at hy
      obtain ⟨k, _, e⟩ := List.mem_map.mp hy
      rw [← e, hW]; exact (hget _).1
    have pm := put_all (hh := 0) (c := 0) (w := hr F hs) (O := O) (by decide) go.nd hw
    have hNl : (F.map (·.1)).length ≤ sizeLine := by rw [List.length_map]; exact hFl
    have hsl : hs.length ≤ sizeLine := by rw [gh.len]; exact hFl
    -- (a length as a number of its own: the kernel must not look into it)
    obtain ⟨zl, hzl, hzn, hz2, hz7⟩ : ∃ z : Int, ((((F.map (·.1)).map D.str).length : Nat) : Int) = z ∧ z.toNat = F.length ∧ 2 ≤ z ∧ z ≤ 7 := ⟨_, rfl, by rw [List.length_map, List.length_map]; rfl, by rw [List.length_map, List.length_map]; omega, by rw [List.length_map, List.length_map]; omega⟩
    rw [hC] at e5
    exists trivial, cM e1, cM e2, cM e3, cM e4, cM e5, ix_can1
    rw [lc_map F fldD (fun f => .str f.1) rfl hFl fun f hf => lct (by exists fldD)]
    have eN : (F.map fun f => D.str f.1) = (F.map (·.1)).map D.str := by rw [List.map_map]; rfl
    have tk1 := c_take (n+12) u4 ((W : Nat) : Int) hWp (by omega)
    have tlo := tk_lo (u := u4) hWp
    have thi := tk_hi (u := u4) hWp
    obtain ⟨v, hv⟩ : ∃ v : Nat, tk u4 ((W : Nat) : Int) = (v : Int) := ⟨(tk u4 ((W : Nat) : Int)).toNat, by omega⟩
    rw [hv] at tk1 tlo thi
    have hW1i : ((W : Nat) : Int) - 1 = ((W - 1 : Nat) : Int) := by omega
    rw [eN]
    exists trivial, List.length_map, hW, cM tk1, hW1i
    rw [show [D.int 0, D.int ((W - 1 : Nat) : Int), D.int (v : Int)] = [0, W - 1, v].map (fun i : Nat => D.int (i : Int)) from rfl]
    refine for_n (fun pre2 ρ' h' => ∃ (u5 : Urn) (b9 b10 b11 b12 b13 b15 b16 b17 b18 : Sl), ρ' = [.val (.ref 0), .val (.d (.int (x : Nat))), .val (.d (canD R F)), .val (.d (.tup (O.map D.str))), .val (.d (.tup (hs.map D.int))), .val (.d (.lst (C.map D.str))), .val (.d (.lst ((F.map (·.1)).map D.str))), .no, .val (.d (.int (W : Nat))), b9, b10, b11, b12, b13, .no, b15, b16, b17, b18, .no] ∧ h' = [uD u5] ∧ nown b12 = true)
      ⟨_, _, _, _, _, _, _, _, _, _, rfl, rfl, hn12⟩ ?_ ?_
    · rintro pre2 hh post2 ρ' h' ex2 ⟨u5, b9, b10, b11, b12, b13, b15, b16, b17, b18, eρ, eh, hn⟩
      subst eρ; subst eh
      have hhW : hh < W := by
        have : hh ∈ [0, W - 1, v] := by rw [ex2]; simp
        simp at this; omega
      have tk2 := c_take (n+12) u5 ((W : Nat) : Int) hWp (by omega)
      have t2lo := tk_lo (u := u5) hWp
      have t2hi := tk_hi (u := u5) hWp
      obtain ⟨v2, hv2⟩ : ∃ v2 : Nat, tk u5 ((W : Nat) : Int) = (v2 : Int) := ⟨(tk u5 ((W : Nat) : Int)).toNat, by omega⟩
      rw [hv2] at tk2 t2lo t2hi
      obtain ⟨cd, u6, hcd, e7⟩ := of_ex (n+11) (nx u5 ((W : Nat) : Int)) [.int 0, .int 1, .int (W : Nat), .int (1 + (v2 : Nat))] (by simp) (by simp)
      obtain ⟨c, ec, hc⟩ : ∃ c : Nat, cd = .int (c : Nat) ∧ c ≤ W := by
        simp at hcd
        rcases hcd with z | z | z | z
        · exact ⟨0, z, by omega⟩
        · exact ⟨1, z, by omega⟩
        · exact ⟨W, z, by omega⟩
        · exact ⟨1 + v2, by rw [z]; congr 1, by omega⟩
      subst ec
      have hcz : c ≤ sizeLine := by
        have : 2000 ≤ sizeLine := by decide
        omega
      have hcp : pick b12 .no = b12 := pick_nown hn
      have eshut : (List.range c).map (fun k => D.str (C.getD ((hh + k) % W) "")) = (ev C c hh).map D.str := by unfold ev; rw [List.map_map, hW]; rfl
      -- what is lost
      have hL : ∀ t ∈ turnsL (hr F hs) 0 O, lsb hs.sum (hh : Nat) (c : Nat) t = ((ev C c hh).countP fun y => decide (y = t.1) : Nat) := fun t ht => by
        have := lost_count (w := hr F hs) (O := O) (hh := hh) go.nd hw (by rw [hC, hW]; exact hhW) ht c (by rw [hC, hW]; exact hc)
        rw [hC, hW] at this
        rw [hWs]; exact this
      have q1 := c_lost n R F rk O hs (hh : Nat) (c : Nat) (fun y => ((ev C c hh).countP fun z => decide (z = y) : Nat)) [uD u6] g gf go pO gh (by omega) (by omega) (by omega) (by omega) hL
      have evl : ∀ p, (ev C c hh).countP p ≤ 1176 := fun p => by
        refine Nat.le_trans List.countP_le_length ?_
        rw [ev_len]; omega
      have s1 : Shw 500 2 (.tup ((F.map (·.1)).map fun y => D.int ((ev C c hh).countP fun z => decide (z = y) : Nat))) := by
        refine (shw_tup (w := 32) (dep := 0) (n := 7) (fun d hd => ?_) (by rw [List.length_map, List.length_map]; exact hF7)).mono (by omega) (by omega)
        obtain ⟨y, hy, e⟩ := List.mem_map.mp hd
        have := evl fun z => decide (z = y)
        subst e; exact shw_int (by omega) (by omega) (by omega)
      obtain ⟨X1, r1⟩ := repr_two s1 (by decide) (by decide)
      -- what is put off
      have q2 := c_put_off n R F rk O hs (hh : Nat) (c : Nat) [uD u6] g gf go gh (by omega) (by omega) (by omega) (by omega)
      have l2 := c_law_put (n+12) C (hh : Nat) (c : Nat) [uD u6] (by omega)
      have e2p : lput (hh : Nat) (c : Nat) C = (turnsL (hr F hs) 0 O).flatMap (pbh (hh : Nat) (c : Nat)) := by rw [← hC]; exact put_all (by omega) go.nd hw
      rw [e2p] at l2
      have nmF : ∀ x ∈ F.map (·.1), Nm x := fun x hx => by obtain ⟨r, hr, e⟩ := List.mem_map.mp hx; subst e; exact gf.nm r hr
      have s2 : Shw 2000 3 (.tup (((turnsL (hr F hs) 0 O).flatMap (pbh (hh : Nat) (c : Nat))).map tD)) := by
        refine (shw_tup (w := 99) (dep := 1) (n := 14) (fun d hd => ?_) (by rw [List.length_map]; have := pbhs_len (hh := (hh : Nat)) (c := (c : Nat)) (T := turnsL (hr F hs) 0 O); rw [turns_len] at this; omega)).mono (by omega) (by omega)
        obtain ⟨t, ht, e⟩ := List.mem_map.mp hd
        subst e
        obtain ⟨t0, ht0, hp⟩ := List.mem_flatMap.mp ht
        have b0 := turns_lo hw t0 ht0
        have tO : t0.1 ∈ O := by
          have := List.mem_map_of_mem (f := fun t : T3 => t.1) ht0
          rw [turns_fst] at this; exact this
        have nt := pbh_name t hp
        have bt : 0 ≤ t.2.1 ∧ t.2.1 ≤ 5000 ∧ 0 ≤ t.2.2 ∧ t.2.2 ≤ 5000 := by
          unfold pbh at hp
          have : tot (hr F hs) O = ((W : Nat) : Int) := by rw [← hct, hC, hW]
          split at hp
          · simp at hp; rw [hp]; omega
          · split at hp
            · simp at hp; rw [hp]; simp only; omega
            · simp at hp; rcases hp with z | z <;> rw [z] <;> simp only <;> omega
        refine (shw_tup (w := 32) (dep := 0) (n := 3) (fun d hd => ?_) (by simp)).mono (by omega) (by omega)
        simp at hd
        rcases hd with z | z | z <;> subst z
        · rw [nt]; exact shw_nm (nmF _ (go.sub _ tO))
        · exact shw_int (by omega) (by omega) (by omega)
        · exact shw_int (by omega) (by omega) (by omega)
      obtain ⟨X2, r2⟩ := repr_two s2 (by decide) (by decide)
      clear s2 e2p
      generalize (turnsL (hr F hs) 0 O).flatMap (pbh (hh : Nat) (c : Nat)) = PL at q2 l2 r2
      have ln0 : ((F.length : Nat) : Int) = ((F.map (·.1)).length : Nat) := by rw [List.length_map]
      have mz : mulD (.lst [.int 0]) (.int zl) = some (.lst ((F.map (·.1)).map fun _ => D.int 0)) := by
        rw [mul_lst ⟨by omega, by omega⟩, List.map_const', List.length_map, hzn]
      have c1 : ((1 : Int) + (v2 : Int)) = ((1 + v2 : Nat) : Int) := by omega
      exists trivial, cM tk2, cM e7, range_nat (n := c) (by omega)
      rw [lc_map (List.range c) (fun i => D.int (i : Nat)) (fun k => D.str (C.getD ((hh + k) % W) "")) (by cases b12 <;> first | rfl | cases hn) (by rw [List.length_range]; exact hcz) fun k hk => lct (by
        have := (hget (hh + k)).2
        rw [Int.natCast_add] at this
        exists hWp, this)]
      rw [eshut]
      exists trivial, hcp
      rw [lc_map (F.map (·.1)) D.str (fun y => D.int ((ev C c hh).countP fun z => decide (z = y) : Nat)) rfl hNl fun y hy => lct (by exists cnt_strs)]
      exists trivial, cM q1, k_lost, r1, cM l2, cM q2, k_put_off, r2, hzl, mz, range_nat (n := W) (by omega)
      refine for_n (g := fun i : Nat => D.int (i : Nat)) (fun pre3 ρ' h' => ∃ (G : Str → Int) (c11 c12 c13 c15 c17 c18 : Sl), ρ' = [.val (.ref 0), .val (.d (.int (x : Nat))), .val (.d (canD R F)), .val (.d (.tup (O.map D.str))), .val (.d (.tup (hs.map D.int))), .val (.d (.lst (C.map D.str))), .val (.d (.lst ((F.map (·.1)).map D.str))), .no, .val (.d (.int (W : Nat))), .val (.d (.int (hh : Nat))), .val (.d (.int (c : Nat))), c11, c12, c13, .no, c15, .own (.lst ((F.map (·.1)).map fun y => D.int (G y))), c17, c18, .no] ∧ h' = [uD u6] ∧ nown c12 = true ∧ ∀ y, G y = (((List.range pre3.length).flatMap (ev C c)).countP fun z => decide (z = y) : Nat))
        ⟨fun _ => 0, _, _, _, _, _, _, rfl, rfl, hn, fun y => by simp⟩ ?_ ?_
      · rintro pre3 i post3 ρ' h' ex3 ⟨G, c11, c12, c13, c15, c17, c18, eρ, eh, hn3, hG⟩
        subst eρ; subst eh
        obtain ⟨hi1, hi2, _⟩ := range_split ex3
        exists range_nat (n := c) (by omega)
        refine for_n (g := fun i : Nat => D.int (i : Nat)) (fun pre4 ρ' h' => ∃ (G : Str → Int) (d12 d18 : Sl), ρ' = [.val (.ref 0), .val (.d (.int (x : Nat))), .val (.d (canD R F)), .val (.d (.tup (O.map D.str))), .val (.d (.tup (hs.map D.int))), .val (.d (.lst (C.map D.str))), .val (.d (.lst ((F.map (·.1)).map D.str))), .no, .val (.d (.int (W : Nat))), .val (.d (.int (hh : Nat))), .val (.d (.int (c : Nat))), c11, d12, c13, .no, c15, .own (.lst ((F.map (·.1)).map fun y => D.int (G y))), .val (.d (.int (i : Nat))), d18, .no] ∧ h' = [uD u6] ∧ nown d12 = true ∧ ∀ y, G y = (((List.range pre3.length).flatMap (ev C c) ++ (ev C c i).take pre4.length).countP fun z => decide (z = y) : Nat))
          ⟨G, _, _, rfl, rfl, hn3, fun y => by rw [hG y]; simp⟩ ?_ ?_
        · rintro pre4 k post4 ρ' h' ex4 ⟨G4, d12, d18, eρ, eh, hn4, hG4⟩
          subst eρ; subst eh
          obtain ⟨hk1, hk2, _⟩ := range_split ex4
          obtain ⟨gm, ga⟩ := hget (i + k)
          rw [Int.natCast_add] at ga
          have gi := idx_strs gm
          have gg := get_at (G := G4) gm
          have gp := put_at (G := G4) (v := G4 (C.getD ((i + k) % W) "") + 1) gf.nd gm
          exists hWp, ga, gi, gg, gp
          refine ⟨fun y => if y = C.getD ((i + k) % W) "" then G4 (C.getD ((i + k) % W) "") + 1 else G4 y, _, _, rfl, rfl, fun y => ?_⟩
          rw [List.length_append, List.length_singleton, take_ev hk2, ← hk1, ← List.append_assoc, List.countP_append, List.countP_singleton, hW]
          have := hG4 y
          rw [← hk1] at this
          show (if y = C.getD ((i + k) % W) "" then G4 (C.getD ((i + k) % W) "") + 1 else G4 y) = _
          by_cases q : y = C.getD ((i + k) % W) ""
          · rw [if_pos q, ← q, this, if_pos (decide_eq_true rfl)]; omega
          · rw [if_neg q, this, if_neg (by simpa using fun z => q z.symm)]; omega
        · rintro ρ' h' ⟨G4, d12, d18, eρ, eh, hn4, hG4⟩
          subst eρ; subst eh
          exists th_ok
          refine ⟨G4, _, _, _, _, _, _, rfl, hn4, fun y => ?_⟩
          rw [hG4 y, List.length_range, List.take_of_length_le (by rw [ev_len]; exact Nat.le_refl _), List.length_append, List.length_singleton, List.range_succ, ← hi1]
          simp
      · rintro ρ' h' ⟨G, c11, c12, c13, c15, c17, c18, eρ, eh, hn3, hG⟩
        subst eρ; subst eh
        have hG2 : ∀ y ∈ O, G y = hr F hs y * (c : Nat) := fun y hy => by
          rw [hG y, List.length_range, ← hW, flat_count, ← hC, clk_cnt go.nd hy hw]
          have := hw y hy
          rw [Int.natCast_mul, Int.toNat_of_nonneg (by omega), Int.mul_comm]
        have eG : ((F.map (·.1)).map fun y => D.int (G y)) = hs.map fun i => D.int (i * (c : Nat)) := by
          have h1 : (F.map (·.1)).map (fun y => D.int (G y)) = (F.map fun f => hr F hs f.1).map fun i => D.int (i * (c : Nat)) := by
            rw [List.map_map, List.map_map]
            exact List.map_congr_left fun f hf => by
              show D.int (G f.1) = D.int (hr F hs f.1 * (c : Nat))
              rw [hG2 f.1 (pO.mem_iff.mpr (List.mem_map_of_mem hf))]
          rw [h1, hr_list gh.len gf.nd]
        rw [eG]
        have q3 := c_lost_over_all (n+1) R F rk O hs (c : Nat) [uD u6] g gf go gh (by omega) (by omega) (by omega)
        have bi : ∀ i ∈ hs, 0 ≤ i * (c : Int) ∧ i * (c : Int) ≤ 168 * 1176 := fun i hi => by
          have h1 := gh.ok i hi
          constructor
          · exact Int.mul_nonneg (by omega) (by omega)
          · exact Int.mul_le_mul (by omega) (by omega) (by omega) (by omega)
        have s3 : Shw 500 2 (.tup (hs.map fun i => D.int (i * (c : Nat)))) := by
          refine (shw_tup (w := 32) (dep := 0) (n := 7) (fun d hd => ?_) (by rw [List.length_map, gh.len]; exact hF7)).mono (by omega) (by omega)
          obtain ⟨i, hi, e⟩ := List.mem_map.mp hd
          have := bi i hi
          subst e; exact shw_int (by omega) (by omega) (by omega)
        have s4 : Shw 500 2 (.lst (hs.map fun i => D.int (i * (c : Nat)))) := by
          refine (shw_lst (w := 32) (dep := 0) (n := 7) (fun d hd => ?_) (by rw [List.length_map, gh.len]; exact hF7)).mono (by omega) (by omega)
          obtain ⟨i, hi, e⟩ := List.mem_map.mp hd
          have := bi i hi
          subst e; exact shw_int (by omega) (by omega) (by omega)
        obtain ⟨X3, r3⟩ := repr_two s3 (by decide) (by decide)
        have es := eqD_self s4 (by decide)
        have mu : mulD (.lst [.tup (hs.map fun i => D.int (i * (c : Nat)))]) (.int 2) = some (.lst [.tup (hs.map fun i => D.int (i * (c : Nat))), .tup (hs.map fun i => D.int (i * (c : Nat)))]) := mul_lst ⟨by decide, by decide⟩
        have mi : ∀ i : Int, mulD (.int i) (.int (c : Nat)) = some (.int (i * (c : Nat))) := fun i => mul_int (.inr ⟨by omega, by omega⟩)
        exists trivial, cM q3, k_lost_over_all, mu, r3
        rw [lc_map hs D.int (fun i => D.int (i * (c : Nat))) rfl hsl fun i hi => lct (by exists mi i)]
        exists trivial, es
        exact ⟨u6, _, _, _, _, _, _, _, _, _, rfl, rfl, hn3⟩
    · rintro ρ' h' ⟨u5, b9, b10, b11, b12, b13, b15, b16, b17, b18, eρ, eh, hn⟩
      subst eρ; subst eh
      have hL0 : ∀ t ∈ turnsL (hr F hs) 0 O, lsb hs.sum 0 0 t = 0 := fun t ht => by
        have h1 := turns_lo hw t ht
        unfold lsb
        rw [ovl_eq, ovl_eq]
        omega
      have q1 := c_lost n R F rk O hs 0 0 (fun _ => 0) [uD u5] g gf go pO gh (by omega) (by omega) (by omega) (by omega) hL0
      have q3 := c_lost_over_all (n+1) R F rk O hs 0 [uD u5] g gf go gh (by omega) (by omega) (by omega)
      have ez : (hs.map fun i => D.int (i * 0)) = (F.map (·.1)).map fun _ => D.int 0 := by
        rw [List.map_const', List.length_map, ← gh.len, ← List.map_const' (l := hs)]
        exact List.map_congr_left fun i _ => by rw [Int.mul_zero]
      rw [ez] at q3
      have mt : mulD (.tup [.int 0]) (.int zl) = some (.tup ((F.map (·.1)).map fun _ => D.int 0)) := by
        rw [mul_tup ⟨by omega, by omega⟩, List.map_const', List.length_map, hzn]
      have mu : mulD (.lst [.tup ((F.map (·.1)).map fun _ => D.int 0)]) (.int 2) = some (.lst [.tup ((F.map (·.1)).map fun _ => D.int 0), .tup ((F.map (·.1)).map fun _ => D.int 0)]) := mul_lst ⟨by decide, by decide⟩
      have s5 : Shw 500 2 (.tup ((F.map (·.1)).map fun _ => D.int 0)) := by
        refine (shw_tup (w := 32) (dep := 0) (n := 7) (fun d hd => ?_) (by rw [List.length_map, List.length_map]; exact hF7)).mono (by omega) (by omega)
        obtain ⟨i, hi, e⟩ := List.mem_map.mp hd
        subst e; exact shw_int (by omega) (by omega) (by omega)
      obtain ⟨X5, r5⟩ := repr_two s5 (by decide) (by decide)
      exists trivial, cM q1, cM q3, hzl, mt, mu, r5
      exact ⟨u5, _, _, _, _, _, _, _, _, _, _, _, _, _, _, _, _, rfl, rfl, hn⟩
  · rintro ρ' h' ⟨u', a1, a2, a3, a4, a5, a6, a8, a9, a10, a11, a12, a13, a15, a16, a17, a18, eρ, eh, hn12⟩
    subst eρ; subst eh
    exists th_ok
    exact ⟨u', rfl⟩

theorem right_ex (n : Nat) (u : Urn) : ∃ (b : Bool) (u' : Urn), (level pr (n+14)).call 1 [.ref 0] [uD u] = .ok (.d (.bl true)) b [uD u'] := by
  have c := c_right n u
  generalize (level pr (n+14)).call 1 [.ref 0] [uD u] = x at c
  obtain ⟨w, b, h', e, e1, u', e2⟩ := okf_get c
  exact ⟨b, u', by rw [e, e1, e2]⟩
theorem plain : ∀ ns : List Int, ns.length ≤ 63 → LawRun pr 14 r_law.q ns := by
  intro ns hn
  obtain ⟨m, hm, hm3⟩ : ∃ m : Nat, (if (if (3 : Int) < ((ns.length : Nat) : Int) then (3 : Int) else ((ns.length : Nat) : Int)) > 1 then (if (3 : Int) < ((ns.length : Nat) : Int) then (3 : Int) else ((ns.length : Nat) : Int)) else 1) = (m : Int) ∧ m ≤ 3 := by
    by_cases h1 : (3 : Int) < ((ns.length : Nat) : Int)
    · rw [if_pos h1]; exact ⟨3, rfl, by omega⟩
    · rw [if_neg h1]
      by_cases h2 : ((ns.length : Nat) : Int) > 1
      · rw [if_pos h2]; exact ⟨ns.length, rfl, by omega⟩
      · rw [if_neg h2]; exact ⟨1, rfl, by omega⟩
  unfold LawRun
  rw [run_at rfl]
  exists r_law, b_law
  rw [hm]
  exists range_nat (n := m) (by omega)
  rw [lc_map (List.range m) (fun i => D.int (i : Nat)) (fun _ => .bl true) rfl (by rw [List.length_range]; exact Nat.le_trans hm3 (by decide)) fun i hi => lct (by
    obtain ⟨u, e1⟩ := urn_ex 13 ns i
    obtain ⟨b, u', e2⟩ := right_ex 0 u
    exists e1
    exists e2, List.take)]
  exists all_true
  exact ⟨_, _, rfl⟩


end Law

open PySem PySem.W PySem.Calls PyProof.Rows EV
theorem PySem.Challenge.cw_waterturns_k72_whole_closings_led_hour_b_holds : PySem.Challenge.rw_waterturns_k72_whole_closings_led_hour_b.Holds := by
  w_on; o_law
  refine HandSHeadRun.head_any (r := OpenLaw.row PySem.Challenge.rw_waterturns_k72_whole_closings_led_hour_b) (q := view (OpenLaw.row PySem.Challenge.rw_waterturns_k72_whole_closings_led_hour_b).prog [69]) (H := LawE.hk) (ob := LawE.ob) (M := 4000) (loose := LawE.lo) (d := HandSHeadRun.topDef (OpenLaw.row PySem.Challenge.rw_waterturns_k72_whole_closings_led_hour_b).prog 69) (kwd := []) LawE.ob_eq
    (by kernel_rfl) (fun s => by kernel_rfl) LawE.run (by kernel_rfl) (by kernel_rfl) (by kernel_rfl) (by rfl) (by first | assumption | decide +kernel) (by decide +kernel) ⟨rfl, rfl, rfl, rfl, rfl, by decide +kernel⟩ ?hw ?hc
  case hw => w_witness2
  case hc => exact walk_txt (T := Law.tx) (li := 0) (rl := Law.r_law) (n := 14) rfl (by kernel_rfl) ⟨rfl, by decide, by decide⟩ rfl (by kernel_rfl) rfl rfl LawE.look LawE.glo LawE.fre Law.plain
