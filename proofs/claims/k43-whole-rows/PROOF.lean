import PyProof.Rows.All
import Wide.All
import OpenK.AllK
import Wide.FinOn
import HandS.ForMost
import HandS.ForExc
import HandS.Defaults
import HandS.Flow
import HandS.Wide
import HandS.HeadHook2
import KE.KDictKeyed
import KE.KDictWalk
import HandS.IsInst
import HandS.Style
import HandS.Conv
import HandS.TupLen
import HandS.Small
import HandS.DictTup
import HandS.Zip
import HandS.More
import HandS.SortInts
import KE.KDictSum
import HandS.Ends
import HandS.HeadEnd
import PySem.Challenge.RW_drawnbits_k43_whole_rows_of_wants
import HandS.Head0
import HandS.Head1
import HandS.Head2
import HandS.HeadHook1
set_option Elab.async false
set_option linter.all false
set_option maxRecDepth 100000
set_option maxHeartbeats 4000000
/-! EvA: a value layer over HandS: deep values D, a small store of mutable objects, readings that say "the denotation of the code gives this". -/
namespace Ev
open PySem PySem.Spec PyProof.Rows L2

/-- deep values: tuples and lists that nobody changes are values; an object that may change is a place in the store -/
inductive D where
  | non | bl (b : Bool) | int (i : Int) | str (x : Str) | tup (xs : List D) | lst (xs : List D) | loc (n : Nat)
/-- what stands in the store -/
inductive AO where
  | lst (xs : List D)
  | dic (kvs : List (Key × D))
  | dnt (kvs : List (D × D))
abbrev Sto := List AO
abbrev Rho := List (Option D)
/-- an exception: its class's name, the one field's name, what it bears -/
structure Xn where
  cls : Str
  fld : Str
  arg : D
inductive R (α : Type) where
  | ok (a : α) (S : Sto)
  | exc (x : Xn) (S : Sto)
  | stuck
def R.bind {α β : Type} : R α → (α → Sto → R β) → R β
  | .ok a S, k => k a S
  | .exc x S, _ => .exc x S
  | .stuck, _ => .stuck
@[simp] theorem R.bind_ok {α β : Type} (a : α) (S : Sto) (k : α → Sto → R β) : (R.ok a S).bind k = k a S := rfl
@[simp] theorem R.bind_exc {α β : Type} (x : Xn) (S : Sto) (k : α → Sto → R β) : (R.exc x S).bind k = .exc x S := rfl
@[simp] theorem R.bind_stuck {α β : Type} (k : α → Sto → R β) : (R.stuck).bind k = .stuck := rfl
inductive RS where
  | nx (ρ : Rho) (S : Sto)
  | ret (d : D) (S : Sto)
  | bk (ρ : Rho) (S : Sto)
  | ct (ρ : Rho) (S : Sto)
  | exc (x : Xn) (S : Sto)
  | stuck
def R.bindS {α : Type} : R α → (α → Sto → RS) → RS
  | .ok a S, k => k a S
  | .exc x S, _ => .exc x S
  | .stuck, _ => .stuck
@[simp] theorem R.bindS_ok {α : Type} (a : α) (S : Sto) (k : α → Sto → RS) : (R.ok a S).bindS k = k a S := rfl
@[simp] theorem R.bindS_exc {α : Type} (x : Xn) (S : Sto) (k : α → Sto → RS) : (R.exc x S).bindS k = .exc x S := rfl
@[simp] theorem R.bindS_stuck {α : Type} (k : α → Sto → RS) : (R.stuck).bindS k = .stuck := rfl
abbrev DE := Rho → Sto → R D
abbrev DT := Rho → Sto → R Bool
abbrev DA := Rho → Sto → R (List D)
abbrev DS := Rho → Sto → RS
abbrev DG := D → Rho → Sto → RS
abbrev Fn := List D → Sto → R D

/-! ### what a value stands for -/
/-- the places' addresses; addresses that are hidden for now (a list that a comprehension fills) -/
structure Mu where
  l : List Addr
  hid : List Addr := []
/-- a tuple, a list of the written part -/
def KT (K : PySem.W.Frag) (a : Addr) (xs : List V) : Prop :=
  ∃ (o : Obj) (its : Array Value) (n : Nat), K.lookup a = some o ∧ o.cls = .type "tuple" ∧ o.data = .seq its n ∧ its.size ≤ sizeLine ∧ Vals xs its.toList
def KL (K : PySem.W.Frag) (a : Addr) (xs : List V) : Prop :=
  ∃ (o : Obj) (its : Array Value) (n : Nat), K.lookup a = some o ∧ o.cls = .type "list" ∧ o.dict = none ∧ o.data = .seq its n ∧ its.size ≤ sizeLine ∧ Vals xs its.toList
/-- a tuple, a list that nobody changes -/
def FT (K : PySem.W.Frag) (μ : Mu) (H : Hp) (a : Addr) (xs : List V) : Prop := ((a ∉ μ.l ∧ a ∉ μ.hid) ∧ Rd H a (.tup xs)) ∨ KT K a xs
def FL (K : PySem.W.Frag) (μ : Mu) (H : Hp) (a : Addr) (xs : List V) : Prop := ((a ∉ μ.l ∧ a ∉ μ.hid) ∧ Rd H a (.lst xs)) ∨ KL K a xs
theorem FT.sq {K : PySem.W.Frag} {μ : Mu} {H : Hp} {a : Addr} {xs : List V} (h : FT K μ H a xs) : SqT K H a xs := h.elim (fun h => .inl h.2) .inr
theorem FL.sq {K : PySem.W.Frag} {μ : Mu} {H : Hp} {a : Addr} {xs : List V} (h : FL K μ H a xs) : SqL K H a xs := h.elim (fun h => .inl h.2) .inr

mutual
def Rep (K : PySem.W.Frag) (μ : Mu) (H : Hp) : D → V → Prop
  | .non, v => v = .non
  | .bl b, v => v = .bl b
  | .int i, v => v = .int i
  | .str x, v => v = .str x
  | .tup ds, v => ∃ a vs, v = .ref a ∧ FT K μ H a vs ∧ Reps K μ H ds vs
  | .lst ds, v => ∃ a vs, v = .ref a ∧ FL K μ H a vs ∧ Reps K μ H ds vs
  | .loc n, v => ∃ a, v = .ref a ∧ μ.l[n]? = some a
def Reps (K : PySem.W.Frag) (μ : Mu) (H : Hp) : List D → List V → Prop
  | [], vs => vs = []
  | d :: ds, vs => ∃ v r, vs = v :: r ∧ Rep K μ H d v ∧ Reps K μ H ds r
end

/-- what may happen to the heap: new objects; the places' own objects change -/
structure Ext (μ : Mu) (H : Hp) (μ' : Mu) (H' : Hp) : Prop where
  pre : ∃ t, μ'.l = μ.l ++ t
  hid : ∀ a ∈ μ.hid, a ∈ μ'.hid
  nohid : ∀ a o, H a = some o → a ∉ μ.l → a ∉ μ.hid → a ∉ μ'.hid
  keep : ∀ a o, H a = some o → a ∉ μ.l → H' a = some o ∧ a ∉ μ'.l
theorem Ext.refl {μ : Mu} {H : Hp} : Ext μ H μ H := ⟨⟨[], by simp⟩, fun _ h => h, fun _ _ _ _ h => h, fun _ _ h n => ⟨h, n⟩⟩
theorem Ext.trans {μ μ1 μ2 : Mu} {H H1 H2 : Hp} (a : Ext μ H μ1 H1) (b : Ext μ1 H1 μ2 H2) : Ext μ H μ2 H2 := by
  obtain ⟨t, e⟩ := a.pre
  obtain ⟨u, e2⟩ := b.pre
  refine ⟨⟨t ++ u, by rw [e2, e, List.append_assoc]⟩, fun c h => b.hid c (a.hid c h), fun c o h n nh => ?_, fun c o h n => ?_⟩
  · obtain ⟨h1, n1⟩ := a.keep c o h n
    exact b.nohid c o h1 n1 (a.nohid c o h n nh)
  obtain ⟨h1, n1⟩ := a.keep c o h n
  exact b.keep c o h1 n1
theorem Ext.at {μ μ' : Mu} {H H' : Hp} (e : Ext μ H μ' H') {n : Nat} {a : Addr} (h : μ.l[n]? = some a) : μ'.l[n]? = some a := by
  obtain ⟨t, e⟩ := e.pre
  obtain ⟨hl, _⟩ := List.getElem?_eq_some_iff.mp h
  rw [e, List.getElem?_append_left hl]
  exact h
theorem Rd.ext {μ μ' : Mu} {H H' : Hp} (e : Ext μ H μ' H') {a : Addr} {u : HO} (n : a ∉ μ.l ∧ a ∉ μ.hid) (h : Rd H a u) : Rd H' a u ∧ a ∉ μ'.l ∧ a ∉ μ'.hid := by
  rcases h with h | ⟨o, h⟩
  · obtain ⟨h1, h2⟩ := e.keep _ _ h n.1
    exact ⟨.inl h1, h2, e.nohid _ _ h n.1 n.2⟩
  · obtain ⟨h1, h2⟩ := e.keep _ _ h n.1
    exact ⟨.inr ⟨o, h1⟩, h2, e.nohid _ _ h n.1 n.2⟩
theorem FT.ext {K : PySem.W.Frag} {μ μ' : Mu} {H H' : Hp} (e : Ext μ H μ' H') {a : Addr} {xs : List V} (h : FT K μ H a xs) : FT K μ' H' a xs :=
  h.elim (fun h => .inl ⟨(Rd.ext e h.1 h.2).2, (Rd.ext e h.1 h.2).1⟩) .inr
theorem FL.ext {K : PySem.W.Frag} {μ μ' : Mu} {H H' : Hp} (e : Ext μ H μ' H') {a : Addr} {xs : List V} (h : FL K μ H a xs) : FL K μ' H' a xs :=
  h.elim (fun h => .inl ⟨(Rd.ext e h.1 h.2).2, (Rd.ext e h.1 h.2).1⟩) .inr
mutual
theorem Rep.ext {K : PySem.W.Frag} {μ μ' : Mu} {H H' : Hp} (e : Ext μ H μ' H') : ∀ (d : D) (v : V), Rep K μ H d v → Rep K μ' H' d v
  | .non, v, h => by rw [Rep] at h ⊢; exact h
  | .bl _, v, h => by rw [Rep] at h ⊢; exact h
  | .int _, v, h => by rw [Rep] at h ⊢; exact h
  | .str _, v, h => by rw [Rep] at h ⊢; exact h
  | .tup ds, v, h => by
    rw [Rep] at h ⊢
    obtain ⟨a, vs, e1, hf, hr⟩ := h
    exact ⟨a, vs, e1, hf.ext e, Reps.ext e ds vs hr⟩
  | .lst ds, v, h => by
    rw [Rep] at h ⊢
    obtain ⟨a, vs, e1, hf, hr⟩ := h
    exact ⟨a, vs, e1, hf.ext e, Reps.ext e ds vs hr⟩
  | .loc n, v, h => by
    rw [Rep] at h ⊢
    obtain ⟨a, e1, hm⟩ := h
    exact ⟨a, e1, e.at hm⟩
theorem Reps.ext {K : PySem.W.Frag} {μ μ' : Mu} {H H' : Hp} (e : Ext μ H μ' H') : ∀ (ds : List D) (vs : List V), Reps K μ H ds vs → Reps K μ' H' ds vs
  | [], vs, h => by rw [Reps] at h ⊢; exact h
  | d :: ds, vs, h => by
    rw [Reps] at h ⊢
    obtain ⟨v, r, e1, h1, h2⟩ := h
    exact ⟨v, r, e1, Rep.ext e d v h1, Reps.ext e ds r h2⟩
end

section
variable {K : PySem.W.Frag} {μ : Mu} {H : Hp}
theorem rep_non {v : V} : Rep K μ H .non v ↔ v = .non := by rw [Rep]
theorem rep_bl {b : Bool} {v : V} : Rep K μ H (.bl b) v ↔ v = .bl b := by rw [Rep]
theorem rep_int {i : Int} {v : V} : Rep K μ H (.int i) v ↔ v = .int i := by rw [Rep]
theorem rep_str {x : Str} {v : V} : Rep K μ H (.str x) v ↔ v = .str x := by rw [Rep]
theorem rep_tup {ds : List D} {v : V} : Rep K μ H (.tup ds) v ↔ ∃ a vs, v = .ref a ∧ FT K μ H a vs ∧ Reps K μ H ds vs := by rw [Rep]
theorem rep_lst {ds : List D} {v : V} : Rep K μ H (.lst ds) v ↔ ∃ a vs, v = .ref a ∧ FL K μ H a vs ∧ Reps K μ H ds vs := by rw [Rep]
theorem rep_loc {n : Nat} {v : V} : Rep K μ H (.loc n) v ↔ ∃ a, v = .ref a ∧ μ.l[n]? = some a := by rw [Rep]
theorem reps_nil {vs : List V} : Reps K μ H [] vs ↔ vs = [] := by rw [Reps]
theorem reps_cons {d : D} {ds : List D} {vs : List V} : Reps K μ H (d :: ds) vs ↔ ∃ v r, vs = v :: r ∧ Rep K μ H d v ∧ Reps K μ H ds r := by rw [Reps]
theorem Reps.length : ∀ {ds : List D} {vs : List V}, Reps K μ H ds vs → vs.length = ds.length
  | [], vs, h => by rw [reps_nil] at h; subst h; rfl
  | d :: ds, vs, h => by
    rw [reps_cons] at h
    obtain ⟨v, r, rfl, _, h2⟩ := h
    simp [Reps.length h2]
theorem Reps.get : ∀ {ds : List D} {vs : List V} {i : Nat} {d : D}, Reps K μ H ds vs → ds[i]? = some d → ∃ v, vs[i]? = some v ∧ Rep K μ H d v
  | [], _, _, _, _, e => by simp at e
  | d :: ds, vs, 0, _, h, e => by
    rw [reps_cons] at h
    obtain ⟨v, r, rfl, h1, _⟩ := h
    simp at e; subst e
    exact ⟨v, rfl, h1⟩
  | d :: ds, vs, i + 1, x, h, e => by
    rw [reps_cons] at h
    obtain ⟨v, r, rfl, _, h2⟩ := h
    obtain ⟨w, h3, h4⟩ := Reps.get (i := i) (d := x) h2 (by simpa using e)
    exact ⟨w, by simpa using h3, h4⟩
theorem Reps.append : ∀ {ds es : List D} {vs ws : List V}, Reps K μ H ds vs → Reps K μ H es ws → Reps K μ H (ds ++ es) (vs ++ ws)
  | [], _, vs, _, h, h2 => by rw [reps_nil] at h; subst h; exact h2
  | d :: ds, es, vs, ws, h, h2 => by
    rw [reps_cons] at h
    obtain ⟨v, r, rfl, h1, h3⟩ := h
    rw [List.cons_append, reps_cons]
    exact ⟨v, r ++ ws, rfl, h1, h3.append h2⟩
theorem Reps.one {d : D} {v : V} (h : Rep K μ H d v) : Reps K μ H [d] [v] := reps_cons.mpr ⟨v, [], rfl, h, reps_nil.mpr rfl⟩
theorem Reps.set : ∀ {ds : List D} {vs : List V} (i : Nat) {d : D} {v : V}, Rep K μ H d v → Reps K μ H ds vs → Reps K μ H (ds.set i d) (vs.set i v)
  | [], vs, i, _, _, _, h => by rw [reps_nil] at h; subst h; simp [reps_nil]
  | d :: ds, vs, 0, _, v', h1, h => by
    rw [reps_cons] at h
    obtain ⟨v, r, rfl, _, h3⟩ := h
    rw [List.set_cons_zero, reps_cons]
    exact ⟨v', r, rfl, h1, h3⟩
  | d :: ds, vs, i + 1, _, v', h1, h => by
    rw [reps_cons] at h
    obtain ⟨v, r, rfl, h2, h3⟩ := h
    rw [List.set_cons_succ, reps_cons]
    exact ⟨v, r.set i v', rfl, h2, h3.set i h1⟩
theorem Reps.take : ∀ {ds : List D} {vs : List V} (n : Nat), Reps K μ H ds vs → Reps K μ H (ds.take n) (vs.take n)
  | [], vs, n, h => by rw [reps_nil] at h; subst h; simp [reps_nil]
  | d :: ds, vs, 0, h => by simp [reps_nil]
  | d :: ds, vs, n + 1, h => by
    rw [reps_cons] at h
    obtain ⟨v, r, rfl, h2, h3⟩ := h
    rw [List.take_succ_cons, reps_cons]
    exact ⟨v, r.take n, by simp, h2, h3.take n⟩
theorem Reps.drop : ∀ {ds : List D} {vs : List V} (n : Nat), Reps K μ H ds vs → Reps K μ H (ds.drop n) (vs.drop n)
  | [], vs, n, h => by rw [reps_nil] at h; subst h; simp [reps_nil]
  | d :: ds, vs, 0, h => by simpa using h
  | d :: ds, vs, n + 1, h => by
    rw [reps_cons] at h
    obtain ⟨v, r, rfl, h2, h3⟩ := h
    simpa using h3.drop n
theorem Reps.reverse : ∀ {ds : List D} {vs : List V}, Reps K μ H ds vs → Reps K μ H ds.reverse vs.reverse
  | [], vs, h => by rw [reps_nil] at h; subst h; simp [reps_nil]
  | d :: ds, vs, h => by
    rw [reps_cons] at h
    obtain ⟨v, r, rfl, h2, h3⟩ := h
    rw [List.reverse_cons, List.reverse_cons]
    exact h3.reverse.append (.one h2)
end

/-! ### dicts -/
mutual
/-- a key's datum: what NestedKey tells of it -/
def keyOf : D → Option NestedKey
  | .non => some .none
  | .int i => some (.num i)
  | .str x => some (.text x)
  | .tup ds => (keysOf ds).map .tup
  | _ => none
def keysOf : List D → Option (List NestedKey)
  | [] => some []
  | d :: ds => match keyOf d, keysOf ds with
    | some k, some ks => some (k :: ks)
    | _, _ => none
end
/-- a dict whose keys are tuples, as it stands, entry by entry -/
structure DObj where
  o : Obj
  ea : Array DictEntry
  ep : Nat
def dntHO (w : World) (a : Addr) (z : DObj) (xs : List (NestedKey × Addr × Value)) : HO := .ext fun h => (a == sysModules) = false ∧ h.get? a = some z.o ∧ z.o.ExactDict ∧ z.o.data = .dict z.ea z.ep ∧ z.ea.toList = xs.map fun x => ⟨x.1.hash w, .ref x.2.1, x.2.2⟩
def EntR (K : PySem.W.Frag) (μ : Mu) (H : Hp) (kv : D × D) (x : NestedKey × Addr × Value) : Prop :=
  keyOf kv.1 = some x.1 ∧ x.1.depth ≤ 8 ∧ Rep K μ H kv.1 (.ref x.2.1) ∧ ∃ v, RelV v x.2.2 ∧ Rep K μ H kv.2 v
def OR (w : World) (K : PySem.W.Frag) (μ : Mu) (H : Hp) : AO → Addr → Prop
  | .lst ds, a => ∃ vs, H a = some (.lst vs) ∧ Reps K μ H ds vs
  | .dic kvs, a => ∃ es, H a = some (.dK es) ∧ Paired (fun (p : Key × D) (q : Key × V) => p.1 = q.1 ∧ Rep K μ H p.2 q.2) kvs es
  | .dnt kvs, a => ∃ xs z, H a = some (dntHO w a z xs) ∧ Paired (EntR K μ H) kvs xs ∧ (xs.map (·.1)).Nodup ∧ xs.length ≤ sizeLine
structure Sim (w : World) (K : PySem.W.Frag) (μ : Mu) (S : Sto) (H : Hp) : Prop where
  len : μ.l.length = S.length
  nd : μ.l.Nodup
  ob : ∀ (n : Nat) (o : AO) (a : Addr), S[n]? = some o → μ.l[n]? = some a → OR w K μ H o a
  hd : ∀ a ∈ μ.hid, (∃ u, H a = some u) ∧ a ∉ μ.l
/-- slots -/
structure SlR (K : PySem.W.Frag) (μ : Mu) (H : Hp) (ρ : Rho) (σ : L2.St) : Prop where
  len : ρ.length = σ.length
  at_ : ∀ (i : Nat) (d : D), ρ[i]? = some (some d) → ∃ v, σ[i]? = some (some v) ∧ Rep K μ H d v
theorem SlR.ext {K : PySem.W.Frag} {μ μ' : Mu} {H H' : Hp} {ρ : Rho} {σ : L2.St} (h : SlR K μ H ρ σ) (e : Ext μ H μ' H') : SlR K μ' H' ρ σ :=
  ⟨h.len, fun i d q => let ⟨v, h1, h2⟩ := h.at_ i d q; ⟨v, h1, h2.ext e⟩⟩
theorem SlR.set {K : PySem.W.Frag} {μ : Mu} {H : Hp} {ρ : Rho} {σ : L2.St} (h : SlR K μ H ρ σ) (i : Nat) {d : D} {v : V} (r : Rep K μ H d v) : SlR K μ H (ρ.set i (some d)) (σ.set i (some v)) := by
  refine ⟨by simp [h.len], fun j x q => ?_⟩
  by_cases hj : i = j
  · subst hj
    have hi : i < ρ.length := by
      by_cases hi : i < ρ.length
      · exact hi
      · rw [List.getElem?_eq_none (by simpa using hi)] at q; cases q
    rw [List.getElem?_set_self hi] at q
    cases q
    exact ⟨v, List.getElem?_set_self (by rw [← h.len]; exact hi), r⟩
  · rw [List.getElem?_set_ne hj] at q
    rw [List.getElem?_set_ne hj]
    exact h.at_ j x q
theorem OR.here {w : World} {K : PySem.W.Frag} {μ : Mu} {H : Hp} {o : AO} {a : Addr} (h : OR w K μ H o a) : ∃ u, H a = some u := by
  cases o with
  | lst ds => obtain ⟨vs, h, _⟩ := h; exact ⟨_, h⟩
  | dic kvs => obtain ⟨es, h, _⟩ := h; exact ⟨_, h⟩
  | dnt kvs => obtain ⟨es, z, h, _⟩ := h; exact ⟨_, h⟩
theorem Sim.here {w : World} {K : PySem.W.Frag} {μ : Mu} {S : Sto} {H : Hp} (m : Sim w K μ S H) {a : Addr} (h : a ∈ μ.l) : ∃ u, H a = some u := by
  obtain ⟨n, hn, e⟩ := List.mem_iff_getElem.mp h
  have hS : n < S.length := by rw [← m.len]; exact hn
  exact (m.ob n S[n] a (List.getElem?_eq_getElem hS) (by rw [List.getElem?_eq_getElem hn, e])).here
theorem Sim.fresh {w : World} {K : PySem.W.Frag} {μ : Mu} {S : Sto} {H : Hp} (m : Sim w K μ S H) {p : Addr} (h : H p = none) : p ∉ μ.l ∧ p ∉ μ.hid := by
  refine ⟨fun q => ?_, fun q => ?_⟩
  · obtain ⟨u, e⟩ := m.here q
    rw [h] at e; cases e
  · obtain ⟨⟨u, e⟩, _⟩ := m.hd p q
    rw [h] at e; cases e
theorem EntR.ext {K : PySem.W.Frag} {μ μ' : Mu} {H H' : Hp} (e : Ext μ H μ' H') {kv : D × D} {x : NestedKey × Addr × Value} (h : EntR K μ H kv x) : EntR K μ' H' kv x := by
  obtain ⟨h1, h2, h3, v, h4, h5⟩ := h
  exact ⟨h1, h2, h3.ext e, v, h4, h5.ext e⟩
/-- an object's relation stays where its own object does -/
theorem OR.ext {w : World} {K : PySem.W.Frag} {μ μ' : Mu} {H H' : Hp} (e : Ext μ H μ' H') {o : AO} {a : Addr} (h : OR w K μ H o a) (ha : H' a = H a) : OR w K μ' H' o a := by
  cases o with
  | lst ds => obtain ⟨vs, h, r⟩ := h; exact ⟨vs, ha.trans h, r.ext e⟩
  | dic kvs => obtain ⟨es, h, r⟩ := h; exact ⟨es, ha.trans h, Paired.mapP r fun _ _ q => ⟨q.1, q.2.ext e⟩⟩
  | dnt kvs => obtain ⟨es, z, h, r, n⟩ := h; exact ⟨es, z, ha.trans h, Paired.mapP r fun _ _ q => q.ext e, n⟩
/-- a new object that is a value: a tuple, a list that nobody changes -/
theorem Ext.new {μ : Mu} {H : Hp} {p : Addr} {u : HO} (h : H p = none) : Ext μ H μ (upd H p u) :=
  ⟨⟨[], by simp⟩, fun _ h => h, fun _ _ _ _ h => h, fun a o ha n => ⟨by rw [upd_ne (ne_of_none ha h)]; exact ha, n⟩⟩
theorem Sim.new {w : World} {K : PySem.W.Frag} {μ : Mu} {S : Sto} {H : Hp} (m : Sim w K μ S H) {p : Addr} {u : HO} (h : H p = none) : Sim w K μ S (upd H p u) :=
  ⟨m.len, m.nd, fun n o a h1 h2 => (m.ob n o a h1 h2).ext (Ext.new h) (upd_ne fun z => (m.fresh h).1 (by rw [← z]; exact List.mem_of_getElem? h2)),
    fun a ha => by
      obtain ⟨⟨v, e⟩, n⟩ := m.hd a ha
      exact ⟨⟨v, by rw [upd_ne (ne_of_none e h)]; exact e⟩, n⟩⟩
/-- a new object with a place -/
def Mu.push (μ : Mu) (p : Addr) : Mu := ⟨μ.l ++ [p], μ.hid⟩
theorem Ext.push {μ : Mu} {H : Hp} {p : Addr} {u : HO} (h : H p = none) : Ext μ H (μ.push p) (upd H p u) :=
  ⟨⟨[p], rfl⟩, fun _ h => h, fun _ _ _ _ h => h, fun a o ha n => ⟨by rw [upd_ne (ne_of_none ha h)]; exact ha, fun z => by
    rcases List.mem_append.mp z with z | z
    · exact n z
    · rw [List.mem_singleton.mp z, h] at ha; cases ha⟩⟩
theorem Sim.pushed {w : World} {K : PySem.W.Frag} {μ : Mu} {S : Sto} {H H' : Hp} (m : Sim w K μ S H) {p : Addr} {o : AO} (hp : p ∉ μ.l ∧ p ∉ μ.hid) (x : Ext μ H (μ.push p) H') (k : ∀ a, a ∈ μ.l → H' a = H a) (r : OR w K (μ.push p) H' o p) : Sim w K (μ.push p) (S ++ [o]) H' := by
  refine ⟨by show (μ.l ++ [p]).length = _; simp [m.len], ?_, fun n x' a h1 h2 => ?_, fun a ha => ?_⟩
  · show (μ.l ++ [p]).Nodup
    rw [List.nodup_append]
    refine ⟨m.nd, by simp, fun a ha b hb e => ?_⟩
    rw [List.mem_singleton.mp hb] at e
    exact hp.1 (e ▸ ha)
  · have h2 : (μ.l ++ [p])[n]? = some a := h2
    by_cases hn : n < S.length
    · rw [List.getElem?_append_left hn] at h1
      rw [List.getElem?_append_left (by rw [m.len]; exact hn)] at h2
      exact (m.ob n x' a h1 h2).ext x (k a (List.mem_of_getElem? h2))
    · have e : n = S.length := by
        obtain ⟨hl, _⟩ := List.getElem?_eq_some_iff.mp h1
        simp at hl
        omega
      subst e
      rw [List.getElem?_append_right (Nat.le_refl _), Nat.sub_self] at h1
      rw [List.getElem?_append_right (by rw [m.len]; exact Nat.le_refl _), m.len, Nat.sub_self] at h2
      cases h1; cases h2
      exact r
  · obtain ⟨⟨v, e⟩, n⟩ := m.hd a ha
    obtain ⟨h1, h2⟩ := x.keep a v e n
    exact ⟨⟨v, h1⟩, h2⟩
theorem Sim.push {w : World} {K : PySem.W.Frag} {μ : Mu} {S : Sto} {H : Hp} (m : Sim w K μ S H) {p : Addr} {u : HO} {o : AO} (h : H p = none) (r : OR w K (μ.push p) (upd H p u) o p) : Sim w K (μ.push p) (S ++ [o]) (upd H p u) :=
  m.pushed (m.fresh h) (.push h) (fun a ha => upd_ne fun z => (m.fresh h).1 (by rw [← z]; exact ha)) r
theorem Mu.last {μ : Mu} {p : Addr} : (μ.push p).l[μ.l.length]? = some p := by
  show (μ.l ++ [p])[μ.l.length]? = _
  simp
/-- an object with a place is written -/
theorem Ext.write {μ : Mu} {H : Hp} {a : Addr} {u : HO} (h : a ∈ μ.l) : Ext μ H μ (upd H a u) :=
  ⟨⟨[], by simp⟩, fun _ h => h, fun _ _ _ _ h => h, fun b o hb n => ⟨by rw [upd_ne (fun z => n (by rw [z]; exact h))]; exact hb, n⟩⟩
theorem Sim.write {w : World} {K : PySem.W.Frag} {μ : Mu} {S : Sto} {H : Hp} (m : Sim w K μ S H) {n : Nat} {a : Addr} {u : HO} {o : AO} (h : μ.l[n]? = some a) (r : OR w K μ (upd H a u) o a) : Sim w K μ (S.set n o) (upd H a u) := by
  have ha := List.mem_of_getElem? h
  refine ⟨by simp [m.len], m.nd, fun k x b h1 h2 => ?_, fun b hb => ?_⟩
  · by_cases hk : n = k
    · subst hk
      rw [h] at h2; cases h2
      have hl : n < S.length := by rw [← m.len]; exact (List.getElem?_eq_some_iff.mp h).1
      rw [List.getElem?_set_self hl] at h1
      cases h1
      exact r
    · rw [List.getElem?_set_ne hk] at h1
      refine (m.ob k x b h1 h2).ext (Ext.write ha) (upd_ne fun z => hk ?_)
      subst z
      obtain ⟨l1, e1⟩ := List.getElem?_eq_some_iff.mp h
      obtain ⟨l2, e2⟩ := List.getElem?_eq_some_iff.mp h2
      exact (List.getElem_inj m.nd).mp (e1.trans e2.symm)
  · obtain ⟨⟨v, e⟩, nb⟩ := m.hd b hb
    exact ⟨⟨v, by rw [upd_ne (fun z => nb (by rw [z]; exact ha))]; exact e⟩, nb⟩

/-- an address is hidden: a new list that a comprehension fills -/
def Mu.hide (μ : Mu) (p : Addr) : Mu := ⟨μ.l, p :: μ.hid⟩
theorem Ext.hide {μ : Mu} {H : Hp} {p : Addr} {u : HO} (h : H p = none) : Ext μ H (μ.hide p) (upd H p u) :=
  ⟨⟨[], by simp [Mu.hide]⟩, fun a ha => List.mem_cons_of_mem _ ha, fun a o ha _ nh z => by
    rcases List.mem_cons.mp z with z | z
    · rw [z, h] at ha; cases ha
    · exact nh z, fun a o ha n => ⟨by rw [upd_ne (ne_of_none ha h)]; exact ha, n⟩⟩
theorem Sim.hide {w : World} {K : PySem.W.Frag} {μ : Mu} {S : Sto} {H : Hp} (m : Sim w K μ S H) {p : Addr} {u : HO} (h : H p = none) : Sim w K (μ.hide p) S (upd H p u) :=
  ⟨m.len, m.nd, fun n o a h1 h2 => (m.ob n o a h1 h2).ext (Ext.hide h) (upd_ne fun z => (m.fresh h).1 (by rw [← z]; exact List.mem_of_getElem? h2)),
    fun a ha => by
      rcases List.mem_cons.mp ha with z | z
      · subst z; exact ⟨⟨u, upd_same⟩, (m.fresh h).1⟩
      · obtain ⟨⟨v, e⟩, n⟩ := m.hd a z
        exact ⟨⟨v, by rw [upd_ne (ne_of_none e h)]; exact e⟩, n⟩⟩
/-- what a value leans on, carried from one state to another -/
structure Car (μ : Mu) (H : Hp) (μ' : Mu) (H' : Hp) : Prop where
  pl : ∀ (n : Nat) (a : Addr), μ.l[n]? = some a → μ'.l[n]? = some a
  rd : ∀ (a : Addr) (u : HO), a ∉ μ.l → a ∉ μ.hid → Rd H a u → a ∉ μ'.l ∧ a ∉ μ'.hid ∧ Rd H' a u
theorem Car.ft {K : PySem.W.Frag} {μ μ' : Mu} {H H' : Hp} (c : Car μ H μ' H') {a : Addr} {xs : List V} (h : FT K μ H a xs) : FT K μ' H' a xs :=
  h.elim (fun h => let ⟨a1, a2, a3⟩ := c.rd a _ h.1.1 h.1.2 h.2; .inl ⟨⟨a1, a2⟩, a3⟩) .inr
theorem Car.fl {K : PySem.W.Frag} {μ μ' : Mu} {H H' : Hp} (c : Car μ H μ' H') {a : Addr} {xs : List V} (h : FL K μ H a xs) : FL K μ' H' a xs :=
  h.elim (fun h => let ⟨a1, a2, a3⟩ := c.rd a _ h.1.1 h.1.2 h.2; .inl ⟨⟨a1, a2⟩, a3⟩) .inr
mutual
theorem Rep.car {K : PySem.W.Frag} {μ μ' : Mu} {H H' : Hp} (c : Car μ H μ' H') : ∀ (d : D) (v : V), Rep K μ H d v → Rep K μ' H' d v
  | .non, v, h => by rw [Rep] at h ⊢; exact h
  | .bl _, v, h => by rw [Rep] at h ⊢; exact h
  | .int _, v, h => by rw [Rep] at h ⊢; exact h
  | .str _, v, h => by rw [Rep] at h ⊢; exact h
  | .tup ds, v, h => by
    rw [Rep] at h ⊢
    obtain ⟨a, vs, e1, hf, hr⟩ := h
    exact ⟨a, vs, e1, c.ft hf, Reps.car c ds vs hr⟩
  | .lst ds, v, h => by
    rw [Rep] at h ⊢
    obtain ⟨a, vs, e1, hf, hr⟩ := h
    exact ⟨a, vs, e1, c.fl hf, Reps.car c ds vs hr⟩
  | .loc n, v, h => by
    rw [Rep] at h ⊢
    obtain ⟨a, e1, hm⟩ := h
    exact ⟨a, e1, c.pl n a hm⟩
theorem Reps.car {K : PySem.W.Frag} {μ μ' : Mu} {H H' : Hp} (c : Car μ H μ' H') : ∀ (ds : List D) (vs : List V), Reps K μ H ds vs → Reps K μ' H' ds vs
  | [], vs, h => by rw [Reps] at h ⊢; exact h
  | d :: ds, vs, h => by
    rw [Reps] at h ⊢
    obtain ⟨v, r, e1, h1, h2⟩ := h
    exact ⟨v, r, e1, Rep.car c d v h1, Reps.car c ds r h2⟩
end
theorem SlR.car {K : PySem.W.Frag} {μ μ' : Mu} {H H' : Hp} {ρ : Rho} {σ : L2.St} (h : SlR K μ H ρ σ) (c : Car μ H μ' H') : SlR K μ' H' ρ σ :=
  ⟨h.len, fun i d q => let ⟨v, h1, h2⟩ := h.at_ i d q; ⟨v, h1, h2.car c⟩⟩
theorem EntR.car {K : PySem.W.Frag} {μ μ' : Mu} {H H' : Hp} (c : Car μ H μ' H') {kv : D × D} {x : NestedKey × Addr × Value} (h : EntR K μ H kv x) : EntR K μ' H' kv x := by
  obtain ⟨h1, h2, h3, v, h4, h5⟩ := h
  exact ⟨h1, h2, h3.car c, v, h4, h5.car c⟩
theorem OR.car {w : World} {K : PySem.W.Frag} {μ μ' : Mu} {H H' : Hp} (c : Car μ H μ' H') {o : AO} {a : Addr} (h : OR w K μ H o a) (ha : H' a = H a) : OR w K μ' H' o a := by
  cases o with
  | lst ds => obtain ⟨vs, h, r⟩ := h; exact ⟨vs, ha.trans h, r.car c⟩
  | dic kvs => obtain ⟨es, h, r⟩ := h; exact ⟨es, ha.trans h, Paired.mapP r fun _ _ q => ⟨q.1, q.2.car c⟩⟩
  | dnt kvs => obtain ⟨es, z, h, r, n⟩ := h; exact ⟨es, z, ha.trans h, Paired.mapP r fun _ _ q => q.car c, n⟩
/-- the hidden object is written -/
theorem Car.hid {μ : Mu} {H : Hp} {p : Addr} {u : HO} (h : p ∈ μ.hid) : Car μ H μ (upd H p u) :=
  ⟨fun _ _ e => e, fun a v n1 n2 r => ⟨n1, n2, by
    have e : upd H p u a = H a := upd_ne fun z => n2 (by rw [z]; exact h)
    rcases r with r | ⟨o, r⟩
    · exact .inl (e.trans r)
    · exact .inr ⟨o, e.trans r⟩⟩⟩
theorem Sim.hid {w : World} {K : PySem.W.Frag} {μ : Mu} {S : Sto} {H : Hp} (m : Sim w K μ S H) {p : Addr} {u : HO} (h : p ∈ μ.hid) : Sim w K μ S (upd H p u) :=
  ⟨m.len, m.nd, fun n o a h1 h2 => (m.ob n o a h1 h2).car (.hid h) (upd_ne fun z => (m.hd p h).2 (by rw [← z]; exact List.mem_of_getElem? h2)),
    fun a ha => by
      obtain ⟨⟨v, e⟩, n⟩ := m.hd a ha
      by_cases z : a = p
      · subst z; exact ⟨⟨u, upd_same⟩, n⟩
      · exact ⟨⟨v, by rw [upd_ne z]; exact e⟩, n⟩⟩
/-- fewer are hidden -/
theorem Car.less {μ : Mu} {H : Hp} {hs : List Addr} (h : ∀ a ∈ hs, a ∈ μ.hid) : Car μ H ⟨μ.l, hs⟩ H := ⟨fun _ _ e => e, fun a v n1 n2 r => ⟨n1, fun z => n2 (h a z), r⟩⟩
theorem Sim.less {w : World} {K : PySem.W.Frag} {μ : Mu} {S : Sto} {H : Hp} (m : Sim w K μ S H) {hs : List Addr} (h : ∀ a ∈ hs, a ∈ μ.hid) : Sim w K ⟨μ.l, hs⟩ S H :=
  ⟨m.len, m.nd, fun n o a h1 h2 => (m.ob n o a h1 h2).car (.less h) rfl, fun a ha => m.hd a (h a ha)⟩
theorem Ext.less {μ μ' : Mu} {H H' : Hp} (x : Ext μ H μ' H') : Ext μ H ⟨μ'.l, μ.hid⟩ H' := ⟨x.pre, fun _ h => h, fun _ _ _ _ h => h, x.keep⟩

/-! ### outcomes -/
/-- how an exception lies behind the code -/
def RepX (K : PySem.W.Frag) (μ : Mu) (H : Hp) (x : Xn) (c : Value) (d : Option Addr) : Prop :=
  c = .ref (He.ga K x.cls) ∧ ∃ dx v, d = some dx ∧ H dx = some (.xd [(x.fld, v)]) ∧ Rep K μ H x.arg v
def OutE (w : World) (K : PySem.W.Frag) (E : XK) (μ : Mu) (H : Hp) (Q : VK) : R D → Prop
  | .ok d S' => ∀ μ' H' v, Ext μ H μ' H' → Sim w K μ' S' H' → Rep K μ' H' d v → Q v H'
  | .exc x S' => ∀ μ' H' c a, Ext μ H μ' H' → Sim w K μ' S' H' → RepX K μ' H' x c a → E c a H'
  | .stuck => False
def OutT (w : World) (K : PySem.W.Frag) (E : XK) (μ : Mu) (H : Hp) (Q : Bool → Hp → Prop) : R Bool → Prop
  | .ok b S' => ∀ μ' H', Ext μ H μ' H' → Sim w K μ' S' H' → Q b H'
  | .exc x S' => ∀ μ' H' c a, Ext μ H μ' H' → Sim w K μ' S' H' → RepX K μ' H' x c a → E c a H'
  | .stuck => False
def OutA (w : World) (K : PySem.W.Frag) (E : XK) (μ : Mu) (H : Hp) (Q : List V → Hp → Prop) : R (List D) → Prop
  | .ok ds S' => ∀ μ' H' vs, Ext μ H μ' H' → Sim w K μ' S' H' → Reps K μ' H' ds vs → Q vs H'
  | .exc x S' => ∀ μ' H' c a, Ext μ H μ' H' → Sim w K μ' S' H' → RepX K μ' H' x c a → E c a H'
  | .stuck => False
def OutS (w : World) (K : PySem.W.Frag) (E : XK) (μ : Mu) (H : Hp) (D : Ends) : RS → Prop
  | .nx ρ S' => ∀ μ' σ' H', Ext μ H μ' H' → Sim w K μ' S' H' → SlR K μ' H' ρ σ' → D.nx σ' H'
  | .bk ρ S' => ∀ μ' σ' H', Ext μ H μ' H' → Sim w K μ' S' H' → SlR K μ' H' ρ σ' → D.bk σ' H'
  | .ct ρ S' => ∀ μ' σ' H', Ext μ H μ' H' → Sim w K μ' S' H' → SlR K μ' H' ρ σ' → D.ct σ' H'
  | .ret d S' => ∀ μ' H' v, Ext μ H μ' H' → Sim w K μ' S' H' → Rep K μ' H' d v → D.rt v H'
  | .exc x S' => ∀ μ' H' c a, Ext μ H μ' H' → Sim w K μ' S' H' → RepX K μ' H' x c a → E c a H'
  | .stuck => False
section
variable {w : World} {K : PySem.W.Frag} {E : XK} {μ μ1 : Mu} {H H1 : Hp}
theorem OutE.mono {Q : VK} {r : R D} (e : Ext μ H μ1 H1) (h : OutE w K E μ H Q r) : OutE w K E μ1 H1 Q r := by
  cases r with
  | ok d S => exact fun μ' H' v x => h μ' H' v (e.trans x)
  | exc x S => exact fun μ' H' c a x => h μ' H' c a (e.trans x)
  | stuck => exact h
theorem OutT.mono {Q : Bool → Hp → Prop} {r : R Bool} (e : Ext μ H μ1 H1) (h : OutT w K E μ H Q r) : OutT w K E μ1 H1 Q r := by
  cases r with
  | ok d S => exact fun μ' H' x => h μ' H' (e.trans x)
  | exc x S => exact fun μ' H' c a x => h μ' H' c a (e.trans x)
  | stuck => exact h
theorem OutA.mono {Q : List V → Hp → Prop} {r : R (List D)} (e : Ext μ H μ1 H1) (h : OutA w K E μ H Q r) : OutA w K E μ1 H1 Q r := by
  cases r with
  | ok d S => exact fun μ' H' v x => h μ' H' v (e.trans x)
  | exc x S => exact fun μ' H' c a x => h μ' H' c a (e.trans x)
  | stuck => exact h
theorem OutS.mono {D : Ends} {r : RS} (e : Ext μ H μ1 H1) (h : OutS w K E μ H D r) : OutS w K E μ1 H1 D r := by
  cases r with
  | nx ρ S => exact fun μ' σ' H' x => h μ' σ' H' (e.trans x)
  | bk ρ S => exact fun μ' σ' H' x => h μ' σ' H' (e.trans x)
  | ct ρ S => exact fun μ' σ' H' x => h μ' σ' H' (e.trans x)
  | ret d S => exact fun μ' H' v x => h μ' H' v (e.trans x)
  | exc x S => exact fun μ' H' c a x => h μ' H' c a (e.trans x)
  | stuck => exact h
/-- what an outcome leaves to be shown of what follows -/
theorem OutE.bind {Q : VK} {r : R D} {k : D → Sto → R D} (h : OutE w K E μ H Q (r.bind k)) :
    OutE w K E μ H (fun v H1 => ∃ μ1 d S1, Ext μ H μ1 H1 ∧ Sim w K μ1 S1 H1 ∧ Rep K μ1 H1 d v ∧ OutE w K E μ1 H1 Q (k d S1)) r := by
  cases r with
  | ok d S => exact fun μ' H' v x m p => ⟨μ', d, S, x, m, p, OutE.mono x h⟩
  | exc x S => exact h
  | stuck => exact h
theorem OutE.bindT {Q : Bool → Hp → Prop} {r : R D} {k : D → Sto → R Bool} (h : OutT w K E μ H Q (r.bind k)) :
    OutE w K E μ H (fun v H1 => ∃ μ1 d S1, Ext μ H μ1 H1 ∧ Sim w K μ1 S1 H1 ∧ Rep K μ1 H1 d v ∧ OutT w K E μ1 H1 Q (k d S1)) r := by
  cases r with
  | ok d S => exact fun μ' H' v x m p => ⟨μ', d, S, x, m, p, OutT.mono x h⟩
  | exc x S => exact h
  | stuck => exact h
theorem OutE.bindA {Q : List V → Hp → Prop} {r : R D} {k : D → Sto → R (List D)} (h : OutA w K E μ H Q (r.bind k)) :
    OutE w K E μ H (fun v H1 => ∃ μ1 d S1, Ext μ H μ1 H1 ∧ Sim w K μ1 S1 H1 ∧ Rep K μ1 H1 d v ∧ OutA w K E μ1 H1 Q (k d S1)) r := by
  cases r with
  | ok d S => exact fun μ' H' v x m p => ⟨μ', d, S, x, m, p, OutA.mono x h⟩
  | exc x S => exact h
  | stuck => exact h
theorem OutE.bindS {D : Ends} {r : R Ev.D} {k : Ev.D → Sto → RS} (h : OutS w K E μ H D (r.bindS k)) :
    OutE w K E μ H (fun v H1 => ∃ μ1 d S1, Ext μ H μ1 H1 ∧ Sim w K μ1 S1 H1 ∧ Rep K μ1 H1 d v ∧ OutS w K E μ1 H1 D (k d S1)) r := by
  cases r with
  | ok d S => exact fun μ' H' v x m p => ⟨μ', d, S, x, m, p, OutS.mono x h⟩
  | exc x S => exact h
  | stuck => exact h
theorem OutA.bind {Q : VK} {r : R (List D)} {k : List D → Sto → R D} (h : OutE w K E μ H Q (r.bind k)) :
    OutA w K E μ H (fun vs H1 => ∃ μ1 ds S1, Ext μ H μ1 H1 ∧ Sim w K μ1 S1 H1 ∧ Reps K μ1 H1 ds vs ∧ OutE w K E μ1 H1 Q (k ds S1)) r := by
  cases r with
  | ok d S => exact fun μ' H' v x m p => ⟨μ', d, S, x, m, p, OutE.mono x h⟩
  | exc x S => exact h
  | stuck => exact h
theorem OutA.bindA {Q : List V → Hp → Prop} {r : R (List D)} {k : List D → Sto → R (List D)} (h : OutA w K E μ H Q (r.bind k)) :
    OutA w K E μ H (fun vs H1 => ∃ μ1 ds S1, Ext μ H μ1 H1 ∧ Sim w K μ1 S1 H1 ∧ Reps K μ1 H1 ds vs ∧ OutA w K E μ1 H1 Q (k ds S1)) r := by
  cases r with
  | ok d S => exact fun μ' H' v x m p => ⟨μ', d, S, x, m, p, OutA.mono x h⟩
  | exc x S => exact h
  | stuck => exact h
theorem OutT.bind {Q : VK} {r : R Bool} {k : Bool → Sto → R D} (h : OutE w K E μ H Q (r.bind k)) :
    OutT w K E μ H (fun b H1 => ∃ μ1 S1, Ext μ H μ1 H1 ∧ Sim w K μ1 S1 H1 ∧ OutE w K E μ1 H1 Q (k b S1)) r := by
  cases r with
  | ok d S => exact fun μ' H' x m => ⟨μ', S, x, m, OutE.mono x h⟩
  | exc x S => exact h
  | stuck => exact h
theorem OutT.bindT {Q : Bool → Hp → Prop} {r : R Bool} {k : Bool → Sto → R Bool} (h : OutT w K E μ H Q (r.bind k)) :
    OutT w K E μ H (fun b H1 => ∃ μ1 S1, Ext μ H μ1 H1 ∧ Sim w K μ1 S1 H1 ∧ OutT w K E μ1 H1 Q (k b S1)) r := by
  cases r with
  | ok d S => exact fun μ' H' x m => ⟨μ', S, x, m, OutT.mono x h⟩
  | exc x S => exact h
  | stuck => exact h
theorem OutT.bindS {D : Ends} {r : R Bool} {k : Bool → Sto → RS} (h : OutS w K E μ H D (r.bindS k)) :
    OutT w K E μ H (fun b H1 => ∃ μ1 S1, Ext μ H μ1 H1 ∧ Sim w K μ1 S1 H1 ∧ OutS w K E μ1 H1 D (k b S1)) r := by
  cases r with
  | ok d S => exact fun μ' H' x m => ⟨μ', S, x, m, OutS.mono x h⟩
  | exc x S => exact h
  | stuck => exact h
end

/-! ### readings -/
def tE (w : World) (K : PySem.W.Frag) (E : XK) (f : DE) : TE := fun σ H Q => ∃ μ ρ S, SlR K μ H ρ σ ∧ Sim w K μ S H ∧ OutE w K E μ H Q (f ρ S)
def tT (w : World) (K : PySem.W.Frag) (E : XK) (f : DT) : TT := fun σ H Q => ∃ μ ρ S, SlR K μ H ρ σ ∧ Sim w K μ S H ∧ OutT w K E μ H Q (f ρ S)
def tA (w : World) (K : PySem.W.Frag) (E : XK) (f : DA) : TA := fun σ H Q => ∃ μ ρ S, SlR K μ H ρ σ ∧ Sim w K μ S H ∧ OutA w K E μ H Q (f ρ S)
def tS (w : World) (K : PySem.W.Frag) (E : XK) (f : DS) : TS := fun D σ H => ∃ μ ρ S, SlR K μ H ρ σ ∧ Sim w K μ S H ∧ OutS w K E μ H D (f ρ S)
def tG (w : World) (K : PySem.W.Frag) (E : XK) (f : DG) : TG := fun v σ H Q => ∃ μ ρ S d, SlR K μ H ρ σ ∧ Sim w K μ S H ∧ Rep K μ H d v ∧ OutS w K E μ H { nx := Q, rt := fun _ _ => False } (f d ρ S)
abbrev ES (X : Cx) (E : XK) (e : Expr) (f : DE) : Prop := PE X e (tE X.w X.K E f)
abbrev TSo (X : Cx) (E : XK) (e : Expr) (f : DT) : Prop := PT X e (tT X.w X.K E f)
abbrev AS (X : Cx) (E : XK) (es : List Expr) (f : DA) : Prop := PA X es (tA X.w X.K E f)
abbrev SS (X : Cx) (E : XK) (st : Stmt) (f : DS) : Prop := PS X st (tS X.w X.K E f)
abbrev SSs (X : Cx) (E : XK) (st : List Stmt) (f : DS) : Prop := PSs X st (tS X.w X.K E f)
abbrev GS (X : Cx) (E : XK) (t : Expr) (f : DG) : Prop := PG X t (tG X.w X.K E f)
/-- a stronger reading -/
theorem _root_.L2.PE.wk {X : Cx} {e : Expr} {t t' : TE} (h : PE X e t) (k : ∀ σ H Q, t' σ H Q → t σ H Q) : PE X e t' := ⟨fun pins s σ H Q I q => h.run pins s σ H Q I (k σ H Q q)⟩
theorem _root_.L2.PT.wk {X : Cx} {e : Expr} {t t' : TT} (h : PT X e t) (k : ∀ σ H Q, t' σ H Q → t σ H Q) : PT X e t' := ⟨fun pins s σ H Q I q => h.run pins s σ H Q I (k σ H Q q)⟩
theorem _root_.L2.PW.wk {X : Cx} {e : Expr} {t t' : TT} (h : PW X e t) (k : ∀ σ H Q, t' σ H Q → t σ H Q) : PW X e t' := ⟨fun wh pins s σ H Q I q => h.run wh pins s σ H Q I (k σ H Q q)⟩
theorem _root_.L2.PA.wk {X : Cx} {e : List Expr} {t t' : TA} (h : PA X e t) (k : ∀ σ H Q, t' σ H Q → t σ H Q) : PA X e t' := ⟨fun pos pins s σ H Q I q => h.run pos pins s σ H Q I (k σ H Q q)⟩
theorem _root_.L2.PS.wk {X : Cx} {e : Stmt} {t t' : TS} (h : PS X e t) (k : ∀ D σ H, t' D σ H → t D σ H) : PS X e t' := ⟨fun pins s σ H D I q => h.run pins s σ H D I (k D σ H q)⟩
theorem _root_.L2.PSs.wk {X : Cx} {e : List Stmt} {t t' : TS} (h : PSs X e t) (k : ∀ D σ H, t' D σ H → t D σ H) : PSs X e t' := ⟨fun pins s σ H D I q => h.run pins s σ H D I (k D σ H q)⟩
theorem _root_.L2.PG.wk {X : Cx} {e : Expr} {t t' : TG} (h : PG X e t) (k : ∀ v σ H Q, t' v σ H Q → t v σ H Q) : PG X e t' := ⟨fun pins s σ H v u Q I r q => h.run pins s σ H v u Q I r (k v σ H Q q)⟩
end Ev

set_option Elab.async false
set_option linter.all false
set_option maxRecDepth 100000
set_option maxHeartbeats 4000000
/-! EvB: expressions. -/
namespace Ev
open PySem PySem.Spec PyProof.Rows L2

/-! ### names, constants -/
def dVar (i : Nat) : DE := fun ρ S => match ρ[i]? with
  | some (some d) => .ok d S
  | _ => .stuck
def dC (d : D) : DE := fun _ S => .ok d S
section
variable {X : Cx} {E : XK}
theorem ev_var (i : Nat) {x : Str} {pos : Pos} (hN : X.N[i]? = some x := by rfl) (hv : Vis X.env.scope x := by first | exact Or.inl rfl | exact Or.inr (Or.inl rfl) | exact Or.inr (Or.inr rfl)) (hd : (x == ("__debug__" : Str)) = false := by decide)
    (hcd : (x == ("__classdict__" : Str)) = false := by decide) : ES X E (.Name x pos) (dVar i) := (pe_var hN hv hd hcd).wk fun σ H Q h => by
  obtain ⟨μ, ρ, S, sl, m, o⟩ := h
  unfold dVar at o
  split at o
  · rename_i d e
    obtain ⟨v, h1, h2⟩ := sl.at_ i d e
    exact ⟨v, h1, o μ H v .refl m h2⟩
  · exact o.elim
theorem ev_c {e : Expr} {d : D} {v : V} (h : PE X e (tC v)) (r : ∀ μ H, Rep X.K μ H d v) : ES X E e (dC d) := h.wk fun σ H Q h => by
  obtain ⟨μ, ρ, S, sl, m, o⟩ := h
  exact o μ H v .refl m (r μ H)
theorem ev_int {i : Int} {j : Nat} {pos : Pos} : ES X E (.Constant (.int i) j pos) (dC (.int i)) := ev_c pe_int fun _ _ => rep_int.mpr rfl
theorem ev_bl {b : Bool} {j : Nat} {pos : Pos} : ES X E (.Constant (.bool b) j pos) (dC (.bl b)) := ev_c pe_bl fun _ _ => rep_bl.mpr rfl
theorem ev_non {j : Nat} {pos : Pos} : ES X E (.Constant .none j pos) (dC .non) := ev_c pe_non fun _ _ => rep_non.mpr rfl
theorem ev_str {x : Str} {j : Nat} {pos : Pos} : ES X E (.Constant (.str x) j pos) (dC (.str x)) := ev_c pe_str fun _ _ => rep_str.mpr rfl
/-- a module's int -/
theorem ev_gint {x : Str} {i : Int} {pos : Pos} (hm : ∃ t, X.mg x = some (.int i t)) (hg : Gl X x := by rfl) (hd : (x == ("__debug__" : Str)) = false := by decide) : ES X E (.Name x pos) (dC (.int i)) := by
  obtain ⟨t, hm⟩ := hm
  exact ev_c (pe_glob (v := .int i) hg hm ⟨t, rfl⟩ hd) fun _ _ => rep_int.mpr rfl
theorem ev_gstr {x z : Str} {pos : Pos} (hm : ∃ t, X.mg x = some (.str z t)) (hg : Gl X x := by rfl) (hd : (x == ("__debug__" : Str)) = false := by decide) : ES X E (.Name x pos) (dC (.str z)) := by
  obtain ⟨t, hm⟩ := hm
  exact ev_c (pe_glob (v := .str z) hg hm ⟨t, rfl⟩ hd) fun _ _ => rep_str.mpr rfl
/-- a module's tuple -/
theorem ev_gtup {x : Str} {a : Addr} {ds : List D} {pos : Pos} (hm : X.mg x = some (.ref a)) (hr : ∀ μ H, Rep X.K μ H (.tup ds) (.ref a)) (hg : Gl X x := by rfl) (hd : (x == ("__debug__" : Str)) = false := by decide) : ES X E (.Name x pos) (dC (.tup ds)) :=
  ev_c (pe_glob (v := .ref a) hg hm rfl hd) hr
/-- code that is never come to -/
def dNo : DE := fun _ _ => .stuck
theorem ev_no {e : Expr} : ES X E e dNo := ⟨fun pins s σ H Q I h => by
  obtain ⟨_, _, _, _, _, o⟩ := h
  exact o.elim⟩
end

/-! ### operators by values -/
def dOp (op : D → D → Sto → R D) (f g : DE) : DE := fun ρ S => (f ρ S).bind fun a S1 => (g ρ S1).bind fun b S2 => op a b S2
def OpS (X : Cx) (E : XK) (r : R2) (op : D → D → Sto → R D) : Prop :=
  ∀ (μ : Mu) (S : Sto) (H : Hp) (a b : D) (x y : V) (Q : VK), Sim X.w X.K μ S H → Rep X.K μ H a x → Rep X.K μ H b y → OutE X.w X.K E μ H Q (op a b S) → r x y H Q
def dUn (op : D → Sto → R D) (f : DE) : DE := fun ρ S => (f ρ S).bind fun a S1 => op a S1
def UnS (X : Cx) (E : XK) (r : V → Hp → VK → Prop) (op : D → Sto → R D) : Prop :=
  ∀ (μ : Mu) (S : Sto) (H : Hp) (a : D) (x : V) (Q : VK), Sim X.w X.K μ S H → Rep X.K μ H a x → OutE X.w X.K E μ H Q (op a S) → r x H Q
section
variable {X : Cx} {E : XK} {a b : Expr} {f g : DE} {op : D → D → Sto → R D} {r : R2} {pos : Pos}
theorem out2 {μ : Mu} {ρ : Rho} {S : Sto} {σ : L2.St} {H : Hp} {Q : VK} {op : D → D → Sto → R D} {r : R2} (sl : SlR X.K μ H ρ σ) (m : Sim X.w X.K μ S H) (ho : OpS X E r op) (o : OutE X.w X.K E μ H Q (dOp op f g ρ S)) :
    tOp r (tE X.w X.K E f) (tE X.w X.K E g) σ H Q := by
  refine ⟨μ, ρ, S, sl, m, ?_⟩
  have o1 := OutE.bind o
  cases q : f ρ S with
  | stuck => rw [q] at o1; exact o1
  | exc x S' => rw [q] at o1; exact o1
  | ok d S1 =>
    rw [q] at o1
    intro μ1 H1 v x m1 p
    obtain ⟨μ1', d', S1', x', m1', p', o2⟩ := o1 μ1 H1 v x m1 p
    refine ⟨μ1', ρ, S1', sl.ext x', m1', ?_⟩
    have o3 := OutE.bind o2
    cases q2 : g ρ S1' with
    | stuck => rw [q2] at o3; exact o3
    | exc x S' => rw [q2] at o3; exact o3
    | ok d2 S2 =>
      rw [q2] at o3
      intro μ2 H2 v2 x2 m2 p2
      obtain ⟨μ2', d2', S2', x2', m2', p2', o4⟩ := o3 μ2 H2 v2 x2 m2 p2
      exact ho μ2' S2' H2 d' d2' v v2 Q m2' (p'.ext x2') p2' o4
theorem ev_op {op' : Operator} (hr : OpR X (binaryOp op') r) (ho : OpS X E r op) (ha : ES X E a f) (hb : ES X E b g) : ES X E (.BinOp a op' b pos) (dOp op f g) :=
  (pe_op hr ha hb).wk fun σ H Q ⟨μ, ρ, S, sl, m, o⟩ => out2 sl m ho o
theorem ev_cmp {op' : CmpOp} (hr : OpR X (compareOp op') r) (ho : OpS X E r op) (ha : ES X E a f) (hb : ES X E b g) (hm : behindInMarks op' b = false := by first | exact nomark _ | rfl) : ES X E (.Compare a [op'] [b] pos) (dOp op f g) :=
  (pe_cmpR hr ha hb hm).wk fun σ H Q ⟨μ, ρ, S, sl, m, o⟩ => out2 sl m ho o
theorem ev_un {op' : UnaryOp} {op : D → Sto → R D} {r : V → Hp → VK → Prop} (hr : UnR X (unaryOp op') r) (ho : UnS X E r op) (ha : ES X E a f) : ES X E (.UnaryOp op' a pos) (dUn op f) :=
  (pe_un hr ha).wk fun σ H Q ⟨μ, ρ, S, sl, m, o⟩ => by
    refine ⟨μ, ρ, S, sl, m, ?_⟩
    have o1 := OutE.bind o
    cases q : f ρ S with
    | stuck => rw [q] at o1; exact o1
    | exc x S' => rw [q] at o1; exact o1
    | ok d S1 =>
      rw [q] at o1
      intro μ1 H1 v x m1 p
      obtain ⟨μ1', d', S1', x', m1', p', o2⟩ := o1 μ1 H1 v x m1 p
      exact ho μ1' S1' H1 d' v Q m1' p' o2
end

/-! ### ints -/
def bI (g : Int → Int → D) : D → D → Sto → R D
  | .int i, .int j, S => .ok (g i j) S
  | _, _, _ => .stuck
/-- .. under a condition -/
def bIC (c : Int → Int → Bool) (g : Int → Int → D) : D → D → Sto → R D
  | .int i, .int j, S => if c i j = true then .ok (g i j) S else .stuck
  | _, _, _ => .stuck
def dv : V → D
  | .bl b => .bl b
  | .int i => .int i
  | _ => .non
section
variable {X : Cx} {E : XK}
theorem bI_ok {g : Int → Int → V} {g' : Int → Int → D} (hg : ∀ i j μ H, Rep X.K μ H (g' i j) (g i j)) : OpS X E (rI0 g) (bI g') := by
  intro μ S H a b x y Q m ra rb o
  unfold bI at o
  split at o
  · rename_i i j
    rw [rep_int] at ra rb
    exact ⟨i, j, ra, rb, o μ H _ .refl m (hg i j μ H)⟩
  · exact o.elim
theorem bIC_ok {C : Int → Int → Prop} {c : Int → Int → Bool} {g : Int → Int → V} {g' : Int → Int → D} (hc : ∀ i j, c i j = true → C i j) (hg : ∀ i j μ H, Rep X.K μ H (g' i j) (g i j)) : OpS X E (rI C g) (bIC c g') := by
  intro μ S H a b x y Q m ra rb o
  unfold bIC at o
  split at o
  · rename_i i j
    rw [rep_int] at ra rb
    split at o
    · rename_i hcc
      exact ⟨i, j, ra, rb, hc i j hcc, o μ H _ .refl m (hg i j μ H)⟩
    · exact o.elim
  · exact o.elim
end
/-- a product: one factor below 2^64, or both together below a million bits -/
def cMul (i j : Int) : Bool := Nat.blt i.natAbs 18446744073709551616 || Nat.blt j.natAbs 18446744073709551616 || Nat.blt (i.natAbs.log2 + j.natAbs.log2) 1000000
def cDiv (_ j : Int) : Bool := decide (0 < j ∧ j.natAbs.log2 < 9000)
def cPow (i j : Int) : Bool := decide (0 ≤ j) && Nat.ble j.natAbs 1000000 && Nat.blt i.natAbs 18446744073709551616
def bSub : D → D → Sto → R D := bI fun i j => .int (i - j)
def bFdiv : D → D → Sto → R D := bIC cDiv fun i j => .int (i / j)
def bMod : D → D → Sto → R D := bIC (fun _ j => decide (0 < j)) fun i j => .int (i % j)
def bPow : D → D → Sto → R D := bIC cPow fun i j => .int (i ^ j.toNat)
def bShl : D → D → Sto → R D := bIC cPow fun i j => .int (i * 2 ^ j.toNat)
def bShr : D → D → Sto → R D := bIC (fun _ j => decide (0 ≤ j)) fun i j => .int (i / 2 ^ j.toNat)
def bAnd : D → D → Sto → R D := bI fun i j => .int (Builtin.bitAnd i j)
def bLt : D → D → Sto → R D := bI fun i j => .bl (decide (i < j))
def bLe : D → D → Sto → R D := bI fun i j => .bl (decide (i ≤ j))
def bGt : D → D → Sto → R D := bI fun i j => .bl (decide (j < i))
def bGe : D → D → Sto → R D := bI fun i j => .bl (decide (j ≤ i))
section
variable {X : Cx} {E : XK}
theorem bInt {g : Int → Int → Int} : OpS X E (rI0 fun i j => .int (g i j)) (bI fun i j => .int (g i j)) := bI_ok fun _ _ _ _ => rep_int.mpr rfl
theorem bBl {g : Int → Int → Bool} : OpS X E (rI0 fun i j => .bl (g i j)) (bI fun i j => .bl (g i j)) := bI_ok fun _ _ _ _ => rep_bl.mpr rfl
theorem bIntC {C : Int → Int → Prop} {c : Int → Int → Bool} {g : Int → Int → Int} (hc : ∀ i j, c i j = true → C i j) : OpS X E (rI C fun i j => .int (g i j)) (bIC c fun i j => .int (g i j)) := bIC_ok hc fun _ _ _ _ => rep_int.mpr rfl
theorem cMul_ok : ∀ i j, cMul i j = true → IntMulOk i j := fun i j h => by
  unfold cMul at h
  simp only [Bool.or_eq_true, Nat.blt_eq] at h
  rcases h with (h | h) | h
  · exact .of_left (intBits_le_64 (by omega) (by omega))
  · exact .of_right (intBits_le_64 (by omega) (by omega))
  · exact CMulW.ok h
theorem op_mulA : OpR X (binaryOp .Mult) (rI IntMulOk fun i j => .int (i * j)) := opI fun _ _ _ _ _ _ _ hc q => mul_int q hc
theorem cDiv_ok : ∀ i j, cDiv i j = true → CDivW i j := fun i j h => by
  unfold cDiv at h
  have := of_decide_eq_true h
  exact this
theorem cPow_ok : ∀ i j, cPow i j = true → CPow i j := fun i j h => by
  unfold cPow at h
  obtain ⟨h, h3⟩ := Bool.and_eq_true_iff.mp h
  obtain ⟨h1, h2⟩ := Bool.and_eq_true_iff.mp h
  have h1 := of_decide_eq_true h1
  have h2 := Nat.le_of_ble_eq_true h2
  have h3 : i.natAbs < 18446744073709551616 := by rw [Nat.blt_eq] at h3; exact h3
  exact (show 0 ≤ j ∧ j ≤ 1000000 ∧ i.natAbs < 2 ^ 64 from ⟨h1, by omega, by omega⟩)
variable {a b : Expr} {f g : DE} {pos : Pos}
theorem ev_sub (ha : ES X E a f) (hb : ES X E b g) : ES X E (.BinOp a .Sub b pos) (dOp bSub f g) := ev_op op_sub bInt ha hb
theorem ev_fdiv (ha : ES X E a f) (hb : ES X E b g) : ES X E (.BinOp a .FloorDiv b pos) (dOp bFdiv f g) := ev_op op_fdivW (bIntC cDiv_ok) ha hb
theorem ev_mod (ha : ES X E a f) (hb : ES X E b g) : ES X E (.BinOp a .Mod b pos) (dOp bMod f g) := ev_op op_mod (bIntC fun _ _ h => of_decide_eq_true h) ha hb
theorem ev_pow (ha : ES X E a f) (hb : ES X E b g) : ES X E (.BinOp a .Pow b pos) (dOp bPow f g) := ev_op op_pow (bIntC cPow_ok) ha hb
theorem ev_shl (ha : ES X E a f) (hb : ES X E b g) : ES X E (.BinOp a .LShift b pos) (dOp bShl f g) := ev_op op_shl (bIntC cPow_ok) ha hb
theorem ev_shr (ha : ES X E a f) (hb : ES X E b g) : ES X E (.BinOp a .RShift b pos) (dOp bShr f g) := ev_op op_shr (bIntC fun _ _ h => of_decide_eq_true h) ha hb
theorem ev_and (ha : ES X E a f) (hb : ES X E b g) : ES X E (.BinOp a .BitAnd b pos) (dOp bAnd f g) := ev_op op_and bInt ha hb
theorem ev_gt (ha : ES X E a f) (hb : ES X E b g) : ES X E (.Compare a [.Gt] [b] pos) (dOp bGt f g) := ev_cmp op_gt bBl ha hb
theorem ev_ge (ha : ES X E a f) (hb : ES X E b g) : ES X E (.Compare a [.GtE] [b] pos) (dOp bGe f g) := ev_cmp op_ge bBl ha hb
theorem ev_le (ha : ES X E a f) (hb : ES X E b g) : ES X E (.Compare a [.LtE] [b] pos) (dOp bLe f g) := ev_cmp op_le bBl ha hb
theorem ev_ltI (ha : ES X E a f) (hb : ES X E b g) : ES X E (.Compare a [.Lt] [b] pos) (dOp bLt f g) := ev_cmp op_lt bBl ha hb
def uNeg : D → Sto → R D
  | .int i, S => .ok (.int (-i)) S
  | _, _ => .stuck
theorem ev_neg (ha : ES X E a f) : ES X E (.UnaryOp .USub a pos) (dUn uNeg f) := ev_un un_neg (fun μ S H a x Q m ra o => by
  unfold uNeg at o
  split at o
  · rename_i i
    rw [rep_int] at ra
    exact ⟨i, ra, o μ H _ .refl m (rep_int.mpr rfl)⟩
  · exact o.elim) ha
/-- is None -/
def isNon : D → Bool
  | .non => true
  | _ => false
theorem Rep.isNon {K : PySem.W.Frag} {μ : Mu} {H : Hp} {d : D} {v : V} (h : Rep K μ H d v) : decide (v = .non) = isNon d := by
  cases d with
  | non => rw [rep_non] at h; subst h; rfl
  | bl b => rw [rep_bl] at h; subst h; rfl
  | int b => rw [rep_int] at h; subst h; rfl
  | str b => rw [rep_str] at h; subst h; rfl
  | tup b => rw [rep_tup] at h; obtain ⟨a, vs, rfl, _⟩ := h; rfl
  | lst b => rw [rep_lst] at h; obtain ⟨a, vs, rfl, _⟩ := h; rfl
  | loc b => rw [rep_loc] at h; obtain ⟨a, rfl, _⟩ := h; rfl
def uIsN : D → Sto → R D := fun a S => .ok (.bl (isNon a)) S
def uNotN : D → Sto → R D := fun a S => .ok (.bl (!isNon a)) S
def dIsN (f : DE) : DE := dUn uIsN f
def dNotN (f : DE) : DE := dUn uNotN f
theorem uIsN_ok : UnS X E (fun x H Q => Q (.bl (decide (x = .non))) H) uIsN := fun μ S H a x Q m ra o => o μ H _ .refl m (rep_bl.mpr (by rw [ra.isNon]))
theorem uNotN_ok : UnS X E (fun x H Q => Q (.bl (!decide (x = .non))) H) uNotN := fun μ S H a x Q m ra o => o μ H _ .refl m (rep_bl.mpr (by rw [ra.isNon]))
theorem out1 {μ : Mu} {ρ : Rho} {S : Sto} {σ : L2.St} {H : Hp} {Q : VK} {op : D → Sto → R D} {r : V → Hp → VK → Prop} (sl : SlR X.K μ H ρ σ) (m : Sim X.w X.K μ S H) (ho : UnS X E r op) (o : OutE X.w X.K E μ H Q (dUn op f ρ S)) :
    tE X.w X.K E f σ H fun x H1 => r x H1 Q := by
  refine ⟨μ, ρ, S, sl, m, ?_⟩
  have o1 := OutE.bind o
  cases q : f ρ S with
  | stuck => rw [q] at o1; exact o1
  | exc x S' => rw [q] at o1; exact o1
  | ok d S1 =>
    rw [q] at o1
    intro μ1 H1 v x m1 p
    obtain ⟨μ1', d', S1', x', m1', p', o2⟩ := o1 μ1 H1 v x m1 p
    exact ho μ1' S1' H1 d' v Q m1' p' o2
theorem ev_isN {j pos'} (ha : ES X E a f) : ES X E (.Compare a [.Is] [.Constant .none j pos'] pos) (dIsN f) := (pe_cmp (pc_isN ha)).wk fun σ H Q ⟨μ, ρ, S, sl, m, o⟩ =>
  out1 (r := fun x H Q => Q (.bl (decide (x = .non))) H) sl m uIsN_ok o
theorem ev_notN {j pos'} (ha : ES X E a f) : ES X E (.Compare a [.IsNot] [.Constant .none j pos'] pos) (dNotN f) := (pe_cmp (pc_notN ha)).wk fun σ H Q ⟨μ, ρ, S, sl, m, o⟩ =>
  out1 (r := fun x H Q => Q (.bl (!decide (x = .non))) H) sl m uNotN_ok o
end

/-! ### tests -/
/-- a value that is a bool -/
def dTst (f : DE) : DT := fun ρ S => (f ρ S).bind fun d S1 => match d with
  | .bl b => .ok b S1
  | _ => .stuck
section
variable {X : Cx} {E : XK} {e a b : Expr} {f g : DE} {p q : DT} {pos : Pos}
theorem outT_of {μ : Mu} {ρ : Rho} {S : Sto} {σ : L2.St} {H : Hp} {Q : Bool → Hp → Prop} (sl : SlR X.K μ H ρ σ) (m : Sim X.w X.K μ S H) (o : OutT X.w X.K E μ H Q (dTst f ρ S)) : tB (tE X.w X.K E f) σ H Q := by
  refine ⟨μ, ρ, S, sl, m, ?_⟩
  have o1 := OutE.bindT o
  cases q : f ρ S with
  | stuck => rw [q] at o1; exact o1
  | exc x S' => rw [q] at o1; exact o1
  | ok d S1 =>
    rw [q] at o1
    intro μ1 H1 v x m1 p
    obtain ⟨μ1', d', S1', x', m1', p', o2⟩ := o1 μ1 H1 v x m1 p
    split at o2
    · rename_i b
      rw [rep_bl] at p'
      exact ⟨b, p', o2 μ1' H1 .refl m1'⟩
    · exact o2.elim
/-- an expression whose value is a bool -/
theorem te_val (h : ES X E e f) (he : ∀ whole, isTrue e X.env whole = (do let v ← whole; standAt e.pos; holding [v] (truthy v)) := by intro _; rfl) : TSo X E e (dTst f) :=
  (pt_val h he).wk fun σ H Q ⟨μ, ρ, S, sl, m, o⟩ => outT_of sl m o
theorem te_cmp {op' : CmpOp} {op : D → D → Sto → R D} {r : R2} (hr : OpR X (compareOp op') r) (ho : OpS X E r op) (ha : ES X E a f) (hb : ES X E b g) (hm : behindInMarks op' b = false := by first | exact nomark _ | rfl) : TSo X E (.Compare a [op'] [b] pos) (dTst (dOp op f g)) :=
  (pt_cmpR hr ha hb hm).wk fun σ H Q ⟨μ, ρ, S, sl, m, o⟩ => by
    have h := outT_of (f := dOp op f g) sl m o
    obtain ⟨μ', ρ', S', sl', m', o'⟩ := h
    exact out2 sl' m' ho o'
theorem te_gt (ha : ES X E a f) (hb : ES X E b g) : TSo X E (.Compare a [.Gt] [b] pos) (dTst (dOp bGt f g)) := te_cmp op_gt bBl ha hb
theorem te_ge (ha : ES X E a f) (hb : ES X E b g) : TSo X E (.Compare a [.GtE] [b] pos) (dTst (dOp bGe f g)) := te_cmp op_ge bBl ha hb
theorem te_le (ha : ES X E a f) (hb : ES X E b g) : TSo X E (.Compare a [.LtE] [b] pos) (dTst (dOp bLe f g)) := te_cmp op_le bBl ha hb
theorem te_ltI (ha : ES X E a f) (hb : ES X E b g) : TSo X E (.Compare a [.Lt] [b] pos) (dTst (dOp bLt f g)) := te_cmp op_lt bBl ha hb
theorem te_isN {j pos'} (ha : ES X E a f) : TSo X E (.Compare a [.Is] [.Constant .none j pos'] pos) (dTst (dIsN f)) := (pt_cmp (pc_isN ha)).wk fun σ H Q ⟨μ, ρ, S, sl, m, o⟩ => by
  obtain ⟨μ', ρ', S', sl', m', o'⟩ := outT_of (f := dIsN f) sl m o
  exact out1 (r := fun x H Q => Q (.bl (decide (x = .non))) H) sl' m' uIsN_ok o'
theorem te_notN {j pos'} (ha : ES X E a f) : TSo X E (.Compare a [.IsNot] [.Constant .none j pos'] pos) (dTst (dNotN f)) := (pt_cmp (pc_notN ha)).wk fun σ H Q ⟨μ, ρ, S, sl, m, o⟩ => by
  obtain ⟨μ', ρ', S', sl', m', o'⟩ := outT_of (f := dNotN f) sl m o
  exact out1 (r := fun x H Q => Q (.bl (!decide (x = .non))) H) sl' m' uNotN_ok o'
def dAndT (p q : DT) : DT := fun ρ S => (p ρ S).bind fun b S1 => if b = true then q ρ S1 else .ok false S1
def dOrT (p q : DT) : DT := fun ρ S => (p ρ S).bind fun b S1 => if b = true then .ok true S1 else q ρ S1
def dNotT (p : DT) : DT := fun ρ S => (p ρ S).bind fun b S1 => .ok (!b) S1
abbrev WS (X : Cx) (E : XK) (e : Expr) (f : DT) : Prop := PW X e (tT X.w X.K E f)
theorem te_w (h : WS X E e p) : TSo X E e p := PW.pt h
theorem tw_and1 (h : TSo X E a p) : WS X E (.BoolOp .And [a] pos) p := pw_and1 h
theorem tw_or1 (h : TSo X E a p) : WS X E (.BoolOp .Or [a] pos) p := pw_or1 h
theorem outT1 {μ : Mu} {ρ : Rho} {S : Sto} {σ : L2.St} {H : Hp} {Q : Bool → Hp → Prop} {k : Bool → DT} (sl : SlR X.K μ H ρ σ) (m : Sim X.w X.K μ S H) (o : OutT X.w X.K E μ H Q ((p ρ S).bind fun b S1 => k b ρ S1)) :
    tT X.w X.K E p σ H fun b H1 => tT X.w X.K E (k b) σ H1 Q := by
  refine ⟨μ, ρ, S, sl, m, ?_⟩
  have o1 := OutT.bindT o
  cases q : p ρ S with
  | stuck => rw [q] at o1; exact o1
  | exc x S' => rw [q] at o1; exact o1
  | ok d S1 =>
    rw [q] at o1
    intro μ1 H1 x m1
    obtain ⟨μ1', S1', x', m1', o2⟩ := o1 μ1 H1 x m1
    exact ⟨μ1', ρ, S1', sl.ext x', m1', o2⟩
theorem okT {μ : Mu} {S : Sto} {σ : L2.St} {H : Hp} {Q : Bool → Hp → Prop} {b : Bool} : tT X.w X.K E (fun _ S => .ok b S) σ H Q → Q b H := fun ⟨μ, ρ, S, sl, m, o⟩ => o μ H .refl m
theorem tT_mono {σ : L2.St} {H : Hp} {Q Q' : Bool → Hp → Prop} (h : tT X.w X.K E p σ H Q) (k : ∀ b H, Q b H → Q' b H) : tT X.w X.K E p σ H Q' := by
  obtain ⟨μ, ρ, S, sl, m, o⟩ := h
  refine ⟨μ, ρ, S, sl, m, ?_⟩
  cases q : p ρ S with
  | stuck => rw [q] at o; exact o
  | exc x S' => rw [q] at o; exact o
  | ok d S1 => rw [q] at o; exact fun μ' H' x m' => k _ _ (o μ' H' x m')
theorem tE_mono {σ : L2.St} {H : Hp} {Q Q' : VK} (h : tE X.w X.K E f σ H Q) (k : ∀ b H, Q b H → Q' b H) : tE X.w X.K E f σ H Q' := by
  obtain ⟨μ, ρ, S, sl, m, o⟩ := h
  refine ⟨μ, ρ, S, sl, m, ?_⟩
  cases q : f ρ S with
  | stuck => rw [q] at o; exact o
  | exc x S' => rw [q] at o; exact o
  | ok d S1 => rw [q] at o; exact fun μ' H' v x m' r => k _ _ (o μ' H' v x m' r)
theorem tw_and {rest : List Expr} (ha : TSo X E a p) (hb : WS X E (.BoolOp .And (b :: rest) pos) q) : WS X E (.BoolOp .And (a :: b :: rest) pos) (dAndT p q) :=
  (pw_and ha hb).wk fun σ H Q ⟨μ, ρ, S, sl, m, o⟩ => by
    have h := outT1 (X := X) (E := E) (p := p) (k := fun b => fun ρ S1 => if b = true then q ρ S1 else .ok false S1) sl m o
    refine tT_mono h fun b H1 h1 => ?_
    cases b with
    | true => exact h1
    | false => exact okT (μ := μ) (S := S) h1
theorem tw_or {rest : List Expr} (ha : TSo X E a p) (hb : WS X E (.BoolOp .Or (b :: rest) pos) q) : WS X E (.BoolOp .Or (a :: b :: rest) pos) (dOrT p q) :=
  (pw_or ha hb).wk fun σ H Q ⟨μ, ρ, S, sl, m, o⟩ => by
    have h := outT1 (X := X) (E := E) (p := p) (k := fun b => fun ρ S1 => if b = true then .ok true S1 else q ρ S1) sl m o
    refine tT_mono h fun b H1 h1 => ?_
    cases b with
    | true => exact okT (μ := μ) (S := S) h1
    | false => exact h1
theorem te_not (ha : TSo X E a p) : TSo X E (.UnaryOp .Not a pos) (dNotT p) := (pt_not ha).wk fun σ H Q ⟨μ, ρ, S, sl, m, o⟩ => by
  have h := outT1 (X := X) (E := E) (p := p) (k := fun b => fun ρ S1 => .ok (!b) S1) sl m o
  exact tT_mono h fun b H1 h1 => okT (μ := μ) (S := S) h1
/-- and, or, not as values: of bools -/
def dAndV (f g : DE) : DE := fun ρ S => (f ρ S).bind fun d S1 => match d with
  | .bl true => g ρ S1
  | .bl false => .ok (.bl false) S1
  | _ => .stuck
def dOrV (f g : DE) : DE := fun ρ S => (f ρ S).bind fun d S1 => match d with
  | .bl true => .ok (.bl true) S1
  | .bl false => g ρ S1
  | _ => .stuck
def dNotV (f : DE) : DE := dUn (fun d S => match d with
  | .bl b => .ok (.bl (!b)) S
  | _ => .stuck) f
theorem ev_one {op : BoolOp} (h : ES X E a f) : ES X E (.BoolOp op [a] pos) f := pe_one h
theorem outE1 {μ : Mu} {ρ : Rho} {S : Sto} {σ : L2.St} {H : Hp} {Q : VK} {k : D → DE} (sl : SlR X.K μ H ρ σ) (m : Sim X.w X.K μ S H) (o : OutE X.w X.K E μ H Q ((f ρ S).bind fun d S1 => k d ρ S1)) :
    tE X.w X.K E f σ H fun v H1 => ∃ μ1 d S1, Sim X.w X.K μ1 S1 H1 ∧ Rep X.K μ1 H1 d v ∧ SlR X.K μ1 H1 ρ σ ∧ OutE X.w X.K E μ1 H1 Q (k d ρ S1) := by
  refine ⟨μ, ρ, S, sl, m, ?_⟩
  have o1 := OutE.bind o
  cases q : f ρ S with
  | stuck => rw [q] at o1; exact o1
  | exc x S' => rw [q] at o1; exact o1
  | ok d S1 =>
    rw [q] at o1
    intro μ1 H1 v x m1 p
    obtain ⟨μ1', d', S1', x', m1', p', o2⟩ := o1 μ1 H1 v x m1 p
    exact ⟨μ1', d', S1', m1', p', sl.ext x', o2⟩
theorem ev_andV {rest : List Expr} (ha : ES X E a f) (hb : ES X E (.BoolOp .And (b :: rest) pos) g) : ES X E (.BoolOp .And (a :: b :: rest) pos) (dAndV f g) :=
  (pe_and ha hb).wk fun σ H Q ⟨μ, ρ, S, sl, m, o⟩ => by
    refine tE_mono (outE1 (X := X) (E := E) (f := f) (k := fun d => fun ρ S1 => match d with
      | .bl true => g ρ S1
      | .bl false => .ok (.bl false) S1
      | _ => .stuck) sl m o) fun v H1 h => ?_
    obtain ⟨μ1, d, S1, m1, p, sl1, o1⟩ := h
    split at o1
    · rw [rep_bl] at p
      exact ⟨true, p, (if_pos rfl : (if true = true then _ else _) = _) ▸ ⟨μ1, ρ, S1, sl1, m1, o1⟩⟩
    · rw [rep_bl] at p
      exact ⟨false, p, o1 μ1 H1 _ .refl m1 (rep_bl.mpr rfl)⟩
    · exact o1.elim
theorem ev_orV {rest : List Expr} (ha : ES X E a f) (hb : ES X E (.BoolOp .Or (b :: rest) pos) g) : ES X E (.BoolOp .Or (a :: b :: rest) pos) (dOrV f g) :=
  (pe_or ha hb).wk fun σ H Q ⟨μ, ρ, S, sl, m, o⟩ => by
    refine tE_mono (outE1 (X := X) (E := E) (f := f) (k := fun d => fun ρ S1 => match d with
      | .bl true => .ok (.bl true) S1
      | .bl false => g ρ S1
      | _ => .stuck) sl m o) fun v H1 h => ?_
    obtain ⟨μ1, d, S1, m1, p, sl1, o1⟩ := h
    split at o1
    · rw [rep_bl] at p
      exact ⟨true, p, o1 μ1 H1 _ .refl m1 (rep_bl.mpr rfl)⟩
    · rw [rep_bl] at p
      exact ⟨false, p, ⟨μ1, ρ, S1, sl1, m1, o1⟩⟩
    · exact o1.elim
theorem ev_notV (ha : ES X E a f) : ES X E (.UnaryOp .Not a pos) (dNotV f) := (pe_not ha).wk fun σ H Q ⟨μ, ρ, S, sl, m, o⟩ =>
  out1 (r := fun x H1 Q => ∃ c, x = .bl c ∧ Q (.bl (!c)) H1) sl m (fun μ S H a x Q m ra o => by
    split at o
    · rename_i b
      rw [rep_bl] at ra
      exact ⟨b, ra, o μ H _ .refl m (rep_bl.mpr rfl)⟩
    · exact o.elim) o
def dIf (p : DT) (f g : DE) : DE := fun ρ S => (p ρ S).bind fun b S1 => if b = true then f ρ S1 else g ρ S1
theorem ev_if {c : Expr} (hc : TSo X E c p) (ha : ES X E a f) (hb : ES X E b g) : ES X E (.IfExp c a b pos) (dIf p f g) := (pe_ifExp hc ha hb).wk fun σ H Q ⟨μ, ρ, S, sl, m, o⟩ => by
  refine ⟨μ, ρ, S, sl, m, ?_⟩
  have o1 := OutT.bind o
  cases q : p ρ S with
  | stuck => rw [q] at o1; exact o1
  | exc x S' => rw [q] at o1; exact o1
  | ok d S1 =>
    rw [q] at o1
    intro μ1 H1 x m1
    obtain ⟨μ1', S1', x', m1', o2⟩ := o1 μ1 H1 x m1
    cases d with
    | true => exact ⟨μ1', ρ, S1', sl.ext x', m1', o2⟩
    | false => exact ⟨μ1', ρ, S1', sl.ext x', m1', o2⟩
/-- a op1 b op2 c -/
def chainK (o2 : D → D → Sto → R D) (h : DE) (ρ : Rho) (b : D) : D → Sto → R D
  | .bl true, S3 => (h ρ S3).bind fun e S4 => o2 b e S4
  | .bl false, S3 => .ok (.bl false) S3
  | _, _ => .stuck
def dChain (o1 o2 : D → D → Sto → R D) (f g h : DE) : DE := fun ρ S => (f ρ S).bind fun a S1 => (g ρ S1).bind fun b S2 => (o1 a b S2).bind (chainK o2 h ρ b)
/-- the operator's answer is a value that asks nothing of the heap -/
def OpF (X : Cx) (r : R2) (op : D → D → Sto → R D) : Prop := ∀ (μ : Mu) (S : Sto) (H : Hp) (a b : D) (x y : V) (d : D) (S' : Sto) (Q : VK), Sim X.w X.K μ S H → Rep X.K μ H a x → Rep X.K μ H b y → op a b S = .ok d S' → (S' = S ∧ ((∀ v, Rep X.K μ H d v → Q v H) → r x y H Q))
theorem bI_f {g : Int → Int → Bool} : OpF X (rI0 fun i j => .bl (g i j)) (bI fun i j => .bl (g i j)) := by
  intro μ S H a b x y d S' Q m ra rb e
  unfold bI at e
  split at e
  · rename_i i j
    cases e
    rw [rep_int] at ra rb
    exact ⟨rfl, fun q => ⟨i, j, ra, rb, q _ (rep_bl.mpr rfl)⟩⟩
  · cases e
theorem out_chain {r r' : R2} {o1 o2 : D → D → Sto → R D} {h : DE} {μ : Mu} {ρ : Rho} {S : Sto} {σ : L2.St} {H : Hp} {Q : VK} (f1 : OpF X r o1) (f2 : OpS X E r' o2) (hex : ∀ a b S x S', o1 a b S ≠ .exc x S') (sl : SlR X.K μ H ρ σ) (m : Sim X.w X.K μ S H) (o : OutE X.w X.K E μ H Q (dChain o1 o2 f g h ρ S)) :
    tChain r r' (tE X.w X.K E f) (tE X.w X.K E g) (tE X.w X.K E h) σ H Q := by
  refine tE_mono (outE1 (X := X) (E := E) (f := f) (k := fun a => fun ρ S1 => (g ρ S1).bind fun b S2 => (o1 a b S2).bind (chainK o2 h ρ b)) sl m o) fun v H1 ⟨μ1, d, S1, m1, p1, sl1, q1⟩ => ?_
  -- b, with a's value carried along
  have q1' := OutE.bind q1
  refine ⟨μ1, ρ, S1, sl1, m1, ?_⟩
  cases eg : g ρ S1 with
  | stuck => rw [eg] at q1'; exact q1'
  | exc x S' => rw [eg] at q1'; exact q1'
  | ok d2 S2 =>
    rw [eg] at q1'
    intro μ2 H2 u x2 m2 p2
    obtain ⟨μ2', d2', S2', x2', m2', p2', q2⟩ := q1' μ2 H2 u x2 m2 p2
    cases e1 : o1 d d2' S2' with
    | stuck => rw [e1] at q2; exact q2.elim
    | exc x S' => exact absurd e1 (hex _ _ _ _ _)
    | ok c S3 =>
      rw [e1] at q2
      obtain ⟨rfl, k⟩ := f1 μ2' S2' H2 d d2' v u c S3 _ m2' (p1.ext x2') p2' e1
      refine k fun z rz => ?_
      have q2 : OutE X.w X.K E μ2' H2 Q (chainK o2 h ρ d2' c S3) := q2
      clear e1 k
      unfold chainK at q2
      split at q2
      · rw [rep_bl] at rz
        refine ⟨true, rz, ?_⟩
        rw [if_pos rfl]
        refine ⟨μ2', ρ, S3, sl1.ext x2', m2', ?_⟩
        have q3 := OutE.bind q2
        cases eh : h ρ S3 with
        | stuck => rw [eh] at q3; exact q3
        | exc x S' => rw [eh] at q3; exact q3
        | ok d4 S4 =>
          rw [eh] at q3
          intro μ4 H4 w4 x4 m4 p4
          obtain ⟨μ4', d4', S4', x4', m4', p4', q4⟩ := q3 μ4 H4 w4 x4 m4 p4
          exact f2 μ4' S4' H4 d2' d4' u w4 Q m4' (p2'.ext x4') p4' q4
      · rw [rep_bl] at rz
        refine ⟨false, rz, ?_⟩
        rw [if_neg (by decide)]
        exact q2 μ2' H2 _ .refl m2' (rep_bl.mpr rfl)
      · exact q2.elim
theorem bI_nx {g : Int → Int → D} : ∀ a b S x S', bI g a b S ≠ .exc x S' := fun a b S x S' h => by
  unfold bI at h
  split at h <;> cases h
variable {c : Expr} {h : DE}
theorem ev_chain {k1 k2 : CmpOp} {g1 g2 : Int → Int → Bool} (r1 : OpR X (compareOp k1) (rI0 fun i j => .bl (g1 i j))) (r2 : OpR X (compareOp k2) (rI0 fun i j => .bl (g2 i j))) (ha : ES X E a f) (hb : ES X E b g) (hc : ES X E c h)
    (hm : lastMarks [k1, k2] [b, c] = false := by with_unfolding_all rfl) : ES X E (.Compare a [k1, k2] [b, c] pos) (dChain (bI fun i j => .bl (g1 i j)) (bI fun i j => .bl (g2 i j)) f g h) :=
  (pe_chain r1 r2 ha hb hc hm).wk fun σ H Q ⟨μ, ρ, S, sl, m, o⟩ => out_chain bI_f bBl bI_nx sl m o
theorem te_chain {k1 k2 : CmpOp} {g1 g2 : Int → Int → Bool} (r1 : OpR X (compareOp k1) (rI0 fun i j => .bl (g1 i j))) (r2 : OpR X (compareOp k2) (rI0 fun i j => .bl (g2 i j))) (ha : ES X E a f) (hb : ES X E b g) (hc : ES X E c h)
    (hm : lastMarks [k1, k2] [b, c] = false := by with_unfolding_all rfl) : TSo X E (.Compare a [k1, k2] [b, c] pos) (dTst (dChain (bI fun i j => .bl (g1 i j)) (bI fun i j => .bl (g2 i j)) f g h)) :=
  (pt_chain r1 r2 ha hb hc hm).wk fun σ H Q ⟨μ, ρ, S, sl, m, o⟩ => by
    obtain ⟨μ', ρ', S', sl', m', o'⟩ := outT_of (f := dChain (bI fun i j => .bl (g1 i j)) (bI fun i j => .bl (g2 i j)) f g h) sl m o
    exact out_chain bI_f bBl bI_nx sl' m' o'
end
end Ev

set_option Elab.async false
set_option linter.all false
set_option maxRecDepth 100000
set_option maxHeartbeats 4000000
/-! EvC: arguments, displays, calls of defs and of built-ins, subscripts, slices, lists' methods. -/
namespace Ev
open PySem PySem.Spec PyProof.Rows L2

/-! ### argument lists -/
def dNil : DA := fun _ S => .ok [] S
def dCons (f : DE) (t : DA) : DA := fun ρ S => (f ρ S).bind fun d S1 => (t ρ S1).bind fun ds S2 => .ok (d :: ds) S2
section
variable {X : Cx} {E : XK} {e : Expr} {es : List Expr} {f : DE} {t : DA} {pos : Pos}
theorem ea_nil : AS X E [] dNil := pa_nil.wk fun σ H Q ⟨μ, ρ, S, sl, m, o⟩ => o μ H [] .refl m (reps_nil.mpr rfl)
theorem ea_cons (ha : ES X E e f) (hr : AS X E es t) (hs : starEach (e :: es) X.env = (false, eval e X.env) :: starEach es X.env := by rfl) : AS X E (e :: es) (dCons f t) := (pa_cons ha hr hs).wk fun σ H Q ⟨μ, ρ, S, sl, m, o⟩ => by
  refine ⟨μ, ρ, S, sl, m, ?_⟩
  have o1 := OutE.bindA o
  cases q : f ρ S with
  | stuck => rw [q] at o1; exact o1
  | exc x S' => rw [q] at o1; exact o1
  | ok d S1 =>
    rw [q] at o1
    intro μ1 H1 v x m1 p
    obtain ⟨μ1', d', S1', x', m1', p', o2⟩ := o1 μ1 H1 v x m1 p
    refine ⟨μ1', ρ, S1', sl.ext x', m1', ?_⟩
    have o3 := OutA.bindA o2
    cases q2 : t ρ S1' with
    | stuck => rw [q2] at o3; exact o3
    | exc x S' => rw [q2] at o3; exact o3
    | ok ds S2 =>
      rw [q2] at o3
      intro μ2 H2 vs x2 m2 p2
      obtain ⟨μ2', ds', S2', x2', m2', p2', o4⟩ := o3 μ2 H2 vs x2 m2 p2
      exact o4 μ2' H2 (v :: vs) .refl m2' (reps_cons.mpr ⟨v, vs, rfl, p'.ext x2', p2'⟩)
theorem outA1 {μ : Mu} {ρ : Rho} {S : Sto} {σ : L2.St} {H : Hp} {Q : VK} {k : List D → Sto → R D} (sl : SlR X.K μ H ρ σ) (m : Sim X.w X.K μ S H) (o : OutE X.w X.K E μ H Q ((t ρ S).bind k)) :
    tA X.w X.K E t σ H fun vs H1 => ∃ μ1 ds S1, Ext μ H μ1 H1 ∧ Sim X.w X.K μ1 S1 H1 ∧ Reps X.K μ1 H1 ds vs ∧ OutE X.w X.K E μ1 H1 Q (k ds S1) := by
  refine ⟨μ, ρ, S, sl, m, ?_⟩
  have o1 := OutA.bind o
  cases q : t ρ S with
  | stuck => rw [q] at o1; exact o1
  | exc x S' => rw [q] at o1; exact o1
  | ok d S1 => rw [q] at o1; exact o1

/-! ### displays -/
def newTup (ds : List D) (S : Sto) : R D := if ds.length ≤ sizeLine then .ok (.tup ds) S else .stuck
/-- a list as a value: nobody changes it -/
def newLst (ds : List D) (S : Sto) : R D := if ds.length ≤ sizeLine then .ok (.lst ds) S else .stuck
/-- a list with a place -/
def newLoc (ds : List D) (S : Sto) : R D := if ds.length ≤ sizeLine then .ok (.loc S.length) (S ++ [.lst ds]) else .stuck
theorem newTup_ok {μ : Mu} {S : Sto} {H : Hp} {Q : VK} {ds : List D} {vs : List V} (m : Sim X.w X.K μ S H) (r : Reps X.K μ H ds vs) (o : OutE X.w X.K E μ H Q (newTup ds S)) :
    vs.length ≤ sizeLine ∧ ∀ p, H p = none → Q (.ref p) (upd H p (.tup vs)) := by
  unfold newTup at o
  split at o
  · rename_i hz
    refine ⟨by rw [r.length]; exact hz, fun p np => ?_⟩
    exact o μ _ _ (.new np) (m.new np) (rep_tup.mpr ⟨p, vs, rfl, .inl ⟨m.fresh np, .inl upd_same⟩, Reps.ext (.new np) _ _ r⟩)
  · exact o.elim
theorem newLst_ok {μ : Mu} {S : Sto} {H : Hp} {Q : VK} {ds : List D} {vs : List V} (m : Sim X.w X.K μ S H) (r : Reps X.K μ H ds vs) (o : OutE X.w X.K E μ H Q (newLst ds S)) :
    vs.length ≤ sizeLine ∧ ∀ p, H p = none → Q (.ref p) (upd H p (.lst vs)) := by
  unfold newLst at o
  split at o
  · rename_i hz
    refine ⟨by rw [r.length]; exact hz, fun p np => ?_⟩
    exact o μ _ _ (.new np) (m.new np) (rep_lst.mpr ⟨p, vs, rfl, .inl ⟨m.fresh np, .inl upd_same⟩, Reps.ext (.new np) _ _ r⟩)
  · exact o.elim
theorem newLoc_ok {μ : Mu} {S : Sto} {H : Hp} {Q : VK} {ds : List D} {vs : List V} (m : Sim X.w X.K μ S H) (r : Reps X.K μ H ds vs) (o : OutE X.w X.K E μ H Q (newLoc ds S)) :
    vs.length ≤ sizeLine ∧ ∀ p, H p = none → Q (.ref p) (upd H p (.lst vs)) := by
  unfold newLoc at o
  split at o
  · rename_i hz
    refine ⟨by rw [r.length]; exact hz, fun p np => ?_⟩
    refine o (μ.push p) _ _ (.push np) (m.push np ⟨vs, upd_same, Reps.ext (.push np) _ _ r⟩) (rep_loc.mpr ⟨p, rfl, ?_⟩)
    rw [← m.len]; exact Mu.last
  · exact o.elim
def dTup (t : DA) : DE := fun ρ S => (t ρ S).bind newTup
def dLst (t : DA) : DE := fun ρ S => (t ρ S).bind newLst
def dLoc (t : DA) : DE := fun ρ S => (t ρ S).bind newLoc
theorem tA_mono {σ : L2.St} {H : Hp} {Q Q' : List V → Hp → Prop} (h : tA X.w X.K E t σ H Q) (k : ∀ b H, Q b H → Q' b H) : tA X.w X.K E t σ H Q' := by
  obtain ⟨μ, ρ, S, sl, m, o⟩ := h
  refine ⟨μ, ρ, S, sl, m, ?_⟩
  cases q : t ρ S with
  | stuck => rw [q] at o; exact o
  | exc x S' => rw [q] at o; exact o
  | ok d S1 => rw [q] at o; exact fun μ' H' v x m' r => k _ _ (o μ' H' v x m' r)
theorem ev_tup {x1} (h : AS X E es t) : ES X E (.Tuple es x1 pos) (dTup t) := (pe_tup h).wk fun σ H Q ⟨μ, ρ, S, sl, m, o⟩ =>
  tA_mono (outA1 sl m o) fun vs H1 ⟨μ1, ds, S1, _, m1, r1, o1⟩ => newTup_ok m1 r1 o1
theorem ev_lst (h : AS X E es t) : ES X E (.List es pos) (dLst t) := (pe_lst h).wk fun σ H Q ⟨μ, ρ, S, sl, m, o⟩ =>
  tA_mono (outA1 sl m o) fun vs H1 ⟨μ1, ds, S1, _, m1, r1, o1⟩ => newLst_ok m1 r1 o1
theorem ev_loc (h : AS X E es t) : ES X E (.List es pos) (dLoc t) := (pe_lst h).wk fun σ H Q ⟨μ, ρ, S, sl, m, o⟩ =>
  tA_mono (outA1 sl m o) fun vs H1 ⟨μ1, ds, S1, _, m1, r1, o1⟩ => newLoc_ok m1 r1 o1
end

/-! ### what a sequence holds -/
/-- a tuple's items -/
def tupOf : D → Option (List D)
  | .tup ds => some ds
  | _ => none
/-- a list's items, as they stand -/
def lstOf (S : Sto) : D → Option (List D)
  | .lst ds => some ds
  | .loc n => match S[n]? with
    | some (.lst ds) => some ds
    | _ => none
  | _ => none
def seqOf (S : Sto) (d : D) : Option (List D) := match d with
  | .tup ds => some ds
  | .lst ds => some ds
  | .loc n => match S[n]? with
    | some (.lst ds) => some ds
    | _ => none
  | _ => none
section
variable {w : World} {K : PySem.W.Frag} {μ : Mu} {S : Sto} {H : Hp} {d : D} {v : V}
theorem lstOf_ok {ds : List D} (m : Sim w K μ S H) (r : Rep K μ H d v) (e : lstOf S d = some ds) : ∃ a vs, v = .ref a ∧ SqL K H a vs ∧ Reps K μ H ds vs := by
  cases d with
  | lst xs =>
    cases e
    rw [rep_lst] at r
    obtain ⟨a, vs, e1, f, r⟩ := r
    exact ⟨a, vs, e1, f.sq, r⟩
  | loc n =>
    rw [rep_loc] at r
    obtain ⟨a, e1, f⟩ := r
    have e' : (match S[n]? with
      | some (.lst ds) => some ds
      | _ => none) = some ds := e
    split at e'
    · rename_i ds' e2
      cases e'
      obtain ⟨vs, h1, h2⟩ := m.ob n _ a e2 f
      exact ⟨a, vs, e1, .of h1, h2⟩
    · cases e'
  | _ => cases e
theorem tupOf_ok {ds : List D} (r : Rep K μ H d v) (e : tupOf d = some ds) : ∃ a vs, v = .ref a ∧ SqT K H a vs ∧ Reps K μ H ds vs := by
  cases d with
  | tup xs =>
    cases e
    rw [rep_tup] at r
    obtain ⟨a, vs, e1, f, r⟩ := r
    exact ⟨a, vs, e1, f.sq, r⟩
  | _ => cases e
theorem seqOf_ok {ds : List D} (m : Sim w K μ S H) (r : Rep K μ H d v) (e : seqOf S d = some ds) : ∃ a vs, v = .ref a ∧ (SqL K H a vs ∨ SqT K H a vs) ∧ Reps K μ H ds vs := by
  cases d with
  | tup xs =>
    obtain ⟨a, vs, e1, f, r⟩ := tupOf_ok r e
    exact ⟨a, vs, e1, .inr f, r⟩
  | lst xs =>
    obtain ⟨a, vs, e1, f, r⟩ := lstOf_ok m r e
    exact ⟨a, vs, e1, .inl f, r⟩
  | loc n =>
    obtain ⟨a, vs, e1, f, r⟩ := lstOf_ok (ds := ds) m r e
    exact ⟨a, vs, e1, .inl f, r⟩
  | _ => cases e
/-- a place's own list -/
theorem loc_lst {n : Nat} {ds : List D} (m : Sim w K μ S H) (r : Rep K μ H (.loc n) v) (e : S[n]? = some (.lst ds)) : ∃ a vs, v = .ref a ∧ μ.l[n]? = some a ∧ H a = some (.lst vs) ∧ Reps K μ H ds vs := by
  rw [rep_loc] at r
  obtain ⟨a, e1, f⟩ := r
  obtain ⟨vs, h1, h2⟩ := m.ob n _ a e f
  exact ⟨a, vs, e1, f, h1, h2⟩
end

/-! ### calls of defs -/
/-- a def as a function of values: n parameters, s slots -/
def mkFn (n s : Nat) (body : DS) : Fn := fun ds S =>
  if ds.length = n then match body (ds.map some ++ List.replicate (s - n) none) S with
    | .ret d S' => .ok d S'
    | .nx _ S' => .ok .non S'
    | .exc x S' => .exc x S'
    | _ => .stuck
  else .stuck
/-- room for k calls, and no repr under way -/
structure Rm (k : Nat) (A : Around) : Prop where
  room : Room k A
  gd : A.guards = some []
theorem Rm.mono {j k : Nat} {A : Around} (r : Rm k A) (h : j ≤ k) : Rm j A := ⟨r.room.mono h, r.gd⟩
def spOf (w : World) (K : PySem.W.Frag) (fn : Fn) : Sp := fun vs H Q E => ∃ μ S ds, Reps K μ H ds vs ∧ Sim w K μ S H ∧ OutE w K E μ H Q (fn ds S)
/-- the def at f has the denotation fn, called where no repr is under way -/
structure FnG (P : Program) (w : World) (K : PySem.W.Frag) (mg : Str → Option Value) (base : Heap) (CX : CXT) (k : Nat) (f : Addr) (fd : FuncData) (ps : List Str) (fn : Fn) : Prop where
  len : ∀ ds S, ds.length ≠ ps.length → fn ds S = .stuck
  run : ∀ (A : Around) (outer : List Env) (s : Shared) (H : Hp) (args : Args) (us : List Value) (vs : List V) (Q : VK) (E : XK), Rm k A → Env0 P w K mg base A outer s H → BindsTo s fd args (ps.zip us) → Vals vs us → spOf w K fn vs H Q E →
    codeAny (model P w) A (.call (.ref f) args) (CR CX outer P w H s Q E) s
theorem FnG.vlen {P : Program} {w : World} {K : PySem.W.Frag} {mg : Str → Option Value} {base : Heap} {CX : CXT} {k : Nat} {f : Addr} {fd : FuncData} {ps : List Str} {fn : Fn} (F : FnG P w K mg base CX k f fd ps fn) {vs : List V} {H : Hp} {Q : VK} {E : XK} (h : spOf w K fn vs H Q E) : vs.length = ps.length := by
  obtain ⟨μ, S, ds, r, m, o⟩ := h
  rw [r.length]
  by_cases e : ds.length = ps.length
  · exact e
  · rw [F.len ds S e] at o
    exact o.elim
/-- a def of the module's, with the denotation fn -/
def Cal (P : Program) (w : World) (K : PySem.W.Frag) (mg : Str → Option Value) (base : Heap) (CX : CXT) (k : Nat) (x : Str) (ps : List Str) (fn : Fn) : Prop :=
  ∃ f fd, FnG P w K mg base CX k f fd ps fn ∧ mg x = some (.ref f) ∧ PySem.W.keepIn K (.ref f) = true ∧ ∃ params body scope, FunD K x x params body scope [] [] f fd ∧ Binds K fd ps []
theorem Cal.mono {P : Program} {w : World} {K : PySem.W.Frag} {mg : Str → Option Value} {base : Heap} {CX : CXT} {j k : Nat} {x : Str} {ps : List Str} {fn : Fn} (c : Cal P w K mg base CX j x ps fn) (h : j ≤ k) : Cal P w K mg base CX k x ps fn := by
  obtain ⟨f, fd, F, r⟩ := c
  exact ⟨f, fd, ⟨F.len, fun A outer s H args us vs Q E hr => F.run A outer s H args us vs Q E (hr.mono h)⟩, r⟩
def dCall (fn : Fn) (t : DA) : DE := fun ρ S => (t ρ S).bind fn
section
variable {X : Cx} {E : XK} {CX : CXT} {k : Nat} {x : Str} {fn : Fn} {e : Expr} {es : List Expr} {t : DA} {p pos : Pos} {f : Addr} {fd : FuncData} {ps : List Str}
/-- the callee runs; however its arguments were bound -/
theorem FnG.called {pins : List (Addr × Obj)} {σ : L2.St} {H : Hp} {s : Shared} {Q : VK} {pv us : List Value} {kw : List (Str × Value)} {vs : List V} (F : FnG X.prog X.w X.K X.mg X.base CX k f fd ps fn) (hr : Rm k X.A) (hx : Passes CX X E)
    (I : Inv X pins σ H s) (hb : BindsTo s fd ⟨pv, kw⟩ (ps.zip us)) (r : Vals vs us) (h : spOf X.w X.K fn vs H Q E) : wpAny (model X.prog X.w) X.A (PySem.call (.ref f) pv kw) (EP X pins σ Q) X.xe s := by
  refine wpAny_call (codeAny_mono (F.run X.A X.stack s H ⟨pv, kw⟩ us vs Q E hr I.env0 hb r h) fun res s' hq => ?_)
  match res, hq with
  | .error e', hq => exact hx pins σ H s e' s' I hq
  | .ok (.ret u), hq => exact I.after hq
theorem ev_call (C : Cal X.prog X.w X.K X.mg X.base CX k x ps fn) (hr : Rm k X.A) (hx : Passes CX X E) (ha : AS X E (e :: es) t) (hg : Gl X x := by rfl) (hdb : (x == ("__debug__" : Str)) = false := by decide)
    (he : starEach (e :: es) X.env = (false, eval e X.env) :: starEach es X.env := by rfl) (hpl : (backTo pos (starEach es X.env)).any (·.1) = false := by rfl) : ES X E (.Call (.Name x p) (e :: es) [] pos) (dCall fn t) := by
  obtain ⟨f, fd, F, hm, hk, _, _, _, _, hb⟩ := C
  refine ⟨fun pins s σ H Q I ⟨μ, ρ, S, sl, m, o⟩ => ?_⟩
  refine wpAny_Call_Name_kw (ld_glob I hg hm ?_ hdb)
  refine PySem.W.callWith_K (h₀ := X.base) I.ok.mod.kin hk (thn (ha.run pos pins s σ H _ I (outA1 sl m o)) fun us s1 ⟨vs, H1, I1, r, μ1, ds, S1, _, m1, r1, o1⟩ => ⟨I1.kIn, ?_⟩) he hpl
  have hsp : spOf X.w X.K fn vs H1 Q E := ⟨μ1, S1, ds, r1, m1, o1⟩
  have hl : (us ++ []).length = ps.length := by rw [List.append_nil, ← r.length]; exact F.vlen hsp
  have hb' := hb s1 us I1.kIn hl
  rw [List.append_nil] at hb'
  exact F.called hr hx I1 hb' r hsp
theorem ev_call0 (C : Cal X.prog X.w X.K X.mg X.base CX k x ps fn) (hr : Rm k X.A) (hx : Passes CX X E) (hg : Gl X x := by rfl) (hdb : (x == ("__debug__" : Str)) = false := by decide) : ES X E (.Call (.Name x p) [] [] pos) (dCall fn dNil) := by
  obtain ⟨f, fd, F, hm, hk, _, _, _, _, hb⟩ := C
  refine ⟨fun pins s σ H Q I ⟨μ, ρ, S, sl, m, o⟩ => ?_⟩
  refine wpAny_Call_Name_kw (ld_glob I hg hm ?_ hdb)
  have hsp : spOf X.w X.K fn [] H Q E := ⟨μ, S, [], reps_nil.mpr rfl, m, o⟩
  have hl : (([] : List Value) ++ []).length = ps.length := F.vlen hsp
  have hb' := hb s [] I.kIn hl
  exact PySem.W.callWith_K0 I.kIn hk (F.called hr hx I hb' .nil hsp)
/-- keywords alone: the values in the order of ks, put in the parameters' order by the places ix -/
def arr {α : Type} (ix : List Nat) (ws : List α) : List α := ix.filterMap fun i => ws[i]?
theorem arr_vals {vs : List V} {ws : List Value} (r : Vals vs ws) : ∀ ix : List Nat, Vals (arr ix vs) (arr ix ws)
  | [] => .nil
  | i :: ix => by
    show Vals (List.filterMap _ _) (List.filterMap _ _)
    rw [List.filterMap_cons, List.filterMap_cons]
    cases q : vs[i]? with
    | none => rw [r.none_of q]; exact arr_vals r ix
    | some v =>
      obtain ⟨u, e1, e2⟩ := r.get q
      rw [e1]
      exact .cons e2 (arr_vals r ix)
theorem arr_reps {K : PySem.W.Frag} {μ : Mu} {H : Hp} {ds : List D} {vs : List V} (r : Reps K μ H ds vs) : ∀ ix : List Nat, Reps K μ H (arr ix ds) (arr ix vs)
  | [] => reps_nil.mpr rfl
  | i :: ix => by
    show Reps _ _ _ (List.filterMap _ _) (List.filterMap _ _)
    rw [List.filterMap_cons, List.filterMap_cons]
    cases q : ds[i]? with
    | none =>
      have h1 := List.getElem?_eq_none_iff.mp q
      rw [List.getElem?_eq_none (by rw [r.length]; exact h1)]
      exact arr_reps r ix
    | some d =>
      obtain ⟨v, e1, e2⟩ := r.get q
      rw [e1]
      exact reps_cons.mpr ⟨v, _, rfl, e2, arr_reps r ix⟩
abbrev KS (X : Cx) (E : XK) (kws : List Keyword) (f : DA) : Prop := PK X kws (tA X.w X.K E f)
variable {kws : List Keyword} {nm : Option Str} {kpos : Pos} {g : DE}
theorem ek_nil : KS X E [] dNil := ⟨fun pos pins s σ H Q I ⟨μ, ρ, S, sl, m, o⟩ => pk_nil.run pos pins s σ H Q I (o μ H [] .refl m (reps_nil.mpr rfl))⟩
theorem ek_cons (ha : ES X E e g) (hr : KS X E kws t) : KS X E (⟨nm, e, kpos⟩ :: kws) (dCons g t) := ⟨fun pos pins s σ H Q I ⟨μ, ρ, S, sl, m, o⟩ => by
  refine (pk_cons ha hr).run pos pins s σ H Q I ?_
  refine ⟨μ, ρ, S, sl, m, ?_⟩
  have o1 := OutE.bindA o
  cases q : g ρ S with
  | stuck => rw [q] at o1; exact o1
  | exc x S' => rw [q] at o1; exact o1
  | ok d S1 =>
    rw [q] at o1
    intro μ1 H1 v x m1 p
    obtain ⟨μ1', d', S1', x', m1', p', o2⟩ := o1 μ1 H1 v x m1 p
    refine ⟨μ1', ρ, S1', sl.ext x', m1', ?_⟩
    have o3 := OutA.bindA o2
    cases q2 : t ρ S1' with
    | stuck => rw [q2] at o3; exact o3
    | exc x S' => rw [q2] at o3; exact o3
    | ok ds S2 =>
      rw [q2] at o3
      intro μ2 H2 vs x2 m2 p2
      obtain ⟨μ2', ds', S2', x2', m2', p2', o4⟩ := o3 μ2 H2 vs x2 m2 p2
      exact o4 μ2' H2 (v :: vs) .refl m2' (reps_cons.mpr ⟨v, vs, rfl, p'.ext x2', p2'⟩)⟩
/-- how keywords bind -/
def KB (K : PySem.W.Frag) (fd : FuncData) (ps ks : List Str) (ix : List Nat) : Prop := ∀ (s : Shared) (ws : List Value), K.In s.heap → (arr ix ws).length = ps.length → BindsTo s fd ⟨[], ks.zip ws⟩ (ps.zip (arr ix ws))
def dCallK (ix : List Nat) (fn : Fn) (t : DA) : DE := fun ρ S => (t ρ S).bind fun ds S1 => fn (arr ix ds) S1
theorem ev_callK {ix : List Nat} {ks : List Str} (C : Cal X.prog X.w X.K X.mg X.base CX k x ps fn) (hb : ∀ f fd params body scope, FunD X.K x x params body scope [] [] f fd → X.mg x = some (.ref f) → KB X.K fd ps ks ix) (hr : Rm k X.A) (hx : Passes CX X E) (hkw : KS X E kws t) (hg : Gl X x := by rfl) (hdb : (x == ("__debug__" : Str)) = false := by decide)
    (hall : (backToKw pos (keywordEach kws X.env)).all (·.1.isSome) = true := by rfl) (hks : (backToKw pos (keywordEach kws X.env)).filterMap (·.1) = ks := by rfl)
    (hpl : ((backTo pos (starEach [] X.env)).any (·.1) || (backToKw pos (keywordEach kws X.env)).any (·.1.isNone)) = false := by rfl) : ES X E (.Call (.Name x p) [] kws pos) (dCallK ix fn t) := by
  obtain ⟨f, fd, F, hm, hk, params, body, scope, hF, _⟩ := C
  have hb := hb f fd params body scope hF hm
  refine ⟨fun pins s σ H Q I ⟨μ, ρ, S, sl, m, o⟩ => ?_⟩
  refine wpAny_Call_Name_kw (ld_glob I hg hm ?_ hdb)
  refine PySem.W.callWith_KW0 (h₀ := X.base) I.ok.mod.kin hk hall ?_ hpl
  refine thn (hkw.run pos pins s σ H _ I (outA1 (k := fun ds S1 => fn (arr ix ds) S1) sl m o)) fun us s1 ⟨vs, H1, I1, r, μ1, ds, S1, _, m1, r1, o1⟩ => ⟨I1.kIn, ?_⟩
  have hsp : spOf X.w X.K fn (arr ix vs) H1 Q E := ⟨μ1, S1, _, arr_reps r1 ix, m1, o1⟩
  have hl : (arr ix us).length = ps.length := by rw [← (arr_vals r ix).length]; exact F.vlen hsp
  rw [hks]
  exact F.called hr hx I1 (hb s1 us I1.kIn hl) (arr_vals r ix) hsp

/-! ### built-ins by values -/
def CaS (X : Cx) (E : XK) (r : List V → Hp → VK → Prop) (op : List D → Sto → R D) : Prop :=
  ∀ (μ : Mu) (S : Sto) (H : Hp) (ds : List D) (vs : List V) (Q : VK), Sim X.w X.K μ S H → Reps X.K μ H ds vs → OutE X.w X.K E μ H Q (op ds S) → r vs H Q
def dCB (op : List D → Sto → R D) (t : DA) : DE := fun ρ S => (t ρ S).bind op
variable {r : List V → Hp → VK → Prop} {op : List D → Sto → R D} {id T : String}
theorem ev_callB (hc : CallR X (.builtin id) r) (ho : CaS X E r op) (hm : X.mg x = none) (hv : bootBuiltins x = some (.builtin id)) (ha : AS X E (e :: es) t) (hg : Gl X x := by rfl) (hn : x ≠ "__name__" := by decide) (hdb : (x == ("__debug__" : Str)) = false := by decide)
    (he : starEach (e :: es) X.env = (false, eval e X.env) :: starEach es X.env := by rfl) (hpl : (backTo pos (starEach es X.env)).any (·.1) = false := by rfl) : ES X E (.Call (.Name x p) (e :: es) [] pos) (dCB op t) :=
  (pe_callB hc hg hm hv ha hn hdb he hpl).wk fun σ H Q ⟨μ, ρ, S, sl, m, o⟩ => tA_mono (outA1 sl m o) fun vs H1 ⟨μ1, ds, S1, _, m1, r1, o1⟩ => ho μ1 S1 H1 ds vs Q m1 r1 o1
theorem ev_callTy (hc : CallR X (.type T) r) (ho : CaS X E r op) (hm : X.mg x = none) (hv : bootBuiltins x = some (.type T)) (ha : AS X E (e :: es) t) (hg : Gl X x := by rfl) (hn : x ≠ "__name__" := by decide) (hdb : (x == ("__debug__" : Str)) = false := by decide)
    (he : starEach (e :: es) X.env = (false, eval e X.env) :: starEach es X.env := by rfl) (hpl : (backTo pos (starEach es X.env)).any (·.1) = false := by rfl) : ES X E (.Call (.Name x p) (e :: es) [] pos) (dCB op t) :=
  (pe_callTy hc hg hm hv ha hn hdb he hpl).wk fun σ H Q ⟨μ, ρ, S, sl, m, o⟩ => tA_mono (outA1 sl m o) fun vs H1 ⟨μ1, ds, S1, _, m1, r1, o1⟩ => ho μ1 S1 H1 ds vs Q m1 r1 o1
theorem reps1 {K : PySem.W.Frag} {μ : Mu} {H : Hp} {d : D} {vs : List V} (h : Reps K μ H [d] vs) : ∃ v, vs = [v] ∧ Rep K μ H d v := by
  rw [reps_cons] at h
  obtain ⟨v, r, rfl, h1, h2⟩ := h
  rw [reps_nil] at h2
  subst h2
  exact ⟨v, rfl, h1⟩
theorem reps2 {K : PySem.W.Frag} {μ : Mu} {H : Hp} {d e : D} {vs : List V} (h : Reps K μ H [d, e] vs) : ∃ v u, vs = [v, u] ∧ Rep K μ H d v ∧ Rep K μ H e u := by
  rw [reps_cons] at h
  obtain ⟨v, r, rfl, h1, h2⟩ := h
  obtain ⟨u, rfl, h3⟩ := reps1 h2
  exact ⟨v, u, rfl, h1, h3⟩
/-- one int -/
def oI (g : Int → D) : List D → Sto → R D
  | [.int i], S => .ok (g i) S
  | _, _ => .stuck
/-- two ints -/
def oII (g : Int → Int → D) : List D → Sto → R D
  | [.int i, .int j], S => .ok (g i j) S
  | _, _ => .stuck
def oAbs : List D → Sto → R D := oI fun i => .int (if i < 0 then -i else i)
def oMax2 : List D → Sto → R D := oII fun i j => .int (if j > i then j else i)
def oMin2 : List D → Sto → R D := oII fun i j => .int (if j < i then j else i)
def oInt : List D → Sto → R D
  | [.int i], S => .ok (.int i) S
  | [.bl b], S => .ok (.int (if b then 1 else 0)) S
  | _, _ => .stuck
def oLen : List D → Sto → R D
  | [d], S => match seqOf S d with
    | some ds => .ok (.int ds.length) S
    | none => .stuck
  | _, _ => .stuck
def oTuple : List D → Sto → R D
  | [.tup ds], S => .ok (.tup ds) S
  | [d], S => match lstOf S d with
    | some ds => .ok (.tup ds) S
    | none => .stuck
  | _, _ => .stuck
def oList : List D → Sto → R D
  | [d], S => match seqOf S d with
    | some ds => .ok (.lst ds) S
    | none => .stuck
  | _, _ => .stuck
def oListL : List D → Sto → R D
  | [d], S => match seqOf S d with
    | some ds => .ok (.loc S.length) (S ++ [.lst ds])
    | none => .stuck
  | _, _ => .stuck
/-- the bools, the ints of a row -/
def blsOf : List D → Option (List Bool)
  | [] => some []
  | .bl b :: ds => (blsOf ds).map (b :: ·)
  | _ => none
def intsOf : List D → Option (List Int)
  | [] => some []
  | .int i :: ds => (intsOf ds).map (i :: ·)
  | _ => none
theorem blsOf_eq : ∀ {ds : List D} {bs : List Bool}, blsOf ds = some bs → ds = bs.map D.bl
  | [], bs, h => by cases h; rfl
  | .bl b :: ds, bs, h => by
    unfold blsOf at h
    cases q : blsOf ds with
    | none => rw [q] at h; cases h
    | some cs => rw [q] at h; cases h; rw [blsOf_eq q]; rfl
  | .non :: ds, bs, h => by cases h
  | .int _ :: ds, bs, h => by cases h
  | .str _ :: ds, bs, h => by cases h
  | .tup _ :: ds, bs, h => by cases h
  | .lst _ :: ds, bs, h => by cases h
  | .loc _ :: ds, bs, h => by cases h
theorem intsOf_eq : ∀ {ds : List D} {bs : List Int}, intsOf ds = some bs → ds = bs.map D.int
  | [], bs, h => by cases h; rfl
  | .int b :: ds, bs, h => by
    unfold intsOf at h
    cases q : intsOf ds with
    | none => rw [q] at h; cases h
    | some cs => rw [q] at h; cases h; rw [intsOf_eq q]; rfl
  | .non :: ds, bs, h => by cases h
  | .bl _ :: ds, bs, h => by cases h
  | .str _ :: ds, bs, h => by cases h
  | .tup _ :: ds, bs, h => by cases h
  | .lst _ :: ds, bs, h => by cases h
  | .loc _ :: ds, bs, h => by cases h
theorem blsOf_map : ∀ bs : List Bool, blsOf (bs.map D.bl) = some bs
  | [] => rfl
  | b :: bs => by simp [blsOf, blsOf_map bs]
theorem intsOf_map : ∀ bs : List Int, intsOf (bs.map D.int) = some bs
  | [] => rfl
  | b :: bs => by simp [intsOf, intsOf_map bs]
theorem reps_ints {K : PySem.W.Frag} {μ : Mu} {H : Hp} : ∀ {ns : List Int} {vs : List V}, Reps K μ H (ns.map D.int) vs ↔ vs = ns.map V.int
  | [], vs => by simp [reps_nil]
  | n :: ns, vs => by
    rw [List.map_cons, reps_cons]
    constructor
    · rintro ⟨v, r, rfl, h1, h2⟩
      rw [rep_int] at h1
      rw [reps_ints] at h2
      subst h1 h2
      rfl
    · rintro rfl
      exact ⟨_, _, rfl, rep_int.mpr rfl, reps_ints.mpr rfl⟩
theorem reps_bls {K : PySem.W.Frag} {μ : Mu} {H : Hp} : ∀ {ns : List Bool} {vs : List V}, Reps K μ H (ns.map D.bl) vs ↔ vs = ns.map V.bl
  | [], vs => by simp [reps_nil]
  | n :: ns, vs => by
    rw [List.map_cons, reps_cons]
    constructor
    · rintro ⟨v, r, rfl, h1, h2⟩
      rw [rep_bl] at h1
      rw [reps_bls] at h2
      subst h1 h2
      rfl
    · rintro rfl
      exact ⟨_, _, rfl, rep_bl.mpr rfl, reps_bls.mpr rfl⟩
def oAll : List D → Sto → R D
  | [d], S => match (lstOf S d).bind blsOf with
    | some bs => .ok (.bl (bs.all _root_.id)) S
    | none => .stuck
  | _, _ => .stuck
def oAny : List D → Sto → R D
  | [d], S => match (lstOf S d).bind blsOf with
    | some bs => .ok (.bl (bs.any _root_.id)) S
    | none => .stuck
  | _, _ => .stuck
def oSum : List D → Sto → R D
  | [d], S => match (lstOf S d).bind intsOf with
    | some ns => .ok (.int ns.sum) S
    | none => .stuck
  | _, _ => .stuck
theorem oI_ok {g : Int → V} {g' : Int → D} (h : ∀ i μ H, Rep X.K μ H (g' i) (g i)) : CaS X E (fun xs H Q => ∃ i, xs = [.int i] ∧ Q (g i) H) (oI g') := by
  intro μ S H ds vs Q m r o
  unfold oI at o
  split at o
  · rename_i i
    obtain ⟨v, rfl, h1⟩ := reps1 r
    rw [rep_int] at h1
    subst h1
    exact ⟨i, rfl, o μ H _ .refl m (h _ _ _)⟩
  · exact o.elim
theorem oII_ok {g : Int → Int → V} {g' : Int → Int → D} (h : ∀ i j μ H, Rep X.K μ H (g' i j) (g i j)) : CaS X E (fun xs H Q => ∃ i j, xs = [.int i, .int j] ∧ Q (g i j) H) (oII g') := by
  intro μ S H ds vs Q m r o
  unfold oII at o
  split at o
  · rename_i i j
    obtain ⟨v, u, rfl, h1, h2⟩ := reps2 r
    rw [rep_int] at h1 h2
    subst h1 h2
    exact ⟨i, j, rfl, o μ H _ .refl m (h _ _ _ _)⟩
  · exact o.elim
variable {f : DE}
theorem ev_abs (hm : X.mg "abs" = none) (ha : AS X E (e :: es) t) (hg : Gl X "abs" := by rfl) (he : starEach (e :: es) X.env = (false, eval e X.env) :: starEach es X.env := by rfl) (hpl : (backTo pos (starEach es X.env)).any (·.1) = false := by rfl) : ES X E (.Call (.Name "abs" p) (e :: es) [] pos) (dCB oAbs t) :=
  ev_callB call_abs (oI_ok fun _ _ _ => rep_int.mpr rfl) hm (by decide +kernel) ha hg (by decide) (by decide) he hpl
theorem ev_max2 (hm : X.mg "max" = none) (hc : X.calm = true) (ha : AS X E (e :: es) t) (hg : Gl X "max" := by rfl) (he : starEach (e :: es) X.env = (false, eval e X.env) :: starEach es X.env := by rfl) (hpl : (backTo pos (starEach es X.env)).any (·.1) = false := by rfl) : ES X E (.Call (.Name "max" p) (e :: es) [] pos) (dCB oMax2 t) :=
  ev_callB (call_max2 hc) (oII_ok fun _ _ _ _ => rep_int.mpr rfl) hm (by decide +kernel) ha hg (by decide) (by decide) he hpl
theorem ev_min2 (hm : X.mg "min" = none) (hc : X.calm = true) (ha : AS X E (e :: es) t) (hg : Gl X "min" := by rfl) (he : starEach (e :: es) X.env = (false, eval e X.env) :: starEach es X.env := by rfl) (hpl : (backTo pos (starEach es X.env)).any (·.1) = false := by rfl) : ES X E (.Call (.Name "min" p) (e :: es) [] pos) (dCB oMin2 t) :=
  ev_callB (call_min2 hc) (oII_ok fun _ _ _ _ => rep_int.mpr rfl) hm (by decide +kernel) ha hg (by decide) (by decide) he hpl
theorem ev_intC (hm : X.mg "int" = none) (ha : AS X E (e :: es) t) (hg : Gl X "int" := by rfl) (he : starEach (e :: es) X.env = (false, eval e X.env) :: starEach es X.env := by rfl) (hpl : (backTo pos (starEach es X.env)).any (·.1) = false := by rfl) : ES X E (.Call (.Name "int" p) (e :: es) [] pos) (dCB oInt t) :=
  ev_callTy call_int1 (fun μ S H ds vs Q m r o => by
    unfold oInt at o
    split at o
    · rename_i i
      obtain ⟨v, rfl, h1⟩ := reps1 r
      rw [rep_int] at h1
      subst h1
      exact .inl ⟨i, rfl, o μ H _ .refl m (rep_int.mpr rfl)⟩
    · rename_i b
      obtain ⟨v, rfl, h1⟩ := reps1 r
      rw [rep_bl] at h1
      subst h1
      exact .inr ⟨b, rfl, o μ H _ .refl m (rep_int.mpr rfl)⟩
    · exact o.elim) hm (by decide +kernel) ha hg (by decide) (by decide) he hpl
theorem ev_len (hm : X.mg "len" = none) (ha : AS X E (e :: es) t) (hg : Gl X "len" := by rfl) (he : starEach (e :: es) X.env = (false, eval e X.env) :: starEach es X.env := by rfl) (hpl : (backTo pos (starEach es X.env)).any (·.1) = false := by rfl) : ES X E (.Call (.Name "len" p) (e :: es) [] pos) (dCB oLen t) :=
  ev_callB call_len_seq (fun μ S H ds vs Q m r o => by
    unfold oLen at o
    split at o
    · rename_i d
      obtain ⟨v, rfl, h1⟩ := reps1 r
      split at o
      · rename_i ds' e'
        obtain ⟨a, vs', rfl, q, rr⟩ := seqOf_ok m h1 e'
        exact ⟨a, vs', rfl, q, o μ H _ .refl m (rep_int.mpr (by rw [rr.length]))⟩
      · exact o.elim
    · exact o.elim) hm (by decide +kernel) ha hg (by decide) (by decide) he hpl
theorem sqL_le {pins : List (Addr × Obj)} {σ : L2.St} {H : Hp} {s : Shared} {a : Addr} {xs : List V} (I : Inv X pins σ H s) (h : SqL X.K H a xs) : xs.length ≤ sizeLine := by
  obtain ⟨_, _, _, z⟩ := I.list h
  exact z
theorem ev_tuple (hm : X.mg "tuple" = none) (ha : AS X E (e :: es) t) (hg : Gl X "tuple" := by rfl) (he : starEach (e :: es) X.env = (false, eval e X.env) :: starEach es X.env := by rfl) (hpl : (backTo pos (starEach es X.env)).any (·.1) = false := by rfl) : ES X E (.Call (.Name "tuple" p) (e :: es) [] pos) (dCB oTuple t) :=
  ev_callTy call_tuple_of (fun μ S H ds vs Q m r o => by
    unfold oTuple at o
    split at o
    · rename_i ds'
      obtain ⟨v, rfl, h1⟩ := reps1 r
      obtain ⟨a, vs', e1, f1, r1⟩ := tupOf_ok h1 rfl
      subst e1
      exact ⟨a, vs', rfl, .inr ⟨f1, o μ H _ .refl m h1⟩⟩
    · rename_i d _
      obtain ⟨v, rfl, h1⟩ := reps1 r
      split at o
      · rename_i ds' e'
        obtain ⟨a, vs', rfl, q, rr⟩ := lstOf_ok m h1 e'
        refine ⟨a, vs', rfl, .inl ⟨q, fun l nl => ?_⟩⟩
        exact o μ _ _ (.new nl) (m.new nl) (rep_tup.mpr ⟨l, vs', rfl, .inl ⟨m.fresh nl, .inl upd_same⟩, Reps.ext (.new nl) _ _ rr⟩)
      · exact o.elim
    · exact o.elim) hm (by decide +kernel) ha hg (by decide) (by decide) he hpl
theorem ev_list (hm : X.mg "list" = none) (ha : AS X E (e :: es) t) (hg : Gl X "list" := by rfl) (he : starEach (e :: es) X.env = (false, eval e X.env) :: starEach es X.env := by rfl) (hpl : (backTo pos (starEach es X.env)).any (·.1) = false := by rfl) : ES X E (.Call (.Name "list" p) (e :: es) [] pos) (dCB oList t) :=
  ev_callTy call_list_of (fun μ S H ds vs Q m r o => by
    unfold oList at o
    split at o
    · rename_i d
      obtain ⟨v, rfl, h1⟩ := reps1 r
      split at o
      · rename_i ds' e'
        obtain ⟨a, vs', rfl, q, rr⟩ := seqOf_ok m h1 e'
        refine ⟨a, vs', rfl, q, fun l nl => ?_⟩
        exact o μ _ _ (.new nl) (m.new nl) (rep_lst.mpr ⟨l, vs', rfl, .inl ⟨m.fresh nl, .inl upd_same⟩, Reps.ext (.new nl) _ _ rr⟩)
      · exact o.elim
    · exact o.elim) hm (by decide +kernel) ha hg (by decide) (by decide) he hpl
theorem ev_listL (hm : X.mg "list" = none) (ha : AS X E (e :: es) t) (hg : Gl X "list" := by rfl) (he : starEach (e :: es) X.env = (false, eval e X.env) :: starEach es X.env := by rfl) (hpl : (backTo pos (starEach es X.env)).any (·.1) = false := by rfl) : ES X E (.Call (.Name "list" p) (e :: es) [] pos) (dCB oListL t) :=
  ev_callTy call_list_of (fun μ S H ds vs Q m r o => by
    unfold oListL at o
    split at o
    · rename_i d
      obtain ⟨v, rfl, h1⟩ := reps1 r
      split at o
      · rename_i ds' e'
        obtain ⟨a, vs', rfl, q, rr⟩ := seqOf_ok m h1 e'
        refine ⟨a, vs', rfl, q, fun l nl => ?_⟩
        refine o (μ.push l) _ _ (.push nl) (m.push nl ⟨vs', upd_same, Reps.ext (.push nl) _ _ rr⟩) (rep_loc.mpr ⟨l, rfl, ?_⟩)
        rw [← m.len]; exact Mu.last
      · exact o.elim
    · exact o.elim) hm (by decide +kernel) ha hg (by decide) (by decide) he hpl
theorem ev_all (hm : X.mg "all" = none) (hc : X.calm = true) (ha : AS X E (e :: es) t) (hg : Gl X "all" := by rfl) (he : starEach (e :: es) X.env = (false, eval e X.env) :: starEach es X.env := by rfl) (hpl : (backTo pos (starEach es X.env)).any (·.1) = false := by rfl) : ES X E (.Call (.Name "all" p) (e :: es) [] pos) (dCB oAll t) :=
  ev_callB (cr_all hc) (fun μ S H ds vs Q m r o => by
    unfold oAll at o
    split at o
    · rename_i d
      obtain ⟨v, rfl, h1⟩ := reps1 r
      split at o
      · rename_i bs e'
        obtain ⟨ds', e1, e2⟩ := Option.bind_eq_some_iff.mp e'
        obtain ⟨a, vs', rfl, q, rr⟩ := lstOf_ok m h1 e1
        rw [blsOf_eq e2, reps_bls] at rr
        subst rr
        exact ⟨a, bs, rfl, q, o μ H _ .refl m (rep_bl.mpr rfl)⟩
      · exact o.elim
    · exact o.elim) hm (by decide +kernel) ha hg (by decide) (by decide) he hpl
theorem ev_any (hm : X.mg "any" = none) (hc : X.calm = true) (ha : AS X E (e :: es) t) (hg : Gl X "any" := by rfl) (he : starEach (e :: es) X.env = (false, eval e X.env) :: starEach es X.env := by rfl) (hpl : (backTo pos (starEach es X.env)).any (·.1) = false := by rfl) : ES X E (.Call (.Name "any" p) (e :: es) [] pos) (dCB oAny t) :=
  ev_callB (cr_any hc) (fun μ S H ds vs Q m r o => by
    unfold oAny at o
    split at o
    · rename_i d
      obtain ⟨v, rfl, h1⟩ := reps1 r
      split at o
      · rename_i bs e'
        obtain ⟨ds', e1, e2⟩ := Option.bind_eq_some_iff.mp e'
        obtain ⟨a, vs', rfl, q, rr⟩ := lstOf_ok m h1 e1
        rw [blsOf_eq e2, reps_bls] at rr
        subst rr
        exact ⟨a, bs, rfl, q, o μ H _ .refl m (rep_bl.mpr rfl)⟩
      · exact o.elim
    · exact o.elim) hm (by decide +kernel) ha hg (by decide) (by decide) he hpl
theorem ev_sum (hm : X.mg "sum" = none) (hc : X.calm = true) (ha : AS X E (e :: es) t) (hg : Gl X "sum" := by rfl) (he : starEach (e :: es) X.env = (false, eval e X.env) :: starEach es X.env := by rfl) (hpl : (backTo pos (starEach es X.env)).any (·.1) = false := by rfl) : ES X E (.Call (.Name "sum" p) (e :: es) [] pos) (dCB oSum t) :=
  ev_callB (cr_sum hc) (fun μ S H ds vs Q m r o => by
    unfold oSum at o
    split at o
    · rename_i d
      obtain ⟨v, rfl, h1⟩ := reps1 r
      split at o
      · rename_i bs e'
        obtain ⟨ds', e1, e2⟩ := Option.bind_eq_some_iff.mp e'
        obtain ⟨a, vs', rfl, q, rr⟩ := lstOf_ok m h1 e1
        rw [intsOf_eq e2, reps_ints] at rr
        subst rr
        exact ⟨a, bs, rfl, q, o μ H _ .refl m (rep_int.mpr rfl)⟩
      · exact o.elim
    · exact o.elim) hm (by decide +kernel) ha hg (by decide) (by decide) he hpl
end
end Ev

set_option Elab.async false
set_option linter.all false
set_option maxRecDepth 100000
set_option maxHeartbeats 4000000
/-! EvD: statements, loops, comprehensions, a def's body. -/
namespace Ev
open PySem PySem.Spec PyProof.Rows L2

/-! ### blocks -/
def dNext : DS := fun ρ S => .nx ρ S
def RS.thn (r : RS) (g : DS) : RS := match r with
  | .nx ρ S => g ρ S
  | r => r
def dThen (f g : DS) : DS := fun ρ S => (f ρ S).thn g
section
variable {X : Cx} {E : XK} {st : Stmt} {rest : List Stmt} {f g : DS} {e : Expr} {v : DE} {p : DT} {pos : Pos}
theorem es_nil : SSs X E [] dNext := pss_nil.wk fun D σ H ⟨μ, ρ, S, sl, m, o⟩ => o μ σ H .refl m sl
theorem OutS.thn {w : World} {K : PySem.W.Frag} {μ : Mu} {H : Hp} {D : Ends} {r : RS} (o : OutS w K E μ H D (r.thn g)) : OutS w K E μ H { D with nx := fun σ H => tS w K E g D σ H } r := by
  cases r with
  | nx ρ S => exact fun μ' σ' H' x m sl => ⟨μ', ρ, S, sl, m, OutS.mono x o⟩
  | _ => exact o
theorem es_cons (h1 : SS X E st f) (h2 : SSs X E rest g) : SSs X E (st :: rest) (dThen f g) := (pss_cons h1 h2).wk fun D σ H ⟨μ, ρ, S, sl, m, o⟩ => ⟨μ, ρ, S, sl, m, OutS.thn o⟩
theorem es_one (h1 : SS X E st f) : SSs X E [st] f := pss_one h1
theorem es_pass : SS X E (.Pass pos) dNext := ps_pass.wk fun D σ H ⟨μ, ρ, S, sl, m, o⟩ => o μ σ H .refl m sl
def dBreak : DS := fun ρ S => .bk ρ S
def dCont : DS := fun ρ S => .ct ρ S
theorem es_break : SS X E (.Break pos) dBreak := ps_break.wk fun D σ H ⟨μ, ρ, S, sl, m, o⟩ => o μ σ H .refl m sl
theorem es_cont : SS X E (.Continue pos) dCont := ps_continue.wk fun D σ H ⟨μ, ρ, S, sl, m, o⟩ => o μ σ H .refl m sl
theorem es_doc {x : Str} {j : Nat} {p1 p2 : Pos} : SS X E (.Expr (.Constant (.str x) j p1) p2) dNext := ps_doc.wk fun D σ H ⟨μ, ρ, S, sl, m, o⟩ => o μ σ H .refl m sl
def dNoS : DS := fun _ _ => .stuck
theorem es_no : SS X E st dNoS := ⟨fun pins s σ H D I ⟨_, _, _, _, _, o⟩ => o.elim⟩
/-- what a value hands on to a statement -/
theorem out1S {μ : Mu} {ρ : Rho} {S : Sto} {σ : L2.St} {H : Hp} {D : Ends} {k : Ev.D → Sto → RS} (sl : SlR X.K μ H ρ σ) (m : Sim X.w X.K μ S H) (o : OutS X.w X.K E μ H D ((v ρ S).bindS k)) :
    tE X.w X.K E v σ H fun x H1 => ∃ μ1 d S1, Ext μ H μ1 H1 ∧ Sim X.w X.K μ1 S1 H1 ∧ Rep X.K μ1 H1 d x ∧ OutS X.w X.K E μ1 H1 D (k d S1) := by
  refine ⟨μ, ρ, S, sl, m, ?_⟩
  have o1 := OutE.bindS o
  cases q : v ρ S with
  | stuck => rw [q] at o1; exact o1
  | exc x S' => rw [q] at o1; exact o1
  | ok d S1 => rw [q] at o1; exact o1
theorem out1T {μ : Mu} {ρ : Rho} {S : Sto} {σ : L2.St} {H : Hp} {D : Ends} {k : Bool → Sto → RS} (sl : SlR X.K μ H ρ σ) (m : Sim X.w X.K μ S H) (o : OutS X.w X.K E μ H D ((p ρ S).bindS k)) :
    tT X.w X.K E p σ H fun b H1 => ∃ μ1 S1, Ext μ H μ1 H1 ∧ Sim X.w X.K μ1 S1 H1 ∧ OutS X.w X.K E μ1 H1 D (k b S1) := by
  refine ⟨μ, ρ, S, sl, m, ?_⟩
  have o1 := OutT.bindS o
  cases q : p ρ S with
  | stuck => rw [q] at o1; exact o1
  | exc x S' => rw [q] at o1; exact o1
  | ok d S1 => rw [q] at o1; exact o1
def dExpr (v : DE) : DS := fun ρ S => (v ρ S).bindS fun _ S1 => .nx ρ S1
theorem es_expr (he : ES X E e v) (hs : swapsWith e none pos.line X.env = pure false := by rfl) : SS X E (.Expr e pos) (dExpr v) := (ps_expr he hs).wk fun D σ H ⟨μ, ρ, S, sl, m, o⟩ =>
  tE_mono (out1S sl m o) fun x H1 ⟨μ1, d, S1, x1, m1, _, o1⟩ => o1 μ1 σ H1 .refl m1 (sl.ext x1)
def dRet (v : DE) : DS := fun ρ S => (v ρ S).bindS fun d S1 => .ret d S1
theorem es_ret (he : ES X E e v) : SS X E (.Return (some e) pos) (dRet v) := (ps_ret he).wk fun D σ H ⟨μ, ρ, S, sl, m, o⟩ =>
  tE_mono (out1S sl m o) fun x H1 ⟨μ1, d, S1, x1, m1, r1, o1⟩ => o1 μ1 H1 x .refl m1 r1
def dRetN : DS := fun _ S => .ret .non S
theorem es_retN : SS X E (.Return none pos) dRetN := ps_retN.wk fun D σ H ⟨μ, ρ, S, sl, m, o⟩ => o μ H _ .refl m (rep_non.mpr rfl)
def dIfS (p : DT) (f g : DS) : DS := fun ρ S => (p ρ S).bindS fun b S1 => if b = true then f ρ S1 else g ρ S1
theorem es_if {c : Expr} {a b : List Stmt} (hc : TSo X E c p) (ha : SSs X E a f) (hb : SSs X E b g) : SS X E (.If c a b pos) (dIfS p f g) := (ps_if hc ha hb).wk fun D σ H ⟨μ, ρ, S, sl, m, o⟩ =>
  tT_mono (out1T sl m o) fun b H1 ⟨μ1, S1, x1, m1, o1⟩ => by
    cases b with
    | true => exact ⟨μ1, ρ, S1, sl.ext x1, m1, o1⟩
    | false => exact ⟨μ1, ρ, S1, sl.ext x1, m1, o1⟩
/-- name = value -/
def dSet (i : Nat) (v : DE) : DS := fun ρ S => (v ρ S).bindS fun d S1 => .nx (ρ.set i (some d)) S1
theorem es_set (i : Nat) {x : Str} {pos' : Pos} (hN : X.N.Nodup) (he : ES X E e v) (hi : X.N[i]? = some x := by rfl) (hx : Loc X.env.scope x := by first | exact .inl rfl | exact .inr rfl) (hs : swapsWith e (some (.Name x pos')) pos.line X.env = pure false := by rfl)
    (hf : X.fn x = true ∨ X.env.scope.names.lookup x = some .local := by first | exact .inl rfl | exact .inr rfl | assumption) : SS X E (.Assign [.Name x pos'] e pos) (dSet i v) := (ps_set hN hi hx he hs hf).wk fun D σ H ⟨μ, ρ, S, sl, m, o⟩ =>
  tE_mono (out1S sl m o) fun x H1 ⟨μ1, d, S1, x1, m1, r1, o1⟩ => o1 μ1 _ H1 .refl m1 ((sl.ext x1).set i r1)
/-- name op= value, ints -/
def dAug (i : Nat) (op : D → D → Sto → R D) (v : DE) : DS := fun ρ S => match ρ[i]? with
  | some (some a) => (v ρ S).bindS fun b S1 => (op a b S1).bindS fun c S2 => .nx (ρ.set i (some c)) S2
  | _ => .stuck
theorem es_aug (i : Nat) {x : Str} {pos' : Pos} {op' : Operator} {op : D → D → Sto → R D} {r : R2} (hN : X.N.Nodup) (ho : PIp X op' r) (hop : ∀ E, OpS X E r op) (hex : ∀ a b S x S', op a b S ≠ .exc x S') (he : ES X E e v) (hi : X.N[i]? = some x := by rfl) (hx : Loc X.env.scope x := by first | exact .inl rfl | exact .inr rfl)
    (hf : X.fn x = true ∨ X.env.scope.names.lookup x = some .local := by first | exact .inl rfl | exact .inr rfl | assumption) : SS X E (.AugAssign (.Name x pos') op' e pos) (dAug i op v) := (ps_aug hN hi hx he ho hf).wk fun D σ H ⟨μ, ρ, S, sl, m, o⟩ => by
  unfold dAug at o
  split at o
  · rename_i a ea
    obtain ⟨xv, h1, h2⟩ := sl.at_ i a ea
    refine ⟨xv, h1, tE_mono (out1S sl m o) fun y H1 ⟨μ1, b, S1, x1, m1, r1, o1⟩ => ?_⟩
    refine hop E μ1 S1 H1 a b xv y _ m1 (h2.ext x1) r1 ?_
    cases q : op a b S1 with
    | stuck => rw [q] at o1; exact o1
    | exc x' S' => exact absurd q (hex _ _ _ _ _)
    | ok c S2 =>
      rw [q] at o1
      intro μ2 H2 z x2 m2 r2
      exact o1 μ2 _ H2 x2 m2 ((sl.ext (x1.trans x2)).set i r2)
  · exact o.elim
def bAddI : D → D → Sto → R D := bI fun i j => .int (i + j)
theorem es_augAdd (i : Nat) {x : Str} {pos' : Pos} (hN : X.N.Nodup) (he : ES X E e v) (hi : X.N[i]? = some x := by rfl) (hx : Loc X.env.scope x := by first | exact .inl rfl | exact .inr rfl)
    (hf : X.fn x = true ∨ X.env.scope.names.lookup x = some .local := by first | exact .inl rfl | exact .inr rfl | assumption) : SS X E (.AugAssign (.Name x pos') .Add e pos) (dAug i bAddI v) :=
  es_aug (r := rI0 fun i j => .int (i + j)) i hN (fun pins s σ H x y v u Q I rx ry h => ip_add pins s σ H x y v u Q I rx ry h) (fun _ => bInt) (fun _ _ _ _ _ => bI_nx _ _ _ _ _) he hi hx hf
theorem es_augSub (i : Nat) {x : Str} {pos' : Pos} (hN : X.N.Nodup) (he : ES X E e v) (hi : X.N[i]? = some x := by rfl) (hx : Loc X.env.scope x := by first | exact .inl rfl | exact .inr rfl)
    (hf : X.fn x = true ∨ X.env.scope.names.lookup x = some .local := by first | exact .inl rfl | exact .inr rfl | assumption) : SS X E (.AugAssign (.Name x pos') .Sub e pos) (dAug i bSub v) :=
  es_aug (r := rI0 fun i j => .int (i - j)) i hN (fun pins s σ H x y v u Q I rx ry h => ip_sub pins s σ H x y v u Q I rx ry h) (fun _ => bInt) (fun _ _ _ _ _ => bI_nx _ _ _ _ _) he hi hx hf
end

/-! ### targets: names, and tuples of such -/
abbrev DN := D → Rho → Option Rho
abbrev DNs := List D → Rho → Option Rho
def tGn (w : World) (K : PySem.W.Frag) (vs : List Nat) (f : DN) : TG := fun v σ H Q => ∃ μ ρ d ρ', SlR K μ H ρ σ ∧ Rep K μ H d v ∧ f d ρ = some ρ' ∧
  ∀ σ', SlR K μ H ρ' σ' → σ'.length = σ.length → (∀ i, i ∉ vs → σ'[i]? = σ[i]?) → Q σ' H
def tGns (w : World) (K : PySem.W.Frag) (vs : List Nat) (f : DNs) : TGs := fun xs σ H Q => ∃ μ ρ ds ρ', SlR K μ H ρ σ ∧ Reps K μ H ds xs ∧ f ds ρ = some ρ' ∧
  ∀ σ', SlR K μ H ρ' σ' → σ'.length = σ.length → (∀ i, i ∉ vs → σ'[i]? = σ[i]?) → Q σ' H
abbrev NS (X : Cx) (t : Expr) (vs : List Nat) (f : DN) : Prop := PG X t (tGn X.w X.K vs f)
abbrev NSs (X : Cx) (ts : List Expr) (vs : List Nat) (f : DNs) : Prop := PGs X ts (tGns X.w X.K vs f)
def gnName (i : Nat) : DN := fun d ρ => some (ρ.set i (some d))
def gnNil : DNs := fun ds ρ => match ds with
  | [] => some ρ
  | _ => none
def gnCons (f : DN) (g : DNs) : DNs := fun ds ρ => match ds with
  | d :: ds => (f d ρ).bind fun ρ' => g ds ρ'
  | [] => none
def gnTup (g : DNs) : DN := fun d ρ => match d with
  | .tup ds => g ds ρ
  | _ => none
section
variable {X : Cx} {pos : Pos}
theorem gn_name (i : Nat) {x : Str} (hN : X.N.Nodup) (hi : X.N[i]? = some x := by rfl) (hx : Loc X.env.scope x := by first | exact .inl rfl | exact .inr rfl) (hf : X.fn x = true ∨ X.env.scope.names.lookup x = some .local := by first | exact .inl rfl | exact .inr rfl | assumption) :
    NS X (.Name x pos) [i] (gnName i) := (pg_name hN hi hx hf).wk fun v σ H Q ⟨μ, ρ, d, ρ', sl, r, e, k⟩ => by
  cases e
  exact k _ (sl.set i r) (List.length_set ..) fun j hj => List.getElem?_set_ne (by simpa using Ne.symm (by simpa using hj))
theorem _root_.L2.PGs.wk {X : Cx} {e : List Expr} {t t' : TGs} (h : PGs X e t) (k : ∀ v σ H Q, t' v σ H Q → t v σ H Q) : PGs X e t' := ⟨fun pins s σ H v u Q I r q => h.run pins s σ H v u Q I r (k v σ H Q q)⟩
theorem gn_nil : NSs X [] [] gnNil := pgs_nil.wk fun v σ H Q ⟨μ, ρ, ds, ρ', sl, r, e, k⟩ => by
  unfold gnNil at e
  split at e
  · cases e
    exact ⟨reps_nil.mp r, k _ sl rfl fun _ _ => rfl⟩
  · cases e
theorem gn_cons {e : Expr} {es : List Expr} {vs us : List Nat} {f : DN} {g : DNs} (h1 : NS X e vs f) (h2 : NSs X es us g) (hs : (assignEach (e :: es) X.env).map (·.2) = assign e X.env :: (assignEach es X.env).map (·.2) := by rfl) : NSs X (e :: es) (vs ++ us) (gnCons f g) :=
  (pgs_cons h1 h2 hs).wk fun v σ H Q ⟨μ, ρ, ds, ρ', sl, r, e, k⟩ => by
    unfold gnCons at e
    split at e
    · rename_i d ds'
      rw [reps_cons] at r
      obtain ⟨v', r', rfl, h3, h4⟩ := r
      obtain ⟨ρ1, e1, e2⟩ := Option.bind_eq_some_iff.mp e
      refine ⟨v', r', rfl, μ, ρ, d, ρ1, sl, h3, e1, fun σ1 sl1 l1 a1 => ?_⟩
      refine ⟨μ, ρ1, ds', ρ', sl1, h4, e2, fun σ2 sl2 l2 a2 => k σ2 sl2 (l2.trans l1) fun i hi => ?_⟩
      simp only [List.mem_append, not_or] at hi
      rw [a2 i hi.2, a1 i hi.1]
    · cases e
theorem gn_tup {es : List Expr} {k n : Nat} {vs : List Nat} {g : DNs} (hc : X.calm = true) (h : NSs X es vs g) (hg : ∀ ds ρ ρ', g ds ρ = some ρ' → ds.length = n) (hn : (assignEach es X.env).length = n := by rfl) (hst : (assignEach es X.env).findIdx? (·.1) = none := by rfl) : NS X (.Tuple es k pos) vs (gnTup g) :=
  (pg_tup hc h hn hst).wk fun v σ H Q ⟨μ, ρ, d, ρ', sl, r, e, q⟩ => by
    unfold gnTup at e
    split at e
    · rename_i ds
      obtain ⟨a, vs', rfl, f, rr⟩ := tupOf_ok r rfl
      exact ⟨a, vs', rfl, f, by rw [rr.length, hg ds ρ ρ' e], μ, ρ, ds, ρ', sl, rr, e, q⟩
    · cases e
theorem gnl0 : ∀ ds ρ ρ', gnNil ds ρ = some ρ' → ds.length = 0 := fun ds ρ ρ' h => by
  unfold gnNil at h
  split at h
  · rfl
  · cases h
theorem gnl1 {f : DN} {g : DNs} {n : Nat} (k : ∀ ds ρ ρ', g ds ρ = some ρ' → ds.length = n) : ∀ ds ρ ρ', gnCons f g ds ρ = some ρ' → ds.length = n + 1 := fun ds ρ ρ' h => by
  unfold gnCons at h
  split at h
  · obtain ⟨ρ1, e1, e2⟩ := Option.bind_eq_some_iff.mp h
    rw [List.length_cons, k _ _ _ e2]
  · cases h
/-- as a target of any statement -/
def dN (f : DN) : DG := fun d ρ S => match f d ρ with
  | some ρ' => .nx ρ' S
  | none => .stuck
theorem tG_of {E : XK} {t : Expr} {vs : List Nat} {f : DN} (h : NS X t vs f) : GS X E t (dN f) := h.wk fun v σ H Q ⟨μ, ρ, S, d, sl, m, r, o⟩ => by
  unfold dN at o
  split at o
  · rename_i ρ' e
    exact ⟨μ, ρ, d, ρ', sl, r, e, fun σ' sl' _ _ => o μ σ' H .refl m sl'⟩
  · exact o.elim
variable {E : XK} {e : Expr} {v : DE}
def dAsg (v : DE) (g : DG) : DS := fun ρ S => (v ρ S).bindS fun d S1 => g d ρ S1
/-- a target's own outcome is only 'next' (or an error) -/
def GNx (g : DG) : Prop := ∀ d ρ S, (∃ ρ' S', g d ρ S = .nx ρ' S') ∨ (∃ x S', g d ρ S = .exc x S') ∨ g d ρ S = .stuck
theorem dN_nx {f : DN} : GNx (dN f) := fun d ρ S => by
  unfold dN
  cases f d ρ with
  | some ρ' => exact .inl ⟨_, _, rfl⟩
  | none => exact .inr (.inr rfl)
theorem OutS.tg {w : World} {K : PySem.W.Frag} {μ : Mu} {H : Hp} {D : Ends} {g : DG} {d : Ev.D} {ρ : Rho} {S : Sto} (hg : GNx g) (o : OutS w K E μ H D (g d ρ S)) : OutS w K E μ H { nx := D.nx, rt := fun _ _ => False } (g d ρ S) := by
  rcases hg d ρ S with ⟨ρ', S', e⟩ | ⟨x, S', e⟩ | e
  · rw [e] at o ⊢; exact o
  · rw [e] at o ⊢; exact o
  · rw [e] at o ⊢; exact o
theorem es_asg {tg : Expr} {g : DG} (he : ES X E e v) (hg : GS X E tg g) (hn : GNx g) (hs : swapsWithSole [tg] e pos.line X.env = pure false := by rfl) (hw : swappedStores [tg] e X.env = pure none := by rfl)
    (h1 : (assignEach [tg] X.env).map (·.2) = [assign tg X.env] := by rfl) : SS X E (.Assign [tg] e pos) (dAsg v g) := (ps_asg he hg hs hw h1).wk fun D σ H ⟨μ, ρ, S, sl, m, o⟩ =>
  tE_mono (out1S sl m o) fun x H1 ⟨μ1, d, S1, x1, m1, r1, o1⟩ => ⟨μ1, ρ, S1, d, sl.ext x1, m1, r1, OutS.tg hn o1⟩
/-- a, b = x, y: plain local names -/
def dPar (i j : Nat) (t : DA) : DS := fun ρ S => match t ρ S with
  | .ok [a, b] S1 => .nx ((ρ.set i (some a)).set j (some b)) S1
  | .exc x S1 => .exc x S1
  | _ => .stuck
theorem es_par (i j : Nat) {x y : Str} {a b : Expr} {t : DA} {px py pt : Pos} {kt k2 pt2} (hN : X.N.Nodup) (hc : X.calm = true) (ha : AS X E [a, b] t) (hi : X.N[i]? = some x := by rfl) (hj : X.N[j]? = some y := by rfl) (hij : i ≠ j := by decide)
    (hx : X.env.scope.names.lookup x = some .local := by rfl) (hy : X.env.scope.names.lookup y = some .local := by rfl)
    (hw : swappedStores [.Tuple [.Name x px, .Name y py] kt pt] (.Tuple [a, b] k2 pt2) X.env = pure (some [x, y]) := by rfl)
    (hs : swapsWithSole [.Tuple [.Name x px, .Name y py] kt pt] (.Tuple [a, b] k2 pt2) pos.line X.env = pure false := by rfl) : SS X E (.Assign [.Tuple [.Name x px, .Name y py] kt pt] (.Tuple [a, b] k2 pt2) pos) (dPar i j t) :=
  (ps_par hc hN hi hj hij hx hy ha hw hs).wk fun D σ H ⟨μ, ρ, S, sl, m, o⟩ => by
    refine ⟨μ, ρ, S, sl, m, ?_⟩
    unfold dPar at o
    cases q : t ρ S with
    | stuck => rw [q] at o; exact o
    | exc x' S' => rw [q] at o; exact o
    | ok ds S1 =>
      rw [q] at o
      intro μ1 H1 vs x1 m1 r1
      split at o
      · rename_i a' b' S1' e'
        cases e'
        obtain ⟨v, u, rfl, h1, h2⟩ := reps2 r1
        exact ⟨v, u, rfl, o μ1 _ H1 x1 m1 (((sl.ext x1).set i h1).set j h2)⟩
      · rename_i e'
        cases e'
      · exact o.elim
def dPar3 (i j k : Nat) (t : DA) : DS := fun ρ S => match t ρ S with
  | .ok [a, b, c] S1 => .nx (((ρ.set i (some a)).set j (some b)).set k (some c)) S1
  | .exc x S1 => .exc x S1
  | _ => .stuck
theorem es_par3 (i j l : Nat) {x y z : Str} {a b c : Expr} {t : DA} {px py pz pt : Pos} {kt k2 pt2} (hN : X.N.Nodup) (hc : X.calm = true) (ha : AS X E [a, b, c] t) (hi : X.N[i]? = some x := by rfl) (hj : X.N[j]? = some y := by rfl) (hl : X.N[l]? = some z := by rfl) (hij : i ≠ j := by decide) (hil : i ≠ l := by decide) (hjl : j ≠ l := by decide)
    (hx : X.env.scope.names.lookup x = some .local := by rfl) (hy : X.env.scope.names.lookup y = some .local := by rfl) (hz : X.env.scope.names.lookup z = some .local := by rfl)
    (hw : swappedStores [.Tuple [.Name x px, .Name y py, .Name z pz] kt pt] (.Tuple [a, b, c] k2 pt2) X.env = pure (some [x, y, z]) := by rfl)
    (hs : swapsWithSole [.Tuple [.Name x px, .Name y py, .Name z pz] kt pt] (.Tuple [a, b, c] k2 pt2) pos.line X.env = pure false := by rfl) : SS X E (.Assign [.Tuple [.Name x px, .Name y py, .Name z pz] kt pt] (.Tuple [a, b, c] k2 pt2) pos) (dPar3 i j l t) :=
  (ps_par3 hc hN hi hj hl hij hil hjl hx hy hz ha hw hs).wk fun D σ H ⟨μ, ρ, S, sl, m, o⟩ => by
    refine ⟨μ, ρ, S, sl, m, ?_⟩
    unfold dPar3 at o
    cases q : t ρ S with
    | stuck => rw [q] at o; exact o
    | exc x' S' => rw [q] at o; exact o
    | ok ds S1 =>
      rw [q] at o
      intro μ1 H1 vs x1 m1 r1
      split at o
      · rename_i a' b' c' S1' e'
        cases e'
        rw [reps_cons] at r1
        obtain ⟨v, r, rfl, h1, r1⟩ := r1
        obtain ⟨u, u', rfl, h2, h3⟩ := reps2 r1
        exact ⟨v, u, u', rfl, o μ1 _ H1 x1 m1 ((((sl.ext x1).set i h1).set j h2).set l h3)⟩
      · rename_i e'
        cases e'
      · exact o.elim
end

/-! ### while -/
def RS.again (k : DS) : RS → RS
  | .nx ρ S => k ρ S
  | .ct ρ S => k ρ S
  | .bk ρ S => .nx ρ S
  | r => r
def dWhile : Nat → DT → DS → DS
  | 0, _, _ => fun _ _ => .stuck
  | n + 1, p, f => fun ρ S => (p ρ S).bindS fun b S1 => if b = true then (f ρ S1).again (dWhile n p f) else .nx ρ S1
section
variable {X : Cx} {E : XK} {pos : Pos} {p : DT} {f : DS}
theorem es_while {c : Expr} {body : List Stmt} (n : Nat) (hp : PassesOwn (model X.prog X.w) X.A X.env X.xe) (hc : TSo X E c p) (hb : SSs X E body f) : SS X E (.While c body [] pos) (dWhile n p f) := (ps_while hp hc hb).wk fun D σ H ⟨μ, ρ, S, sl, m, o⟩ => by
  refine ⟨fun k σ' H' => ∃ μ ρ S, SlR X.K μ H' ρ σ' ∧ Sim X.w X.K μ S H' ∧ OutS X.w X.K E μ H' D (dWhile k p f ρ S), ⟨n, μ, ρ, S, sl, m, o⟩, fun k σ' H' ⟨μ, ρ, S, sl, m, o⟩ => ?_⟩
  cases k with
  | zero => exact o.elim
  | succ k =>
    have o : OutS X.w X.K E μ H' D ((p ρ S).bindS fun b S1 => if b = true then (f ρ S1).again (dWhile k p f) else .nx ρ S1) := o
    refine tT_mono (out1T sl m o) fun b H1 ⟨μ1, S1, x1, m1, o1⟩ => ?_
    cases b with
    | false => exact o1 μ1 σ' H1 .refl m1 (sl.ext x1)
    | true =>
      refine ⟨fun σ' H' => ∃ μ ρ S, SlR X.K μ H' ρ σ' ∧ Sim X.w X.K μ S H' ∧ OutS X.w X.K E μ H' D (dWhile k p f ρ S), fun σ2 H2 h => ⟨k, Nat.lt_succ_self k, h⟩, μ1, ρ, S1, sl.ext x1, m1, ?_⟩
      have o2 : OutS X.w X.K E μ1 H1 D ((f ρ S1).again (dWhile k p f)) := o1
      cases q : f ρ S1 with
      | nx ρ2 S2 => rw [q] at o2; exact fun μ' σ2 H2 x2 m2 sl2 => ⟨μ', ρ2, S2, sl2, m2, OutS.mono x2 o2⟩
      | ct ρ2 S2 => rw [q] at o2; exact fun μ' σ2 H2 x2 m2 sl2 => ⟨μ', ρ2, S2, sl2, m2, OutS.mono x2 o2⟩
      | bk ρ2 S2 => rw [q] at o2; exact o2
      | ret d S2 => rw [q] at o2; exact o2
      | exc x S2 => rw [q] at o2; exact o2
      | stuck => rw [q] at o2; exact o2
end

/-! ### what is walked -/
inductive AI where
  /-- items that stand still -/
  | sta (xs : List D)
  /-- lo, lo + c, .. -/
  | rng (lo c : Int) (n : Nat)
  /-- a place's list, as it stands at each turn -/
  | lst (n : Nat)
  /-- pairs of a number and an item; pairs of two items -/
  | enu (lo : Int) (xs : List D)
  | zip (xs ys : List D)
def nextOf : AI → Nat → Sto → Option (Option D)
  | .sta xs, i, _ => some xs[i]?
  | .rng lo c n, i, _ => some (if i < n then some (.int (lo + (i : Nat) * c)) else none)
  | .lst n, i, S => match S[n]? with
    | some (.lst ds) => some ds[i]?
    | _ => none
  | .enu lo xs, i, _ => some (xs[i]?.map fun d => .tup [.int (lo + (i : Nat)), d])
  | .zip xs ys, i, _ => some (match xs[i]?, ys[i]? with
    | some d, some e => some (.tup [d, e])
    | _, _ => none)
structure ItR (w : World) (K : PySem.W.Frag) (J : It) (ai : AI) (μ0 : Mu) (H0 : Hp) : Prop where
  go : ∀ (μ : Mu) (H : Hp) (S : Sto) (i : Nat) (d : D), Ext μ0 H0 μ H → Sim w K μ S H → nextOf ai i S = some (some d) → J.go i H ∧ ∀ x H', J.yld i H x H' → Ext μ H μ H' ∧ Sim w K μ S H' ∧ Rep K μ H' d x
  stop : ∀ (μ : Mu) (H : Hp) (S : Sto) (i : Nat), Ext μ0 H0 μ H → Sim w K μ S H → nextOf ai i S = some none → J.stop i H
abbrev DI := Rho → Sto → R AI
def OutI (w : World) (K : PySem.W.Frag) (E : XK) (μ : Mu) (H : Hp) (Q : It → Hp → Prop) : R AI → Prop
  | .ok ai S' => ∀ μ' H' J, Ext μ H μ' H' → Sim w K μ' S' H' → ItR w K J ai μ' H' → Q J H'
  | .exc x S' => ∀ μ' H' c a, Ext μ H μ' H' → Sim w K μ' S' H' → RepX K μ' H' x c a → E c a H'
  | .stuck => False
def tI (w : World) (K : PySem.W.Frag) (E : XK) (f : DI) : TI := fun σ H Q => ∃ μ ρ S, SlR K μ H ρ σ ∧ Sim w K μ S H ∧ OutI w K E μ H Q (f ρ S)
abbrev IS (X : Cx) (E : XK) (tg iter : Expr) (f : DI) : Prop := PI X tg iter (tI X.w X.K E f)
theorem _root_.L2.PI.wk {X : Cx} {tg e : Expr} {t t' : TI} (h : PI X tg e t) (k : ∀ σ H Q, t' σ H Q → t σ H Q) : PI X tg e t' := ⟨fun pins s σ H R I q => h.run pins s σ H R I (k σ H R q)⟩
theorem _root_.L2.PI.or {X : Cx} {tg e : Expr} {t u : TI} (h : PI X tg e t) (h' : PI X tg e u) : PI X tg e (fun σ H Q => t σ H Q ∨ u σ H Q) := ⟨fun pins s σ H R I q => q.elim (h.run pins s σ H R I) (h'.run pins s σ H R I)⟩
section
variable {w : World} {K : PySem.W.Frag} {μ : Mu} {H : Hp}
theorem itr_list {a : Addr} {vs : List V} {ds : List D} (f : FL K μ H a vs) (r : Reps K μ H ds vs) : ItR w K (Itl K a) (.sta ds) μ H where
  go := fun μ' H' S i d x m e => by
    have e : ds[i]? = some d := by simpa [nextOf] using e
    obtain ⟨v, h1, h2⟩ := r.get e
    refine ⟨⟨vs, v, (f.ext x).sq, h1⟩, fun y H2 hy => ?_⟩
    obtain ⟨rfl, h3⟩ := hy
    have h4 := h3 vs (f.ext x).sq
    rw [h1] at h4; cases h4
    exact ⟨.refl, m, h2.ext x⟩
  stop := fun μ' H' S i x m e => by
    have e : ds[i]? = none := by simpa [nextOf] using e
    exact ⟨vs, (f.ext x).sq, by rw [r.length]; exact List.getElem?_eq_none_iff.mp e⟩
theorem itr_tup {a : Addr} {vs : List V} {ds : List D} (f : FT K μ H a vs) (r : Reps K μ H ds vs) : ItR w K (Itt K a) (.sta ds) μ H where
  go := fun μ' H' S i d x m e => by
    have e : ds[i]? = some d := by simpa [nextOf] using e
    obtain ⟨v, h1, h2⟩ := r.get e
    refine ⟨⟨vs, v, (f.ext x).sq, h1⟩, fun y H2 hy => ?_⟩
    obtain ⟨rfl, h3⟩ := hy
    have h4 := h3 vs (f.ext x).sq
    rw [h1] at h4; cases h4
    exact ⟨.refl, m, h2.ext x⟩
  stop := fun μ' H' S i x m e => by
    have e : ds[i]? = none := by simpa [nextOf] using e
    exact ⟨vs, (f.ext x).sq, by rw [r.length]; exact List.getElem?_eq_none_iff.mp e⟩
theorem itr_live {a : Addr} {n : Nat} (f : μ.l[n]? = some a) : ItR w K (Itl K a) (.lst n) μ H where
  go := fun μ' H' S i d x m e => by
    have hm := x.at f
    have e : (match S[n]? with
      | some (.lst ds) => some ds[i]?
      | _ => none) = some (some d) := e
    split at e
    · rename_i ds e2
      have e : ds[i]? = some d := by simpa using e
      obtain ⟨vs, h1, h2⟩ := m.ob n _ a e2 hm
      obtain ⟨v, h3, h4⟩ := h2.get e
      refine ⟨⟨vs, v, .of h1, h3⟩, fun y H2 hy => ?_⟩
      obtain ⟨rfl, h5⟩ := hy
      have h6 := h5 vs (.of h1)
      rw [h3] at h6; cases h6
      exact ⟨.refl, m, h4⟩
    · cases e
  stop := fun μ' H' S i x m e => by
    have hm := x.at f
    have e : (match S[n]? with
      | some (.lst ds) => some ds[i]?
      | _ => none) = some none := e
    split at e
    · rename_i ds e2
      have e : ds[i]? = none := by simpa using e
      obtain ⟨vs, h1, h2⟩ := m.ob n _ a e2 hm
      exact ⟨vs, .of h1, by rw [h2.length]; exact List.getElem?_eq_none_iff.mp e⟩
    · cases e
theorem itr_rng {lo : Int} {n : Nat} : ItR w K (Itr lo n) (.rng lo 1 n) μ H where
  go := fun μ' H' S i d x m e => by
    have e : (if i < n then some (D.int (lo + (i : Nat) * 1)) else none) = some d := by simpa [nextOf] using e
    split at e
    · rename_i h
      cases e
      refine ⟨h, fun y H2 hy => ?_⟩
      obtain ⟨rfl, rfl⟩ := hy
      exact ⟨.refl, m, rep_int.mpr (by rw [Int.mul_one])⟩
    · cases e
  stop := fun μ' H' S i x m e => by
    have e : (if i < n then some (D.int (lo + (i : Nat) * 1)) else none) = none := by simpa [nextOf] using e
    split at e
    · cases e
    · rename_i h
      exact Nat.le_of_not_lt h
theorem itr_rngC {lo c : Int} {n : Nat} : ItR w K (Itc lo c n) (.rng lo c n) μ H where
  go := fun μ' H' S i d x m e => by
    have e : (if i < n then some (D.int (lo + (i : Nat) * c)) else none) = some d := by simpa [nextOf] using e
    split at e
    · rename_i h
      cases e
      refine ⟨h, fun y H2 hy => ?_⟩
      obtain ⟨rfl, rfl⟩ := hy
      exact ⟨.refl, m, rep_int.mpr rfl⟩
    · cases e
  stop := fun μ' H' S i x m e => by
    have e : (if i < n then some (D.int (lo + (i : Nat) * c)) else none) = none := by simpa [nextOf] using e
    split at e
    · cases e
    · rename_i h
      exact Nat.le_of_not_lt h
end
section
variable {X : Cx} {E : XK} {tg e : Expr} {f : DE} {t : DA} {pos p : Pos}
/-- a list or a tuple -/
def aiOf (d : D) (S : Sto) : R AI := match d with
  | .tup ds => .ok (.sta ds) S
  | .lst ds => .ok (.sta ds) S
  | .loc n => match S[n]? with
    | some (.lst _) => .ok (.lst n) S
    | _ => .stuck
  | _ => .stuck
def iSeq (f : DE) : DI := fun ρ S => (f ρ S).bind aiOf
theorem ei_seq (h : ES X E e f) : IS X E tg e (iSeq f) := ((pi_list h).or (pi_tup h)).wk fun σ H Q ⟨μ, ρ, S, sl, m, o⟩ => by
  have o : OutI X.w X.K E μ H Q ((f ρ S).bind aiOf) := o
  have use : ∀ {C : V → Hp → Prop}, (∀ d S1, f ρ S = .ok d S1 → ∀ μ1 H1 v, Ext μ H μ1 H1 → Sim X.w X.K μ1 S1 H1 → Rep X.K μ1 H1 d v → C v H1) → tE X.w X.K E f σ H C := fun {C} k => by
    refine ⟨μ, ρ, S, sl, m, ?_⟩
    cases q : f ρ S with
    | stuck => rw [q] at o; exact o
    | exc x S' => rw [q] at o; exact o
    | ok d S1 => exact fun μ1 H1 v x m1 r => k d S1 q μ1 H1 v x m1 r
  cases q : f ρ S with
  | stuck => rw [q] at o; exact o.elim
  | exc x S' => exact .inl (use fun d S1 e => by rw [q] at e; cases e)
  | ok d S1 =>
    rw [q] at o
    cases d with
    | tup ds =>
      refine .inr (use fun d' S1' e μ1 H1 v x m1 r => ?_)
      rw [q] at e; cases e
      rw [rep_tup] at r
      obtain ⟨a, vs, rfl, ft, rr⟩ := r
      exact ⟨a, rfl, ⟨vs, ft.sq⟩, o μ1 H1 _ x m1 (itr_tup ft rr)⟩
    | lst ds =>
      refine .inl (use fun d' S1' e μ1 H1 v x m1 r => ?_)
      rw [q] at e; cases e
      rw [rep_lst] at r
      obtain ⟨a, vs, rfl, fl, rr⟩ := r
      exact ⟨a, rfl, ⟨vs, fl.sq⟩, o μ1 H1 _ x m1 (itr_list fl rr)⟩
    | loc n =>
      -- a list's place: read off the store
      have o' : OutI X.w X.K E μ H Q (match S1[n]? with
        | some (.lst _) => .ok (.lst n) S1
        | _ => .stuck) := o
      split at o'
      · rename_i ds hl
        refine .inl (use fun d' S1' e μ1 H1 v x m1 r => ?_)
        rw [q] at e; cases e
        rw [rep_loc] at r
        obtain ⟨a, rfl, hn⟩ := r
        obtain ⟨vs, h1, h2⟩ := m1.ob n _ a hl hn
        exact ⟨a, rfl, ⟨vs, .of h1⟩, o' μ1 H1 _ x m1 (itr_live hn)⟩
      · exact o'.elim
    | _ => exact o.elim
/-- range(n), range(a, b) -/
def rng1 : List D → Sto → R AI
  | [.int j], S => if Nat.ble j.natAbs 4000000000000000000 = true then .ok (.rng 0 1 j.toNat) S else .stuck
  | _, _ => .stuck
def rng2 : List D → Sto → R AI
  | [.int i, .int j], S => if (Nat.ble i.natAbs 4000000000000000000 && Nat.ble j.natAbs 4000000000000000000) = true then .ok (.rng i 1 (j - i).toNat) S else .stuck
  | _, _ => .stuck
def iArg (k : List D → Sto → R AI) (t : DA) : DI := fun ρ S => (t ρ S).bind k
theorem outAI {μ : Mu} {ρ : Rho} {S : Sto} {σ : L2.St} {H : Hp} {Q : It → Hp → Prop} {k : List D → Sto → R AI} (sl : SlR X.K μ H ρ σ) (m : Sim X.w X.K μ S H) (o : OutI X.w X.K E μ H Q ((t ρ S).bind k)) :
    tA X.w X.K E t σ H fun vs H1 => ∃ μ1 ds S1, Ext μ H μ1 H1 ∧ Sim X.w X.K μ1 S1 H1 ∧ Reps X.K μ1 H1 ds vs ∧ OutI X.w X.K E μ1 H1 Q (k ds S1) := by
  refine ⟨μ, ρ, S, sl, m, ?_⟩
  cases q : t ρ S with
  | stuck => rw [q] at o; exact o
  | exc x S' => rw [q] at o; exact o
  | ok ds S1 =>
    rw [q] at o
    intro μ1 H1 vs x m1 r
    refine ⟨μ1, ds, S1, x, m1, r, ?_⟩
    have o : OutI X.w X.K E μ H Q (k ds S1) := o
    cases q2 : k ds S1 with
    | stuck => rw [q2] at o; exact o
    | exc y S' => rw [q2] at o; exact fun μ' H' c a x' => o μ' H' c a (x.trans x')
    | ok ai S2 => rw [q2] at o; exact fun μ' H' J x' => o μ' H' J (x.trans x')
theorem ei_range1 {a : Expr} (ha : AS X E [a] t) (hm : X.mg "range" = none) (hg : Gl X "range" := by rfl) (hs : starEach [a] X.env = [(false, eval a X.env)] := by rfl) : IS X E tg (.Call (.Name "range" p) [a] [] pos) (iArg rng1 t) := (pi_range1 hg hm ha hs).wk fun σ H Q ⟨μ, ρ, S, sl, m, o⟩ => by
  refine tA_mono (outAI sl m o) fun vs H1 ⟨μ1, ds, S1, x1, m1, r1, o1⟩ => ?_
  unfold rng1 at o1
  split at o1
  · rename_i j
    obtain ⟨v, rfl, h1⟩ := reps1 r1
    rw [rep_int] at h1
    subst h1
    split at o1
    · rename_i hj
      have hj2 := Nat.le_of_ble_eq_true hj
      exact ⟨j, rfl, by omega, by omega, o1 μ1 H1 _ .refl m1 itr_rng⟩
    · exact o1.elim
  · exact o1.elim
theorem ei_range2 {a b : Expr} (ha : AS X E [a, b] t) (hm : X.mg "range" = none) (hg : Gl X "range" := by rfl) (hs : starEach [a, b] X.env = [(false, eval a X.env), (false, eval b X.env)] := by rfl) (hs2 : starEach [b] X.env = [(false, eval b X.env)] := by rfl) :
    IS X E tg (.Call (.Name "range" p) [a, b] [] pos) (iArg rng2 t) := (pi_range2 hg hm ha hs hs2).wk fun σ H Q ⟨μ, ρ, S, sl, m, o⟩ => by
  refine tA_mono (outAI sl m o) fun vs H1 ⟨μ1, ds, S1, x1, m1, r1, o1⟩ => ?_
  unfold rng2 at o1
  split at o1
  · rename_i i j
    obtain ⟨v, u, rfl, h1, h2⟩ := reps2 r1
    rw [rep_int] at h1 h2
    subst h1 h2
    split at o1
    · rename_i hj
      obtain ⟨hi, hj⟩ := Bool.and_eq_true_iff.mp hj
      have hi2 := Nat.le_of_ble_eq_true hi
      have hj2 := Nat.le_of_ble_eq_true hj
      exact ⟨i, j, rfl, by omega, o1 μ1 H1 _ .refl m1 itr_rng⟩
    · exact o1.elim
  · exact o1.elim
end

/-! ### for -/
def dForGo (ai : AI) (g : DG) (f : DS) : Nat → Nat → DS
  | 0, _ => fun _ _ => .stuck
  | n + 1, i => fun ρ S => match nextOf ai i S with
    | none => .stuck
    | some none => .nx ρ S
    | some (some d) => (g d ρ S).thn fun ρ1 S1 => (f ρ1 S1).again (dForGo ai g f n (i + 1))
def dFor (n : Nat) (it : DI) (g : DG) (f : DS) : DS := fun ρ S => (it ρ S).bindS fun ai S1 => dForGo ai g f n 0 ρ S1
section
variable {X : Cx} {E : XK} {pos : Pos} {it : DI} {g : DG} {f : DS} {tg iter : Expr}
theorem es_for {body : List Stmt} (n : Nat) (hp : PassesOwn (model X.prog X.w) X.A X.env X.xe) (hc : X.calm = true) (hi : IS X E tg iter it) (hg : GS X E tg g) (hn : GNx g) (hb : SSs X E body f)
    (hs : ∀ x, foldedSetIterable iter X.env x = pure x := by intro _; rfl) : SS X E (.For tg iter body [] pos) (dFor n it g f) := (ps_for hp hc hi hg hb hs).wk fun D σ H ⟨μ, ρ, S, sl, m, o⟩ => by
  have o : OutS X.w X.K E μ H D ((it ρ S).bindS fun ai S1 => dForGo ai g f n 0 ρ S1) := o
  refine ⟨μ, ρ, S, sl, m, ?_⟩
  cases q : it ρ S with
  | stuck => rw [q] at o; exact o
  | exc x S' => rw [q] at o; exact o
  | ok ai S1 =>
    rw [q] at o
    have o : OutS X.w X.K E μ H D (dForGo ai g f n 0 ρ S1) := o
    intro μ1 H1 J x1 m1 j1
    refine ⟨fun i k σ' H' => ∃ μ ρ S, SlR X.K μ H' ρ σ' ∧ Sim X.w X.K μ S H' ∧ Ext μ1 H1 μ H' ∧ OutS X.w X.K E μ H' D (dForGo ai g f k i ρ S), ⟨n, μ1, ρ, S1, sl.ext x1, m1, .refl, OutS.mono x1 o⟩, fun i k σ' H' ⟨μ2, ρ2, S2, sl2, m2, x2, o2⟩ => ?_⟩
    cases k with
    | zero => exact o2.elim
    | succ k =>
      have o2 : OutS X.w X.K E μ2 H' D (match nextOf ai i S2 with
        | none => .stuck
        | some none => .nx ρ2 S2
        | some (some d) => (g d ρ2 S2).thn fun ρ1 S1 => (f ρ1 S1).again (dForGo ai g f k (i + 1))) := o2
      split at o2
      · exact o2.elim
      · rename_i e
        exact .inl ⟨j1.stop μ2 H' S2 i x2 m2 e, o2 μ2 σ' H' .refl m2 sl2⟩
      · rename_i d e
        obtain ⟨hgo, hy⟩ := j1.go μ2 H' S2 i d x2 m2 e
        refine .inr ⟨hgo, fun σ' H' => ∃ μ ρ S, SlR X.K μ H' ρ σ' ∧ Sim X.w X.K μ S H' ∧ Ext μ1 H1 μ H' ∧ OutS X.w X.K E μ H' D (dForGo ai g f k (i + 1) ρ S), fun σ3 H3 h => ⟨k, Nat.lt_succ_self k, h⟩, fun x H3 hx => ?_⟩
        obtain ⟨x3, m3, r3⟩ := hy x H3 hx
        refine ⟨μ2, ρ2, S2, d, sl2.ext x3, m3, r3, ?_⟩
        have o3 := OutS.mono x3 o2
        rcases hn d ρ2 S2 with ⟨ρ4, S4, e4⟩ | ⟨y, S4, e4⟩ | e4
        · rw [e4] at o3 ⊢
          intro μ5 σ5 H5 x5 m5 sl5
          refine ⟨μ5, ρ4, S4, sl5, m5, ?_⟩
          have o4 : OutS X.w X.K E μ5 H5 D ((f ρ4 S4).again (dForGo ai g f k (i + 1))) := OutS.mono x5 o3
          have x6 : Ext μ1 H1 μ5 H5 := (x2.trans x3).trans x5
          cases q : f ρ4 S4 with
          | nx ρ6 S6 => rw [q] at o4; exact fun μ7 σ7 H7 x7 m7 sl7 => ⟨μ7, ρ6, S6, sl7, m7, x6.trans x7, OutS.mono x7 o4⟩
          | ct ρ6 S6 => rw [q] at o4; exact fun μ7 σ7 H7 x7 m7 sl7 => ⟨μ7, ρ6, S6, sl7, m7, x6.trans x7, OutS.mono x7 o4⟩
          | bk ρ6 S6 => rw [q] at o4; exact o4
          | ret d S6 => rw [q] at o4; exact o4
          | exc x S6 => rw [q] at o4; exact o4
          | stuck => rw [q] at o4; exact o4
        · rw [e4] at o3 ⊢; exact o3
        · rw [e4] at o3 ⊢; exact o3
end

/-! ### a def's body -/
section
variable {P : Program} {w : World} {K : PySem.W.Frag} {mg : Str → Option Value} {base : Heap}
/-- THE RULE for a def: its body's denotation -/
theorem cal_of {CX : CXT} {x : Str} {params : Arguments} {body : List Stmt} {scope : Scope} {f : Addr} {fd : FuncData} {N ps : List Str} {k : Nat} {d : DS} (F : FunD K x x params body scope [] [] f fd) (S : FnScope N ps scope) (hm : mg x = some (.ref f)) (hb : Binds K fd ps [])
    (hbody : ∀ (cdv : Value) (A : Around) (outer : List Env) (s : Shared) (H : Hp) (E : XK), Rm k (A.deeper (envOfC x scope s.heap.objs.size f cdv)) → SSs (cxOf CX P w K mg base N x scope f cdv A outer s H E) E body d) :
    Cal P w K mg base CX (k + 1) x ps (mkFn ps.length N.length d) := by
  have kp := F.kp
  have F' := F
  obtain ⟨oc, od, dV, kV, doc, pm, an, cdv, ct, osl, rfl, lk, hcd, _, _⟩ := F.ex
  refine ⟨f, _, ⟨fun ds S hl => if_neg hl, fun A outer s H args us vs Q E hr e0 hbi r hsp => ?_⟩, hm, kp, params, body, scope, F', hb⟩
  have hl : vs.length = ps.length := by
    obtain ⟨μ, S, ds, r, m, o⟩ := hsp
    rw [r.length]
    by_cases e : ds.length = ps.length
    · exact e
    · rw [show mkFn ps.length N.length d ds S = .stuck from if_neg e] at o
      exact o.elim
  have KX : K.In s.heap := e0.mod.kin.keeps fun b o e => (e0.bs b o e).1
  have lim : s.heap.NoLimit := e0.mod.nolimit.keeps fun b o e => (e0.bs b o e).1
  have kinds : ∀ y ∈ ps.zip us, scope.names.lookup y.1 = some .local ∨ (scope.names.lookup y.1 = some .cell ∧ ((cellsFrom (s.heap.objs.size + 1) scope.names []).lookup y.1).isSome = true) := fun ⟨n, v⟩ hy =>
    (S.par n (List.of_mem_zip hy).1).imp (fun q => q) fun q => ⟨q, PySem.W.cellsFrom_some _ _ _ (.inl q)⟩
  refine codeAny_call_function hr.room.depth (KX _ _ lk) rfl S.co S.gen rfl (PySem.W.codeRec_of KX hcd) (hbi _ _ _ _ (wpAny_newFunctionEnv_cells S.kind kinds fun env he s1 x1 => ?_))
  subst he
  refine ⟨lim.keeps x1.toInCall.keep, codeAny_func ?_⟩
  have I := inv_start (CX := CX) (P := P) (w := w) (mg := mg) (E := E) S hr.room.hd e0 hl r x1
  obtain ⟨μ, S0, ds, rr, m, o⟩ := hsp
  have hdl : ds.length = ps.length := by rw [← rr.length]; exact hl
  have o : OutE w K E μ H Q (match d (ds.map some ++ List.replicate (N.length - ps.length) none) S0 with
    | .ret d S' => .ok d S'
    | .nx _ S' => .ok .non S'
    | .exc x S' => .exc x S'
    | _ => .stuck) := by
    rw [show mkFn ps.length N.length d ds S0 = _ from if_pos hdl] at o
    exact o
  have sl : SlR K μ H (ds.map some ++ List.replicate (N.length - ps.length) none) (L2.start N vs) := by
    refine ⟨by unfold L2.start; rw [List.length_append, List.length_append, List.length_map, List.length_map, List.length_replicate, List.length_replicate, rr.length, hdl], fun i y q => ?_⟩
    unfold L2.start
    by_cases hi : i < ds.length
    · rw [List.getElem?_append_left (by simpa using hi), List.getElem?_map] at q
      rw [List.getElem?_append_left (by rw [List.length_map, rr.length]; exact hi), List.getElem?_map]
      cases e : ds[i]? with
      | none => rw [e] at q; cases q
      | some y' =>
        rw [e] at q
        cases q
        obtain ⟨v, h1, h2⟩ := rr.get e
        exact ⟨v, by rw [h1]; rfl, h2⟩
    · rw [List.getElem?_append_right (by simpa using hi), List.getElem?_replicate] at q
      split at q <;> cases q
  have hs : tS w K E d { nx := fun _ H' => Q .non H', rt := Q } (L2.start N vs) H := by
    refine ⟨μ, _, S0, sl, m, ?_⟩
    cases q : d (ds.map some ++ List.replicate (N.length - ps.length) none) S0 with
    | ret y S' => rw [q] at o; exact o
    | nx ρ' S' => rw [q] at o; exact fun μ' σ' H' x2 m2 _ => o μ' H' .non x2 m2 (rep_non.mpr rfl)
    | exc y S' => rw [q] at o; exact o
    | bk ρ' S' => rw [q] at o; exact o.elim
    | ct ρ' S' => rw [q] at o; exact o.elim
    | stuck => rw [q] at o; exact o.elim
  refine wpAny_mono ((hbody cdv A outer s H E ⟨hr.room.deeper _, hr.gd⟩).run [] s1 _ H _ I hs) (fun fl s' hq => ?_) fun e s' hq => hq
  match fl, hq with
  | .ret u, ⟨v, σ', H', J, rv, q⟩ => exact ⟨v, H', J.os, J.bare, J.base, J.hok, rv, q⟩
  | .next, ⟨σ', H', J, q⟩ => exact ⟨.non, H', J.os, J.bare, J.base, J.hok, rfl, q⟩
  | .brk, ⟨_, _, _, q⟩ => exact False.elim q
  | .cont, ⟨_, _, _, q⟩ => exact False.elim q
end
end Ev

set_option Elab.async false
set_option linter.all false
set_option maxRecDepth 100000
set_option maxHeartbeats 4000000
/-! EvE: list comprehensions. -/
namespace Ev
open PySem PySem.Spec PyProof.Rows L2

def wipeR (ρ : Rho) : List Nat → Rho
  | [] => ρ
  | v :: vs => (wipeR ρ vs).set v none
theorem wipe_in {σ : L2.St} {i : Nat} : ∀ {vs : List Nat}, i ∈ vs → (wipe σ vs)[i]? = (σ[i]?).map fun _ => none
  | v :: vs, h => by
    show ((wipe σ vs).set v none)[i]? = _
    by_cases hi : v = i
    · subst hi
      by_cases hv : v < σ.length
      · rw [List.getElem?_set_self (by rw [wipe_length]; exact hv), List.getElem?_eq_getElem hv]
        rfl
      · rw [List.getElem?_eq_none (by rw [List.length_set, wipe_length]; omega), List.getElem?_eq_none (by omega)]
        rfl
    · rw [List.getElem?_set_ne hi]
      exact wipe_in ((List.mem_cons.mp h).resolve_left fun e => hi e.symm)
theorem wipeR_some {ρ : Rho} {i : Nat} {d : D} : ∀ {vs : List Nat}, (wipeR ρ vs)[i]? = some (some d) → ρ[i]? = some (some d) ∧ i ∉ vs
  | [], h => ⟨h, by simp⟩
  | v :: vs, h => by
    have h : ((wipeR ρ vs).set v none)[i]? = some (some d) := h
    by_cases hi : v = i
    · subst hi
      by_cases hv : v < (wipeR ρ vs).length
      · rw [List.getElem?_set_self hv] at h; cases h
      · rw [List.getElem?_eq_none (by simpa using hv)] at h; cases h
    · rw [List.getElem?_set_ne hi] at h
      obtain ⟨h1, h2⟩ := wipeR_some h
      exact ⟨h1, by simp only [List.mem_cons, not_or]; exact ⟨fun e => hi e.symm, h2⟩⟩
theorem wipeR_len {ρ : Rho} : ∀ vs : List Nat, (wipeR ρ vs).length = ρ.length
  | [] => rfl
  | v :: vs => by
    show ((wipeR ρ vs).set v none).length = _
    rw [List.length_set, wipeR_len vs]
theorem SlR.wipe {K : PySem.W.Frag} {μ : Mu} {H : Hp} {ρ : Rho} {σ : L2.St} (h : SlR K μ H ρ σ) (vs : List Nat) : SlR K μ H (wipeR ρ vs) (L2.wipe σ vs) :=
  ⟨by rw [wipeR_len, wipe_length, h.len], fun i d q => by
    obtain ⟨h1, h2⟩ := wipeR_some q
    obtain ⟨v, h3, h4⟩ := h.at_ i d h1
    exact ⟨v, by rw [wipe_out h2]; exact h3, h4⟩⟩
theorem wipe_same {σ σ2 : L2.St} {vs vt : List Nat} (hsub : ∀ i ∈ vt, i ∈ vs) (hl : σ2.length = σ.length) (h : ∀ i, i ∉ vt → σ2[i]? = (wipe σ vs)[i]?) : wipe σ2 vs = wipe σ vs := by
  refine List.ext_getElem? fun i => ?_
  by_cases hi : i ∈ vs
  · rw [wipe_in hi, wipe_in hi]
    by_cases hb : i < σ.length
    · rw [List.getElem?_eq_getElem (by rw [hl]; exact hb), List.getElem?_eq_getElem hb]
      rfl
    · rw [List.getElem?_eq_none (by rw [hl]; omega), List.getElem?_eq_none (by omega)]
  · rw [wipe_out hi, h i fun z => hi (hsub i z)]

/-- the turns of a comprehension: what is made so far, as values -/
def dLcGo (ai : AI) (tf : DN) (tt : DT) (te : DE) (vs : List Nat) : Nat → Nat → List D → Rho → Sto → R (List D)
  | 0, _, _ => fun _ _ => .stuck
  | n + 1, i, acc => fun ρ S => match nextOf ai i S with
    | none => .stuck
    | some none => .ok acc S
    | some (some d) => match tf d (wipeR ρ vs) with
      | none => .stuck
      | some ρ2 => match tt ρ2 S with
        | .ok true S3 => match te ρ2 S3 with
          | .ok y S4 => if acc.length < sizeLine then dLcGo ai tf tt te vs n (i + 1) (acc ++ [y]) ρ S4 else .stuck
          | _ => .stuck
        | .ok false S3 => dLcGo ai tf tt te vs n (i + 1) acc ρ S3
        | _ => .stuck
def mkV : List D → Sto → R D := fun ds S => .ok (.lst ds) S
def mkL : List D → Sto → R D := fun ds S => .ok (.loc S.length) (S ++ [.lst ds])
def dLc (n : Nat) (it : DI) (tf : DN) (tt : DT) (te : DE) (vs : List Nat) (mk : List D → Sto → R D) : DE := fun ρ S => (it ρ S).bind fun ai S1 => (dLcGo ai tf tt te vs n 0 [] ρ S1).bind mk
/-- no test -/
def dYes : DT := fun _ S => .ok true S
/-- a made list may be handed on -/
def MkOk (mk : List D → Sto → R D) : Prop := ∀ (w : World) (K : PySem.W.Frag) (E : XK) (μ1 μ : Mu) (H1 H : Hp) (S : Sto) (acc : List D) (vs : List V) (p : Addr) (Q : VK), H1 p = none → Ext μ1 H1 μ H → Sim w K μ S H → p ∈ μ.hid → p ∉ μ1.hid → (∀ a ∈ μ1.hid, a ∈ μ.hid) → H p = some (.lst vs) →
  Reps K μ H acc vs → OutE w K E μ1 H1 Q (mk acc S) → Q (.ref p) H
theorem mkV_ok : MkOk mkV := by
  intro w K E μ1 μ H1 H S acc vs p Q hp x m h1 h2 hs e r o
  have hl : p ∉ μ.l := (m.hd p h1).2
  exact o ⟨μ.l, μ1.hid⟩ H _ x.less (m.less hs) (rep_lst.mpr ⟨p, vs, rfl, .inl ⟨⟨hl, h2⟩, .inl e⟩, r.car (.less hs)⟩)
theorem mkL_ok : MkOk mkL := by
  intro w K E μ1 μ H1 H S acc vs p Q hp x m h1 h2 hs e r o
  have hl : p ∉ μ.l := (m.hd p h1).2
  have m' := m.less hs
  -- the list takes a place
  have c : Car ⟨μ.l, p :: μ1.hid⟩ H (Mu.push ⟨μ.l, μ1.hid⟩ p) H := ⟨fun n a e => by
      obtain ⟨hb, _⟩ := List.getElem?_eq_some_iff.mp e
      show (μ.l ++ [p])[n]? = _
      rw [List.getElem?_append_left hb]
      exact e, fun a u n1 n2 rd => ⟨fun z => by
        rcases List.mem_append.mp z with z | z
        · exact n1 z
        · exact n2 (by rw [List.mem_singleton.mp z]; exact List.mem_cons_self), fun z => n2 (List.mem_cons_of_mem _ z), rd⟩⟩
  have hs2 : ∀ a ∈ p :: μ1.hid, a ∈ μ.hid := fun a ha => by
    rcases List.mem_cons.mp ha with z | z
    · rw [z]; exact h1
    · exact hs a z
  have m2 := m.less hs2
  have r2 : Reps K ⟨μ.l, p :: μ1.hid⟩ H acc vs := r.car (.less hs2)
  have m3 : Sim w K (Mu.push ⟨μ.l, μ1.hid⟩ p) (S ++ [.lst acc]) H := by
    refine ⟨by show (μ.l ++ [p]).length = _; simp [m.len], ?_, fun n o' a e1 e2 => ?_, fun a ha => ?_⟩
    · show (μ.l ++ [p]).Nodup
      rw [List.nodup_append]
      exact ⟨m.nd, by simp, fun a ha b hb e => hl (by rw [List.mem_singleton.mp hb] at e; rw [← e]; exact ha)⟩
    · have e2 : (μ.l ++ [p])[n]? = some a := e2
      by_cases hn : n < S.length
      · rw [List.getElem?_append_left hn] at e1
        rw [List.getElem?_append_left (by rw [m.len]; exact hn)] at e2
        exact (m2.ob n o' a e1 e2).car c rfl
      · have e : n = S.length := by
          obtain ⟨hb, _⟩ := List.getElem?_eq_some_iff.mp e1
          simp at hb
          omega
        subst e
        rw [List.getElem?_append_right (Nat.le_refl _), Nat.sub_self] at e1
        rw [List.getElem?_append_right (by rw [m.len]; exact Nat.le_refl _), m.len, Nat.sub_self] at e2
        cases e1; cases e2
        exact ⟨vs, by assumption, r2.car c⟩
    · obtain ⟨h3, h4⟩ := m'.hd a ha
      refine ⟨h3, fun z => ?_⟩
      rcases List.mem_append.mp z with z | z
      · exact h4 z
      · exact h2 (by rw [← List.mem_singleton.mp z]; exact ha)
  refine o (Mu.push ⟨μ.l, μ1.hid⟩ p) H _ ?_ m3 (rep_loc.mpr ⟨p, rfl, by rw [← m.len]; exact Mu.last⟩)
  obtain ⟨t, et⟩ := x.pre
  refine ⟨⟨t ++ [p], by show μ.l ++ [p] = _; rw [et, List.append_assoc]⟩, fun _ h => h, fun _ _ _ _ h => h, fun a u ha n => ?_⟩
  obtain ⟨k1, k2⟩ := x.keep a u ha n
  refine ⟨k1, fun z => ?_⟩
  rcases List.mem_append.mp z with z | z
  · exact k2 z
  · rw [List.mem_singleton.mp z, hp] at ha; cases ha

section
variable {X : Cx} {E : XK} {elt tg iter : Expr} {ifs : List Expr} {scope : Scope} {pos : Pos} {it : DI} {tf : DN} {tt : DT} {te : DE} {own : List (Str × Nat)} {vt : List Nat} {mk : List D → Sto → R D}
/-- the reading that the rules of a comprehension want -/
theorem lc_read (hmk : MkOk mk) (hvt : ∀ i ∈ vt, i ∈ own.map (·.2)) {n : Nat} {μ : Mu} {ρ : Rho} {S : Sto} {σ : L2.St} {H : Hp} {Q : VK} (sl : SlR X.K μ H ρ σ) (m : Sim X.w X.K μ S H) (o : OutE X.w X.K E μ H Q (dLc n it tf tt te (own.map (·.2)) mk ρ S)) :
    tLc (tI X.w X.K E it) (tGn X.w X.K vt tf) (tT X.w X.K E0 tt) (tE X.w X.K E0 te) (own.map (·.2)) σ H Q := by
  have o : OutE X.w X.K E μ H Q ((it ρ S).bind fun ai S1 => (dLcGo ai tf tt te (own.map (·.2)) n 0 [] ρ S1).bind mk) := o
  refine ⟨μ, ρ, S, sl, m, ?_⟩
  cases q : it ρ S with
  | stuck => rw [q] at o; exact o
  | exc x S' => rw [q] at o; exact o
  | ok ai S1 =>
    rw [q] at o
    intro μ1 H1 J x1 m1 j1 p np
    have o1 : OutE X.w X.K E μ1 H1 Q ((dLcGo ai tf tt te (own.map (·.2)) n 0 [] ρ S1).bind mk) := OutE.mono x1 o
    have sl1 := sl.ext x1
    refine ⟨fun i k H' => ∃ μ' S' acc accV, Ext μ1 H1 μ' H' ∧ Sim X.w X.K μ' S' H' ∧ p ∈ μ'.hid ∧ H' p = some (.lst accV) ∧ Reps X.K μ' H' acc accV ∧ OutE X.w X.K E μ1 H1 Q ((dLcGo ai tf tt te (own.map (·.2)) k i acc ρ S').bind mk),
      ⟨n, μ1.hide p, S1, [], [], .hide np, m1.hide np, List.mem_cons_self, upd_same, reps_nil.mpr rfl, o1⟩, fun i k H' ⟨μ', S', acc, accV, x', m', hp', eD, ra, o'⟩ => ?_⟩
    have pno : p ∉ μ1.hid := (m1.fresh np).2
    cases k with
    | zero => exact o'.elim
    | succ k =>
      have hD : p ∉ μ'.l := (m'.hd p hp').2
      have o2 : OutE X.w X.K E μ1 H1 Q ((match nextOf ai i S' with
        | none => .stuck
        | some none => .ok acc S'
        | some (some d) => match tf d (wipeR ρ (own.map (·.2))) with
          | none => .stuck
          | some ρ2 => match tt ρ2 S' with
            | .ok true S3 => match te ρ2 S3 with
              | .ok y S4 => if acc.length < sizeLine then dLcGo ai tf tt te (own.map (·.2)) k (i + 1) (acc ++ [y]) ρ S4 else .stuck
              | _ => .stuck
            | .ok false S3 => dLcGo ai tf tt te (own.map (·.2)) k (i + 1) acc ρ S3
            | _ => .stuck : R (List D)).bind mk) := o'
      split at o2
      · exact o2.elim
      · rename_i e
        exact .inl ⟨j1.stop μ' H' S' i x' m' e, hmk X.w X.K E μ1 μ' H1 H' S' acc accV p Q np x' m' hp' pno x'.hid eD ra o2⟩
      · rename_i d e
        obtain ⟨hgo, hy⟩ := j1.go μ' H' S' i d x' m' e
        refine .inr ⟨hgo, fun H' => ∃ μ' S' acc accV, Ext μ1 H1 μ' H' ∧ Sim X.w X.K μ' S' H' ∧ p ∈ μ'.hid ∧ H' p = some (.lst accV) ∧ Reps X.K μ' H' acc accV ∧ OutE X.w X.K E μ1 H1 Q ((dLcGo ai tf tt te (own.map (·.2)) k (i + 1) acc ρ S').bind mk),
          fun H3 h => ⟨k, Nat.lt_succ_self k, h⟩, fun xv H3 hx => ?_⟩
        obtain ⟨x3, m3, r3⟩ := hy xv H3 hx
        split at o2
        · exact o2.elim
        · rename_i ρ2 e2
          have sl3 : SlR X.K μ' H3 (wipeR ρ (own.map (·.2))) (wipe σ (own.map (·.2))) := ((sl1.ext x').ext x3).wipe _
          refine ⟨μ', _, d, ρ2, sl3, r3, e2, fun σ2 sl2 ln ag => ⟨wipe_same hvt (by rw [ln, wipe_length]) ag, μ', ρ2, S', sl2, m3, ?_⟩⟩
          · have eD3 : H3 p = some (.lst accV) := (x3.keep p _ eD hD).1
            have ra3 : Reps X.K μ' H3 acc accV := Reps.ext x3 _ _ ra
            cases q2 : tt ρ2 S' with
            | stuck => rw [q2] at o2; exact o2.elim
            | exc y S' => rw [q2] at o2; exact o2.elim
            | ok b S3 =>
              rw [q2] at o2
              intro μ4 H4 x4 m4
              have eD4 : H4 p = some (.lst accV) := (x4.keep p _ eD3 hD).1
              have ra4 : Reps X.K μ4 H4 acc accV := Reps.ext x4 _ _ ra3
              have x14 : Ext μ1 H1 μ4 H4 := (x'.trans x3).trans x4
              have hp4 : p ∈ μ4.hid := x4.hid p hp'
              have hD4 : p ∉ μ4.l := (m4.hd p hp4).2
              cases b with
              | false => exact ⟨μ4, S3, acc, accV, x14, m4, hp4, eD4, ra4, o2⟩
              | true =>
                refine ⟨μ4, ρ2, S3, sl2.ext x4, m4, ?_⟩
                have o3 : OutE X.w X.K E μ1 H1 Q ((match te ρ2 S3 with
                  | .ok y S4 => if acc.length < sizeLine then dLcGo ai tf tt te (own.map (·.2)) k (i + 1) (acc ++ [y]) ρ S4 else .stuck
                  | _ => .stuck : R (List D)).bind mk) := o2
                cases q3 : te ρ2 S3 with
                | stuck => rw [q3] at o3; exact o3.elim
                | exc y S' => rw [q3] at o3; exact o3.elim
                | ok y S4 =>
                  rw [q3] at o3
                  have o3 : OutE X.w X.K E μ1 H1 Q ((if acc.length < sizeLine then dLcGo ai tf tt te (own.map (·.2)) k (i + 1) (acc ++ [y]) ρ S4 else .stuck : R (List D)).bind mk) := o3
                  split at o3
                  · rename_i hz
                    intro μ5 H5 yv x5 m5 r5
                    have eD5 : H5 p = some (.lst accV) := (x5.keep p _ eD4 hD4).1
                    have ra5 : Reps X.K μ5 H5 acc accV := Reps.ext x5 _ _ ra4
                    have hp5 : p ∈ μ5.hid := x5.hid p hp4
                    refine ⟨accV, eD5, by rw [ra5.length]; exact hz, μ5, S4, acc ++ [y], accV ++ [yv], ?_, m5.hid hp5, hp5, upd_same, (ra5.append (.one r5)).car (.hid hp5), o3⟩
                    have x15 := x14.trans x5
                    exact ⟨x15.pre, x15.hid, x15.nohid, fun a u ha na => by
                      obtain ⟨k1, k2⟩ := x15.keep a u ha na
                      exact ⟨by rw [upd_ne (ne_of_none ha np)]; exact k1, k2⟩⟩
                  · exact o3.elim
abbrev QTs (X : Cx) (E : XK) (ifs : List Expr) (f : DT) : Prop := PTs X ifs (tT X.w X.K E f)
theorem eq_nil : QTs X E [] dYes := ⟨fun pins s σ H Q I ⟨μ, ρ, S, sl, m, o⟩ => pts_nil.run pins s σ H Q I (o μ H .refl m)⟩
theorem eq_one {c : Expr} (h : TSo X E c tt) : QTs X E [c] tt := pts_one h
theorem ev_lc (n : Nat) (hmk : MkOk mk) (hc : X.calm = true) (hN : X.N.Nodup) (hi : IS X E tg iter it) (ok : BlkOk X.N X.env.scope scope own)
    (hg : ∀ (s : Shared) (H : Hp) (C : Addr) (cl : List (Str × Addr)) (fp : List Addr), NS (X.blk s H scope (compEnvC scope cl C X.env) fp) tg vt tf) (ht : ∀ (s : Shared) (H : Hp) (C : Addr) (cl : List (Str × Addr)) (fp : List Addr), QTs (X.blk s H scope (compEnvC scope cl C X.env) fp) E0 ifs tt)
    (he : ∀ (s : Shared) (H : Hp) (C : Addr) (cl : List (Str × Addr)) (fp : List Addr), ES (X.blk s H scope (compEnvC scope cl C X.env) fp) E0 elt te) (hvt : ∀ i ∈ vt, i ∈ own.map (·.2) := by decide) (hs : ∀ x, foldedSetIterable iter X.env x = pure x := by intro _; rfl) :
    ES X E (.ListComp elt [⟨tg, iter, ifs, 0⟩] scope pos) (dLc n it tf tt te (own.map (·.2)) mk) := (pe_lc hc hN hi ok hg ht he hs).wk fun σ H Q ⟨μ, ρ, S, sl, m, o⟩ => lc_read hmk hvt sl m o
theorem tLc_mono {wi : TI} {g : TG} {tt : TT} {te : TE} {vs : List Nat} {σ : L2.St} {H : Hp} {Q Q' : VK} (hwi : ∀ {R R' : It → Hp → Prop}, wi σ H R → (∀ J H, R J H → R' J H) → wi σ H R') (h : tLc wi g tt te vs σ H Q) (k : ∀ v H, Q v H → Q' v H) : tLc wi g tt te vs σ H Q' :=
  hwi h fun J H1 h1 p np => by
    obtain ⟨W, w0, st⟩ := h1 p np
    exact ⟨W, w0, fun i m H hW => (st i m H hW).imp (fun ⟨a, b⟩ => ⟨a, k _ _ b⟩) _root_.id⟩
theorem tI_mono {σ : L2.St} {H : Hp} {R R' : It → Hp → Prop} (h : tI X.w X.K E it σ H R) (k : ∀ J H, R J H → R' J H) : tI X.w X.K E it σ H R' := by
  obtain ⟨μ, ρ, S, sl, m, o⟩ := h
  refine ⟨μ, ρ, S, sl, m, ?_⟩
  cases q : it ρ S with
  | stuck => rw [q] at o; exact o
  | exc x S' => rw [q] at o; exact o
  | ok ai S1 => rw [q] at o; exact fun μ' H' J x m' r => k _ _ (o μ' H' J x m' r)
/-- name = [..] on one line, the name a local -/
theorem es_setLc (i n : Nat) {y : Str} {py spos : Pos} (hmk : MkOk mk) (hc : X.calm = true) (hN : X.N.Nodup) (hi : IS X E tg iter it) (ok : BlkOk X.N X.env.scope scope own)
    (hg : ∀ (s : Shared) (H : Hp) (C : Addr) (cl : List (Str × Addr)) (fp : List Addr), NS (X.blk s H scope (compEnvC scope cl C X.env) fp) tg vt tf) (ht : ∀ (s : Shared) (H : Hp) (C : Addr) (cl : List (Str × Addr)) (fp : List Addr), QTs (X.blk s H scope (compEnvC scope cl C X.env) fp) E0 ifs tt)
    (he : ∀ (s : Shared) (H : Hp) (C : Addr) (cl : List (Str × Addr)) (fp : List Addr), ES (X.blk s H scope (compEnvC scope cl C X.env) fp) E0 elt te) (hy : X.N[i]? = some y := by rfl) (hyl : X.env.scope.names.lookup y = some .local := by rfl)
    (hsw : swapsWith (.ListComp elt [⟨tg, iter, ifs, 0⟩] scope pos) (some (.Name y py)) spos.line X.env = pure true := by exact sw_true rfl rfl rfl (by decide +kernel)) (hvt : ∀ i ∈ vt, i ∈ own.map (·.2) := by decide) (hs : ∀ x, foldedSetIterable iter X.env x = pure x := by intro _; rfl) :
    SS X E (.Assign [.Name y py] (.ListComp elt [⟨tg, iter, ifs, 0⟩] scope pos) spos) (dSet i (dLc n it tf tt te (own.map (·.2)) mk)) :=
  (ps_setLc hc hN hy hyl hsw hi ok hg ht he hs).wk fun D σ H ⟨μ, ρ, S, sl, m, o⟩ => by
    have o : OutS X.w X.K E μ H D ((dLc n it tf tt te (own.map (·.2)) mk ρ S).bindS fun d S1 => .nx (ρ.set i (some d)) S1) := o
    refine lc_read (n := n) (it := it) (tf := tf) (tt := tt) (te := te) hmk hvt sl m ?_
    have o1 := OutE.bindS o
    cases q : dLc n it tf tt te (own.map (·.2)) mk ρ S with
    | stuck => rw [q] at o1; exact o1
    | exc x S' => rw [q] at o1; exact o1
    | ok d S1 =>
      rw [q] at o1
      intro μ1 H1 v x m1 r
      obtain ⟨μ2, d', S2, x2, m2, r2, o2⟩ := o1 μ1 H1 v x m1 r
      exact o2 μ2 _ H1 .refl m2 ((sl.ext x2).set i r2)
end
end Ev

set_option Elab.async false
set_option linter.all false
set_option maxRecDepth 100000
set_option maxHeartbeats 4000000
/-! EvF: ==, +, repr, isinstance; subscripts, slices. -/
namespace Ev
open PySem PySem.Spec PyProof.Rows L2

/-! ### as plain data -/
mutual
def pdat : D → Option PyData
  | .non => some .none
  | .bl b => some (.bool b)
  | .int i => some (.int i)
  | .str x => some (.str x)
  | .tup ds => (pdats ds).map .tuple
  | .lst ds => (pdats ds).map .list
  | .loc _ => none
def pdats : List D → Option (List PyData)
  | [] => some []
  | d :: ds => (pdat d).bind fun x => (pdats ds).map fun xs => x :: xs
end
/-- .. a place's list as it stands -/
def datOf (S : Sto) : D → Option PyData
  | .loc n => match S[n]? with
    | some (.lst ds) => (pdats ds).map .list
    | _ => none
  | d => pdat d
mutual
theorem pdat_ok {K : PySem.W.Frag} {μ : Mu} {H : Hp} : ∀ (d : D) (v : V) (x : PyData), Rep K μ H d v → pdat d = some x → Dp K H v x
  | .non, v, x, h, e => by rw [rep_non] at h; subst h; cases e; exact .non
  | .bl b, v, x, h, e => by rw [rep_bl] at h; subst h; cases e; exact .bl b
  | .int b, v, x, h, e => by rw [rep_int] at h; subst h; cases e; exact .int b
  | .str b, v, x, h, e => by rw [rep_str] at h; subst h; cases e; exact .str b
  | .tup ds, v, x, h, e => by
    rw [rep_tup] at h
    obtain ⟨a, vs, rfl, f, r⟩ := h
    have e : (pdats ds).map PyData.tuple = some x := by rw [← e, pdat]
    obtain ⟨xs, e1, rfl⟩ := Option.map_eq_some_iff.mp e
    exact .tup f.sq (pdats_ok ds vs xs r e1)
  | .lst ds, v, x, h, e => by
    rw [rep_lst] at h
    obtain ⟨a, vs, rfl, f, r⟩ := h
    have e : (pdats ds).map PyData.list = some x := by rw [← e, pdat]
    obtain ⟨xs, e1, rfl⟩ := Option.map_eq_some_iff.mp e
    exact .lst f.sq (pdats_ok ds vs xs r e1)
  | .loc n, v, x, h, e => by cases e
theorem pdats_ok {K : PySem.W.Frag} {μ : Mu} {H : Hp} : ∀ (ds : List D) (vs : List V) (xs : List PyData), Reps K μ H ds vs → pdats ds = some xs → DpAll K H vs xs
  | [], vs, xs, h, e => by rw [reps_nil] at h; subst h; cases e; exact .nil
  | d :: ds, vs, xs, h, e => by
    rw [reps_cons] at h
    obtain ⟨v, r, rfl, h1, h2⟩ := h
    have e : ((pdat d).bind fun x => (pdats ds).map fun xs => x :: xs) = some xs := by rw [← e, pdats]
    obtain ⟨x, e1, e2⟩ := Option.bind_eq_some_iff.mp e
    obtain ⟨ys, e3, rfl⟩ := Option.map_eq_some_iff.mp e2
    exact .cons (pdat_ok d v x h1 e1) (pdats_ok ds r ys h2 e3)
end
theorem datOf_ok {w : World} {K : PySem.W.Frag} {μ : Mu} {S : Sto} {H : Hp} {d : D} {v : V} {x : PyData} (m : Sim w K μ S H) (r : Rep K μ H d v) (e : datOf S d = some x) : Dp K H v x := by
  cases d with
  | loc n =>
    have e : (match S[n]? with
      | some (.lst ds) => (pdats ds).map .list
      | _ => none) = some x := e
    split at e
    · rename_i ds e2
      obtain ⟨a, vs, rfl, _, h1, h2⟩ := loc_lst m r e2
      obtain ⟨xs, e3, rfl⟩ := Option.map_eq_some_iff.mp e
      exact .lst (.of h1) (pdats_ok ds vs xs h2 e3)
    · cases e
  | _ => exact pdat_ok _ v x r e
/-- ==, by data -/
def bEq : D → D → Sto → R D := fun a b S => match datOf S a, datOf S b with
  | some x, some y => if (SeqAt.shaped x && SeqAt.shaped y) = true then .ok (.bl (PyData.eqv x y)) S else .stuck
  | _, _ => .stuck
def bNe : D → D → Sto → R D := fun a b S => match datOf S a, datOf S b with
  | some x, some y => if (SeqAt.shaped x && SeqAt.shaped y) = true then .ok (.bl (!PyData.eqv x y)) S else .stuck
  | _, _ => .stuck
section
variable {X : Cx} {E : XK} {a b e : Expr} {f g : DE} {es : List Expr} {t : DA} {pos p : Pos} {k : Nat}
theorem bEq_ok : OpS X E (rEqD X.K) bEq := by
  intro μ S H a b x y Q m ra rb o
  unfold bEq at o
  split at o
  · rename_i x' y' e1 e2
    split at o
    · rename_i h
      obtain ⟨h1, h2⟩ := Bool.and_eq_true_iff.mp h
      exact ⟨x', y', datOf_ok m ra e1, datOf_ok m rb e2, h1, h2, o μ H _ .refl m (rep_bl.mpr rfl)⟩
    · exact o.elim
  · exact o.elim
theorem bNe_ok : OpS X E (rNeD X.K) bNe := by
  intro μ S H a b x y Q m ra rb o
  unfold bNe at o
  split at o
  · rename_i x' y' e1 e2
    split at o
    · rename_i h
      obtain ⟨h1, h2⟩ := Bool.and_eq_true_iff.mp h
      exact ⟨x', y', datOf_ok m ra e1, datOf_ok m rb e2, h1, h2, o μ H _ .refl m (rep_bl.mpr rfl)⟩
    · exact o.elim
  · exact o.elim
theorem ev_eq (hr : Rm k X.A) (ha : ES X E a f) (hb : ES X E b g) : ES X E (.Compare a [.Eq] [b] pos) (dOp bEq f g) := ev_cmp (op_eqD hr.room.units) bEq_ok ha hb
theorem ev_ne (hr : Rm k X.A) (ha : ES X E a f) (hb : ES X E b g) : ES X E (.Compare a [.NotEq] [b] pos) (dOp bNe f g) := ev_cmp (op_neD hr.room.units) bNe_ok ha hb
theorem te_eq (hr : Rm k X.A) (ha : ES X E a f) (hb : ES X E b g) : TSo X E (.Compare a [.Eq] [b] pos) (dTst (dOp bEq f g)) := te_cmp (op_eqD hr.room.units) bEq_ok ha hb
theorem te_ne (hr : Rm k X.A) (ha : ES X E a f) (hb : ES X E b g) : TSo X E (.Compare a [.NotEq] [b] pos) (dTst (dOp bNe f g)) := te_cmp (op_neD hr.room.units) bNe_ok ha hb

/-! ### + -/
def rCatA (K : PySem.W.Frag) : R2 := fun x y H Q => ∃ a b xs ys, x = .ref a ∧ y = .ref b ∧ SqT K H a xs ∧ SqT K H b ys ∧ xs.length + ys.length ≤ sizeLine ∧
  (xs = [] → Q (.ref b) H) ∧ (xs ≠ [] → ys = [] → Q (.ref a) H) ∧ (xs ≠ [] → ys ≠ [] → ∀ p, H p = none → Q (.ref p) (upd H p (.tup (xs ++ ys))))
theorem op_catA : OpR X (binaryOp .Add) (rCatA X.K) := by
  intro pins s σ H x y v u Q I rx ry h
  obtain ⟨a, b, xs, ys, rfl, rfl, ha, hb, hz, q1, q2, q3⟩ := h
  by_cases h0 : xs = []
  · subst h0
    cases rx
    cases ry
    obtain ⟨its, r, ht, _⟩ := I.tuple ha
    obtain ⟨its2, r2, ht2, _⟩ := I.tuple hb
    cases r
    obtain ⟨⟨cls, dd, data, sl⟩, ho, hc, n, hd⟩ := id ht
    obtain ⟨⟨cls2, dd2, data2, sl2⟩, ho2, hc2, n2, hd2⟩ := id ht2
    simp only at hc hd hc2 hd2
    subst hc hd hc2 hd2
    exact concat_meets ⟨_, ho, rfl⟩ ⟨_, ho2, rfl⟩ noFill_tuple_add seq_tuple_add PySem.F.slot_tuple_add PySem.F.entry_tuple_add (PySem.F.args_tuple_add_2 _ _)
      (tuple_addW0 a b _ its2.toArray n n2 dd dd2 sl sl2 rfl) ⟨ho, ho2, ⟨.ref b, H, I.kept (t' := s.toks) fun _ _ e => e, rfl, q1 rfl⟩⟩
  · exact op_catT pins s σ H _ _ v u Q I rx ry ⟨a, b, xs, ys, rfl, rfl, ha, hb, h0, hz, q2 h0, q3 h0⟩
def rCatS (K : PySem.W.Frag) : R2 := fun x y H Q => ∃ l b xs zs, x = .ref l ∧ y = .ref b ∧ SqL K H l xs ∧ SqL K H b zs ∧ xs.length + zs.length ≤ sizeLine ∧ ∀ p, H p = none → Q (.ref p) (upd H p (.lst (xs ++ zs)))
theorem op_catS : OpR X (binaryOp .Add) (rCatS X.K) := by
  intro pins s σ H x y v u Q I rx ry h
  obtain ⟨l, b, xs, zs, rfl, rfl, hH, hB, hz, q⟩ := h
  cases rx
  cases ry
  obtain ⟨its, r, ⟨⟨c1, d1, dt1, s1⟩, n, e, hc, hd, hs⟩, _⟩ := I.list hH
  obtain ⟨its2, r2, ⟨⟨c2, d2, dt2, s2⟩, n2, e2, hc2, hd2, hs2⟩, _⟩ := I.list hB
  simp only at hc hd hs hc2 hd2 hs2
  subst hc hd hs hc2 hd2 hs2
  have l1 := r.length
  have l2 := r2.length
  refine concat_meets ⟨_, e, rfl⟩ ⟨_, e2, rfl⟩ noFill_list_add seq_list_add PySem.F.slot_list_add PySem.F.entry_list_add (PySem.F.args_list_add_2 _ _)
    (list_addW l b its.toArray its2.toArray n n2 none none s1 s2 (by simp only [List.size_toArray]; omega)) ⟨e, e2, ?_⟩
  have ea : its.toArray ++ its2.toArray = (its ++ its2).toArray := by simp
  rw [ea]
  exact ⟨.ref _, _, I.lnew (t' := s.toks) (r.append r2) (by rw [List.length_append]; omega), rfl, q _ I.fresh⟩
def rAddA (K : PySem.W.Frag) : R2 := fun x y H Q => (∃ i j, x = .int i ∧ y = .int j ∧ Q (.int (i + j)) H) ∨ (∃ i j, x = .str i ∧ y = .str j ∧ i.length + j.length ≤ sizeLine ∧ Q (.str (i ++ j)) H) ∨ rCatA K x y H Q ∨ rCatS K x y H Q
theorem op_addA : OpR X (binaryOp .Add) (rAddA X.K) := op_add.or (op_add_str.or (op_catA.or op_catS))
/-- +: ints, texts, tuples, lists; mk: how a new list is made -/
def bAdd (mk : List D → Sto → R D) : D → D → Sto → R D
  | .int i, .int j, S => .ok (.int (i + j)) S
  | .str x, .str y, S => if x.length + y.length ≤ sizeLine then .ok (.str (x ++ y)) S else .stuck
  | .tup xs, .tup ys, S => if xs.length + ys.length ≤ sizeLine then .ok (.tup (xs ++ ys)) S else .stuck
  | a, b, S => match lstOf S a, lstOf S b with
    | some xs, some ys => if xs.length + ys.length ≤ sizeLine then mk (xs ++ ys) S else .stuck
    | _, _ => .stuck
/-- a new list, told -/
def NewOk (X : Cx) (E : XK) (mk : List D → Sto → R D) : Prop := ∀ (μ : Mu) (S : Sto) (H : Hp) (Q : VK) (ds : List D) (vs : List V), Sim X.w X.K μ S H → Reps X.K μ H ds vs → OutE X.w X.K E μ H Q (mk ds S) → ∀ p, H p = none → Q (.ref p) (upd H p (.lst vs))
theorem mkV_new : NewOk X E mkV := fun μ S H Q ds vs m r o p np => o μ _ _ (.new np) (m.new np) (rep_lst.mpr ⟨p, vs, rfl, .inl ⟨m.fresh np, .inl upd_same⟩, Reps.ext (.new np) _ _ r⟩)
theorem mkL_new : NewOk X E mkL := fun μ S H Q ds vs m r o p np => by
  refine o (μ.push p) _ _ (.push np) (m.push np ⟨vs, upd_same, Reps.ext (.push np) _ _ r⟩) (rep_loc.mpr ⟨p, rfl, ?_⟩)
  rw [← m.len]; exact Mu.last
theorem bAdd_ok {mk : List D → Sto → R D} (hmk : NewOk X E mk) : OpS X E (rAddA X.K) (bAdd mk) := by
  intro μ S H a b x y Q m ra rb o
  unfold bAdd at o
  split at o
  · rw [rep_int] at ra rb
    exact .inl ⟨_, _, ra, rb, o μ H _ .refl m (rep_int.mpr rfl)⟩
  · rw [rep_str] at ra rb
    split at o
    · rename_i h
      exact .inr (.inl ⟨_, _, ra, rb, h, o μ H _ .refl m (rep_str.mpr rfl)⟩)
    · exact o.elim
  · rename_i xs ys
    split at o
    · rename_i h
      have ra0 := ra
      have rb0 := rb
      rw [rep_tup] at ra rb
      obtain ⟨p, vs, rfl, f1, r1⟩ := ra
      obtain ⟨q, us, rfl, f2, r2⟩ := rb
      refine .inr (.inr (.inl ⟨p, q, vs, us, rfl, rfl, f1.sq, f2.sq, by rw [r1.length, r2.length]; exact h, fun e => ?_, fun _ e => ?_, fun _ _ l nl => ?_⟩))
      · subst e
        have : xs = [] := by
          have := r1.length
          simpa using this.symm
        subst this
        exact o μ H _ .refl m rb0
      · subst e
        have : ys = [] := by
          have := r2.length
          simpa using this.symm
        subst this
        rw [List.append_nil] at o
        exact o μ H _ .refl m ra0
      · exact o μ _ _ (.new nl) (m.new nl) (rep_tup.mpr ⟨l, vs ++ us, rfl, .inl ⟨m.fresh nl, .inl upd_same⟩, Reps.ext (.new nl) _ _ (r1.append r2)⟩)
    · exact o.elim
  · split at o
    · rename_i xs ys e1 e2
      split at o
      · rename_i h
        obtain ⟨p, vs, rfl, q1, r1⟩ := lstOf_ok m ra e1
        obtain ⟨q, us, rfl, q2, r2⟩ := lstOf_ok m rb e2
        exact .inr (.inr (.inr ⟨p, q, vs, us, rfl, rfl, q1, q2, by rw [r1.length, r2.length]; exact h, hmk μ S H Q _ _ m (r1.append r2) o⟩))
      · exact o.elim
    · exact o.elim
theorem ev_add (ha : ES X E a f) (hb : ES X E b g) : ES X E (.BinOp a .Add b pos) (dOp (bAdd mkV) f g) := ev_op op_addA (bAdd_ok mkV_new) ha hb
theorem ev_addL (ha : ES X E a f) (hb : ES X E b g) : ES X E (.BinOp a .Add b pos) (dOp (bAdd mkL) f g) := ev_op op_addA (bAdd_ok mkL_new) ha hb
def bMul : D → D → Sto → R D := bIC cMul fun i j => .int (i * j)
theorem ev_mul (ha : ES X E a f) (hb : ES X E b g) : ES X E (.BinOp a .Mult b pos) (dOp bMul f g) := ev_op op_mulA (bIntC cMul_ok) ha hb

/-! ### isinstance -/
def tyName (S : Sto) : D → Option String
  | .non => some "NoneType"
  | .bl _ => some "bool"
  | .int _ => some "int"
  | .str _ => some "str"
  | .tup _ => some "tuple"
  | .lst _ => some "list"
  | .loc n => match S[n]? with
    | some (.lst _) => some "list"
    | some (.dic _) => some "dict"
    | _ => none
theorem tyName_ok {d : D} {v : V} {n : String} {μ : Mu} {S : Sto} {H : Hp} (m : Sim X.w X.K μ S H) (r : Rep X.K μ H d v) (e : tyName S d = some n) : TyX X.K H v (.type n) := by
  cases d with
  | non => rw [rep_non] at r; subst r; cases e; exact .base .non
  | bl b => rw [rep_bl] at r; subst r; cases e; exact .base (.bl b)
  | int b => rw [rep_int] at r; subst r; cases e; exact .base (.int b)
  | str b => rw [rep_str] at r; subst r; cases e; exact .base (.str b)
  | tup ds =>
    rw [rep_tup] at r
    cases e
    obtain ⟨a, vs, rfl, f, _⟩ := r
    rcases f with ⟨_, h | ⟨o, h⟩⟩ | ⟨o, _, _, h, c, _⟩
    · exact .base (.tup h)
    · exact .fTuple h
    · exact .kTuple h c
  | lst ds =>
    rw [rep_lst] at r
    cases e
    obtain ⟨a, vs, rfl, f, _⟩ := r
    rcases f with ⟨_, h | ⟨o, h⟩⟩ | ⟨o, _, _, h, c, _⟩
    · exact .base (.lst h)
    · exact .base (.frz h)
    · exact .kList h c
  | loc n' =>
    rw [rep_loc] at r
    obtain ⟨a, rfl, h⟩ := r
    have e : (match S[n']? with
      | some (.lst _) => some "list"
      | some (.dic _) => some "dict"
      | _ => none) = some n := e
    split at e
    · rename_i ds e2
      cases e
      obtain ⟨vs, h1, _⟩ := m.ob n' _ a e2 h
      exact .base (.lst h1)
    · rename_i ds e2
      cases e
      obtain ⟨vs, h1, _⟩ := m.ob n' _ a e2 h
      exact .base (.dK h1)
    · cases e
/-- the built-in types that are asked for; who is one -/
def isaB (t c : String) : Bool := t == c || (t == "bool" && c == "int")
def kinds : List String := ["NoneType", "bool", "int", "str", "tuple", "list", "dict"]
def asked : List String := ["bool", "int", "str", "tuple", "list", "dict"]
def dIsi (c : String) (f : DE) : DE := fun ρ S => (f ρ S).bind fun d S1 => match tyName S1 d with
  | some n => .ok (.bl (isaB n c)) S1
  | none => .stuck
theorem ev_isi {c : String} {x : Str} {p1 p2 : Pos} (hm : X.mg "isinstance" = none) (hx : X.mg x = none) (hv : bootBuiltins x = some (.type c)) (hk : ∀ t ∈ kinds, PySem.W.kitOne X.K (.type t) (.type c) = some (isaB t c)) (ha : ES X E a f) (hg : Gl X "isinstance" := by rfl) (hgx : Gl X x := by rfl)
    (hn : x ≠ "__name__" := by decide) (hd : (x == ("__debug__" : Str)) = false := by decide)
    (h1 : starEach [a, .Name x p2] X.env = (false, eval a X.env) :: starEach [.Name x p2] X.env := by rfl) (h2 : starEach [.Name x p2] X.env = (false, eval (.Name x p2) X.env) :: starEach [] X.env := by rfl) (hpl : (backTo pos (starEach [.Name x p2] X.env)).any (·.1) = false := by rfl) :
    ES X E (.Call (.Name "isinstance" p1) [a, .Name x p2] [] pos) (dIsi c f) := by
  have hc : PE X (.Name x p2) (tC (.ty c)) := pe_bltn hgx hx hv rfl hn hd
  refine (pe_callB call_isi hg hm (by decide +kernel) (pa_cons ha (pa_cons hc pa_nil h2) h1) (by decide) (by decide) h1 hpl).wk fun σ H Q ⟨μ, ρ, S, sl, m, o⟩ => ?_
  refine tE_mono (outE1 (X := X) (E := E) (f := f) (k := fun d => fun _ S1 => match tyName S1 d with
    | some n => .ok (.bl (isaB n c)) S1
    | none => .stuck) sl m o) fun v H1 ⟨μ1, d, S1, m1, r1, _, o1⟩ => ?_
  have o1 : OutE X.w X.K E μ1 H1 Q (match tyName S1 d with
    | some n => .ok (.bl (isaB n c)) S1
    | none => .stuck) := o1
  split at o1
  · rename_i n e
    have hn : n ∈ kinds := by
      cases d with
      | loc n' =>
        have e : (match S1[n']? with
          | some (.lst _) => some "list"
          | some (.dic _) => some "dict"
          | _ => none) = some n := e
        split at e <;> cases e <;> decide
      | _ => cases e; decide
    exact ⟨v, .ty c, .type n, .type c, isaB n c, rfl, .ty c, tyName_ok m1 r1 e, hk n hn, o1 μ1 H1 _ .refl m1 (rep_bl.mpr rfl)⟩
  · exact o1.elim
end
end Ev

set_option Elab.async false
set_option linter.all false
set_option maxRecDepth 100000
set_option maxHeartbeats 4000000
/-! EvG: slices, subscripts, dicts, stores by subscript. -/
namespace Ev
open PySem PySem.Spec PyProof.Rows L2

/-! ### slices -/
def asIx : D → Sto → R (Option Int)
  | .int i, S => .ok (some i) S
  | _, _ => .stuck
def dPo : Option DE → Rho → Sto → R (Option Int)
  | none, _, S => .ok none S
  | some f, ρ, S => (f ρ S).bind asIx
def OutO (w : World) (K : PySem.W.Frag) (E : XK) (μ : Mu) (H : Hp) (Q : Option Int → Hp → Prop) : R (Option Int) → Prop
  | .ok b S' => ∀ μ' H', Ext μ H μ' H' → Sim w K μ' S' H' → Q b H'
  | .exc x S' => ∀ μ' H' c a, Ext μ H μ' H' → Sim w K μ' S' H' → RepX K μ' H' x c a → E c a H'
  | .stuck => False
def tOp' (w : World) (K : PySem.W.Frag) (E : XK) (o : Option DE) : TO := fun σ H Q => ∃ μ ρ S, SlR K μ H ρ σ ∧ Sim w K μ S H ∧ OutO w K E μ H Q (dPo o ρ S)
abbrev OS (X : Cx) (E : XK) (e : Option Expr) (o : Option DE) : Prop := PO X e (tOp' X.w X.K E o)
theorem _root_.L2.PO.wk {X : Cx} {e : Option Expr} {t t' : TO} (h : PO X e t) (k : ∀ σ H Q, t' σ H Q → t σ H Q) : PO X e t' := ⟨fun pins s σ H Q I q => h.run pins s σ H Q I (k σ H Q q)⟩
/-- a row's part, by bounds -/
def cutD (xs : List D) (lo hi : Option Int) : List D := (xs.drop (HT.sIx xs.length 0 lo)).take (HT.sIx xs.length xs.length hi - HT.sIx xs.length 0 lo)
def slK (mk : List D → Sto → R D) (lo hi : Option Int) (d : D) (S : Sto) : R D := match d with
  | .tup ds => .ok (.tup (cutD ds lo hi)) S
  | d => match lstOf S d with
    | some ds => mk (cutD ds lo hi) S
    | none => .stuck
def dSl (f : DE) (l h : Option DE) (mk : List D → Sto → R D) : DE := fun ρ S => (f ρ S).bind fun d S1 => (dPo l ρ S1).bind fun lo S2 => (dPo h ρ S2).bind fun hi S3 => slK mk lo hi d S3
theorem cut_reps {K : PySem.W.Frag} {μ : Mu} {H : Hp} {ds : List D} {vs : List V} {lo hi : Option Int} (r : Reps K μ H ds vs) : Reps K μ H (cutD ds lo hi) (cutV vs lo hi) := by
  unfold cutD cutV
  rw [r.length]
  exact (r.drop _).take _
/-- t[lo:hi], the whole of it: t itself -/
theorem tuple_whole {prog : Program} {w : World} {A : Around} {E : Value → Shared → Prop} {s : Shared} {t sl : Addr} {items : Array Value} {vl vu : Value} {lo hi : Option Int} {Q : Value → Shared → Prop} (ht : IsTup s.heap t items) (hs : s.heap.IsSliceOf sl vl vu .none) (pl : IsPart vl lo) (pu : IsPart vu hi)
    (hw : HT.sIx items.size 0 lo = 0 ∧ HT.sIx items.size items.size hi = items.size) (h : Q (.ref t) s) : wpAny (model prog w) A (getItem (.ref t) (.ref sl)) Q E s := by
  obtain ⟨os, hos, hcs, hds⟩ := id hs
  have hTs : s.TypeIs (.ref sl) "slice" := ⟨os, hos, hcs⟩
  unfold getItem
  try with_reducible refine wpAny_holding ?_
  first | refine wpAny_bind (wpAny_pure ?_) | skip
  refine wpAny_bind (wpAny_sequenceKey ht.typeIs (by decide) ?_)
  refine wpAny_bind (wpAny_callSpecial?_slot (name := Str.ofString "__getitem__") ht.typeIs PyProof.Rows.slot_tuple_getitem
    (wpAny_call_entry PyProof.Rows.slot_tuple_getitem ht.typeIs entry_tuple_getitem ?_ (args_tuple_getitem _ _)))
  show wpAny _ _ (Builtin.Tuple.tupleItemsOf (.ref t) >>= _) _ _ s
  refine wpAny_bind (tupleItemsOf_ ht ?_)
  refine wpAny_bind (wpAny_typeOf hTs ?_)
  rw [if_pos (by decide)]
  refine wpAny_bind (HT.sliceApplied_gen hs pl pu ?_)
  rw [hw.1, hw.2]
  show wpAny _ _ (if (((0 : Nat) : Int) == 0 && (1 : Int) == 1 && (items.size - 0) == items.size) = true then _ else _) _ _ s
  rw [if_pos (by simp)]
  unfold Builtin.Tuple.tupleIsExact
  refine wpAny_bind (wpAny_bind (wpAny_typeOf ht.typeIs (wpAny_pure ?_)))
  rw [if_pos (by decide)]
  first
    | exact wpAny_bind (wpAny_rule (wpAny_bind (wpAny_pure (wpAny_pure ⟨_, rfl, wpAny_pure h⟩))))
    | exact wpAny_bind (wpAny_rule (wpAny_bind (wpAny_pure ⟨_, rfl, wpAny_pure h⟩)))
    | exact wpAny_bind (wpAny_rule (wpAny_pure ⟨_, rfl, wpAny_pure h⟩))
def rSlA (K : PySem.W.Frag) : V → Option Int → Option Int → Hp → VK → Prop := fun x lo hi H Q => ∃ a xs, x = .ref a ∧ SqT K H a xs ∧
  ((HT.sIx xs.length 0 lo = 0 ∧ HT.sIx xs.length xs.length hi = xs.length) → Q x H) ∧ (¬ (HT.sIx xs.length 0 lo = 0 ∧ HT.sIx xs.length xs.length hi = xs.length) → ∀ p, H p = none → Q (.ref p) (upd H p (.tup (cutV xs lo hi))))
theorem sl_tupA {X : Cx} : L2.SlR X (rSlA X.K) := by
  intro pins s σ H x v vl vu lo hi sl Q I rx hs pl pu h
  obtain ⟨a, xs, rfl, hx, q1, q2⟩ := h
  by_cases hw : HT.sIx xs.length 0 lo = 0 ∧ HT.sIx xs.length xs.length hi = xs.length
  · cases rx
    obtain ⟨its, r, ht, hz⟩ := I.tuple hx
    have hlen : its.toArray.size = xs.length := by rw [List.size_toArray]; exact r.length.symm
    exact ⟨"tuple", _, PyProof.Rows.slot_tuple_getitem.lookup, ht.typeIs, tuple_whole ht hs pl pu (by rw [hlen]; exact hw) ⟨.ref a, H, I, rfl, q1 hw⟩⟩
  · exact sl_tup pins s σ H _ v vl vu lo hi sl Q I rx hs pl pu ⟨a, xs, rfl, hx, hw, q2 hw⟩
section
variable {X : Cx} {E : XK} {a b e : Expr} {f g : DE} {es : List Expr} {t : DA} {pos p p2 : Pos} {k : Nat} {lo hi : Option Expr} {l h : Option DE}
theorem eo_none : OS X E none none := po_none.wk fun σ H Q ⟨μ, ρ, S, sl, m, o⟩ => o μ H .refl m
theorem eo_some (ha : ES X E e f) : OS X E (some e) (some f) := (po_some ha).wk fun σ H Q ⟨μ, ρ, S, sl, m, o⟩ => by
  have o : OutO X.w X.K E μ H Q ((f ρ S).bind asIx) := o
  refine ⟨μ, ρ, S, sl, m, ?_⟩
  cases q : f ρ S with
  | stuck => rw [q] at o; exact o
  | exc x S' => rw [q] at o; exact o
  | ok d S1 =>
    rw [q] at o
    have o : OutO X.w X.K E μ H Q (asIx d S1) := o
    intro μ1 H1 v x m1 r
    cases d with
    | int i => exact ⟨i, rep_int.mp r, o μ1 H1 x m1⟩
    | _ => exact o.elim
theorem cut_whole {ds : List D} {lo hi : Option Int} (h : HT.sIx ds.length 0 lo = 0 ∧ HT.sIx ds.length ds.length hi = ds.length) : cutD ds lo hi = ds := by
  unfold cutD
  rw [h.1, h.2]
  simp
theorem ev_slM {mk : List D → Sto → R D} (hmk : NewOk X E mk) (ha : ES X E a f) (hl : OS X E lo l) (hh : OS X E hi h) : ES X E (.Subscript a (.Slice lo hi none p2) pos) (dSl f l h mk) :=
  (pe_slice (L2.SlR.or sl_list sl_tupA) ha hl hh).wk fun σ H Q ⟨μ, ρ, S, sl, m, o⟩ => by
    refine tE_mono (outE1 (X := X) (E := E) (f := f) (k := fun d => fun ρ S1 => (dPo l ρ S1).bind fun lo S2 => (dPo h ρ S2).bind fun hi S3 => slK mk lo hi d S3) sl m o) fun v H1 ⟨μ1, d, S1, m1, r1, sl1, o1⟩ => ?_
    refine ⟨μ1, ρ, S1, sl1, m1, ?_⟩
    cases q : dPo l ρ S1 with
    | stuck => rw [q] at o1; exact o1
    | exc x S' => rw [q] at o1; exact o1
    | ok lo' S2 =>
      rw [q] at o1
      intro μ2 H2 x2 m2
      refine ⟨μ2, ρ, S2, sl1.ext x2, m2, ?_⟩
      have o2 : OutE X.w X.K E μ2 H2 Q ((dPo h ρ S2).bind fun hi S3 => slK mk lo' hi d S3) := OutE.mono x2 o1
      cases q2 : dPo h ρ S2 with
      | stuck => rw [q2] at o2; exact o2
      | exc x S' => rw [q2] at o2; exact o2
      | ok hi' S3 =>
        rw [q2] at o2
        intro μ3 H3 x3 m3
        have o3 : OutE X.w X.K E μ3 H3 Q (slK mk lo' hi' d S3) := OutE.mono x3 o2
        have r3 := r1.ext (x2.trans x3)
        unfold slK at o3
        split at o3
        · rename_i ds
          obtain ⟨p, vs, rfl, ft, rr⟩ := rep_tup.mp r3
          refine .inr ⟨p, vs, rfl, ft.sq, fun hw => ?_, fun hw q nq => ?_⟩
          · rw [rr.length] at hw
            rw [cut_whole hw] at o3
            exact o3 μ3 H3 _ .refl m3 r3
          · exact o3 μ3 _ _ (.new nq) (m3.new nq) (rep_tup.mpr ⟨q, _, rfl, .inl ⟨m3.fresh nq, .inl upd_same⟩, Reps.ext (.new nq) _ _ (cut_reps rr)⟩)
        · split at o3
          · rename_i ds e1
            obtain ⟨p, vs, rfl, sq, rr⟩ := lstOf_ok m3 r3 e1
            exact .inl ⟨p, vs, rfl, sq, hmk μ3 S3 H3 Q _ _ m3 (cut_reps rr) o3⟩
          · exact o3.elim
theorem ev_sl (ha : ES X E a f) (hl : OS X E lo l) (hh : OS X E hi h) : ES X E (.Subscript a (.Slice lo hi none p2) pos) (dSl f l h mkV) := ev_slM mkV_new ha hl hh
theorem ev_slL (ha : ES X E a f) (hl : OS X E lo l) (hh : OS X E hi h) : ES X E (.Subscript a (.Slice lo hi none p2) pos) (dSl f l h mkL) := ev_slM mkL_new ha hl hh
/-- xs[::-1] -/
def oRev (mk : List D → Sto → R D) : D → Sto → R D := fun d S => match lstOf S d with
  | some ds => mk ds.reverse S
  | none => .stuck
theorem ev_revM {mk : List D → Sto → R D} {kk : Nat} {q1 q2 q3 : Pos} (hmk : NewOk X E mk) (ha : ES X E a f) : ES X E (.Subscript a (.Slice none none (some (.UnaryOp .USub (.Constant (.int 1) kk q1) q2)) q3) pos) (dUn (oRev mk) f) :=
  (pe_revL ha).wk fun σ H Q ⟨μ, ρ, S, sl, m, o⟩ => out1 (r := fun x H1 Q => ∃ a xs, x = .ref a ∧ SqL X.K H1 a xs ∧ ∀ p, H1 p = none → Q (.ref p) (upd H1 p (.lst xs.reverse))) sl m (fun μ S H d x Q m r o => by
    unfold oRev at o
    split at o
    · rename_i ds e
      obtain ⟨p, vs, rfl, sq, rr⟩ := lstOf_ok m r e
      exact ⟨p, vs, rfl, sq, hmk μ S H Q _ _ m rr.reverse o⟩
    · exact o.elim) o
theorem ev_rev {kk : Nat} {q1 q2 q3 : Pos} (ha : ES X E a f) : ES X E (.Subscript a (.Slice none none (some (.UnaryOp .USub (.Constant (.int 1) kk q1) q2)) q3) pos) (dUn (oRev mkV) f) := ev_revM mkV_new ha
theorem ev_revL {kk : Nat} {q1 q2 q3 : Pos} (ha : ES X E a f) : ES X E (.Subscript a (.Slice none none (some (.UnaryOp .USub (.Constant (.int 1) kk q1) q2)) q3) pos) (dUn (oRev mkL) f) := ev_revM mkL_new ha
end

/-! ### keys -/
def ofKey : Key → D
  | .inl i => .int i
  | .inr x => .str x
def key? : D → Option Key
  | .int i => some (.inl i)
  | .str x => some (.inr x)
  | _ => none
theorem key_ok {K : PySem.W.Frag} {μ : Mu} {H : Hp} {d : D} {v : V} {k : Key} (r : Rep K μ H d v) (e : key? d = some k) : v = kV k := by
  cases d with
  | int i => cases e; rw [rep_int] at r; exact r
  | str x => cases e; rw [rep_str] at r; exact r
  | _ => cases e
/-- what a dict holds at a key; stored, dropped -/
def dval (kvs : List (Key × D)) (k : Key) : Option D := (kvs.find? fun kv => decide (kv.1 = k)).map (·.2)
def dput (kvs : List (Key × D)) (k : Key) (d : D) : List (Key × D) := if kvs.any (fun kv => decide (kv.1 = k)) = true then kvs.map (fun kv => if kv.1 = k then (kv.1, d) else kv) else kvs ++ [(k, d)]
def ddrop (kvs : List (Key × D)) (k : Key) : List (Key × D) := kvs.filter fun kv => decide (kv.1 ≠ k)
abbrev DR (K : PySem.W.Frag) (μ : Mu) (H : Hp) : List (Key × D) → List (Key × V) → Prop := Paired fun p q => p.1 = q.1 ∧ Rep K μ H p.2 q.2
section
variable {w : World} {K : PySem.W.Frag} {μ : Mu} {S : Sto} {H : Hp} {kvs : List (Key × D)} {es : List (Key × V)}
theorem DR.val (r : DR K μ H kvs es) (k : Key) : (dval kvs k = none ∧ valV es k = none) ∨ ∃ d v, dval kvs k = some d ∧ valV es k = some v ∧ Rep K μ H d v := by
  induction r with
  | nil => exact .inl ⟨rfl, rfl⟩
  | @cons p q ps qs h t ih =>
    by_cases e : p.1 = k
    · exact .inr ⟨p.2, q.2, by simp [dval, e], valV_pos (h.1.symm.trans e), h.2⟩
    · have e1 : dval (p :: ps) k = dval ps k := by simp [dval, e]
      rw [e1, valV_neg (fun z => e (h.1.trans z))]
      exact ih
theorem DR.put (r : DR K μ H kvs es) (k : Key) {d : D} {v : V} (h : Rep K μ H d v) : DR K μ H (dput kvs k d) (putK es k v) := by
  have ha : (kvs.any fun kv => decide (kv.1 = k)) = (es.any fun kv => decide (kv.1 = k)) := by
    induction r with
    | nil => rfl
    | @cons p q ps qs h t ih => simp only [List.any_cons, h.1, ih]
  unfold dput putK
  rw [ha]
  split
  · rename_i hc
    clear ha hc
    induction r with
    | nil => exact .nil
    | @cons p q ps qs h0 t ih =>
      refine .cons ?_ ih
      show (if p.1 = k then (p.1, d) else p).1 = (if q.1 = k then (q.1, v) else q).1 ∧ Rep K μ H (if p.1 = k then (p.1, d) else p).2 (if q.1 = k then (q.1, v) else q).2
      by_cases e : p.1 = k
      · rw [if_pos e, if_pos (h0.1.symm.trans e)]
        exact ⟨h0.1, h⟩
      · rw [if_neg e, if_neg (fun z => e (h0.1.trans z))]
        exact h0
  · rename_i hc
    clear ha hc
    induction r with
    | nil => exact .cons ⟨rfl, h⟩ .nil
    | @cons p q ps qs h0 t ih => exact .cons h0 ih
theorem DR.drop (r : DR K μ H kvs es) (k : Key) : DR K μ H (ddrop kvs k) (dropK es k) := by
  unfold ddrop dropK
  induction r with
  | nil => exact .nil
  | @cons p q ps qs h t ih =>
    by_cases e : p.1 = k
    · have e2 : q.1 = k := h.1.symm.trans e
      rw [List.filter_cons_of_neg (by simp [e]), List.filter_cons_of_neg (by simp [e2])]
      exact ih
    · have e2 : q.1 ≠ k := fun z => e (h.1.trans z)
      rw [List.filter_cons_of_pos (by simp [e]), List.filter_cons_of_pos (by simp [e2])]
      exact .cons h ih
theorem DR.ext {μ' : Mu} {H' : Hp} (x : Ext μ H μ' H') (r : DR K μ H kvs es) : DR K μ' H' kvs es := Paired.mapP r fun _ _ q => ⟨q.1, q.2.ext x⟩
theorem loc_dic {n : Nat} {v : V} (m : Sim w K μ S H) (r : Rep K μ H (.loc n) v) (e : S[n]? = some (.dic kvs)) : ∃ a es, v = .ref a ∧ μ.l[n]? = some a ∧ H a = some (.dK es) ∧ DR K μ H kvs es := by
  rw [rep_loc] at r
  obtain ⟨a, e1, f⟩ := r
  obtain ⟨es, h1, h2⟩ := m.ob n _ a e f
  exact ⟨a, es, e1, f, h1, h2⟩
end

/-! ### nested keys -/
mutual
def NKey (K : PySem.W.Frag) (H : Hp) : NestedKey → V → Prop
  | .none, v => v = .non
  | .num i, v => v = .int i
  | .text x, v => v = .str x
  | .tup ks, v => ∃ a vs, v = .ref a ∧ SqT K H a vs ∧ NKeys K H ks vs
def NKeys (K : PySem.W.Frag) (H : Hp) : List NestedKey → List V → Prop
  | [], vs => vs = []
  | k :: ks, vs => ∃ v r, vs = v :: r ∧ NKey K H k v ∧ NKeys K H ks r
end
mutual
theorem nkey_of {K : PySem.W.Frag} {μ : Mu} {H : Hp} : ∀ (d : D) (v : V) (k : NestedKey), Rep K μ H d v → keyOf d = some k → NKey K H k v
  | .non, v, k, h, e => by rw [rep_non] at h; subst h; cases e; rw [NKey]
  | .int i, v, k, h, e => by rw [rep_int] at h; subst h; cases e; rw [NKey]
  | .str i, v, k, h, e => by rw [rep_str] at h; subst h; cases e; rw [NKey]
  | .tup ds, v, k, h, e => by
    rw [rep_tup] at h
    obtain ⟨a, vs, rfl, f, r⟩ := h
    have e : (keysOf ds).map NestedKey.tup = some k := by rw [← e, keyOf]
    obtain ⟨ks, e1, rfl⟩ := Option.map_eq_some_iff.mp e
    rw [NKey]
    exact ⟨a, vs, rfl, f.sq, nkeys_of ds vs ks r e1⟩
  | .bl _, v, k, h, e => by cases e
  | .lst _, v, k, h, e => by cases e
  | .loc _, v, k, h, e => by cases e
theorem nkeys_of {K : PySem.W.Frag} {μ : Mu} {H : Hp} : ∀ (ds : List D) (vs : List V) (ks : List NestedKey), Reps K μ H ds vs → keysOf ds = some ks → NKeys K H ks vs
  | [], vs, ks, h, e => by rw [reps_nil] at h; subst h; cases e; rw [NKeys]
  | d :: ds, vs, ks, h, e => by
    rw [reps_cons] at h
    obtain ⟨v, r, rfl, h1, h2⟩ := h
    rw [keysOf] at e
    cases e1 : keyOf d with
    | none => rw [e1] at e; cases e
    | some k' =>
      cases e2 : keysOf ds with
      | none => rw [e1, e2] at e; cases e
      | some ks' =>
        rw [e1, e2] at e
        cases e
        rw [NKeys]
        exact ⟨v, r, rfl, nkey_of d v k' h1 e1, nkeys_of ds r ks' h2 e2⟩
end
section
variable {X : Cx} {pins : List (Addr × Obj)} {σ : L2.St} {H : Hp} {s : Shared}
mutual
theorem NKey.is (I : Inv X pins σ H s) : ∀ (k : NestedKey) (v : V) (u : Value), NKey X.K H k v → RelV v u → NestedIs s.heap k u
  | .none, v, u, h, r => by rw [NKey] at h; subst h; cases r; exact .none
  | .num i, v, u, h, r => by rw [NKey] at h; subst h; obtain ⟨t, rfl⟩ := r; exact .int i t
  | .text i, v, u, h, r => by rw [NKey] at h; subst h; obtain ⟨t, rfl⟩ := r; exact .text i t
  | .tup ks, v, u, h, r => by
    rw [NKey] at h
    obtain ⟨a, vs, rfl, f, hr⟩ := h
    cases r
    obtain ⟨its, rv, ⟨o, e1, e2, n, e3⟩, _⟩ := I.tuple f
    exact .tup e1 e2 e3 (NKeys.is I ks vs its hr rv)
theorem NKeys.is (I : Inv X pins σ H s) : ∀ (ks : List NestedKey) (vs : List V) (us : List Value), NKeys X.K H ks vs → Vals vs us → NestedAll s.heap ks us
  | [], vs, us, h, r => by rw [NKeys] at h; subst h; cases r; exact .nil
  | k :: ks, vs, us, h, r => by
    rw [NKeys] at h
    obtain ⟨v, r', rfl, h1, h2⟩ := h
    cases r with
    | cons r1 r2 => exact .cons (NKey.is I k v _ h1 r1) (NKeys.is I ks r' _ h2 r2)
end
end
end Ev

set_option Elab.async false
set_option linter.all false
set_option maxRecDepth 100000
set_option maxHeartbeats 4000000
/-! EvH: dicts with nested keys over the raw heap; subscripts and stores. -/
namespace Ev
open PySem PySem.Spec PyProof.Rows L2

/-! ### a dict whose keys are tuples -/
structure NtZ (w : World) (K : PySem.W.Frag) (H : Hp) (a : Addr) (z : DObj) (xs : List (NestedKey × Addr × Value)) : Prop where
  at_ : H a = some (dntHO w a z xs)
  key : ∀ e ∈ xs, NKey K H e.1 (.ref e.2.1) ∧ e.1.depth ≤ 8
  nd : (xs.map (·.1)).Nodup
  sz : xs.length ≤ sizeLine
abbrev NtAt (w : World) (K : PySem.W.Frag) (H : Hp) (a : Addr) (xs : List (NestedKey × Addr × Value)) : Prop := ∃ z, NtZ w K H a z xs
section
variable {X : Cx} {pins : List (Addr × Obj)} {σ : L2.St} {H : Hp} {s : Shared} {a b : Addr} {xs : List (NestedKey × Addr × Value)} {k : NestedKey} {A : Around} {E : Value → Shared → Prop}
theorem NtAt.heap (I : Inv X pins σ H s) (n : NtAt X.w X.K H a xs) : (a == sysModules) = false ∧ s.heap.DictOfH (nestedKind X.prog X.w) a xs := by
  obtain ⟨z, n⟩ := n
  have h := I.hok a _ n.at_
  obtain ⟨⟨h1, h2, h3, h4, h5⟩, _⟩ := h
  exact ⟨h1, z.o, z.ea, z.ep, h2, h3, h4, h5, fun e he => ⟨NKey.is I _ _ _ (n.key e he).1 rfl, (n.key e he).2⟩, n.nd⟩
theorem nt_ok {P : Program} {w : World} {h : Heap} (hs : (a == sysModules) = false) (d : h.DictOfH (nestedKind P w) a xs) : ∃ z, ∀ H : Hp, ObjOk P w H h a (dntHO w a z xs) := by
  obtain ⟨o, ea, ep, h2, h3, h4, h5, _, _⟩ := d
  exact ⟨⟨o, ea, ep⟩, fun H => ⟨⟨hs, h2, h3, h4, h5⟩, ⟨o, h2⟩, fun x y ⟨q0, q1, q2, q3, q4⟩ k => ⟨q0, k _ q1, q2, q3, q4⟩⟩⟩
theorem key_is (I : Inv X pins σ H s) (n : NKey X.K H k (.ref b)) (hd : k.depth ≤ 8) : (nestedKind X.prog X.w).is s.heap k b := ⟨NKey.is I _ _ _ n rfl, hd⟩
end
/-- what a dict holds at a nested key; stored -/
def nval (kvs : List (D × D)) (k : NestedKey) : Option D := (kvs.find? fun kv => decide (keyOf kv.1 = some k)).map (·.2)
def nput (kvs : List (D × D)) (key : D) (k : NestedKey) (d : D) : List (D × D) := if (nval kvs k).isSome then kvs.map (fun kv => if keyOf kv.1 = some k then (kv.1, d) else kv) else kvs ++ [(key, d)]
abbrev NR (K : PySem.W.Frag) (μ : Mu) (H : Hp) : List (D × D) → List (NestedKey × Addr × Value) → Prop := Paired (EntR K μ H)
section
variable {w : World} {K : PySem.W.Frag} {μ : Mu} {S : Sto} {H : Hp} {kvs : List (D × D)} {xs : List (NestedKey × Addr × Value)}
theorem NR.val (r : NR K μ H kvs xs) (k : NestedKey) : (nval kvs k = none ∧ atKey xs k = none) ∨ ∃ d p v, nval kvs k = some d ∧ atKey xs k = some p ∧ RelV v p.2 ∧ Rep K μ H d v := by
  induction r with
  | nil => exact .inl ⟨rfl, rfl⟩
  | @cons p q ps qs h t ih =>
    obtain ⟨h1, h2, h3, v, h4, h5⟩ := h
    by_cases e : q.1 = k
    · exact .inr ⟨p.2, q.2, v, by simp [nval, h1, e], by simp [atKey, e], h4, h5⟩
    · have e1 : nval (p :: ps) k = nval ps k := by simp [nval, h1, e]
      have e2 : atKey (q :: qs) k = atKey qs k := by simp [atKey, e]
      rw [e1, e2]
      exact ih
theorem NR.put (r : NR K μ H kvs xs) {kd : D} {k : NestedKey} {b : Addr} {d : D} {v : V} {u : Value} (hk : keyOf kd = some k) (hd : k.depth ≤ 8) (rk : Rep K μ H kd (.ref b)) (ru : RelV v u) (h : Rep K μ H d v) : NR K μ H (nput kvs kd k d) (storedH xs k b u) := by
  have ha : (nval kvs k).isSome = (atKey xs k).isSome := by
    rcases r.val k with ⟨e1, e2⟩ | ⟨d', p, v', e1, e2, _⟩ <;> rw [e1, e2] <;> rfl
  unfold nput storedH
  rw [ha]
  split
  · rename_i hc
    clear ha hc
    induction r with
    | nil => exact .nil
    | @cons p q ps qs h0 t ih =>
      refine .cons ?_ ih
      obtain ⟨h1, h2, h3, v', h4, h5⟩ := h0
      show EntR K μ H (if keyOf p.1 = some k then (p.1, d) else p) (putAt k u q)
      unfold putAt
      by_cases e : q.1 = k
      · rw [if_pos e, if_pos (by rw [h1, e])]
        exact ⟨h1, h2, h3, v, ru, h⟩
      · rw [if_neg e, if_neg (by rw [h1]; exact fun z => e (Option.some.inj z))]
        exact ⟨h1, h2, h3, v', h4, h5⟩
  · rename_i hc
    clear ha hc
    induction r with
    | nil => exact .cons ⟨hk, hd, rk, v, ru, h⟩ .nil
    | @cons p q ps qs h0 t ih => exact .cons h0 ih
theorem NR.len (r : NR K μ H kvs xs) : kvs.length = xs.length := Paired.length r
theorem NR.keys (r : NR K μ H kvs xs) : ∀ e ∈ xs, NKey K H e.1 (.ref e.2.1) ∧ e.1.depth ≤ 8 := by
  induction r with
  | nil => intro e h; cases h
  | @cons p q ps qs h0 t ih =>
    intro e he
    rcases List.mem_cons.mp he with rfl | he
    · obtain ⟨h1, h2, h3, _⟩ := h0
      exact ⟨nkey_of _ _ _ h3 h1, h2⟩
    · exact ih e he
theorem NR.ext {μ' : Mu} {H' : Hp} (x : Ext μ H μ' H') (r : NR K μ H kvs xs) : NR K μ' H' kvs xs := Paired.mapP r fun _ _ q => q.ext x
theorem loc_dnt {n : Nat} {v : V} (m : Sim w K μ S H) (r : Rep K μ H (.loc n) v) (e : S[n]? = some (.dnt kvs)) : ∃ a xs, v = .ref a ∧ μ.l[n]? = some a ∧ NtAt w K H a xs ∧ NR K μ H kvs xs := by
  rw [rep_loc] at r
  obtain ⟨a, e1, f⟩ := r
  obtain ⟨xs, z, h1, h2, h3, h4⟩ := m.ob n _ a e f
  exact ⟨a, xs, e1, f, ⟨z, h1, NR.keys h2, h3, h4⟩, h2⟩
end

/-! ### subscripts -/
/-- a nested key is a tuple here -/
def ntKey (d : D) : Option NestedKey := match d with
  | .tup ds => (keyOf (.tup ds)).bind fun q => if q.depth ≤ 8 then some q else none
  | _ => none
theorem ntKey_ok {K : PySem.W.Frag} {μ : Mu} {H : Hp} {d : D} {v : V} {q : NestedKey} (r : Rep K μ H d v) (e : ntKey d = some q) : ∃ b, v = .ref b ∧ keyOf d = some q ∧ NKey K H q (.ref b) ∧ q.depth ≤ 8 := by
  unfold ntKey at e
  split at e
  · rename_i ds
    obtain ⟨q', e1, e2⟩ := Option.bind_eq_some_iff.mp e
    split at e2
    · rename_i hd
      cases e2
      obtain ⟨a, vs, rfl, _⟩ := rep_tup.mp r
      exact ⟨a, rfl, e1, nkey_of _ _ _ r e1, hd⟩
    · cases e2
  · cases e

def rDicGet : R2 := fun x y H Q => ∃ a v, x = .ref a ∧ DGet H a y (some v) ∧ Q v H
def rDntGet (w : World) (K : PySem.W.Frag) : R2 := fun x y H Q => ∃ a b xs k p v, x = .ref a ∧ y = .ref b ∧ NtAt w K H a xs ∧ NKey K H k (.ref b) ∧ k.depth ≤ 8 ∧ atKey xs k = some p ∧ RelV v p.2 ∧ Q v H
section
variable {X : Cx}
theorem ix_dic (hu : X.A.units + 1 < cLine) : IxR X rDicGet := by
  intro value slice pins s σ H x y v u Q I rx ry h hs
  obtain ⟨a, z, rfl, g, q⟩ := h
  cases rx
  exact tail_any (dict_typeIs I g) PySem.F.slot_dict_getitem.lookup (d_getItem hu I g ry fun w' s3 I3 rw' => ⟨z, H, I3, rw', q⟩) hs
theorem ix_dnt (hu : X.A.units + 20 < cLine) : IxR X (rDntGet X.w X.K) := by
  intro value slice pins s σ H x y v u Q I rx ry h hs
  obtain ⟨a, b, xs, k, p, z, rfl, rfl, n, nk, hd, hp, rz, q⟩ := h
  cases rx
  cases ry
  obtain ⟨h1, dd⟩ := n.heap I
  exact tail_any dd.typeIs PySem.F.slot_dict_getitem.lookup (wpAny_getItem_heap (by show X.A.in1.units + 8 < cLine; simp only [Around.in1_units]; omega) (key_is I nk hd) dd hp ⟨z, H, I.tok _, rz, q⟩) hs
end
def ofO : Option D → Sto → R D
  | some d, S => .ok d S
  | none, _ => .stuck
def ixL (S : Sto) (k : D) : D → Option D
  | .loc n => match S[n]? with
    | some (.dic kvs) => (key? k).bind (dval kvs)
    | some (.dnt kvs) => (ntKey k).bind (nval kvs)
    | _ => none
  | .str z => match k with
    | .int i => if z.length ≤ sizeLine then (atI z.cps.toList i).map (fun c => .str ⟨#[c]⟩) else none
    | _ => none
  | _ => none
def ixI (ds : List D) : D → Option D
  | .int i => atI ds i
  | _ => none
def oIx (d k : D) (S : Sto) : R D := match seqOf S d with
  | some ds => ofO (ixI ds k) S
  | none => ofO (ixL S k d) S
theorem Reps.atI {K : PySem.W.Frag} {μ : Mu} {H : Hp} {ds : List D} {vs : List V} {i : Int} {d : D} (r : Reps K μ H ds vs) (e : atI ds i = some d) : ∃ v, atI vs i = some v ∧ Rep K μ H d v := by
  unfold L2.atI at e ⊢
  rw [r.length]
  obtain ⟨j, e1, e2⟩ := Option.bind_eq_some_iff.mp e
  obtain ⟨v, e3, h⟩ := r.get e2
  exact ⟨v, by rw [e1]; exact e3, h⟩
def rIxA (w : World) (K : PySem.W.Frag) : R2 := fun x y H Q => rIx K x y H Q ∨ rDicGet x y H Q ∨ rDntGet w K x y H Q
section
variable {X : Cx} {E : XK} {a b e : Expr} {f g : DE} {es : List Expr} {t : DA} {pos p p2 : Pos} {kk : Nat}
theorem oIx_ok : OpS X E (rIxA X.w X.K) oIx := by
  intro μ S H d k x y Q m rd rk o
  unfold oIx at o
  split at o
  · rename_i ds e
    cases k with
    | int i =>
      have o : OutE X.w X.K E μ H Q (ofO (atI ds i) S) := o
      cases q : atI ds i with
      | none => rw [q] at o; exact o.elim
      | some z =>
        rw [q] at o
        have hy := rep_int.mp rk
        subst hy
        obtain ⟨p, vs, rfl, sq, rr⟩ := seqOf_ok m rd e
        obtain ⟨v, e1, h1⟩ := rr.atI q
        have fin := o μ H v .refl m h1
        rcases sq with sq | sq
        · exact .inl (.inl ⟨p, vs, i, v, rfl, rfl, sq, e1, fin⟩)
        · exact .inl (.inr (.inl ⟨p, vs, i, v, rfl, rfl, sq, e1, fin⟩))
    | _ => exact o.elim
  · cases q : ixL S k d with
    | none => rw [q] at o; exact o.elim
    | some z =>
      rw [q] at o
      have fin : ∀ v, Rep X.K μ H z v → Q v H := fun v r => o μ H v .refl m r
      unfold ixL at q
      split at q
      · rename_i n
        split at q
        · rename_i kvs e1
          obtain ⟨key, e2, e3⟩ := Option.bind_eq_some_iff.mp q
          obtain ⟨p, es, rfl, hl, hh, dr⟩ := loc_dic m rd e1
          have hy := key_ok rk e2
          subst hy
          rcases dr.val key with ⟨e4, _⟩ | ⟨d', v, e4, e5, h5⟩
          · rw [e4] at e3; cases e3
          · rw [e4] at e3
            cases e3
            exact .inr (.inl ⟨p, v, rfl, by rw [← e5]; exact DGet.k hh, fin v h5⟩)
        · rename_i kvs e1
          obtain ⟨key, e2, e3⟩ := Option.bind_eq_some_iff.mp q
          obtain ⟨p, xs, rfl, hl, nt, nr⟩ := loc_dnt m rd e1
          obtain ⟨b, rfl, h1, h2, h3⟩ := ntKey_ok rk e2
          rcases nr.val key with ⟨e4, _⟩ | ⟨d', pp, v, e4, e5, h4, h5⟩
          · rw [e4] at e3; cases e3
          · rw [e4] at e3
            cases e3
            exact .inr (.inr ⟨p, b, xs, key, pp, v, rfl, rfl, nt, h2, h3, e5, h4, fin v h5⟩)
        · cases q
      · rename_i z' hzq
        split at q
        · rename_i i
          split at q
          · rename_i hz
            obtain ⟨c, e1, rfl⟩ := Option.map_eq_some_iff.mp q
            have h1 := rep_str.mp rd
            have h2 := rep_int.mp rk
            subst h1 h2
            exact .inl (.inr (.inr ⟨z', i, c, rfl, rfl, hz, e1, fin _ (rep_str.mpr rfl)⟩))
          · cases q
        · cases q
      · cases q
theorem ev_ix (hr : Rm kk X.A) (ha : ES X E a f) (hb : ES X E b g) (hs : PlainIx b := by exact fun _ _ => rfl) : ES X E (.Subscript a b pos) (dOp oIx f g) :=
  (pe_ix (ix_seq.or ((ix_dic (by have := hr.room.units; omega)).or (ix_dnt (by have := hr.room.units; omega)))) ha hb hs).wk fun σ H Q ⟨μ, ρ, S, sl, m, o⟩ => out2 sl m oIx_ok o
end
end Ev

set_option Elab.async false
set_option linter.all false
set_option maxRecDepth 100000
set_option maxHeartbeats 4000000
/-! EvI: stores by subscript, lists' methods, dict displays, get, len. -/
namespace Ev
open PySem PySem.Spec PyProof.Rows L2

theorem PSet.or {X : Cx} {t u : TSet} (h : PSet X t) (h' : PSet X u) : PSet X (fun o i v H Q => t o i v H Q ∨ u o i v H Q) := by
  intro pins s σ H o i v ov iv u' Q I ro ri rv q
  rcases q with q | q
  · exact h pins s σ H o i v ov iv u' Q I ro ri rv q
  · exact h' pins s σ H o i v ov iv u' Q I ro ri rv q
def rSetNt (w : World) (K : PySem.W.Frag) : TSet := fun o i v H Q => ∃ a b xs k, o = .ref a ∧ i = .ref b ∧ NtAt w K H a xs ∧ NKey K H k (.ref b) ∧ k.depth ≤ 8 ∧ xs.length < sizeLine ∧
  ∀ u z, RelV v u → ((storedH xs k b u).map (·.1)).Nodup → (storedH xs k b u).length ≤ sizeLine → Q (upd H a (dntHO w a z (storedH xs k b u)))
theorem storedH_len {xs : List (NestedKey × Addr × Value)} {k : NestedKey} {b : Addr} {u : Value} : (storedH xs k b u).length ≤ xs.length + 1 := by
  unfold storedH
  split <;> simp
section
variable {X : Cx}
theorem set_dnt (hu : X.A.units + 20 < cLine) : PSet X (rSetNt X.w X.K) := by
  intro pins s σ H o i v ov iv u Q I ro ri rv h
  obtain ⟨a, b, xs, k, rfl, rfl, n, nk, hd, hz, q⟩ := h
  cases ro
  cases ri
  obtain ⟨h1, dd⟩ := n.heap I
  obtain ⟨z0, nz⟩ := n
  refine wpAny_setItem_heap (hsz := nz.sz) (by show X.A.in1.units + 8 < cLine; simp only [Around.in1_units]; omega) (key_is I nk hd) dd fun h' dd' hs => ?_
  obtain ⟨z, ok⟩ := nt_ok (P := X.prog) h1 dd'
  obtain ⟨ob, _, _, ho, _⟩ := id dd'
  exact ⟨_, d_write I (by rw [nz.at_]; exact True.intro) hs ⟨_, ho⟩ (ok _), q u z rv dd'.nodup (by have := storedH_len (xs := xs) (k := k) (b := b) (u := u); omega)⟩
end
def stO (o k d : D) (S : Sto) : Option Sto := match o with
  | .loc n => match S[n]? with
    | some (.lst ds) => match k with
      | .int i => (ixN ds.length i).map fun j => S.set n (.lst (ds.set j d))
      | _ => none
    | some (.dic kvs) => (key? k).bind fun q => if kvs.length < sizeLine then some (S.set n (.dic (dput kvs q d))) else none
    | some (.dnt kvs) => (ntKey k).bind fun q => if kvs.length < sizeLine then some (S.set n (.dnt (nput kvs k q d))) else none
    | none => none
  | _ => none
def stS (ρ : Rho) : Option Sto → RS
  | some S => .nx ρ S
  | none => .stuck
def gIx (f g : DE) : DG := fun d ρ S => (f ρ S).bindS fun o S1 => (g ρ S1).bindS fun k S2 => stS ρ (stO o k d S2)
theorem gIx_nx {f g : DE} : GNx (gIx f g) := fun d ρ S => by
  unfold gIx
  cases f ρ S with
  | stuck => exact .inr (.inr rfl)
  | exc x S' => exact .inr (.inl ⟨_, _, rfl⟩)
  | ok o S1 =>
    simp only [R.bindS_ok]
    cases g ρ S1 with
    | stuck => exact .inr (.inr rfl)
    | exc x S' => exact .inr (.inl ⟨_, _, rfl⟩)
    | ok k S2 =>
      simp only [R.bindS_ok]
      cases stO o k d S2 with
      | none => exact .inr (.inr rfl)
      | some S3 => exact .inl ⟨_, _, rfl⟩
section
variable {X : Cx} {E : XK} {a b e : Expr} {f g : DE} {es : List Expr} {t : DA} {pos p p2 apos cpos : Pos} {kk : Nat}
def rSetA (w : World) (K : PySem.W.Frag) : TSet := fun o i v H Q => rSetL o i v H Q ∨ rSetD o i v H Q ∨ rSetNt w K o i v H Q
theorem stO_ok {μ : Mu} {ρ : Rho} {σ : L2.St} {S S' : Sto} {H : Hp} {o k d : D} {x y v : V} {Q : L2.St → Hp → Prop} (m : Sim X.w X.K μ S H) (sl : SlR X.K μ H ρ σ) (ro : Rep X.K μ H o x) (rk : Rep X.K μ H k y) (rd : Rep X.K μ H d v) (e : stO o k d S = some S')
    (q : ∀ H', Ext μ H μ H' → Sim X.w X.K μ S' H' → Q σ H') : rSetA X.w X.K x y v H (fun H' => Q σ H') := by
  unfold stO at e
  split at e
  · rename_i n
    split at e
    · rename_i ds e1
      split at e
      · rename_i i
        obtain ⟨j, e2, rfl⟩ := Option.map_eq_some_iff.mp e
        have hy := rep_int.mp rk
        subst hy
        obtain ⟨a, rfl, hl⟩ := rep_loc.mp ro
        obtain ⟨vs, h1, rr⟩ := m.ob n _ a e1 hl
        have ha := List.mem_of_getElem? hl
        refine .inl ⟨a, vs, i, j, rfl, rfl, h1, by rw [rr.length]; exact e2, q _ (.write ha) (m.write hl ⟨_, upd_same, Reps.ext (.write ha) _ _ (rr.set j rd)⟩)⟩
      · cases e
    · rename_i kvs e1
      obtain ⟨key, e2, e3⟩ := Option.bind_eq_some_iff.mp e
      split at e3
      · rename_i hz
        cases e3
        have hy := key_ok rk e2
        subst hy
        obtain ⟨a, es', rfl, hl, hh, dr⟩ := loc_dic m ro e1
        have ha := List.mem_of_getElem? hl
        refine .inr (.inl ⟨a, _, rfl, DPut.k hh (by rw [← Paired.length dr]; exact hz), q _ (.write ha) (m.write hl ⟨_, upd_same, DR.ext (.write ha) (dr.put key rd)⟩)⟩)
      · cases e3
    · rename_i kvs e1
      obtain ⟨key, e2, e3⟩ := Option.bind_eq_some_iff.mp e
      split at e3
      · rename_i hz
        cases e3
        obtain ⟨a, xs, rfl, hl, nt, nr⟩ := loc_dnt m ro e1
        obtain ⟨b, rfl, h1, h2, h3⟩ := ntKey_ok rk e2
        have ha := List.mem_of_getElem? hl
        refine .inr (.inr ⟨a, b, xs, key, rfl, rfl, nt, h2, h3, by rw [← nr.len]; exact hz, fun u z ru nd sz => ?_⟩)
        exact q _ (.write ha) (m.write hl ⟨_, z, upd_same, NR.ext (.write ha) (nr.put h1 h3 rk ru rd), nd, sz⟩)
      · cases e3
    · cases e
  · cases e
theorem gs_ix (hr : Rm kk X.A) (ha : ES X E a f) (hb : ES X E b g)
    (hs : ∀ v, assign (.Subscript a b pos) X.env v = (do
      let ov ← holding [v] (eval a X.env)
      let iv ← holding [v, ov] (eval b X.env)
      standAt pos
      holding [v, ov, iv] (setItem ov iv v)
      release [v, ov, iv] []) := by intro _; rfl) : GS X E (.Subscript a b pos) (gIx f g) :=
  (pg_sub ha hb (PSet.or set_list (PSet.or (set_dict (by have := hr.room.units; omega)) (set_dnt (by have := hr.room.units; omega)))) hs).wk fun v σ H Q ⟨μ, ρ, S, d, sl, m, rd, o⟩ => by
    refine ⟨μ, ρ, S, sl, m, ?_⟩
    have o1 := OutE.bindS o
    cases q : f ρ S with
    | stuck => rw [q] at o1; exact o1
    | exc x S' => rw [q] at o1; exact o1
    | ok d1 S1 =>
      rw [q] at o1
      intro μ1 H1 v1 x1 m1 r1
      obtain ⟨μ1', d1', S1', x1', m1', r1', o2⟩ := o1 μ1 H1 v1 x1 m1 r1
      refine ⟨μ1', ρ, S1', sl.ext x1', m1', ?_⟩
      have o3 := OutE.bindS o2
      cases q2 : g ρ S1' with
      | stuck => rw [q2] at o3; exact o3
      | exc x S' => rw [q2] at o3; exact o3
      | ok d2 S2 =>
        rw [q2] at o3
        intro μ2 H2 v2 x2 m2 r2
        obtain ⟨μ2', d2', S2', x2', m2', r2', o4⟩ := o3 μ2 H2 v2 x2 m2 r2
        cases q3 : stO d1' d2' d S2' with
        | none => rw [q3] at o4; exact o4.elim
        | some S3 =>
          rw [q3] at o4
          have sl2 := (sl.ext x1').ext x2'
          refine stO_ok (σ := σ) (Q := fun _ H3 => Q σ H3) m2' sl2 (r1'.ext x2') r2' ((rd.ext x1').ext x2') q3 fun H' x3 m3 => ?_
          exact o4 μ2' σ H' x3 m3 (sl2.ext x3)
theorem es_put {tp : Pos} (hr : Rm kk X.A) {v : DE} (ha : ES X E a f) (hb : ES X E b g) (he : ES X E e v) (hsw : swapsWithSole [.Subscript a b tp] e pos.line X.env = pure false := by rfl) (hw : swappedStores [.Subscript a b tp] e X.env = pure none := by rfl)
    (h1 : (assignEach [.Subscript a b tp] X.env).map (·.2) = [assign (.Subscript a b tp) X.env] := by rfl) (hs : ∀ v, assign (.Subscript a b tp) X.env v = (do
      let ov ← holding [v] (eval a X.env)
      let iv ← holding [v, ov] (eval b X.env)
      standAt tp
      holding [v, ov, iv] (setItem ov iv v)
      release [v, ov, iv] []) := by intro _; rfl) : SS X E (.Assign [.Subscript a b tp] e pos) (dAsg v (gIx f g)) := es_asg he (gs_ix hr ha hb hs) gIx_nx hsw hw h1

/-! ### lists' methods -/
def dBM (ty : D → Sto → Bool) (op : D → List D → Sto → R D) (f : DE) (t : DA) : DE := fun ρ S => (f ρ S).bind fun d S1 => if ty d S1 = true then (t ρ S1).bind fun ds S2 => op d ds S2 else .stuck
def MtS (X : Cx) (E : XK) (r : V → List V → Hp → VK → Prop) (op : D → List D → Sto → R D) : Prop :=
  ∀ (μ : Mu) (S : Sto) (H : Hp) (d : D) (ds : List D) (x : V) (xs : List V) (Q : VK), Sim X.w X.K μ S H → Rep X.K μ H d x → Reps X.K μ H ds xs → OutE X.w X.K E μ H Q (op d ds S) → r x xs H Q
def isL (d : D) (S : Sto) : Bool := (lstOf S d).isSome
variable {T id : String} {name : Str} {r : V → List V → Hp → VK → Prop} {op : D → List D → Sto → R D} {ty : D → Sto → Bool}
theorem ev_bm (hty' : ∀ (μ : Mu) (S : Sto) (H : Hp) (d : D) (x : V), Sim X.w X.K μ S H → Rep X.K μ H d x → ty d S = true → tyV X.K T x H) (ho : MtS X E r op) (pa : PlainAttrs T) (slot : Slot T name id) (hty : typeOf (.builtin id) = pure (.type "method_descriptor")) (hm : MtR X id r) (ha : ES X E a f) (ht : AS X E (e :: es) t)
    (hbase : attributeBase a name X.env (eval a X.env) = eval a X.env := by rfl)
    (hfew : ((backTo cpos (starEach (e :: es) X.env)).all (fun x => !x.1) && (backToKw cpos (keywordEach [] X.env)).all (fun x => x.1.isSome)
      && decide ((e :: es).length + ([] : List Keyword).length + (if ([] : List Keyword).isEmpty then 0 else 1) < 30)) = true := by rfl)
    (hline : (apos.endLine == cpos.line) = true := by rfl) (hs : starEach (e :: es) X.env = (false, eval e X.env) :: starEach es X.env := by rfl) (hplain : (backTo cpos (starEach es X.env)).any (·.1) = false := by rfl) :
    ES X E (.Call (.Attribute a name apos) (e :: es) [] cpos) (dBM ty op f t) :=
  (pe_bm pa slot hty hm ha ht hbase hfew hline hs hplain).wk fun σ H Q ⟨μ, ρ, S, sl, m, o⟩ => by
    refine tE_mono (outE1 (k := fun d ρ S1 => if ty d S1 = true then (t ρ S1).bind fun ds S2 => op d ds S2 else .stuck) sl m o) fun v H1 ⟨μ1, d, S1, m1, r1, sl1, o1⟩ => ?_
    split at o1
    · rename_i hy
      refine ⟨hty' μ1 S1 H1 d v m1 r1 hy, tA_mono (outA1 (k := fun ds S2 => op d ds S2) sl1 m1 o1) fun vs H2 ⟨μ2, ds, S2, x2, m2, r2, o2⟩ => ho μ2 S2 H2 d ds v vs Q m2 (r1.ext x2) r2 o2⟩
    · exact o1.elim
theorem ev_bm0 (hty' : ∀ (μ : Mu) (S : Sto) (H : Hp) (d : D) (x : V), Sim X.w X.K μ S H → Rep X.K μ H d x → ty d S = true → tyV X.K T x H) (ho : MtS X E r op) (pa : PlainAttrs T) (slot : Slot T name id) (hty : typeOf (.builtin id) = pure (.type "method_descriptor")) (hm : MtR X id r) (ha : ES X E a f)
    (hbase : attributeBase a name X.env (eval a X.env) = eval a X.env := by rfl) (hline : (apos.endLine == cpos.line) = true := by rfl) : ES X E (.Call (.Attribute a name apos) [] [] cpos) (dBM ty op f dNil) :=
  (pe_bm0 pa slot hty hm ha hbase hline).wk fun σ H Q ⟨μ, ρ, S, sl, m, o⟩ => by
    refine tE_mono (outE1 (k := fun d ρ S1 => if ty d S1 = true then (dNil ρ S1).bind fun ds S2 => op d ds S2 else .stuck) sl m o) fun v H1 ⟨μ1, d, S1, m1, r1, sl1, o1⟩ => ?_
    split at o1
    · rename_i hy
      exact ⟨hty' μ1 S1 H1 d v m1 r1 hy, ho μ1 S1 H1 d [] v [] Q m1 r1 (reps_nil.mpr rfl) o1⟩
    · exact o1.elim
theorem isL_ok {μ : Mu} {S : Sto} {H : Hp} {d : D} {x : V} (m : Sim X.w X.K μ S H) (r : Rep X.K μ H d x) (h : isL d S = true) : tyV X.K "list" x H := by
  obtain ⟨ds, e⟩ := Option.isSome_iff_exists.mp h
  obtain ⟨p, vs, rfl, sq, _⟩ := lstOf_ok m r e
  exact .inl ⟨rfl, vs, sq⟩
def oAppend : D → List D → Sto → R D
  | .loc n, [x], S => match S[n]? with
    | some (.lst ds) => if ds.length < sizeLine then .ok .non (S.set n (.lst (ds ++ [x]))) else .stuck
    | _ => .stuck
  | _, _, _ => .stuck
def oPop : D → List D → Sto → R D
  | .loc n, [], S => match S[n]? with
    | some (.lst ds) => match ds[ds.length - 1]? with
      | some x => .ok x (S.set n (.lst ds.dropLast))
      | none => .stuck
    | _ => .stuck
  | _, _, _ => .stuck
theorem Reps.dropLast {K : PySem.W.Frag} {μ : Mu} {H : Hp} {ds : List D} {vs : List V} (r : Reps K μ H ds vs) : Reps K μ H ds.dropLast vs.dropLast := by
  rw [List.dropLast_eq_take, List.dropLast_eq_take, r.length]
  exact r.take _
theorem oAppend_ok : MtS X E rAppend oAppend := by
  intro μ S H d ds x xs Q m rd rs o
  unfold oAppend at o
  split at o
  · rename_i n y
    split at o
    · rename_i ds e1
      split at o
      · rename_i hz
        obtain ⟨a, rfl, hl⟩ := rep_loc.mp rd
        obtain ⟨vs, h1, rr⟩ := m.ob n _ a e1 hl
        obtain ⟨v, rfl, hv⟩ := reps1 rs
        have ha := List.mem_of_getElem? hl
        exact ⟨a, vs, v, rfl, rfl, h1, by rw [rr.length]; exact hz, o μ _ _ (.write ha) (m.write hl ⟨_, upd_same, Reps.ext (.write ha) _ _ (rr.append (.one hv))⟩) (rep_non.mpr rfl)⟩
      · exact o.elim
    · exact o.elim
  · exact o.elim
theorem oPop_ok : MtS X E rPop oPop := by
  intro μ S H d ds x xs Q m rd rs o
  unfold oPop at o
  split at o
  · rename_i n
    split at o
    · rename_i ds e1
      split at o
      · rename_i y e2
        obtain ⟨a, rfl, hl⟩ := rep_loc.mp rd
        obtain ⟨vs, h1, rr⟩ := m.ob n _ a e1 hl
        obtain rfl := reps_nil.mp rs
        obtain ⟨v, e3, hv⟩ := rr.get e2
        have ha := List.mem_of_getElem? hl
        exact ⟨a, vs, v, rfl, rfl, h1, by rw [rr.length]; exact e3, o μ _ _ (.write ha) (m.write hl ⟨_, upd_same, Reps.ext (.write ha) _ _ rr.dropLast⟩) (hv.ext (.write ha))⟩
      · exact o.elim
    · exact o.elim
  · exact o.elim
theorem ev_append (ha : ES X E a f) (ht : AS X E (e :: es) t)
    (hbase : attributeBase a "append" X.env (eval a X.env) = eval a X.env := by rfl)
    (hfew : ((backTo cpos (starEach (e :: es) X.env)).all (fun x => !x.1) && (backToKw cpos (keywordEach [] X.env)).all (fun x => x.1.isSome)
      && decide ((e :: es).length + ([] : List Keyword).length + (if ([] : List Keyword).isEmpty then 0 else 1) < 30)) = true := by rfl)
    (hline : (apos.endLine == cpos.line) = true := by rfl) (hs : starEach (e :: es) X.env = (false, eval e X.env) :: starEach es X.env := by rfl) (hplain : (backTo cpos (starEach es X.env)).any (·.1) = false := by rfl) :
    ES X E (.Call (.Attribute a "append" apos) (e :: es) [] cpos) (dBM isL oAppend f t) := ev_bm (fun _ _ _ _ _ => isL_ok) oAppend_ok F.plainAttrs_list F.slot_list_append F.type_list_append mt_append ha ht hbase hfew hline hs hplain
theorem ev_pop (ha : ES X E a f) (hbase : attributeBase a "pop" X.env (eval a X.env) = eval a X.env := by rfl) (hline : (apos.endLine == cpos.line) = true := by rfl) :
    ES X E (.Call (.Attribute a "pop" apos) [] [] cpos) (dBM isL oPop f dNil) := ev_bm0 (fun _ _ _ _ _ => isL_ok) oPop_ok F.plainAttrs_list F.slot_list_pop F.type_list_pop mt_pop ha hbase hline
end
end Ev

set_option Elab.async false
set_option linter.all false
set_option maxRecDepth 100000
set_option maxHeartbeats 4000000
/-! EvJ: dict displays, {}, get, len of anything. -/
namespace Ev
open PySem PySem.Spec PyProof.Rows L2

theorem Sim.take {w : World} {K : PySem.W.Frag} {μ μ1 : Mu} {S : Sto} {H : Hp} {p : Addr} {o : AO} (m : Sim w K μ S H) (h1 : p ∈ μ.hid) (h2 : p ∉ μ1.hid) (hs : ∀ a ∈ μ1.hid, a ∈ μ.hid) (r : OR w K μ H o p) :
    Sim w K (Mu.push ⟨μ.l, μ1.hid⟩ p) (S ++ [o]) H := by
  have hl : p ∉ μ.l := (m.hd p h1).2
  have m' := m.less hs
  have c : Car ⟨μ.l, p :: μ1.hid⟩ H (Mu.push ⟨μ.l, μ1.hid⟩ p) H := ⟨fun n a e => by
      obtain ⟨hb, _⟩ := List.getElem?_eq_some_iff.mp e
      show (μ.l ++ [p])[n]? = _
      rw [List.getElem?_append_left hb]
      exact e, fun a u n1 n2 rd => ⟨fun z => by
        rcases List.mem_append.mp z with z | z
        · exact n1 z
        · exact n2 (by rw [List.mem_singleton.mp z]; exact List.mem_cons_self), fun z => n2 (List.mem_cons_of_mem _ z), rd⟩⟩
  have hs2 : ∀ a ∈ p :: μ1.hid, a ∈ μ.hid := fun a ha => by
    rcases List.mem_cons.mp ha with z | z
    · rw [z]; exact h1
    · exact hs a z
  have m2 := m.less hs2
  refine ⟨by show (μ.l ++ [p]).length = _; simp [m.len], ?_, fun n o' a e1 e2 => ?_, fun a ha => ?_⟩
  · show (μ.l ++ [p]).Nodup
    rw [List.nodup_append]
    exact ⟨m.nd, by simp, fun a ha b hb e => hl (by rw [List.mem_singleton.mp hb] at e; rw [← e]; exact ha)⟩
  · have e2 : (μ.l ++ [p])[n]? = some a := e2
    by_cases hn : n < S.length
    · rw [List.getElem?_append_left hn] at e1
      rw [List.getElem?_append_left (by rw [m.len]; exact hn)] at e2
      exact (m2.ob n o' a e1 e2).car c rfl
    · have e : n = S.length := by
        obtain ⟨hb, _⟩ := List.getElem?_eq_some_iff.mp e1
        simp at hb
        omega
      subst e
      rw [List.getElem?_append_right (Nat.le_refl _), Nat.sub_self] at e1
      rw [List.getElem?_append_right (by rw [m.len]; exact Nat.le_refl _), m.len, Nat.sub_self] at e2
      cases e1; cases e2
      exact (r.car (.less hs2) rfl).car c rfl
  · obtain ⟨h3, h4⟩ := m'.hd a ha
    refine ⟨h3, fun z => ?_⟩
    rcases List.mem_append.mp z with z | z
    · exact h4 z
    · exact h2 (by rw [← List.mem_singleton.mp z]; exact ha)
theorem Ext.take {μ μ1 : Mu} {H H1 : Hp} {p : Addr} {u u' : HO} (x : Ext (μ1.hide p) (upd H1 p u) μ H) (hp : H1 p = none) : Ext μ1 H1 (Mu.push ⟨μ.l, μ1.hid⟩ p) (upd H p u') := by
  obtain ⟨t, et⟩ := x.pre
  refine ⟨⟨t ++ [p], by show μ.l ++ [p] = _; rw [et, List.append_assoc]; rfl⟩, fun _ h => h, fun _ _ _ _ h => h, fun a v ha n => ?_⟩
  have np : a ≠ p := ne_of_none ha hp
  obtain ⟨k1, k2⟩ := x.keep a v (by rw [upd_ne np]; exact ha) n
  refine ⟨by rw [upd_ne np]; exact k1, fun z => ?_⟩
  rcases List.mem_append.mp z with z | z
  · exact k2 z
  · exact np (List.mem_singleton.mp z)

/-! ### {k: v, ..} -/
def dPairs : List (DE × DE) → Rho → Sto → R (List (Key × D))
  | [], _, S => .ok [] S
  | (f, g) :: r, ρ, S => (f ρ S).bind fun a S1 => (g ρ S1).bind fun b S2 => match key? a with
    | some q => (dPairs r ρ S2).bind fun ps S3 => .ok ((q, b) :: ps) S3
    | none => .stuck
def dmerge (ps : List (Key × D)) : List (Key × D) := ps.foldl (fun acc kv => dput acc kv.1 kv.2) []
def mkD (kvs : List (Key × D)) (S : Sto) : R D := if kvs.length ≤ 15 then .ok (.loc S.length) (S ++ [.dic (dmerge kvs)]) else .stuck
def dDisp (ps : List (DE × DE)) : DE := fun ρ S => (dPairs ps ρ S).bind mkD
abbrev PR (K : PySem.W.Frag) (μ : Mu) (H : Hp) : List (Key × D) → List (V × V) → Prop := Paired fun p q => q.1 = kV p.1 ∧ Rep K μ H p.2 q.2
def OutP (w : World) (K : PySem.W.Frag) (E : XK) (μ : Mu) (H : Hp) (Q : List (V × V) → Hp → Prop) : R (List (Key × D)) → Prop
  | .ok ps S' => ∀ μ' H' vs, Ext μ H μ' H' → Sim w K μ' S' H' → PR K μ' H' ps vs → Q vs H'
  | .exc x S' => ∀ μ' H' c a, Ext μ H μ' H' → Sim w K μ' S' H' → RepX K μ' H' x c a → E c a H'
  | .stuck => False
section
variable {X : Cx} {E : XK} {a b e : Expr} {f g h : DE} {es : List Expr} {t : DA} {pos p p2 apos cpos : Pos} {kk : Nat}
abbrev trsOf (X : Cx) (E : XK) (ps : List (DE × DE)) : List (TE × TE) := ps.map fun x => (tE X.w X.K E x.1, tE X.w X.K E x.2)
theorem tPairs_of : ∀ (ps : List (DE × DE)) {μ : Mu} {ρ : Rho} {S : Sto} {σ : L2.St} {H : Hp} {Q : List (V × V) → Hp → Prop}, SlR X.K μ H ρ σ → Sim X.w X.K μ S H → OutP X.w X.K E μ H Q (dPairs ps ρ S) → tPairs (trsOf X E ps) σ H Q
  | [], μ, ρ, S, σ, H, Q, sl, m, o => o μ H [] .refl m .nil
  | (f, g) :: r, μ, ρ, S, σ, H, Q, sl, m, o => by
    refine ⟨μ, ρ, S, sl, m, ?_⟩
    have o : OutP X.w X.K E μ H Q ((f ρ S).bind fun a S1 => (g ρ S1).bind fun b S2 => match key? a with
      | some q => (dPairs r ρ S2).bind fun ps S3 => .ok ((q, b) :: ps) S3
      | none => .stuck) := o
    show OutE X.w X.K E μ H _ (f ρ S)
    cases q : f ρ S with
    | stuck => rw [q] at o; exact o
    | exc x S' => rw [q] at o; exact o
    | ok d S1 =>
      rw [q] at o
      intro μ1 H1 v1 x1 m1 r1
      refine ⟨μ1, ρ, S1, sl.ext x1, m1, ?_⟩
      show OutE X.w X.K E μ1 H1 _ (g ρ S1)
      have o : OutP X.w X.K E μ H Q ((g ρ S1).bind fun b S2 => match key? d with
        | some q => (dPairs r ρ S2).bind fun ps S3 => .ok ((q, b) :: ps) S3
        | none => .stuck) := o
      cases q2 : g ρ S1 with
      | stuck => rw [q2] at o; exact o
      | exc x S' => rw [q2] at o; exact fun μ' H' c a x' => o μ' H' c a (x1.trans x')
      | ok d2 S2 =>
        rw [q2] at o
        have o : OutP X.w X.K E μ H Q (match key? d with
          | some q => (dPairs r ρ S2).bind fun ps S3 => .ok ((q, d2) :: ps) S3
          | none => .stuck) := o
        intro μ2 H2 v2 x2 m2 r2
        cases q3 : key? d with
        | none => rw [q3] at o; exact o.elim
        | some key =>
          rw [q3] at o
          have o : OutP X.w X.K E μ H Q ((dPairs r ρ S2).bind fun ps S3 => .ok ((key, d2) :: ps) S3) := o
          refine tPairs_of r ((sl.ext x1).ext x2) m2 ?_
          cases q4 : dPairs r ρ S2 with
          | stuck => rw [q4] at o; exact o
          | exc x S' => rw [q4] at o; exact fun μ' H' c a x' => o μ' H' c a ((x1.trans x2).trans x')
          | ok ps S3 =>
            rw [q4] at o
            intro μ3 H3 vs x3 m3 pr
            exact o μ3 H3 ((v1, v2) :: vs) ((x1.trans x2).trans x3) m3 (.cons ⟨key_ok (r1.ext x2) q3 |>.trans rfl, r2.ext x3⟩ pr)
theorem DR.merge {K : PySem.W.Frag} {μ : Mu} {H : Hp} : ∀ {ps : List (Key × D)} {vs : List (Key × V)} {acc : List (Key × D)} {accV : List (Key × V)}, DR K μ H ps vs → DR K μ H acc accV → DR K μ H (ps.foldl (fun acc kv => dput acc kv.1 kv.2) acc) (mergeK accV vs)
  | _, _, acc, accV, .nil, r => r
  | p :: ps, q :: qs, acc, accV, .cons h t, r => by
    show DR K μ H (List.foldl _ (dput acc p.1 p.2) ps) (mergeK (putK accV q.1 q.2) qs)
    refine DR.merge t ?_
    have h1 := h.1
    rw [← h1]
    exact r.put p.1 h.2
theorem PR.split {K : PySem.W.Frag} {μ : Mu} {H : Hp} {ps : List (Key × D)} {vs : List (V × V)} (r : PR K μ H ps vs) : ∃ kvs : List (Key × V), vs = kvs.map (fun kv => (kV kv.1, kv.2)) ∧ DR K μ H ps kvs := by
  induction r with
  | nil => exact ⟨[], rfl, .nil⟩
  | @cons p q _ _ h t ih =>
    obtain ⟨kvs, rfl, h2⟩ := ih
    refine ⟨(p.1, q.2) :: kvs, ?_, .cons ⟨rfl, h.2⟩ h2⟩
    show q :: _ = (kV p.1, q.2) :: _
    rw [← h.1]
structure PPsS (X : Cx) (E : XK) (pos : Pos) (keys : List (Option Expr)) (values : List Expr) (ps : List (DE × DE)) : Prop where
  run : PPs X pos keys values (trsOf X E ps)
theorem ep_nil : PPsS X E pos [] [] [] := ⟨pps_nil⟩
theorem ep_cons {k v : Expr} {ks : List (Option Expr)} {vs : List Expr} {ps : List (DE × DE)} (hk : ES X E k f) (hv : ES X E v g) (hr : PPsS X E pos ks vs ps) : PPsS X E pos (some k :: ks) (v :: vs) ((f, g) :: ps) := ⟨pps_cons hk hv hr.run⟩
theorem ev_disp {keys : List (Option Expr)} {values : List Expr} {ps : List (DE × DE)} (hp : PPsS X E pos keys values ps) (hall : keys.all (·.isSome) = true := by rfl) (hl : keys.length = values.length := by rfl) (h0 : keys ≠ [] := by exact List.cons_ne_nil _ _)
    (h15 : keys.length ≤ 15 := by decide) : ES X E (.Dict keys values pos) (dDisp ps) := (pe_disp hp.run hall hl h0 h15).wk fun σ H Q ⟨μ, ρ, S, sl, m, o⟩ => by
  have o : OutE X.w X.K E μ H Q ((dPairs ps ρ S).bind mkD) := o
  intro p np
  refine tPairs_of ps (sl.ext (.hide np)) (m.hide np) ?_
  cases q : dPairs ps ρ S with
  | stuck => rw [q] at o; exact o
  | exc x S' => rw [q] at o; exact fun μ' H' c a x' => o μ' H' c a ((Ext.hide np).trans x')
  | ok kvs S1 =>
    rw [q] at o
    intro μ' H' vs x m' pr
    have o : OutE X.w X.K E μ H Q (mkD kvs S1) := o
    unfold mkD at o
    split at o
    · rename_i hz
      obtain ⟨kv, rfl, dr⟩ := pr.split
      have hp := x.hid p List.mem_cons_self
      have eD : H' p = some (.dK []) := (x.keep p _ upd_same (m.fresh np).1).1
      refine ⟨eD, kv, rfl, by rw [← Paired.length dr]; exact hz, ?_⟩
      have m2 := m'.hid (u := .dK (mergeK [] kv)) hp
      have m3 := Sim.take (μ1 := μ) (o := .dic (dmerge kvs)) m2 hp (m.fresh np).2 (fun a ha => x.hid a (List.mem_cons_of_mem _ ha)) ⟨_, upd_same, Paired.mapP (DR.merge dr .nil) fun _ _ q => ⟨q.1, q.2.car (.hid hp)⟩⟩
      exact o _ _ _ (x.take np) m3 (rep_loc.mpr ⟨p, rfl, by rw [← m'.len]; exact Mu.last⟩)
    · exact o.elim

/-! ### {} -/
def dNewK : DE := fun _ S => .ok (.loc S.length) (S ++ [.dic []])
def dNewN : DE := fun _ S => .ok (.loc S.length) (S ++ [.dnt []])
theorem ev_newK : ES X E (.Dict [] [] pos) dNewK := pe_dnewK.wk fun σ H Q ⟨μ, ρ, S, sl, m, o⟩ => fun p np =>
  o _ _ _ (.push np) (m.push np ⟨[], upd_same, .nil⟩) (rep_loc.mpr ⟨p, rfl, by rw [← m.len]; exact Mu.last⟩)
theorem pe_dnewN : PE X (.Dict [] [] pos) (fun _ H Q => ∀ p z, H p = none → Q (.ref p) (upd H p (dntHO X.w p z []))) := ⟨fun pins s σ H Q I h => by
  have hb : (s.heap.objs.size == sysModules) = false := beq_eq_false_iff_ne.mpr (Ne.symm (Nat.ne_of_lt I.big))
  obtain ⟨z, ok⟩ := nt_ok (P := X.prog) (w := X.w) hb (Heap.DictOfH.new (knd := nestedKind X.prog X.w) s.heap)
  exact wpAny_Dict_empty ⟨.ref s.heap.objs.size, _, I.laid (a := s.heap.objs.size) (o := dntHO X.w s.heap.objs.size z []) (t' := s.toks) (fun _ _ q => Heap.get?_push_of_some _ q) (Nat.le_refl _) (ok _), rfl, h _ z (I.hok.fresh (Nat.le_refl _))⟩⟩
theorem ev_newN : ES X E (.Dict [] [] pos) dNewN := pe_dnewN.wk fun σ H Q ⟨μ, ρ, S, sl, m, o⟩ => fun p z np =>
  o _ _ _ (.push np) (m.push np ⟨[], z, upd_same, .nil, List.nodup_nil, Nat.zero_le _⟩) (rep_loc.mpr ⟨p, rfl, by rw [← m.len]; exact Mu.last⟩)

/-! ### d.get(k, x) -/
def isD (d : D) (S : Sto) : Bool := match d with
  | .loc n => match S[n]? with
    | some (.dic _) => true
    | some (.dnt _) => true
    | _ => false
  | _ => false
def getO (d k x : D) (S : Sto) : R D := match d with
  | .loc n => match S[n]? with
    | some (.dic kvs) => match key? k with
      | some q => .ok ((dval kvs q).getD x) S
      | none => .stuck
    | some (.dnt kvs) => match ntKey k with
      | some q => .ok ((nval kvs q).getD x) S
      | none => .stuck
    | _ => .stuck
  | _ => .stuck
def dGet2 (f g h : DE) : DE := fun ρ S => (f ρ S).bind fun d S1 => if isD d S1 = true then (g ρ S1).bind fun k S2 => (h ρ S2).bind fun x S3 => getO d k x S3 else .stuck
def rGetA (w : World) (K : PySem.W.Frag) (a : Addr) (y z : V) (H : Hp) (Q : VK) : Prop :=
  (∃ o, DGet H a y o ∧ Q (o.getD z) H) ∨ ∃ b xs k, y = .ref b ∧ NtAt w K H a xs ∧ NKey K H k (.ref b) ∧ k.depth ≤ 8 ∧ ((atKey xs k = none ∧ Q z H) ∨ ∃ p v, atKey xs k = some p ∧ RelV v p.2 ∧ Q v H)
def tGet2 (w : World) (K : PySem.W.Frag) (td ty tx : TE) : TE := fun σ H Q => td σ H fun x H1 => ∃ a, x = .ref a ∧ (IsD H1 a ∨ ∃ xs, NtAt w K H1 a xs) ∧ ty σ H1 fun y H2 => tx σ H2 fun z H3 => rGetA w K a y z H3 Q
theorem pe_getA {o : Expr} {td ty tx : TE} {e f : Expr} (hu : X.A.units + 20 < cLine) (ho : PE X o td) (he : PE X e ty) (hf : PE X f tx) (m : M2 X o "get" apos e f cpos) : PE X (.Call (.Attribute o "get" apos) [e, f] [] cpos) (tGet2 X.w X.K td ty tx) := by
  refine ⟨fun pins s σ H Q I h => ?_⟩
  refine wpAny_Call_method m.base m.few m.line PySem.F.plainAttrs_dict PySem.F.slot_dict_get PySem.F.type_dict_get (thn (ho.run pins s σ H _ I h) fun u s1 ⟨x, H1, I1, rx, a, ex, d, q1⟩ => ?_)
  subst ex
  obtain rfl : u = Value.ref a := rx
  have t12 : s1.TypeIs (.ref a) "dict" ∧ (∀ b, Value.ref a = .ref b → ∃ ob, s1.heap.get? b = some ob ∧ ob.dict = none) := by
    rcases d with d | ⟨xs, n⟩
    · exact ⟨(isD_at I1 d).1, (isD_at I1 d).2.1⟩
    · obtain ⟨_, dd⟩ := n.heap I1
      refine ⟨dd.typeIs, fun b q => ?_⟩
      cases q
      obtain ⟨ob, _, _, h1, h2, _⟩ := dd
      exact ⟨ob, h1, h2.2.1⟩
  refine ⟨t12.1, t12.2, ?_⟩
  rw [m.trees]
  refine Calls.callWith_builtin rfl (Calls.evalArgs_plain (Calls.spliced_cons (thn (he.run pins s1 σ H1 _ I1 q1) fun iv s2 ⟨y, H2, I2, ry, q2⟩ =>
    Calls.spliced_cons (thn (hf.run pins s2 σ H2 _ I2 q2) fun fv s3 ⟨z, H3, I3, rz, q3⟩ => Calls.spliced_nil ?_))))
  rcases q3 with ⟨ov, g, q3⟩ | ⟨b, xs, k, ey, n, nk, hd, q3⟩
  · exact d_get2 (by omega) I3 g ry rz fun w' s4 I4 rw' => ⟨_, H3, I4, rw', q3⟩
  · subst ey
    obtain rfl : iv = Value.ref b := ry
    obtain ⟨h1, dd⟩ := n.heap I3
    refine call_meetsIn PySem.F.slot_dict_get dd.typeIs PySem.F.entry_dict_get (PySem.F.args_dict_get_3 _ _ _) (meetsH_dict_get_default (nestedKind X.prog X.w) a b h1 fv)
      ⟨by show X.A.in1.units + 8 < cLine; simp only [Around.in1_units]; omega, k, xs, key_is I3 nk hd, dd, ?_⟩
    rcases q3 with ⟨e1, q3⟩ | ⟨p, v, e1, rv, q3⟩
    · rw [e1]
      exact ⟨z, H3, I3.tok _, rz, q3⟩
    · rw [e1]
      exact ⟨v, H3, I3.tok _, rv, q3⟩
theorem isD_ok {μ : Mu} {S : Sto} {H : Hp} {d : D} {x : V} (m : Sim X.w X.K μ S H) (r : Rep X.K μ H d x) (h : isD d S = true) : ∃ a, x = .ref a ∧ (IsD H a ∨ ∃ xs, NtAt X.w X.K H a xs) := by
  unfold isD at h
  split at h
  · split at h
    · rename_i kvs e1
      obtain ⟨a, es', rfl, hl, hh, dr⟩ := loc_dic m r e1
      exact ⟨a, rfl, .inl (.inl ⟨_, .inl hh⟩)⟩
    · rename_i kvs e1
      obtain ⟨a, xs, rfl, hl, nt, nr⟩ := loc_dnt m r e1
      exact ⟨a, rfl, .inr ⟨xs, nt⟩⟩
    · cases h
  · cases h
theorem getO_ok {μ : Mu} {S : Sto} {H : Hp} {d k x : D} {y z : V} {a : Addr} {Q : VK} (m : Sim X.w X.K μ S H) (r : Rep X.K μ H d (.ref a)) (rk : Rep X.K μ H k y) (rx : Rep X.K μ H x z) (o : OutE X.w X.K E μ H Q (getO d k x S)) : rGetA X.w X.K a y z H Q := by
  unfold getO at o
  split at o
  · split at o
    · rename_i kvs e1
      split at o
      · rename_i key e2
        obtain ⟨a', es', ea, hl, hh, dr⟩ := loc_dic m r e1
        cases ea
        have hy := key_ok rk e2
        subst hy
        refine .inl ⟨_, DGet.k hh, ?_⟩
        rcases dr.val key with ⟨e4, e5⟩ | ⟨d', v, e4, e5, h5⟩
        · rw [e4] at o
          rw [e5]
          exact o μ H z .refl m rx
        · rw [e4] at o
          rw [e5]
          exact o μ H v .refl m h5
      · exact o.elim
    · rename_i kvs e1
      split at o
      · rename_i key e2
        obtain ⟨a', xs, ea, hl, nt, nr⟩ := loc_dnt m r e1
        cases ea
        obtain ⟨b, rfl, h1, h2, h3⟩ := ntKey_ok rk e2
        refine .inr ⟨b, xs, key, rfl, nt, h2, h3, ?_⟩
        rcases nr.val key with ⟨e4, e5⟩ | ⟨d', pp, v, e4, e5, h4, h5⟩
        · rw [e4] at o
          exact .inl ⟨e5, o μ H z .refl m rx⟩
        · rw [e4] at o
          exact .inr ⟨pp, v, e5, h4, o μ H v .refl m h5⟩
      · exact o.elim
    · exact o.elim
  · exact o.elim
theorem outE1x {μ : Mu} {ρ : Rho} {S : Sto} {σ : L2.St} {H : Hp} {Q : VK} {k : D → DE} (sl : SlR X.K μ H ρ σ) (m : Sim X.w X.K μ S H) (o : OutE X.w X.K E μ H Q ((f ρ S).bind fun d S1 => k d ρ S1)) :
    tE X.w X.K E f σ H fun v H1 => ∃ μ1 d S1, Ext μ H μ1 H1 ∧ Sim X.w X.K μ1 S1 H1 ∧ Rep X.K μ1 H1 d v ∧ SlR X.K μ1 H1 ρ σ ∧ OutE X.w X.K E μ1 H1 Q (k d ρ S1) := by
  refine ⟨μ, ρ, S, sl, m, ?_⟩
  have o1 := OutE.bind o
  cases q : f ρ S with
  | stuck => rw [q] at o1; exact o1
  | exc x S' => rw [q] at o1; exact o1
  | ok d S1 =>
    rw [q] at o1
    intro μ1 H1 v x m1 p
    obtain ⟨μ1', d', S1', x', m1', p', o2⟩ := o1 μ1 H1 v x m1 p
    exact ⟨μ1', d', S1', x', m1', p', sl.ext x', o2⟩
theorem ev_get2 {x : Expr} (hr : Rm kk X.A) (ha : ES X E a f) (hb : ES X E b g) (hx : ES X E x h)
    (hbase : attributeBase a "get" X.env (eval a X.env) = eval a X.env := by rfl)
    (hfew : ((backTo cpos (starEach [b, x] X.env)).all (fun x => !x.1) && (backToKw cpos (keywordEach [] X.env)).all (fun x => x.1.isSome)
      && decide (([b, x] : List Expr).length + ([] : List Keyword).length + (if ([] : List Keyword).isEmpty then 0 else 1) < 30)) = true := by rfl)
    (hline : (apos.endLine == cpos.line) = true := by rfl) (htr : backTo cpos (starEach [b, x] X.env) = [(false, eval b X.env), (false, eval x X.env)] := by rfl) :
    ES X E (.Call (.Attribute a "get" apos) [b, x] [] cpos) (dGet2 f g h) :=
  (pe_getA (by have := hr.room.units; omega) ha hb hx ⟨hbase, hfew, hline, htr⟩).wk fun σ H Q ⟨μ, ρ, S, sl, m, o⟩ => by
    refine tE_mono (outE1 (k := fun d ρ S1 => if isD d S1 = true then (g ρ S1).bind fun k S2 => (h ρ S2).bind fun x S3 => getO d k x S3 else .stuck) sl m o) fun v H1 ⟨μ1, d, S1, m1, r1, sl1, o1⟩ => ?_
    split at o1
    · rename_i hy
      obtain ⟨p, rfl, hd⟩ := isD_ok m1 r1 hy
      refine ⟨p, rfl, hd, tE_mono (outE1x (k := fun k ρ S2 => (h ρ S2).bind fun x S3 => getO d k x S3) sl1 m1 o1) fun y H2 ⟨μ2, k, S2, x2, m2, r2, sl2, o2⟩ => ?_⟩
      exact tE_mono (outE1x (k := fun x ρ S3 => getO d k x S3) sl2 m2 o2) fun z H3 ⟨μ3, x', S3, x3, m3, r3, sl3, o3⟩ => getO_ok m3 (r1.ext (x2.trans x3)) (r2.ext x3) r3 o3
    · exact o1.elim

/-! ### len of anything -/
def oLenA : List D → Sto → R D
  | [d], S => match seqOf S d with
    | some ds => .ok (.int ds.length) S
    | none => match d with
      | .loc n => match S[n]? with
        | some (.dic kvs) => .ok (.int kvs.length) S
        | some (.dnt kvs) => .ok (.int kvs.length) S
        | _ => .stuck
      | .str z => if z.length ≤ sizeLine then .ok (.int z.length) S else .stuck
      | _ => .stuck
  | _, _ => .stuck
theorem call_lenDic : CallR X (.builtin "len") (fun xs H Q => ∃ p kvs, xs = [.ref p] ∧ H p = some (.dK kvs) ∧ Q (.int (kvs.length : Nat)) H) := by
  intro pins s σ H xs us Q I r h
  obtain ⟨p, kvs, rfl, hp, q⟩ := h
  obtain ⟨u, rfl, rx⟩ := vals1 r
  obtain rfl : u = .ref p := rx
  exact d_len I (.inl hp) fun t s' I' => ⟨.int (kvs.length : Nat), H, I', ⟨_, rfl⟩, q⟩
theorem call_lenDnt : CallR X (.builtin "len") (fun xs H Q => ∃ p ys, xs = [.ref p] ∧ NtAt X.w X.K H p ys ∧ Q (.int (ys.length : Nat)) H) := by
  intro pins s σ H xs us Q I r h
  obtain ⟨p, ys, rfl, n, q⟩ := h
  obtain ⟨u, rfl, rx⟩ := vals1 r
  obtain rfl : u = .ref p := rx
  obtain ⟨hd, dd⟩ := n.heap I
  obtain ⟨z, nz⟩ := n
  have z := nz.sz
  refine call_len_dictH hd dd (by rw [sizeLine_eq] at z; omega) ?_
  exact ⟨.int (ys.length : Nat), H, I.tok _, ⟨_, rfl⟩, q⟩
theorem ev_lenA (hm : X.mg "len" = none) (ha : AS X E (e :: es) t) (hg : Gl X "len" := by rfl) (he : starEach (e :: es) X.env = (false, eval e X.env) :: starEach es X.env := by rfl) (hpl : (backTo pos (starEach es X.env)).any (·.1) = false := by rfl) : ES X E (.Call (.Name "len" p) (e :: es) [] pos) (dCB oLenA t) :=
  ev_callB (call_len_seq.or (call_lenDic.or (call_lenDnt.or call_len_str))) (fun μ S H ds vs Q m r o => by
    unfold oLenA at o
    split at o
    · rename_i d
      obtain ⟨v, rfl, h1⟩ := reps1 r
      split at o
      · rename_i ds' e'
        obtain ⟨a, vs', rfl, q, rr⟩ := seqOf_ok m h1 e'
        exact .inl ⟨a, vs', rfl, q, o μ H _ .refl m (rep_int.mpr (by rw [rr.length]))⟩
      · split at o
        · split at o
          · rename_i kvs e1
            obtain ⟨a, es', rfl, hl, hh, dr⟩ := loc_dic m h1 e1
            exact .inr (.inl ⟨a, es', rfl, hh, o μ H _ .refl m (rep_int.mpr (by rw [Paired.length dr]))⟩)
          · rename_i kvs e1
            obtain ⟨a, xs, rfl, hl, nt, nr⟩ := loc_dnt m h1 e1
            exact .inr (.inr (.inl ⟨a, xs, rfl, nt, o μ H _ .refl m (rep_int.mpr (by rw [nr.len]))⟩))
          · exact o.elim
        · rename_i z hq
          split at o
          · rename_i hz
            have h2 := rep_str.mp h1
            subst h2
            exact .inr (.inr (.inr ⟨z, rfl, hz, o μ H _ .refl m (rep_int.mpr rfl)⟩))
          · exact o.elim
        · exact o.elim
    · exact o.elim) hm (by decide +kernel) ha hg (by decide) (by decide) he hpl
end
end Ev

set_option Elab.async false
set_option linter.all false
set_option maxRecDepth 100000
set_option maxHeartbeats 4000000
/-! EvK: repr, a dict's values in a comprehension, len(set(..)). -/
namespace Ev
open PySem PySem.Spec PyProof.Rows L2

/-! ### repr -/
mutual
def wSh : PyData → Nat
  | .none => 5
  | .bool _ => 5
  | .int i => i.natAbs.log2 + 2
  | .str x => (reprText x).length
  | .list xs => wShs xs + 4
  | .tuple xs => wShs xs + 4
  | .dict _ => 2 ^ 24 + 1
def wShs : List PyData → Nat
  | [] => 0
  | x :: xs => wSh x + 2 + wShs xs
end
theorem textFrom_le : ∀ (ts : List Str) (k : Nat) (acc : Str), (textFrom k acc ts).length ≤ acc.length + piled ts
  | [], k, acc => by show acc.length ≤ _; omega
  | t :: r, k, acc => by
    have h := textFrom_le r (k + 1) (acc ++ (if k > 0 then ", " else "" : String) ++ t)
    have e : (acc ++ (if k > 0 then ", " else "" : String) ++ t).length = acc.length + (if k > 0 then 2 else 0) + t.length := by
      rw [strLen_append, strLen_append]
      split <;> rfl
    have e2 : (textFrom k acc (t :: r)) = textFrom (k + 1) (acc ++ (if k > 0 then ", " else "" : String) ++ t) r := rfl
    have e3 : (if k > 0 then 2 else 0) ≤ 2 := by split <;> omega
    rw [e2, piled_cons]
    rw [e] at h
    omega
mutual
theorem shown_le : ∀ x : PyData, x.shown.length ≤ wSh x ∨ (∃ kvs, x = .dict kvs) ∨ wSh x > sizeLine
  | .none => .inl (by decide)
  | .bool b => .inl (by cases b <;> decide)
  | .int i => .inl (by
    have h := int_text_length_le (a := i) (k := i.natAbs.log2 + 1) (by omega) (by omega)
    show (Str.ofString (toString i)).length ≤ _
    rw [PySem.ofString_length]
    show _ ≤ i.natAbs.log2 + 2
    omega)
  | .str x => .inl (by simp only [PyData.shown, wSh]; exact Nat.le_refl _)
  | .list xs => by
    rcases shownAll_le xs with h | h
    · refine .inl ?_
      simp only [PyData.shown, wSh]
      have h1 := textFrom_le (PyData.shownAll xs) 0 "["
      show (textFrom 0 "[" (PyData.shownAll xs) ++ "]").length ≤ _
      rw [strLen_append]
      have e1 : ((("[" : String) : Str)).length = 1 := rfl
      have e2 : ((("]" : String) : Str)).length = 1 := rfl
      omega
    · refine .inr (.inr ?_)
      simp only [wSh]
      omega
  | .tuple xs => by
    rcases shownAll_le xs with h | h
    · refine .inl ?_
      simp only [PyData.shown, wSh]
      unfold tupleText
      rw [strLen_append, strLen_append]
      have e1 : ((("(" : String) : Str)).length = 1 := rfl
      have e3 : (((if (PyData.shownAll xs).length == 1 then ",)" else ")" : String) : Str)).length ≤ 2 := by split <;> decide
      have e4 : (Str.join ", " (PyData.shownAll xs)).length ≤ piled (PyData.shownAll xs) := by
        by_cases q : PyData.shownAll xs = []
        · rw [q]; exact Nat.le_refl _
        · have := join_length_add _ q
          omega
      omega
    · refine .inr (.inr ?_)
      simp only [wSh]
      omega
  | .dict kvs => .inr (.inl ⟨kvs, rfl⟩)
theorem shownAll_le : ∀ xs : List PyData, piled (PyData.shownAll xs) ≤ wShs xs ∨ wShs xs > sizeLine
  | [] => .inl (by simp only [PyData.shownAll, wShs]; decide)
  | x :: xs => by
    simp only [PyData.shownAll, wShs, piled_cons]
    rcases shown_le x with h | ⟨kvs, rfl⟩ | h
    · rcases shownAll_le xs with h2 | h2
      · exact .inl (by omega)
      · exact .inr (by omega)
    · refine .inr ?_
      simp only [wSh, sizeLine_eq]
      omega
    · exact .inr (by omega)
end
theorem shown_fits {x : PyData} (h : wSh x ≤ sizeLine) : x.shown.length ≤ sizeLine := by
  rcases shown_le x with h1 | ⟨kvs, rfl⟩ | h1
  · omega
  · simp only [wSh, sizeLine_eq] at h
    omega
  · omega
def reprOk (x : PyData) : Bool := x.showable && !x.hasDict && decide (x.depth ≤ 64) && decide (wSh x ≤ sizeLine)
def rRepr (K : PySem.W.Frag) : List V → Hp → VK → Prop := fun vs H Q => ∃ v x, vs = [v] ∧ Dp K H v x ∧ reprOk x = true ∧ Q (.str x.shown) H
theorem cr_repr {X : Cx} {k : Nat} (hr : Rm k X.A) : CallR X (.builtin "repr") (rRepr X.K) := by
  intro pins s σ H vs us Q I r h
  obtain ⟨v, x, rfl, dp, ok, q⟩ := h
  obtain ⟨u, rfl, ru⟩ := vals1 r
  obtain ⟨as, rd⟩ := Dp.reads I x v u dp ru
  simp only [reprOk, Bool.and_eq_true, Bool.not_eq_true', decide_eq_true_eq] at ok
  obtain ⟨⟨⟨o1, o2⟩, o3⟩, o4⟩ := ok
  have hz := shown_fits o4
  have hu := hr.room.un
  cases rd with
  | none => exact PySem.P.repr_of_none ⟨.str _, H, I.tok _, ⟨_, rfl⟩, q⟩
  | bool b => exact PySem.P.repr_of_bool ⟨.str _, H, I.tok _, ⟨_, by cases b <;> rfl⟩, q⟩
  | int i t => exact PySem.P.repr_of_int (by simpa [PyData.showable] using o1) ⟨.str _, H, I.tok _, ⟨_, rfl⟩, q⟩
  | str y t => exact PySem.P.repr_of_str ⟨.str _, H, I.tok _, ⟨_, rfl⟩, q⟩ (by simpa [PyData.shown] using hz)
  | list h1 h2 h3 h4 => exact repr_of_reads' (.list h1 h2 h3 h4) o1 (PyData.noDict_hsm o2) hr.gd (by omega) (fun _ _ e => e) (fun h' u tk hk => ⟨.str _, H, I.kept hk, ⟨_, rfl⟩, q⟩) hz
  | tuple h1 h2 h3 h4 => exact repr_of_reads' (.tuple h1 h2 h3 h4) o1 (PyData.noDict_hsm o2) hr.gd (by omega) (fun _ _ e => e) (fun h' u tk hk => ⟨.str _, H, I.kept hk, ⟨_, rfl⟩, q⟩) hz
  | dict h1 h2 h3 h4 h5 => simp [PyData.hasDict] at o2
def oRepr : List D → Sto → R D
  | [d], S => match datOf S d with
    | some x => if reprOk x = true then .ok (.str x.shown) S else .stuck
    | none => .stuck
  | _, _ => .stuck
section
variable {X : Cx} {E : XK} {a b e : Expr} {f g h : DE} {es : List Expr} {t : DA} {pos p p2 apos cpos : Pos} {kk : Nat}
theorem ev_repr (hr : Rm kk X.A) (hm : X.mg "repr" = none) (ha : AS X E (e :: es) t) (hg : Gl X "repr" := by rfl) (he : starEach (e :: es) X.env = (false, eval e X.env) :: starEach es X.env := by rfl) (hpl : (backTo pos (starEach es X.env)).any (·.1) = false := by rfl) : ES X E (.Call (.Name "repr" p) (e :: es) [] pos) (dCB oRepr t) :=
  ev_callB (cr_repr hr) (fun μ S H ds vs Q m r o => by
    unfold oRepr at o
    split at o
    · rename_i d
      obtain ⟨v, rfl, h1⟩ := reps1 r
      split at o
      · rename_i x e1
        split at o
        · rename_i ok
          exact ⟨v, x, rfl, datOf_ok m h1 e1, ok, o μ H _ .refl m (rep_str.mpr rfl)⟩
        · exact o.elim
      · exact o.elim
    · exact o.elim) hm (by decide +kernel) ha hg (by decide) (by decide) he hpl

/-! ### [x for x in d.values()] -/
def Itz (w : World) (d : Addr) (z : DObj) (xs : List (NestedKey × Addr × Value)) (vs : List V) : It :=
  ⟨fun i H => H d = some (dntHO w d z xs) ∧ ∃ e v, xs[i]? = some e ∧ vs[i]? = some v ∧ RelV v e.2.2, fun i H x H' => H' = H ∧ vs[i]? = some x, fun i H => H d = some (dntHO w d z xs) ∧ xs.length ≤ i⟩
theorem dnt_raw {pins : List (Addr × Obj)} {σ : L2.St} {H : Hp} {s : Shared} {d : Addr} {z : DObj} {xs : List (NestedKey × Addr × Value)} (I : Inv X pins σ H s) (h : H d = some (dntHO X.w d z xs)) :
    (d == sysModules) = false ∧ s.heap.DictRaw d z.ea z.ep ∧ z.ea.size = xs.length ∧ ∀ i (hi : i < z.ea.size) e, xs[i]? = some e → z.ea[i].val = e.2.2 ∧ z.ea[i].key = .ref e.2.1 := by
  obtain ⟨⟨h1, h2, h3, h4, h5⟩, _⟩ := I.hok d _ h
  have hs : z.ea.size = xs.length := by rw [← Array.length_toList, h5, List.length_map]
  refine ⟨h1, ⟨z.o, h2, h3, h4⟩, hs, fun i hi e he => ?_⟩
  have e1 : z.ea[i]? = some z.ea[i] := Array.getElem?_eq_getElem hi
  rw [← Array.getElem?_toList, h5, List.getElem?_map, he] at e1
  have e2 := Option.some.inj e1
  rw [← e2]
  exact ⟨rfl, rfl⟩
theorem turn_dntV {P : Program} {w : World} {K : PySem.W.Frag} {tg : Expr} {d : Addr} {z : DObj} {xs : List (NestedKey × Addr × Value)} {vs : List V} (it : Addr) : Turn P w K tg (Itz w d z xs vs) [it] it (fun i h => h.IsValIter it d i xs.length z.ep) where
  mem := by simp
  obj := fun i h st b hb => by
    have e : b = it := by simpa using hb
    subst e
    obtain ⟨oi, e, c, dd⟩ := st
    exact ⟨oi, e, fun v z => by rw [dd] at z; cases z⟩
  keep := fun i h h' st k => st.at fun oi e => k it (by simp) oi e
  item := by
    intro X hP hw hK hc i pins s σ H E I hf st hg
    subst hP hw hK
    obtain ⟨hd, e, v, he, hv, rv⟩ := hg
    obtain ⟨f0, f1, f2, f3, f4, f5⟩ := hf it (by simp)
    obtain ⟨hs, raw, hsz, hel⟩ := dnt_raw I hd
    have hi : i < z.ea.size := by rw [hsz]; exact (List.getElem?_eq_some_iff.mp he).1
    rw [← hsz] at st
    refine wpAny_pyNext_values_item_raw st raw hi fun h' st' sb => ?_
    have I1 : Inv X pins σ H { s with heap := h' } := I.turned (t' := s.toks) (fun b ob hb e => (sb.2 b hb).trans e) f0 f1 f3 f4 f5
    obtain ⟨oi, eo, c, dd⟩ := id st'
    refine ⟨z.ea[i].val, rfl, go_of (s := { s with heap := h' }) eo c dd (by decide) ⟨v, H, I1, by rw [(hel i hi e he).1]; exact rv, ⟨rfl, hv⟩, ?_, fun b hb => (hf b hb).1⟩⟩
    show h'.IsValIter it d (i + 1) xs.length _
    rw [← hsz]
    exact st'
  done := by
    intro X hP hw hK hc i pins s σ H E I hf st hg
    subst hP hw hK
    obtain ⟨hd, hi⟩ := hg
    obtain ⟨f0, f1, f2, f3, f4, f5⟩ := hf it (by simp)
    obtain ⟨hs, raw, hsz, hel⟩ := dnt_raw I hd
    rw [← hsz] at st
    exact wpAny_pyNext_values_end_raw (I.ok.hd hc) st raw (by rw [hsz]; exact hi) fun h' eb => ⟨rfl, I.turned (t' := s.toks) (fun b ob hb e => eb b ob hb e) f0 f1 f3 f4 f5⟩
  self := fun A i s Q E st h => wpAny_pyIter_valiter st h
def iNtVals (w : World) (K : PySem.W.Frag) (td : TE) : TI := fun σ H R => td σ H fun x H1 => ∃ d z xs vs, x = .ref d ∧ NtZ w K H1 d z xs ∧ R (Itz w d z xs vs) H1
theorem pi_dntV {tg e : Expr} {td : TE} (he : PE X e td) (hbase : attributeBase e "values" X.env (eval e X.env) = eval e X.env := by rfl) (hline : (apos.endLine == cpos.line) = true := by rfl) : PI X tg (.Call (.Attribute e "values" apos) [] [] cpos) (iNtVals X.w X.K td) := by
  refine ⟨fun pins s σ H R I h => ?_⟩
  refine wpAny_Call_method (T := "dict") (id := "dict.values") hbase rfl hline PySem.F.plainAttrs_dict PySem.F.slot_dict_values PySem.F.type_dict_values (thn (he.run pins s σ H _ I h) fun u s1 ⟨x, H1, I1, rx, d, z, xs, vs, ex, n, q⟩ => ?_)
  subst ex
  obtain rfl : u = Value.ref d := rx
  obtain ⟨hs, raw, hsz, hel⟩ := dnt_raw I1 n.at_
  obtain ⟨ob, h1, h2, h3⟩ := id raw
  refine ⟨raw.typeIs, fun b e => by cases e; exact ⟨ob, h1, h2.2.1⟩, ?_⟩
  have I2 : Inv X pins σ H1 { s1 with heap := s1.heap.push { cls := .type "dict_values", data := .fields #[.ref d] } } := I1.kept (t' := s1.toks) fun b ob q => Heap.get?_push_of_some _ q
  have raw2 : Heap.DictRaw (s1.heap.push { cls := .type "dict_values", data := .fields #[.ref d] }) d z.ea z.ep := raw.at fun o e => Heap.get?_push_of_some _ e
  have fin : wpAny (model X.prog X.w) X.A (pyIter (.ref s1.heap.objs.size)) (PIE X pins σ tg R) X.xe { s1 with heap := s1.heap.push { cls := .type "dict_values", data := .fields #[.ref d] } } := by
    refine wpAny_pyIter_values_raw (d := d) ⟨_, Heap.get?_push_size _ rfl, rfl, rfl⟩ raw2 (pi_one (tk := s1.toks) I2 _ (turn_dntV _) ⟨_, Heap.get?_push_size _ rfl, rfl, ?_⟩ q)
    rw [hsz] <;> rfl
  show wpAny _ _ (callWith cpos (.builtin "dict.values") [.ref d] [] []) _ X.xe s1
  exact method_meetsIn PySem.F.slot_dict_values PySem.F.entry_dict_values rfl (PySem.evalArgs_none ⟨rfl, raw.typeIs, PySem.F.args_dict_values_1 _, _, meets_dict_values_raw d hs, ⟨z.ea, z.ep, raw⟩, fin⟩)
def valsOf (d : D) (S : Sto) : Option (List D) := match d with
  | .loc n => match S[n]? with
    | some (.dnt kvs) => some (kvs.map (·.2))
    | _ => none
  | _ => none
def dVals (i : Nat) (mk : List D → Sto → R D) (f : DE) : DE := fun ρ S => if i < ρ.length then (f ρ S).bind fun d S1 => match valsOf d S1 with
  | some ds => mk ds S1
  | none => .stuck else .stuck
theorem NR.vals {K : PySem.W.Frag} {μ : Mu} {H : Hp} {kvs : List (D × D)} {xs : List (NestedKey × Addr × Value)} (r : NR K μ H kvs xs) : ∃ vs : List V, Reps K μ H (kvs.map (·.2)) vs ∧ ∀ (i : Nat) (e : NestedKey × Addr × Value), xs[i]? = some e → ∃ v, vs[i]? = some v ∧ RelV v e.2.2 := by
  induction r with
  | nil => exact ⟨[], reps_nil.mpr rfl, fun i e h => by simp at h⟩
  | @cons p q ps qs h t ih =>
    obtain ⟨vs, h1, h2⟩ := ih
    obtain ⟨k1, k2, k3, v, k4, k5⟩ := h
    refine ⟨v :: vs, reps_cons.mpr ⟨v, vs, rfl, k5, h1⟩, fun i e he => ?_⟩
    cases i with
    | zero => simp at he; subst he; exact ⟨v, rfl, k4⟩
    | succ i => simpa using h2 i e (by simpa using he)
theorem ev_vals {own : List (Str × Nat)} {scope : Scope} {x : Str} {px py cp : Pos} (i : Nat) {mk : List D → Sto → R D} (hmk : NewOk X E mk) (hc : X.calm = true) (hN : X.N.Nodup) (ha : ES X E a f) (ok : BlkOk X.N X.env.scope scope own) (hi : X.N[i]? = some x := by rfl)
    (hx : ∀ (s : Shared) (H : Hp) (C : Addr) (cl : List (Str × Addr)) (fp : List Addr), Loc (X.blk s H scope (compEnvC scope cl C X.env) fp).env.scope x := by intros; first | exact .inl rfl | exact .inr rfl)
    (hf : ∀ (s : Shared) (H : Hp) (C : Addr) (cl : List (Str × Addr)) (fp : List Addr), (X.blk s H scope (compEnvC scope cl C X.env) fp).fn x = true ∨ (X.blk s H scope (compEnvC scope cl C X.env) fp).env.scope.names.lookup x = some .local := by intros; first | exact .inl rfl | exact .inr rfl)
    (hv : ∀ (s : Shared) (H : Hp) (C : Addr) (cl : List (Str × Addr)) (fp : List Addr), Vis (X.blk s H scope (compEnvC scope cl C X.env) fp).env.scope x := by intros; first | exact Or.inl rfl | exact Or.inr (Or.inl rfl) | exact Or.inr (Or.inr rfl))
    (hd : (x == ("__debug__" : Str)) = false := by decide) (hcd : (x == ("__classdict__" : Str)) = false := by decide) (hvt : i ∈ own.map (·.2) := by decide)
    (hbase : attributeBase a "values" X.env (eval a X.env) = eval a X.env := by rfl) (hline : (apos.endLine == cpos.line) = true := by rfl)
    (hs : ∀ y, foldedSetIterable (.Call (.Attribute a "values" apos) [] [] cpos) X.env y = pure y := by intro _; rfl) :
    ES X E (.ListComp (.Name x px) [⟨.Name x py, .Call (.Attribute a "values" apos) [] [] cpos, [], 0⟩] scope cp) (dVals i mk f) :=
  (pe_lc (g := gName i) (tt := tYes) (te := tVar i) hc hN (pi_dntV ha hbase hline) ok (fun s H C cl fp => pg_name hN hi (hx s H C cl fp) (hf s H C cl fp)) (fun s H C cl fp => pts_nil) (fun s H C cl fp => pe_var hi (hv s H C cl fp) hd hcd) hs).wk fun σ H Q ⟨μ, ρ, S, sl, m, o⟩ => by
    unfold dVals at o
    split at o
    · rename_i hlt
      refine tE_mono (outE1 (k := fun d ρ S1 => match valsOf d S1 with
        | some ds => mk ds S1
        | none => .stuck) sl m o) fun v H1 ⟨μ1, d, S1, m1, r1, sl1, o1⟩ => ?_
      split at o1
      · rename_i ds e1
        unfold valsOf at e1
        split at e1
        · split at e1
          · rename_i kvs e2
            cases e1
            obtain ⟨p, xs, rfl, hl, ⟨z, nz⟩, nr⟩ := loc_dnt m1 r1 e2
            obtain ⟨vs, rr, hvs⟩ := NR.vals nr
            refine ⟨p, z, xs, vs, rfl, nz, fun D nD => ?_⟩
            have hlen : vs.length = xs.length := by rw [rr.length, List.length_map, NR.len nr]
            have hlσ : i < σ.length := by rw [← sl.len]; exact hlt
            have hpD : p ≠ D := fun e => by have := nz.at_; rw [e, nD] at this; cases this
            refine ⟨fun j k H' => k = xs.length - j ∧ j ≤ xs.length ∧ H' = upd H1 D (.lst (vs.take j)), ⟨_, rfl, Nat.zero_le _, by simp⟩, fun j k H' ⟨e1, e2', e3⟩ => ?_⟩
            subst e3
            have hat : upd H1 D (.lst (vs.take j)) p = some (dntHO X.w p z xs) := by rw [upd_ne hpD]; exact nz.at_
            by_cases hj : j < xs.length
            · refine .inr ⟨⟨hat, ?_⟩, fun H' => H' = upd H1 D (.lst (vs.take (j + 1))), fun H' e => ⟨xs.length - (j + 1), by omega, rfl, hj, e⟩, fun y H' hy => ?_⟩
              · obtain ⟨v', h1, h2⟩ := hvs j xs[j] (List.getElem?_eq_getElem hj)
                exact ⟨xs[j], v', List.getElem?_eq_getElem hj, h1, h2⟩
              · obtain ⟨rfl, hy⟩ := hy
                have hw : (wipe σ (own.map (·.2))).length = σ.length := by rw [wipe_length]
                refine ⟨wipe_same (vt := [i]) (fun q hq => by rw [List.mem_singleton.mp hq]; exact hvt) (by rw [List.length_set, hw]) (fun q hq => List.getElem?_set_ne (fun z => hq (by rw [z]; exact List.mem_singleton_self _))), ?_⟩
                simp only [tYes, if_true]
                refine ⟨y, List.getElem?_set_self (by rw [hw]; exact hlσ), vs.take j, upd_same, ?_, ?_⟩
                · have hsz := nz.sz
                  rw [List.length_take]
                  omega
                · rw [upd_upd]
                  congr 2
                  rw [List.take_add_one, hy]
                  rfl
            · refine .inl ⟨⟨hat, by omega⟩, ?_⟩
              have e4 : vs.take j = vs := List.take_of_length_le (by omega)
              rw [e4]
              exact hmk μ1 S1 H1 Q _ vs m1 rr o1 D nD
          · cases e1
        · cases e1
      · exact o1.elim
    · exact o.elim

/-! ### len(set(xs)) -/
def intsOf' : List D → Option (List Int)
  | [] => some []
  | .int i :: ds => (intsOf' ds).map (i :: ·)
  | _ :: _ => none
theorem intsOf'_ok {K : PySem.W.Frag} {μ : Mu} {H : Hp} : ∀ {ds : List D} {ns : List Int} {vs : List V}, Reps K μ H ds vs → intsOf' ds = some ns → vs = ns.map V.int
  | [], ns, vs, r, e => by cases e; exact reps_nil.mp r
  | .int i :: ds, ns, vs, r, e => by
    obtain ⟨ns', e1, rfl⟩ := Option.map_eq_some_iff.mp (show (intsOf' ds).map (i :: ·) = some ns from e)
    obtain ⟨v, r', rfl, h1, h2⟩ := reps_cons.mp r
    rw [rep_int] at h1
    rw [h1, intsOf'_ok h2 e1]
    rfl
  | .non :: _, _, _, _, e => by cases e
  | .bl _ :: _, _, _, _, e => by cases e
  | .str _ :: _, _, _, _, e => by cases e
  | .tup _ :: _, _, _, _, e => by cases e
  | .lst _ :: _, _, _, _, e => by cases e
  | .loc _ :: _, _, _, _, e => by cases e
def howMany (ns : List Int) : Nat := (PyProof.Rows.firstMet (fun i => ns.getD i 0) ns.length).length
def dLenSet (f : DE) : DE := dUn (fun d S => match (lstOf S d).bind intsOf' with
  | some ns => if ns.length ≤ 4000 then .ok (.int (howMany ns)) S else .stuck
  | none => .stuck) f
theorem pe_lenSetA {ta : TE} {q : Pos} (hg : Gl X "len") (hm : X.mg "len" = none) (hg2 : Gl X "set") (hm2 : X.mg "set" = none) (ha : PE X a ta) (hc : X.calm = true)
    (na : starEach [a] X.env = (false, eval a X.env) :: starEach [] X.env) : PE X (.Call (.Name "len" p) [.Call (.Name "set" p2) [a] [] q] [] pos) (fun σ H Q => ta σ H fun x H1 => ∃ (l : Addr) (ns : List Int), x = .ref l ∧ SqL X.K H1 l (ns.map V.int) ∧ ns.length ≤ 4000 ∧ Q (.int (howMany ns)) H1) := by
  refine ⟨fun pins s σ H Q I h => ?_⟩
  refine Call_ (ld_blt I hg hm boot_len ?_)
  refine PyProof.Rows.callWith_builtin1 (PyProof.Rows.args_cons ?_ rfl) rfl rfl
  refine Call_ (ld_blt I hg2 hm2 boot_set ?_)
  refine PyProof.Rows.callWith_type1 (PyProof.Rows.args_cons (thn (ha.run pins s σ H _ I h) fun v s1 ⟨x, H1, I1, r1, q1⟩ => PyProof.Rows.args_nil ?_) na) na rfl
  obtain ⟨l, ns, rfl, hq, hl, q1⟩ := q1
  cases r1
  obtain ⟨its, r, pl, hz⟩ := I1.list hq
  have hlen : its.toArray.size = ns.length := by rw [List.size_toArray, ← r.length, List.length_map]
  refine call_set_list (I1.ok.hd hc) pl.isList (by simpa using RZ.intsAre_vals r) (by rw [hlen]; unfold scanBound; omega) fun h' tk hS hk => ?_
  refine PyProof.Rows.args_nil ?_
  rw [hlen] at hS
  have hle := PyProof.Rows.firstMet_length_le (fun i => ns.getD i 0) ns.length
  obtain ⟨o, es, ep, t, ho, hex, hd, _, _, _, hf, hn⟩ := hS
  have I2 : Inv X pins σ H1 { s1 with heap := h', toks := tk } := I1.kept fun b o e => hk b o (Heap.lt_size e) e
  refine call_len_set ho hex hd hf (by rw [hn] <;> omega) ⟨.int (howMany ns), H1, I2.tok _, ⟨_, by rw [hn]; rfl⟩, q1⟩
theorem ev_lenSet {q : Pos} (hm : X.mg "len" = none) (hm2 : X.mg "set" = none) (hc : X.calm = true) (ha : ES X E a f) (hg : Gl X "len" := by rfl) (hg2 : Gl X "set" := by rfl) (na : starEach [a] X.env = (false, eval a X.env) :: starEach [] X.env := by rfl) :
    ES X E (.Call (.Name "len" p) [.Call (.Name "set" p2) [a] [] q] [] pos) (dLenSet f) :=
  (pe_lenSetA hg hm hg2 hm2 ha hc na).wk fun σ H Q ⟨μ, ρ, S, sl, m, o⟩ => out1 (r := fun x H1 Q => ∃ (l : Addr) (ns : List Int), x = .ref l ∧ SqL X.K H1 l (ns.map V.int) ∧ ns.length ≤ 4000 ∧ Q (.int (howMany ns)) H1) sl m (fun μ S H d x Q m r o => by
    split at o
    · rename_i ns e
      obtain ⟨ds, e1, e2⟩ := Option.bind_eq_some_iff.mp e
      split at o
      · rename_i hz
        obtain ⟨p, vs, rfl, sq, rr⟩ := lstOf_ok m r e1
        rw [intsOf'_ok rr e2] at sq
        exact ⟨p, ns, rfl, sq, hz, o μ H _ .refl m (rep_int.mpr rfl)⟩
      · exact o.elim
    · exact o.elim) o
end
end Ev

set_option Elab.async false
set_option linter.all false
set_option maxRecDepth 100000
set_option maxHeartbeats 4000000
/-! EvL: sorted(d), a dict with pairs of ints as keys. -/
namespace Ev
open PySem PySem.Spec PyProof.Rows L2

/-! ### a stable sort -/
def insS {α : Type} (lt : α → α → Bool) (x : α) : List α → List α
  | [] => [x]
  | y :: l => if lt y x = true then y :: insS lt x l else x :: y :: l
def sortS {α : Type} (lt : α → α → Bool) : List α → List α
  | [] => []
  | x :: l => insS lt x (sortS lt l)
section
variable {α β : Type} {lt : α → α → Bool}
theorem insS_perm (x : α) : ∀ l : List α, (insS lt x l).Perm (x :: l)
  | [] => .refl _
  | y :: l => by
    unfold insS
    split
    · exact ((insS_perm x l).cons y).trans (.swap _ _ _)
    · exact .refl _
theorem sortS_perm : ∀ l : List α, (sortS lt l).Perm l
  | [] => .refl _
  | x :: l => (insS_perm x _).trans ((sortS_perm l).cons x)
theorem insS_srtd (O : SrtO.Swo lt) (x : α) : ∀ {l : List α}, SrtO.Srtd lt l → SrtO.Srtd lt (insS lt x l)
  | [], _ => List.pairwise_singleton _ _
  | y :: l, h => by
    obtain ⟨h1, h2⟩ := List.pairwise_cons.mp h
    unfold insS
    split
    · rename_i hy
      refine List.pairwise_cons.mpr ⟨fun z hz => ?_, insS_srtd O x h2⟩
      rcases List.mem_cons.mp ((insS_perm x l).mem_iff.mp hz) with rfl | hz
      · exact O.asym _ _ hy
      · exact h1 z hz
    · rename_i hy
      have hy : lt y x = false := by simpa using hy
      refine List.pairwise_cons.mpr ⟨fun z hz => ?_, h⟩
      rcases List.mem_cons.mp hz with rfl | hz
      · exact hy
      · exact O.tr _ _ _ hy (h1 z hz)
theorem sortS_srtd (O : SrtO.Swo lt) : ∀ l : List α, SrtO.Srtd lt (sortS lt l)
  | [] => List.Pairwise.nil
  | x :: l => insS_srtd O x (sortS_srtd O l)
theorem insS_cls (O : SrtO.Swo lt) (x z : α) : ∀ l : List α, (insS lt x l).filter (SrtO.eqv lt z) = (x :: l).filter (SrtO.eqv lt z)
  | [] => rfl
  | y :: l => by
    unfold insS
    split
    · rename_i hy
      have ih := insS_cls O x z l
      rw [List.filter_cons, ih, List.filter_cons, List.filter_cons, List.filter_cons]
      by_cases h1 : SrtO.eqv lt z y = true
      · by_cases h2 : SrtO.eqv lt z x = true
        · exfalso
          obtain ⟨a1, a2⟩ := SrtO.eqv_iff.mp h1
          obtain ⟨b1, b2⟩ := SrtO.eqv_iff.mp h2
          -- lt y x, but z ~ y and z ~ x
          have h3 := O.tr x z y b1 a2
          rw [h3] at hy; cases hy
        · rw [if_neg h2, if_neg h2]
      · rw [if_neg h1, if_neg h1]
    · rfl
theorem sortS_stb (O : SrtO.Swo lt) : ∀ l : List α, SrtO.Stb lt (sortS lt l) l
  | [] => .refl _
  | x :: l => ⟨sortS_perm _, fun z => by
    show (insS lt x (sortS lt l)).filter _ = _
    rw [insS_cls O, List.filter_cons, (sortS_stb O l).cls z, List.filter_cons]⟩
theorem insS_paired {F : α → β → Prop} {lt' : β → β → Bool} (hF : ∀ x y x' y', F x y → F x' y' → lt x x' = lt' y y') {x : α} {y : β} (h : F x y) : ∀ {l : List α} {m : List β}, Paired F l m → Paired F (insS lt x l) (insS lt' y m)
  | _, _, .nil => .cons h .nil
  | _ :: _, _ :: _, .cons h1 t => by
    unfold insS
    rw [hF _ _ _ _ h1 h]
    split
    · exact .cons h1 (insS_paired hF h t)
    · exact .cons h (.cons h1 t)
theorem sortS_paired {F : α → β → Prop} {lt' : β → β → Bool} (hF : ∀ x y x' y', F x y → F x' y' → lt x x' = lt' y y') : ∀ {l : List α} {m : List β}, Paired F l m → Paired F (sortS lt l) (sortS lt' m)
  | _, _, .nil => .nil
  | _ :: _, _ :: _, .cons h t => insS_paired hF h (sortS_paired hF t)
end

/-! ### sorted(d) -/
def kp : NestedKey → Int × Int
  | .tup [.num i, .num j] => (i, j)
  | _ => (0, 0)
def isKp : NestedKey → Bool
  | .tup [.num _, .num _] => true
  | _ => false
def lexF {α : Type} (k : α → Int × Int) (x y : α) : Bool := SrtO.lexB (k x) (k y)
theorem lexF_swo {α : Type} (k : α → Int × Int) : SrtO.Swo (lexF k) := by
  refine ⟨fun x y h => ?_, fun x y z h1 h2 => ?_⟩
  · have a := SrtO.lexB_iff.mp h
    refine SrtO.lexB_no.mpr ?_
    omega
  · have a := SrtO.lexB_no.mp h1
    have b := SrtO.lexB_no.mp h2
    refine SrtO.lexB_no.mpr ?_
    omega
theorem kdl_raw {P : Program} {w : World} {d : Addr} {es : Array DictEntry} {ep : Nat} (lo : (d == sysModules) = false) : PySem.W.KdlSrc P w "dict" d d es.size (fun i v => ∃ hi : i < es.size, v = es[i].key) (fun h => h.DictRaw d es ep) where
  type := fun _ hm => hm.typeIs
  there := fun _ hm => by
    obtain ⟨o, ho, _⟩ := hm
    exact ⟨Heap.lt_size ho, Heap.lt_size ho⟩
  keep := fun _ _ hm hk => hm.at fun o e => hk d (.inl rfl) o e
  notList := by decide
  notTuple := by decide
  hint := fun _ _ _ _ hm hq => PySem.W.kdl_hint_dict hm.typeIs hq
  iter := fun _ s hh hm => ⟨_, _, (fun _ _ hq => wpAny_pyIter_dict_raw lo hm hq), Walks.rawKeys hh _ d (by obtain ⟨o, ho, _⟩ := hm; exact Nat.ne_of_lt (Heap.lt_size ho)) es ep, ⟨⟨_, Heap.get?_push_size _ rfl, rfl, rfl⟩, hm.at fun o e => Heap.get?_push_of_some _ e⟩⟩
def rSortNt (w : World) (K : PySem.W.Frag) : List V → Hp → VK → Prop := fun vs H Q => ∃ a xs, vs = [.ref a] ∧ NtAt w K H a xs ∧ (∀ e ∈ xs, isKp e.1 = true) ∧
  ∀ (kf : NestedKey × Addr × Value → Int × Int) p, (∀ e ∈ xs, kf e = kp e.1) → H p = none → Q (.ref p) (upd H p (.lst ((sortS (lexF kf) xs).map fun e => .ref e.2.1)))
theorem refs_vals : ∀ xs : List (NestedKey × Addr × Value), Vals (xs.map fun e => V.ref e.2.1) (xs.map fun e => Value.ref e.2.1)
  | [] => .nil
  | _ :: xs => .cons rfl (refs_vals xs)
theorem cr_sortNt {X : Cx} (hc : X.calm = true) : CallR X (.builtin "sorted") (rSortNt X.w X.K) := by
  intro pins s σ H vs us Q I r q
  obtain ⟨a, xs, rfl, ⟨z, nz⟩, hkp, q⟩ := q
  obtain ⟨u, rfl, rx⟩ := vals1 r
  obtain rfl : u = .ref a := rx
  obtain ⟨lo, raw, hsz, hel⟩ := dnt_raw I nz.at_
  have h16 : z.ea.size ≤ sizeLine := by rw [hsz]; exact nz.sz
  -- what a key's address tells
  let kv : Value → Int × Int := fun v => ((xs.find? fun e => decide (Value.ref e.2.1 = v)).map fun e => kp e.1).getD (0, 0)
  have hkv : ∀ e ∈ xs, kv (.ref e.2.1) = kp e.1 := fun e he => by
    show ((xs.find? fun e' => decide (Value.ref e'.2.1 = Value.ref e.2.1)).map fun e => kp e.1).getD (0, 0) = _
    cases hf : xs.find? fun e' => decide (Value.ref e'.2.1 = Value.ref e.2.1) with
    | none =>
      have := List.find?_eq_none.mp hf e he
      simp at this
    | some e' =>
      have h1 : Value.ref e'.2.1 = Value.ref e.2.1 := by simpa using List.find?_some hf
      have h2 := List.mem_of_find?_eq_some hf
      have h3 : e'.2.1 = e.2.1 := by injection h1
      have h4 := (⟨NKey.is I _ _ _ (nz.key e' h2).1 rfl, (nz.key e' h2).2⟩ : (nestedKind X.prog X.w).is s.heap e'.1 e'.2.1)
      have h5 := (⟨NKey.is I _ _ _ (nz.key e he).1 rfl, (nz.key e he).2⟩ : (nestedKind X.prog X.w).is s.heap e.1 e.2.1)
      rw [h3] at h4
      have h6 := (nestedKind X.prog X.w).inj h4 h5
      show kp e'.1 = kp e.1
      rw [h6]
  have hpair : ∀ e ∈ xs, Srt.IsPair s.heap (.ref e.2.1) (kp e.1).1 (kp e.1).2 := fun e he => by
    have h1 := hkp e he
    obtain ⟨h2, _⟩ := nz.key e he
    generalize hk : e.1 = k at h1 h2
    unfold isKp at h1
    split at h1
    · rename_i i j
      rw [NKey] at h2
      obtain ⟨t, ws, e1, sq, h3⟩ := h2
      obtain rfl : e.2.1 = t := by injection e1
      rw [NKeys] at h3
      obtain ⟨v1, r1, rfl, h4, h3⟩ := h3
      rw [NKeys] at h3
      obtain ⟨v2, r2, rfl, h5, h3⟩ := h3
      rw [NKeys] at h3
      subst h3
      rw [NKey] at h4 h5
      subst h4 h5
      obtain ⟨its, rv, ⟨o, e1, e2, n, e3⟩, _⟩ := I.tuple sq
      obtain ⟨u1, u2, rfl, ri, rj⟩ := vals2 rv
      obtain ⟨t1, rfl⟩ := ri
      obtain ⟨t2, rfl⟩ := rj
      exact ⟨_, o, t1, t2, n, rfl, e1, e2, e3⟩
    · cases h1
  refine Calls.call_function_entry PyProof.Rows.kind_sorted PyProof.Rows.plain_sorted PyProof.Rows.entry_sorted (PyProof.Rows.args_sorted1 _) ?_
  unfold Builtin.«sorted»
  refine wpAny_bind (m := checkCount "sorted" 1 1 _) (wpAny_pure ?_)
  refine wpAny_bind (PySem.W.kdu_collect (A := X.A.in1) (kdl_raw (P := X.prog) (w := X.w) (es := z.ea) (ep := z.ep) lo) (I.ok.hd hc) raw h16 fun h' tk acc hk hacc => ?_)
  have hal : acc.toList = xs.map fun e => Value.ref e.2.1 := by
    refine List.ext_getElem? fun i => ?_
    rw [List.getElem?_map]
    by_cases hi : i < xs.length
    · have hi2 : i < acc.size := by rw [hacc.1, hsz]; exact hi
      have e1 : acc[i]? = some acc[i] := Array.getElem?_eq_getElem hi2
      obtain ⟨h3, h4⟩ := hacc.2 i _ e1
      rw [Array.getElem?_toList, e1, h4, (hel i h3 _ (List.getElem?_eq_getElem hi)).2, List.getElem?_eq_getElem hi]
      rfl
    · rw [Array.getElem?_toList, Array.getElem?_eq_none (by rw [hacc.1, hsz]; omega), List.getElem?_eq_none (by omega)]
      rfl
  have I1 : Inv X pins σ H { s with heap := h', toks := tk } := I.kept hk
  have hz2 : acc.toList.length ≤ sizeLine := by rw [hal, List.length_map]; exact nz.sz
  refine wpAny_bind (wpAny_newList ?_ hz2)
  have hoL : (h'.push (seqObj "list" acc.toList.toArray 0)).get? h'.objs.size = some (seqObj "list" acc.toList.toArray 0) := Heap.get?_push_size _ rfl
  show wpAny _ _ _ _ _ { s with heap := h'.push (seqObj "list" acc.toList.toArray 0), toks := tk }
  have hp2 : ∀ v ∈ acc.toList, Srt.IsPair (h'.push (seqObj "list" acc.toList.toArray 0)) v (kv v).1 (kv v).2 := fun v hv => by
    rw [hal] at hv
    obtain ⟨e, he, rfl⟩ := List.mem_map.mp hv
    rw [hkv e he]
    exact (hpair e he).keeps fun b o e _ => Heap.get?_push_of_some _ (hk b o e)
  refine wpAny_bind (wpAny_holding (wpAny_call_entry PyProof.Rows.slot_list_sort ⟨_, hoL, rfl⟩ PyProof.Rows.entry_list_sort
    (SrtO.list_sort_ord (s := { s with heap := h'.push (seqObj "list" acc.toList.toArray 0), toks := tk }) (SrtO.swo_lex kv) hoL hz2 (fun h2 => SrtO.pairs_sortableO (by omega) hp2 fun o e => ?_) fun out h1 h2 => ⟨_, rfl, ?_⟩) (PyProof.Rows.args_list_sort _)))
  · have e' : some o = some (seqObj "list" acc.toList.toArray 0) := e.symm.trans hoL
    cases e'
    intro c
    exact absurd (Value.type.inj c) (by decide)
  · have hout : out = (sortS (lexF fun e => kv (.ref e.2.1)) xs).map fun e => Value.ref e.2.1 := by
      refine SrtO.stb_uniq (SrtO.swo_lex kv) h1 (SrtO.srtd_map (sortS_srtd (lexF_swo _) xs)) (h2.trans ?_)
      rw [hal]
      have st := sortS_stb (lexF_swo fun e : NestedKey × Addr × Value => kv (.ref e.2.1)) xs
      have := SrtO.Stb.map (SrtO.swo_lex kv) (fun e : NestedKey × Addr × Value => Value.ref e.2.1) st
      exact ⟨this.perm.symm, fun x => (this.cls x).symm⟩
    obtain ⟨e', he'⟩ := PyProof.Rows.sortedHeap_at (vs := acc.toList) (out := out.toArray) hoL
    refine wpAny_pure ⟨_, rfl, .ref h'.objs.size, upd H h'.objs.size (.lst ((sortS (lexF fun e => kv (.ref e.2.1)) xs).map fun e => .ref e.2.1)), I1.laid (t' := tk) (fun b u e => ?_) (Nat.le_refl _)
      (show ObjOk X.prog X.w _ _ _ (.lst _) from ⟨?_, out, e', by rw [hout]; exact refs_vals _, he'⟩), rfl, q _ _ hkv (I1.hok.fresh (Nat.le_refl _))⟩
    · have hb : b < h'.objs.size := Heap.lt_size e
      rw [PyProof.Rows.sortedHeap_old (Nat.ne_of_lt hb) (by rw [size_push']; exact Nat.lt_succ_of_lt hb)]
      exact Heap.get?_push_of_some _ e
    · rw [List.length_map, (sortS_perm xs).length_eq]
      exact nz.sz
def pairOf : D → Int × Int
  | .tup [.int i, .int j] => (i, j)
  | _ => (0, 0)
def isPair : D → Bool
  | .tup [.int _, .int _] => true
  | _ => false
def oSortedN : List D → Sto → R D
  | [.loc n], S => match S[n]? with
    | some (.dnt kvs) => if kvs.all (fun kv => isPair kv.1) = true then .ok (.lst (sortS (lexF pairOf) (kvs.map (·.1)))) S else .stuck
    | _ => .stuck
  | _, _ => .stuck
theorem isPair_kp {d : D} {k : NestedKey} (h : isPair d = true) (e : keyOf d = some k) : isKp k = true ∧ kp k = pairOf d := by
  unfold isPair at h
  split at h
  · simp only [keyOf, keysOf, Option.map_some, Option.some.injEq] at e
    subst e
    exact ⟨rfl, rfl⟩
  · cases h
section
variable {X : Cx} {E : XK} {a b e : Expr} {f g h : DE} {es : List Expr} {t : DA} {pos p p2 apos cpos : Pos} {kk : Nat}
theorem ev_sortedN (hm : X.mg "sorted" = none) (hc : X.calm = true) (ha : AS X E (e :: es) t) (hg : Gl X "sorted" := by rfl) (he : starEach (e :: es) X.env = (false, eval e X.env) :: starEach es X.env := by rfl) (hpl : (backTo pos (starEach es X.env)).any (·.1) = false := by rfl) : ES X E (.Call (.Name "sorted" p) (e :: es) [] pos) (dCB oSortedN t) :=
  ev_callB (cr_sortNt hc) (fun μ S H ds vs Q m r o => by
    unfold oSortedN at o
    split at o
    · rename_i n
      obtain ⟨v, rfl, h1⟩ := reps1 r
      split at o
      · rename_i kvs e1
        split at o
        · rename_i hall
          obtain ⟨a, xs, rfl, hl, nt, nr⟩ := loc_dnt m h1 e1
          have hall2 : ∀ (l : List (D × D)) (ys : List (NestedKey × Addr × Value)), NR X.K μ H l ys → (∀ kv ∈ l, isPair kv.1 = true) → ∀ e ∈ ys, isKp e.1 = true := by
            intro l ys r
            induction r with
            | nil => intro _ e h; cases h
            | @cons p q ps qs h t ih =>
              intro hp e he
              rcases List.mem_cons.mp he with rfl | he
              · exact (isPair_kp (hp p List.mem_cons_self) h.1).1
              · exact ih (fun kv h => hp kv (List.mem_cons_of_mem _ h)) e he
          have hall3 : ∀ kv ∈ kvs, isPair kv.1 = true := fun kv h => List.all_eq_true.mp hall kv h
          refine ⟨a, xs, rfl, nt, hall2 _ _ nr hall3, fun kf p hkf np => ?_⟩
          have pr : ∀ (l : List (D × D)) (ys : List (NestedKey × Addr × Value)), NR X.K μ H l ys → (∀ kv ∈ l, isPair kv.1 = true) → (∀ e ∈ ys, kf e = kp e.1) → Paired (fun d (e : NestedKey × Addr × Value) => Rep X.K μ H d (.ref e.2.1) ∧ pairOf d = kf e) (l.map (·.1)) ys := by
            intro l ys r
            induction r with
            | nil => intro _ _; exact .nil
            | @cons p q ps qs h t ih =>
              intro hp hq
              refine .cons ⟨h.2.2.1, ?_⟩ (ih (fun kv h => hp kv (List.mem_cons_of_mem _ h)) fun e h => hq e (List.mem_cons_of_mem _ h))
              rw [hq q List.mem_cons_self]
              exact (isPair_kp (hp p List.mem_cons_self) h.1).2.symm
          have pr2 := sortS_paired (lt := lexF pairOf) (lt' := lexF kf) (fun x y x' y' h h' => by show SrtO.lexB _ _ = SrtO.lexB _ _; rw [h.2, h'.2]) (pr _ _ nr hall3 hkf)
          have rp : ∀ (l : List D) (ys : List (NestedKey × Addr × Value)), Paired (fun d (e : NestedKey × Addr × Value) => Rep X.K μ H d (.ref e.2.1) ∧ pairOf d = kf e) l ys → Reps X.K μ H l (ys.map fun e => .ref e.2.1) := by
            intro l ys r
            induction r with
            | nil => exact reps_nil.mpr rfl
            | @cons p q ps qs h t ih => exact reps_cons.mpr ⟨_, _, rfl, h.1, ih⟩
          exact mkV_new μ S H Q _ _ m (rp _ _ pr2) o p np
        · exact o.elim
      · exact o.elim
    · exact o.elim) hm (by decide +kernel) ha hg (by decide) (by decide) he hpl
end
end Ev

set_option Elab.async false
set_option linter.all false
set_option maxRecDepth 100000
set_option maxHeartbeats 4000000
/-! EvM: the law's end: the denotation of the law's def, at the head. -/
namespace Ev
open PySem PySem.Spec PyProof.Rows L2

/-- the law's def answers True at this script -/
def Yes (fn : Fn) (ns : List Int) : Prop := ∃ S, fn [.lst (ns.map D.int)] [] = .ok (.bl true) S
theorem yes_sp {w : World} {K : PySem.W.Frag} {fn : Fn} {ns : List Int} (y : Yes fn ns) {H : Hp} {a : Addr} (hS : SqL K H a (ns.map V.int)) : spOf w K fn [.ref a] H (fun v _ => v = .bl true) fun _ _ _ => False := by
  obtain ⟨S, e⟩ := y
  refine ⟨⟨[], []⟩, [], [.lst (ns.map D.int)], Reps.one (rep_lst.mpr ⟨a, _, rfl, ?_, reps_ints.mpr rfl⟩), ⟨rfl, List.nodup_nil, fun n o b h => by simp at h, fun b h => by cases h⟩, ?_⟩
  · rcases hS with h | h
    · exact .inl ⟨⟨by simp, by simp⟩, h⟩
    · exact .inr h
  · rw [e]
    exact fun μ' H' v x m r => rep_bl.mp r
section
variable {P : Program} {w : World} {K : PySem.W.Frag} {mg mb : Str → Option Value} {CX : CXT} {k : Nat} {fa a : Addr} {fd : FuncData} {x : Str} {fn : Fn} {s₁ : Shared} {vs : List Value} {ns : List Int}
/-- from an abstract heap in which nothing stands but, perhaps, the script -/
theorem end_core (KX : K.In s₁.heap) (hns : s₁.heap.Ns mainGlobals mg) (hb : s₁.heap.Ns builtinsNs mb) (hbb : ∀ x : Str, x ≠ "__name__" → mb x = bootBuiltins x) (hlim : s₁.heap.NoLimit) (hg : s₁.gens = #[])
    (ha : s₁.heap.get? a = some { cls := .type "list", data := .seq vs.toArray }) (hr : Rm k callerA)
    (F : ∀ base : Heap, K.In base → base.Ns mainGlobals mg → FnG P w K mg base CX k fa fd [x] fn) (hbind : ∀ (s : Shared) (u : Value), BindsTo s fd ⟨[u], []⟩ [(x, u)]) (hCX : ∀ H e s', CX [] H s₁ (fun _ _ _ => False) e s' → False) (y : Yes fn ns)
    {H : Hp} (hO : Only H) (hS : SqL K H a (ns.map V.int)) (hok : HOk P w H s₁.heap) (hA : ∀ b, H b ≠ none → b = a) (hK : H a ≠ none → K.lookup a = none) :
    codeAny (model P w) callerA (.call (.ref fa) ⟨[.ref a], []⟩) (fun r s' => r = .ok (.ret (.bool true)) ∧ OldK s₁.heap s'.heap ∧ s'.os = s₁.os ∧ AllBare s'.gens) s₁ := by
  have free : ∀ {b : Addr} {o : Obj}, s₁.heap.get? b = some o → b ≠ a → H b = none := fun {b o} _ n => Classical.byContradiction fun z => n (hA b z)
  have below : ∀ {b : Addr} {o : Obj}, s₁.heap.get? b = some o → H b = none → (hidT s₁.heap H).get? b = some o := fun e n => hidT_get e n
  have ns2 : ∀ {b : Addr} {m : Str → Option Value}, s₁.heap.Ns b m → (hidT s₁.heap H).Ns b m := fun {b m} ⟨o, es, ep, e, d, r⟩ => by
    refine ⟨o, es, ep, below e (free e fun z => ?_), d, r⟩
    rw [z, ha] at e
    cases e
    exact absurd (show Data.seq vs.toArray _ = Data.dict es ep from d) nofun
  have K2 : K.In (hidT s₁.heap H) := fun b o e => by
    refine below (KX b o e) (Classical.byContradiction fun z => ?_)
    have hb := hA b z
    rw [hb] at z e
    rw [hK z] at e
    cases e
  have M2 : Mod K mg (hidT s₁.heap H) := ⟨K2, ns2 hns, ⟨mb, ns2 hb, hbb⟩, let ⟨mc, h1, h2⟩ := hlim; ⟨mc, ns2 h1, h2⟩⟩
  have e0 : Env0 P w K mg (hidT s₁.heap H) callerA [] s₁ H := ⟨rfl, M2, fun b o e => of_hidT e, Nat.le_of_eq (hidT_size _ _), trivial, (fun b hb => absurd (show b ∈ ([] : List Addr) from hb) (by simp)), hok, .of_eq hg⟩
  refine codeAny_mono ((F _ K2 (ns2 hns)).run callerA [] s₁ H ⟨[.ref a], []⟩ [.ref a] [.ref a] _ _ hr e0 (hbind s₁ (.ref a)) (.cons rfl .nil) (yes_sp y hS)) fun r s' h => ?_
  match r, h with
  | .error e, h => exact (hCX H e s' h).elim
  | .ok (.ret u), ⟨v, H', os, bare, un, hok', r', q⟩ =>
    obtain rfl : v = .bl true := q
    obtain rfl : u = Value.bool true := r'
    refine ⟨rfl, OldK.of_keep fun b o e => ?_, os, bare⟩
    cases q : H b with
    | none => exact un.keep b o e q (fun z => by cases z) nofun
    | some u =>
      rcases hO b with z | ⟨ob, xs, z⟩
      · rw [q] at z; cases z
      · have e1 := (hok b _ z).1
        have e2 := (hok' b _ (un.frzs b ob _ z)).1
        rw [e] at e1
        cases e1
        exact e2
theorem end_call (KX : K.In s₁.heap) (hns : s₁.heap.Ns mainGlobals mg) (hb : s₁.heap.Ns builtinsNs mb) (hbb : ∀ x : Str, x ≠ "__name__" → mb x = bootBuiltins x) (hlim : s₁.heap.NoLimit) (hg : s₁.gens = #[])
    (ha : s₁.heap.get? a = some { cls := .type "list", data := .seq vs.toArray }) (hi : IntsAre vs ns) (hl : ns.length ≤ sizeLine) (hr : Rm k callerA)
    (F : ∀ base : Heap, K.In base → base.Ns mainGlobals mg → FnG P w K mg base CX k fa fd [x] fn) (hbind : ∀ (s : Shared) (u : Value), BindsTo s fd ⟨[u], []⟩ [(x, u)]) (hCX : ∀ H e s', CX [] H s₁ (fun _ _ _ => False) e s' → False) (y : Yes fn ns) :
    codeAny (model P w) callerA (.call (.ref fa) ⟨[.ref a], []⟩) (fun r s' => r = .ok (.ret (.bool true)) ∧ OldK s₁.heap s'.heap ∧ s'.os = s₁.os ∧ AllBare s'.gens) s₁ := by
  have rv := vals_ints hi
  cases hk : K.lookup a with
  | some o =>
    have e := KX a o hk
    rw [ha] at e
    cases e
    refine end_core KX hns hb hbb hlim hg ha hr F hbind hCX y (H := fun _ => none) (fun _ => .inl rfl) (.inr ⟨_, vs.toArray, _, hk, rfl, rfl, rfl, by rw [List.size_toArray, hi.length]; exact hl, by simpa using rv⟩) (fun b u z => by cases z) (fun b z => absurd rfl z) fun z => absurd rfl z
  | none =>
    have at_ : ∀ b, upd (fun _ => none) a (.frz { cls := .type "list", data := .seq vs.toArray } (.lst (ns.map V.int))) b ≠ none → b = a := fun b z => Classical.byContradiction fun n => z (upd_ne n)
    refine end_core KX hns hb hbb hlim hg ha hr F hbind hCX y (H := upd (fun _ => none) a (.frz { cls := .type "list", data := .seq vs.toArray } (.lst (ns.map V.int)))) (fun b => ?_) (.inl (.inr ⟨_, upd_same⟩)) (fun b u z => ?_) at_ fun _ => hk
    · by_cases hb : b = a
      · subst hb; exact .inr ⟨_, _, upd_same⟩
      · exact .inl (upd_ne hb)
    · have hb := at_ b (by rw [z]; nofun)
      subst hb
      rw [upd_same] at z
      cases z
      exact ⟨ha, by rw [List.length_map]; exact hl, vs, _, rv, ha⟩
end
theorem _root_.L2.FunD.same {K : PySem.W.Frag} {x x' : Str} {params params' : Arguments} {body body' : List Stmt} {scope scope' : Scope} {f : Addr} {fd fd' : FuncData} (F : FunD K x x params body scope [] [] f fd) (F' : FunD K x' x' params' body' scope' [] [] f fd') : fd = fd' := by
  obtain ⟨_, _, _, _, _, _, _, _, _, _, _, l1, _⟩ := F.ex
  obtain ⟨_, _, _, _, _, _, _, _, _, _, _, l2, _⟩ := F'.ex
  have e := l1.symm.trans l2
  injection e with e
  injection e with _ _ e _
  injection e
theorem walk_ofG {l : PySem.W.OpenLaw} {n k : Nat} {q : Program} {loose : List Str} {XP : (Str → Option Value) → Heap → Prop} {YP : World → Heap → Prop} {d : DefRec} {CX : CXT} {x : Str}
    (hn : l.most = some n) (hn2 : n ≤ sizeLine) (hdf : d.params.defaults = []) (hr : Rm k callerA)
    (F : ∀ (w : World) (mg : Str → Option Value) (fa : Addr) (h : Heap), YP w h → h.Ns mainGlobals mg → mg d.name = some (.ref fa) →
      ∃ (K : PySem.W.Frag) (fd : FuncData) (fn : Fn), K.In h ∧ (∀ (s : Shared) (u : Value), BindsTo s fd ⟨[u], []⟩ [(x, u)]) ∧ (∀ ns : List Int, ns.length ≤ n → Yes fn ns) ∧
        ∀ base : Heap, K.In base → base.Ns mainGlobals mg → FnG l.prog w K mg base CX k fa fd [x] fn)
    (hCX : ∀ (H : Hp) (s : Shared) (e : Value) (s' : Shared), CX [] H s (fun _ _ _ => False) e s' → False) :
    PySem.W.WalkO q loose XP YP l.row.toRowW d [] (fun f vs => PySem.call f vs) := by
  refine Att.attach_call hn hdf fun w s₀ s₁ mg mb fa o pm cd doc a vs ns G Y ho hd hcd hmg hobj hints hlen hg => ?_
  obtain ⟨K, fd, fn, KX, hb, hy, hF⟩ := F w mg fa _ Y G.T.g hmg
  exact end_call KX G.T.g G.T.b G.T.builtins G.T.nolimit hg hobj hints (Nat.le_trans hlen hn2) hr hF hb (fun H e s' => hCX H s₁ e s') (hy ns hlen)
end Ev

set_option Elab.async false
set_option linter.all false
set_option maxRecDepth 100000
set_option maxHeartbeats 4000000
/-! EvN: repr(a) != repr(b) by the values; a call on a store of its own. -/
namespace Ev
open PySem PySem.Spec PyProof.Rows L2

/-! ### equal values -/
mutual
def beqD : D → D → Bool
  | .non, .non => true
  | .bl a, .bl b => a == b
  | .int a, .int b => decide (a = b)
  | .tup a, .tup b => beqDs a b
  | .lst a, .lst b => beqDs a b
  | _, _ => false
def beqDs : List D → List D → Bool
  | [], [] => true
  | a :: as, b :: bs => beqD a b && beqDs as bs
  | _, _ => false
end
mutual
theorem beqD_eq : ∀ {a b : D}, beqD a b = true → a = b
  | .non, .non, _ => rfl
  | .bl a, .bl b, h => by rw [beqD] at h; rw [eq_of_beq h]
  | .int a, .int b, h => by rw [beqD] at h; rw [of_decide_eq_true h]
  | .tup a, .tup b, h => by rw [beqD] at h; rw [beqDs_eq h]
  | .lst a, .lst b, h => by rw [beqD] at h; rw [beqDs_eq h]
  | .str _, _, h => by rw [beqD.eq_def] at h; cases h
  | .loc _, _, h => by rw [beqD.eq_def] at h; cases h
  | .non, .bl _, h => by rw [beqD.eq_def] at h; cases h
  | .non, .int _, h => by rw [beqD.eq_def] at h; cases h
  | .non, .str _, h => by rw [beqD.eq_def] at h; cases h
  | .non, .tup _, h => by rw [beqD.eq_def] at h; cases h
  | .non, .lst _, h => by rw [beqD.eq_def] at h; cases h
  | .non, .loc _, h => by rw [beqD.eq_def] at h; cases h
  | .bl _, .non, h => by rw [beqD.eq_def] at h; cases h
  | .bl _, .int _, h => by rw [beqD.eq_def] at h; cases h
  | .bl _, .str _, h => by rw [beqD.eq_def] at h; cases h
  | .bl _, .tup _, h => by rw [beqD.eq_def] at h; cases h
  | .bl _, .lst _, h => by rw [beqD.eq_def] at h; cases h
  | .bl _, .loc _, h => by rw [beqD.eq_def] at h; cases h
  | .int _, .non, h => by rw [beqD.eq_def] at h; cases h
  | .int _, .bl _, h => by rw [beqD.eq_def] at h; cases h
  | .int _, .str _, h => by rw [beqD.eq_def] at h; cases h
  | .int _, .tup _, h => by rw [beqD.eq_def] at h; cases h
  | .int _, .lst _, h => by rw [beqD.eq_def] at h; cases h
  | .int _, .loc _, h => by rw [beqD.eq_def] at h; cases h
  | .tup _, .non, h => by rw [beqD.eq_def] at h; cases h
  | .tup _, .bl _, h => by rw [beqD.eq_def] at h; cases h
  | .tup _, .int _, h => by rw [beqD.eq_def] at h; cases h
  | .tup _, .str _, h => by rw [beqD.eq_def] at h; cases h
  | .tup _, .lst _, h => by rw [beqD.eq_def] at h; cases h
  | .tup _, .loc _, h => by rw [beqD.eq_def] at h; cases h
  | .lst _, .non, h => by rw [beqD.eq_def] at h; cases h
  | .lst _, .bl _, h => by rw [beqD.eq_def] at h; cases h
  | .lst _, .int _, h => by rw [beqD.eq_def] at h; cases h
  | .lst _, .str _, h => by rw [beqD.eq_def] at h; cases h
  | .lst _, .tup _, h => by rw [beqD.eq_def] at h; cases h
  | .lst _, .loc _, h => by rw [beqD.eq_def] at h; cases h
theorem beqDs_eq : ∀ {a b : List D}, beqDs a b = true → a = b
  | [], [], _ => rfl
  | a :: as, b :: bs, h => by
    rw [beqDs, Bool.and_eq_true] at h
    rw [beqD_eq h.1, beqDs_eq h.2]
  | [], _ :: _, h => by rw [beqDs.eq_def] at h; cases h
  | _ :: _, [], h => by rw [beqDs.eq_def] at h; cases h
end
/-! the texts of equal values are equal, without the texts -/
mutual
def noStr : PyData → Bool
  | .none => true
  | .bool _ => true
  | .int _ => true
  | .str _ => false
  | .list xs => noStrs xs
  | .tuple xs => noStrs xs
  | .dict _ => false
def noStrs : List PyData → Bool
  | [] => true
  | x :: xs => noStr x && noStrs xs
end
theorem okStr_app (a b : Str) : PyData.strOk (a ++ b) = (PyData.strOk a && PyData.strOk b) := by
  unfold PyData.strOk
  rw [Str.cps_append, Array.all_append]
theorem okStr_of (s : String) : PyData.strOk (Str.ofString s) = true := by
  unfold PyData.strOk
  rw [Array.all_eq_true]
  intro i hi
  have h : ∀ c ∈ (Str.ofString s).cps.toList, c < 0x110000 := by
    intro c hc
    rw [Str.ofString_eq_toList s] at hc
    have hc : c ∈ (s.toList.map Char.toNat).toArray.toList := hc
    obtain ⟨ch, _, rfl⟩ := List.mem_map.mp hc
    have := ch.valid
    rcases this with h | ⟨_, h⟩
    · have : ch.toNat < 0xd800 := h
      omega
    · exact h
  exact decide_eq_true (h _ (by simp))
theorem okStr_join : ∀ ts : List Str, (∀ t ∈ ts, PyData.strOk t = true) → PyData.strOk (Str.join ", " ts) = true
  | [], _ => okStr_of ""
  | [x], h => h x (by simp)
  | x :: y :: r, h => by
    show PyData.strOk (x ++ ", " ++ Str.join ", " (y :: r)) = true
    rw [okStr_app, okStr_app, h x (by simp), okStr_of, okStr_join (y :: r) (fun t ht => h t (List.mem_cons_of_mem _ ht))]
    rfl
theorem okStr_text : ∀ (ts : List Str) (k : Nat) (acc : Str), PyData.strOk acc = true → (∀ t ∈ ts, PyData.strOk t = true) → PyData.strOk (textFrom k acc ts) = true
  | [], k, acc, h, _ => h
  | t :: r, k, acc, h, ht => by
    show PyData.strOk (textFrom (k + 1) (acc ++ (if k > 0 then ", " else "" : String) ++ t) r) = true
    refine okStr_text r _ _ ?_ fun t' h' => ht t' (List.mem_cons_of_mem _ h')
    rw [okStr_app, okStr_app, h, okStr_of, ht t (by simp)]
    rfl
mutual
theorem okStr_shown : ∀ x : PyData, noStr x = true → PyData.strOk x.shown = true
  | .none, _ => okStr_of _
  | .bool b, _ => by cases b <;> exact okStr_of _
  | .int i, _ => okStr_of _
  | .list xs, h => by
    simp only [PyData.shown]
    show PyData.strOk (textFrom 0 "[" (PyData.shownAll xs) ++ "]") = true
    rw [okStr_app, okStr_text _ _ _ (okStr_of _) (okStr_shownAll xs (by simpa [noStr] using h)), okStr_of]
    rfl
  | .tuple xs, h => by
    simp only [PyData.shown]
    unfold tupleText
    rw [okStr_app, okStr_app, okStr_join _ (okStr_shownAll xs (by simpa [noStr] using h)), okStr_of, okStr_of]
    rfl
  | .str _, h => by simp [noStr] at h
  | .dict _, h => by simp [noStr] at h
theorem okStr_shownAll : ∀ xs : List PyData, noStrs xs = true → ∀ t ∈ PyData.shownAll xs, PyData.strOk t = true
  | [], _, t, ht => by simp [PyData.shownAll] at ht
  | x :: xs, h, t, ht => by
    rw [noStrs, Bool.and_eq_true] at h
    simp only [PyData.shownAll, List.mem_cons] at ht
    rcases ht with rfl | ht
    · exact okStr_shown x h.1
    · exact okStr_shownAll xs h.2 t ht
end
def reprFit (d : D) : Bool := match pdat d with
  | some x => reprOk x && noStr x
  | none => false
def neR (a b : D) (S : Sto) : R D := if (beqD a b && reprFit a) = true then .ok (.bl false) S else .stuck
def dReprNe (f g : DE) : DE := fun ρ S => (f ρ S).bind fun a S1 => (g ρ S1).bind fun b S2 => neR a b S2
theorem datOf_of {S : Sto} {d : D} {x : PyData} (h : pdat d = some x) : datOf S d = some x := by
  cases d with
  | loc n => cases h
  | _ => exact h
theorem neR_repr {a b : D} {S : Sto} (h : neR a b S ≠ .stuck) (S1 : Sto) : ∃ z : Str, oRepr [a] S1 = .ok (D.str z) S1 ∧ oRepr [b] S = .ok (D.str z) S ∧ bNe (D.str z) (D.str z) S = neR a b S := by
  unfold neR at h ⊢
  split at h
  · rename_i hc
    rw [if_pos hc]
    obtain ⟨h1, h2⟩ := Bool.and_eq_true_iff.mp hc
    have e := beqD_eq h1
    subst e
    unfold reprFit at h2
    split at h2
    · rename_i x hx
      obtain ⟨h2, h3⟩ := Bool.and_eq_true_iff.mp h2
      have one : ∀ S : Sto, oRepr [a] S = .ok (D.str x.shown) S := fun S => by
        show (match datOf S a with
          | some x => if reprOk x = true then R.ok (D.str x.shown) S else .stuck
          | none => .stuck) = _
        rw [datOf_of hx]
        exact if_pos h2
      refine ⟨x.shown, one _, one _, ?_⟩
      · unfold bNe
        show (if (SeqAt.shaped (PyData.str x.shown) && SeqAt.shaped (PyData.str x.shown)) = true then (_ : R D) else _) = _
        have hs : SeqAt.shaped (.str x.shown) = true := by simp [SeqAt.shaped, PyData.canLay0, PyData.depth, okStr_shown x h3]
        rw [hs]
        simp [PyData.eqv]
    · cases h2
  · exact absurd rfl h
section
variable {X : Cx} {E : XK} {a b e : Expr} {f g : DE} {es : List Expr} {t : DA} {pos p p1 p2 q1 q2 : Pos} {kk : Nat}
theorem dReprNe_eq (ρ : Rho) (S : Sto) : (∀ x S1, dReprNe f g ρ S ≠ .exc x S1) → dReprNe f g ρ S = .stuck ∨ dOp bNe (dCB oRepr (dCons f dNil)) (dCB oRepr (dCons g dNil)) ρ S = dReprNe f g ρ S := fun hx => by
  unfold dReprNe at hx ⊢
  unfold dOp dCB dCons dNil
  cases e1 : f ρ S with
  | stuck => exact .inl rfl
  | exc x S' => rw [e1] at hx; exact absurd rfl (hx x S')
  | ok d1 S1 =>
    rw [e1] at hx
    simp only [R.bind_ok] at hx ⊢
    cases e2 : g ρ S1 with
    | stuck => exact .inl rfl
    | exc x S' => rw [e2] at hx; exact absurd rfl (hx x S')
    | ok d2 S2 =>
      simp only [R.bind_ok]
      by_cases h : neR d1 d2 S2 = .stuck
      · exact .inl h
      · obtain ⟨z, h1, h2, h3⟩ := neR_repr h S1
        rw [h1]
        simp only [R.bind_ok]
        rw [e2]
        simp only [R.bind_ok]
        rw [h2]
        exact .inr h3
def noX : R D → R D
  | .exc _ _ => .stuck
  | r => r
def dRN (f g : DE) : DE := fun ρ S => noX (dReprNe f g ρ S)
theorem dRN_eq (ρ : Rho) (S : Sto) : dRN f g ρ S = .stuck ∨ dOp bNe (dCB oRepr (dCons f dNil)) (dCB oRepr (dCons g dNil)) ρ S = dRN f g ρ S := by
  unfold dRN
  cases q : dReprNe f g ρ S with
  | stuck => exact .inl rfl
  | exc x S' => exact .inl rfl
  | ok d S' =>
    rcases dReprNe_eq (f := f) (g := g) ρ S (by rw [q]; nofun) with h | h
    · rw [q] at h; cases h
    · rw [h, q]; exact .inr rfl
/-- repr(a) != repr(b): no errors are let through -/
theorem ev_reprNe (hr : Rm kk X.A) (hm : X.mg "repr" = none) (ha : ES X E a f) (hb : ES X E b g) (hg : Gl X "repr" := by rfl)
    (h1 : starEach [a] X.env = (false, eval a X.env) :: starEach [] X.env := by rfl) (h2 : starEach [b] X.env = (false, eval b X.env) :: starEach [] X.env := by rfl)
    (hpl : ∀ q, (backTo q (starEach [] X.env)).any (·.1) = false := by intro _; rfl) (hmk : behindInMarks .NotEq (.Call (.Name "repr" p2) [b] [] q2) = false := by first | exact nomark _ | rfl) :
    ES X E (.Compare (.Call (.Name "repr" p1) [a] [] q1) [.NotEq] [.Call (.Name "repr" p2) [b] [] q2] pos) (dRN f g) :=
  (ev_cmp (op_neD hr.room.units) bNe_ok (ev_repr hr hm (ea_cons ha ea_nil h1) hg h1 (hpl _)) (ev_repr hr hm (ea_cons hb ea_nil h2) hg h2 (hpl _)) hmk).wk fun σ H Q ⟨μ, ρ, S, sl, m, o⟩ => by
    refine ⟨μ, ρ, S, sl, m, ?_⟩
    rcases dRN_eq (f := f) (g := g) ρ S with h | h
    · rw [h] at o; exact o.elim
    · rw [h]; exact o
theorem te_reprNe (hr : Rm kk X.A) (hm : X.mg "repr" = none) (ha : ES X E a f) (hb : ES X E b g) (hg : Gl X "repr" := by rfl)
    (h1 : starEach [a] X.env = (false, eval a X.env) :: starEach [] X.env := by rfl) (h2 : starEach [b] X.env = (false, eval b X.env) :: starEach [] X.env := by rfl)
    (hpl : ∀ q, (backTo q (starEach [] X.env)).any (·.1) = false := by intro _; rfl) (hmk : behindInMarks .NotEq (.Call (.Name "repr" p2) [b] [] q2) = false := by first | exact nomark _ | rfl) :
    TSo X E (.Compare (.Call (.Name "repr" p1) [a] [] q1) [.NotEq] [.Call (.Name "repr" p2) [b] [] q2] pos) (dTst (dRN f g)) :=
  (te_cmp (op_neD hr.room.units) bNe_ok (ev_repr hr hm (ea_cons ha ea_nil h1) hg h1 (hpl _)) (ev_repr hr hm (ea_cons hb ea_nil h2) hg h2 (hpl _)) hmk).wk fun σ H Q ⟨μ, ρ, S, sl, m, o⟩ => by
    refine ⟨μ, ρ, S, sl, m, ?_⟩
    unfold dTst at o ⊢
    rcases dRN_eq (f := f) (g := g) ρ S with h | h
    · rw [h] at o; exact o.elim
    · rw [h]; exact o

/-! ### a call on a store of its own: plain values in, a scalar out -/
mutual
def plain : D → Bool
  | .tup ds => plains ds
  | .lst ds => plains ds
  | .loc _ => false
  | _ => true
def plains : List D → Bool
  | [] => true
  | d :: ds => plain d && plains ds
end
def scalar : D → Bool
  | .tup _ => false
  | .lst _ => false
  | .loc _ => false
  | _ => true
mutual
theorem plain_rep {K : PySem.W.Frag} {μ : Mu} {H : Hp} : ∀ {d : D} {v : V}, plain d = true → Rep K μ H d v → Rep K ⟨[], []⟩ H d v
  | .non, v, _, h => by rw [rep_non] at h ⊢; exact h
  | .bl _, v, _, h => by rw [rep_bl] at h ⊢; exact h
  | .int _, v, _, h => by rw [rep_int] at h ⊢; exact h
  | .str _, v, _, h => by rw [rep_str] at h ⊢; exact h
  | .tup ds, v, p, h => by
    rw [rep_tup] at h ⊢
    obtain ⟨a, vs, rfl, f, r⟩ := h
    exact ⟨a, vs, rfl, f.elim (fun f => .inl ⟨⟨by simp, by simp⟩, f.2⟩) .inr, plain_reps (by rw [plain] at p; exact p) r⟩
  | .lst ds, v, p, h => by
    rw [rep_lst] at h ⊢
    obtain ⟨a, vs, rfl, f, r⟩ := h
    exact ⟨a, vs, rfl, f.elim (fun f => .inl ⟨⟨by simp, by simp⟩, f.2⟩) .inr, plain_reps (by rw [plain] at p; exact p) r⟩
  | .loc _, v, p, h => by rw [plain] at p; cases p
theorem plain_reps {K : PySem.W.Frag} {μ : Mu} {H : Hp} : ∀ {ds : List D} {vs : List V}, plains ds = true → Reps K μ H ds vs → Reps K ⟨[], []⟩ H ds vs
  | [], vs, _, h => by rw [reps_nil] at h ⊢; exact h
  | d :: ds, vs, p, h => by
    rw [reps_cons] at h ⊢
    obtain ⟨v, r, rfl, h1, h2⟩ := h
    rw [plains, Bool.and_eq_true] at p
    exact ⟨v, r, rfl, plain_rep p.1 h1, plain_reps p.2 h2⟩
end
theorem scalar_rep {K : PySem.W.Frag} {μ μ' : Mu} {H H' : Hp} {d : D} {v : V} (p : scalar d = true) (h : Rep K μ H d v) : Rep K μ' H' d v := by
  cases d with
  | non => rw [rep_non] at h ⊢; exact h
  | bl _ => rw [rep_bl] at h ⊢; exact h
  | int _ => rw [rep_int] at h ⊢; exact h
  | str _ => rw [rep_str] at h ⊢; exact h
  | tup _ => cases p
  | lst _ => cases p
  | loc _ => cases p
def freshC (fn : Fn) (ds : List D) (S : Sto) : R D := if plains ds = true then match fn ds [] with
  | .ok d _ => if scalar d = true then .ok d S else .stuck
  | _ => .stuck else .stuck
/-- a def on a store of its own -/
theorem spOf_fresh {w : World} {K : PySem.W.Frag} {fn : Fn} {vs : List V} {H : Hp} {Q : VK} {E : XK} (h : spOf w K (freshC fn) vs H Q E) : spOf w K fn vs H Q E := by
  obtain ⟨μ, S, ds, r, m, o⟩ := h
  unfold freshC at o
  split at o
  · rename_i hp
    refine ⟨⟨[], []⟩, [], ds, plain_reps hp r, ⟨rfl, List.nodup_nil, fun n o b h => by simp at h, fun b h => by cases h⟩, ?_⟩
    split at o
    · rename_i d S' e
      rw [e]
      split at o
      · rename_i hs
        intro μ' H' v x m' r'
        have same : ∀ a u, H a = some u → H' a = some u := fun a u hu => (x.keep a u hu (by simp)).1
        have x2 : Ext μ H μ H' := ⟨⟨[], by simp⟩, fun _ h => h, fun _ _ _ _ h => h, fun a u hu n => ⟨same a u hu, n⟩⟩
        refine o μ H' v x2 ⟨m.len, m.nd, fun n o' a h1 h2 => ?_, fun a ha => ?_⟩ (scalar_rep hs r')
        · have h3 := m.ob n o' a h1 h2
          obtain ⟨u, hu⟩ := h3.here
          exact h3.ext x2 (by rw [hu]; exact same a u hu)
        · obtain ⟨⟨u, hu⟩, n⟩ := m.hd a ha
          exact ⟨⟨u, same a u hu⟩, n⟩
      · exact o.elim
    · exact o.elim
  · exact o.elim
theorem Cal.fresh {P : Program} {w : World} {K : PySem.W.Frag} {mg : Str → Option Value} {base : Heap} {CX : CXT} {k : Nat} {x : Str} {ps : List Str} {fn : Fn} (c : Cal P w K mg base CX k x ps fn) : Cal P w K mg base CX k x ps (freshC fn) := by
  obtain ⟨f, fd, F, r⟩ := c
  refine ⟨f, fd, ⟨fun ds S hl => ?_, fun A outer s H args us vs Q E hr he hb hv hs => F.run A outer s H args us vs Q E hr he hb hv (spOf_fresh hs)⟩, r⟩
  unfold freshC
  split
  · rw [F.len ds [] hl]
  · rfl
end
end Ev

set_option Elab.async false
set_option linter.all false
set_option maxRecDepth 100000
set_option maxHeartbeats 4000000
/-! EvS: how the denotations run: rules for simp. -/
namespace Ev
open PySem
section
variable {ρ : Rho} {S : Sto} {f g h : DE} {p q : DT} {s t : DS} {ta : DA} {i j : Int} {a b d : D} {ds es : List D} {n k : Nat} {fn : Fn}
@[simp] theorem r_var : dVar n ρ S = (match ρ[n]? with | some (some d) => .ok d S | _ => .stuck) := rfl
@[simp] theorem r_c : dC d ρ S = .ok d S := rfl
@[simp] theorem r_op {o : D → D → Sto → R D} : dOp o f g ρ S = (f ρ S).bind fun a S1 => (g ρ S1).bind fun b S2 => o a b S2 := rfl
@[simp] theorem r_un {o : D → Sto → R D} : dUn o f ρ S = (f ρ S).bind fun a S1 => o a S1 := rfl
@[simp] theorem r_tst : dTst f ρ S = (f ρ S).bind fun d S1 => (match d with | .bl b => .ok b S1 | _ => .stuck) := rfl
@[simp] theorem r_isN : dIsN f ρ S = (f ρ S).bind fun a S1 => .ok (.bl (isNon a)) S1 := rfl
@[simp] theorem r_notN : dNotN f ρ S = (f ρ S).bind fun a S1 => .ok (.bl (!isNon a)) S1 := rfl
@[simp] theorem r_andT : dAndT p q ρ S = (p ρ S).bind fun b S1 => if b = true then q ρ S1 else .ok false S1 := rfl
@[simp] theorem r_orT : dOrT p q ρ S = (p ρ S).bind fun b S1 => if b = true then .ok true S1 else q ρ S1 := rfl
@[simp] theorem r_notT : dNotT p ρ S = (p ρ S).bind fun b S1 => .ok (!b) S1 := rfl
@[simp] theorem r_andV : dAndV f g ρ S = (f ρ S).bind fun d S1 => (match d with | .bl true => g ρ S1 | .bl false => .ok (.bl false) S1 | _ => .stuck) := rfl
@[simp] theorem r_orV : dOrV f g ρ S = (f ρ S).bind fun d S1 => (match d with | .bl true => .ok (.bl true) S1 | .bl false => g ρ S1 | _ => .stuck) := rfl
@[simp] theorem r_notV : dNotV f ρ S = (f ρ S).bind fun d S1 => (match d with | .bl b => .ok (.bl (!b)) S1 | _ => .stuck) := rfl
@[simp] theorem r_if : dIf p f g ρ S = (p ρ S).bind fun b S1 => if b = true then f ρ S1 else g ρ S1 := rfl
@[simp] theorem r_chain {o1 o2 : D → D → Sto → R D} : dChain o1 o2 f g h ρ S = (f ρ S).bind fun a S1 => (g ρ S1).bind fun b S2 => (o1 a b S2).bind (chainK o2 h ρ b) := rfl
@[simp] theorem r_chainT {o2 : D → D → Sto → R D} : chainK o2 h ρ b (.bl true) S = (h ρ S).bind fun e S4 => o2 b e S4 := rfl
@[simp] theorem r_chainF {o2 : D → D → Sto → R D} : chainK o2 h ρ b (.bl false) S = .ok (.bl false) S := rfl
@[simp] theorem r_nil : dNil ρ S = .ok [] S := rfl
@[simp] theorem r_cons : dCons f ta ρ S = (f ρ S).bind fun d S1 => (ta ρ S1).bind fun ds S2 => .ok (d :: ds) S2 := rfl
@[simp] theorem r_tup : dTup ta ρ S = (ta ρ S).bind fun ds S1 => if ds.length ≤ sizeLine then .ok (.tup ds) S1 else .stuck := rfl
@[simp] theorem r_lst : dLst ta ρ S = (ta ρ S).bind fun ds S1 => if ds.length ≤ sizeLine then .ok (.lst ds) S1 else .stuck := rfl
@[simp] theorem r_loc : dLoc ta ρ S = (ta ρ S).bind fun ds S1 => if ds.length ≤ sizeLine then .ok (.loc S1.length) (S1 ++ [.lst ds]) else .stuck := rfl
@[simp] theorem r_call : dCall fn ta ρ S = (ta ρ S).bind fn := rfl
@[simp] theorem r_callK {ix : List Nat} : dCallK ix fn ta ρ S = (ta ρ S).bind fun ds S1 => fn (arr ix ds) S1 := rfl
@[simp] theorem r_cb {o : List D → Sto → R D} : dCB o ta ρ S = (ta ρ S).bind o := rfl
@[simp] theorem r_next : dNext ρ S = .nx ρ S := rfl
@[simp] theorem r_no : dNoS ρ S = .stuck := rfl
@[simp] theorem r_then : dThen s t ρ S = (s ρ S).thn t := rfl
@[simp] theorem t_nx : (RS.nx ρ S).thn t = t ρ S := rfl
@[simp] theorem t_ret : (RS.ret d S).thn t = .ret d S := rfl
@[simp] theorem t_bk : (RS.bk ρ S).thn t = .bk ρ S := rfl
@[simp] theorem t_ct : (RS.ct ρ S).thn t = .ct ρ S := rfl
@[simp] theorem t_st : (RS.stuck).thn t = .stuck := rfl
@[simp] theorem g_nx : (RS.nx ρ S).again t = t ρ S := rfl
@[simp] theorem g_ct : (RS.ct ρ S).again t = t ρ S := rfl
@[simp] theorem g_bk : (RS.bk ρ S).again t = .nx ρ S := rfl
@[simp] theorem g_ret : (RS.ret d S).again t = .ret d S := rfl
@[simp] theorem g_st : (RS.stuck).again t = .stuck := rfl
@[simp] theorem r_expr : dExpr f ρ S = (f ρ S).bindS fun _ S1 => .nx ρ S1 := rfl
@[simp] theorem r_ret : dRet f ρ S = (f ρ S).bindS fun d S1 => .ret d S1 := rfl
@[simp] theorem r_ifS : dIfS p s t ρ S = (p ρ S).bindS fun b S1 => if b = true then s ρ S1 else t ρ S1 := rfl
@[simp] theorem r_set : dSet n f ρ S = (f ρ S).bindS fun d S1 => .nx (ρ.set n (some d)) S1 := rfl
@[simp] theorem r_par {m : Nat} : dPar n m ta ρ S = (match ta ρ S with | .ok [a, b] S1 => .nx ((ρ.set n (some a)).set m (some b)) S1 | .exc x S1 => .exc x S1 | _ => .stuck) := rfl
@[simp] theorem r_par3 {m l : Nat} : dPar3 n m l ta ρ S = (match ta ρ S with | .ok [a, b, c] S1 => .nx (((ρ.set n (some a)).set m (some b)).set l (some c)) S1 | .exc x S1 => .exc x S1 | _ => .stuck) := rfl
@[simp] theorem r_asg {G : DG} : dAsg f G ρ S = (f ρ S).bindS fun d S1 => G d ρ S1 := rfl
@[simp] theorem r_dN {F : DN} : dN F d ρ S = (match F d ρ with | some ρ' => .nx ρ' S | none => .stuck) := rfl
@[simp] theorem r_gname : gnName n d ρ = some (ρ.set n (some d)) := rfl
@[simp] theorem r_gnil : gnNil [] ρ = some ρ := rfl
@[simp] theorem r_gcons {F : DN} {G : DNs} : gnCons F G (d :: ds) ρ = (F d ρ).bind fun ρ' => G ds ρ' := rfl
@[simp] theorem r_gtup {G : DNs} : gnTup G (.tup ds) ρ = G ds ρ := rfl
@[simp] theorem r_for {it : DI} {G : DG} : dFor n it G s ρ S = (it ρ S).bindS fun ai S1 => dForGo ai G s n 0 ρ S1 := by rw [dFor]
@[simp] theorem r_iSeq : iSeq f ρ S = (f ρ S).bind aiOf := rfl
@[simp] theorem r_aiT : aiOf (.tup ds) S = .ok (.sta ds) S := rfl
@[simp] theorem r_aiL : aiOf (.lst ds) S = .ok (.sta ds) S := rfl
@[simp] theorem r_iArg {K : List D → Sto → R AI} : iArg K ta ρ S = (ta ρ S).bind K := rfl
theorem for_go {ai : AI} {G : DG} : dForGo ai G s (n + 1) k ρ S = (match nextOf ai k S with | none => .stuck | some none => .nx ρ S | some (some d) => (G d ρ S).thn fun ρ1 S1 => (s ρ1 S1).again (dForGo ai G s n (k + 1))) := rfl
theorem while_go : dWhile (n + 1) p s ρ S = (p ρ S).bindS fun b S1 => if b = true then (s ρ S1).again (dWhile n p s) else .nx ρ S1 := rfl
@[simp] theorem o_sub : bSub (.int i) (.int j) S = .ok (.int (i - j)) S := rfl
@[simp] theorem o_add {mk : List D → Sto → R D} : bAdd mk (.int i) (.int j) S = .ok (.int (i + j)) S := rfl
@[simp] theorem o_addT {mk : List D → Sto → R D} : bAdd mk (.tup ds) (.tup es) S = (if ds.length + es.length ≤ sizeLine then .ok (.tup (ds ++ es)) S else .stuck) := rfl
@[simp] theorem o_lt : bLt (.int i) (.int j) S = .ok (.bl (decide (i < j))) S := rfl
@[simp] theorem o_le : bLe (.int i) (.int j) S = .ok (.bl (decide (i ≤ j))) S := rfl
@[simp] theorem o_gt : bGt (.int i) (.int j) S = .ok (.bl (decide (j < i))) S := rfl
@[simp] theorem o_ge : bGe (.int i) (.int j) S = .ok (.bl (decide (j ≤ i))) S := rfl
@[simp] theorem o_bI {F : Int → Int → D} : bI F (.int i) (.int j) S = .ok (F i j) S := rfl
@[simp] theorem o_mul : bMul (.int i) (.int j) S = (if cMul i j = true then .ok (.int (i * j)) S else .stuck) := rfl
@[simp] theorem o_fdiv : bFdiv (.int i) (.int j) S = (if cDiv i j = true then .ok (.int (i / j)) S else .stuck) := rfl
@[simp] theorem o_mod : bMod (.int i) (.int j) S = (if decide (0 < j) = true then .ok (.int (i % j)) S else .stuck) := rfl
@[simp] theorem o_pow : bPow (.int i) (.int j) S = (if cPow i j = true then .ok (.int (i ^ j.toNat)) S else .stuck) := rfl
@[simp] theorem o_shl : bShl (.int i) (.int j) S = (if cPow i j = true then .ok (.int (i * 2 ^ j.toNat)) S else .stuck) := rfl
@[simp] theorem o_eqI : bEq (.int i) (.int j) S = .ok (.bl (decide (i = j))) S := by
  show (if (SeqAt.shaped (.int i) && SeqAt.shaped (.int j)) = true then R.ok (D.bl (PyData.eqv (.int i) (.int j))) S else .stuck) = _
  rw [if_pos (by simp [SeqAt.shaped, PyData.canLay0, PyData.depth])]
  simp only [PyData.eqv]
  rfl
@[simp] theorem o_neI : bNe (.int i) (.int j) S = .ok (.bl (!decide (i = j))) S := by
  show (if (SeqAt.shaped (.int i) && SeqAt.shaped (.int j)) = true then R.ok (D.bl (!PyData.eqv (.int i) (.int j))) S else .stuck) = _
  rw [if_pos (by simp [SeqAt.shaped, PyData.canLay0, PyData.depth])]
  simp only [PyData.eqv]
  rfl
@[simp] theorem o_max : oMax2 [.int i, .int j] S = .ok (.int (if j > i then j else i)) S := rfl
@[simp] theorem o_min : oMin2 [.int i, .int j] S = .ok (.int (if j < i then j else i)) S := rfl
@[simp] theorem o_int : oInt [.int i] S = .ok (.int i) S := rfl
@[simp] theorem o_lenT : oLenA [.tup ds] S = .ok (.int ds.length) S := rfl
@[simp] theorem o_lenL : oLenA [.lst ds] S = .ok (.int ds.length) S := rfl
@[simp] theorem o_tupT : oTuple [.tup ds] S = .ok (.tup ds) S := rfl
@[simp] theorem o_tupL : oTuple [.lst ds] S = .ok (.tup ds) S := rfl
@[simp] theorem o_ixT : oIx (.tup ds) (.int i) S = ofO (L2.atI ds i) S := rfl
@[simp] theorem o_ixL : oIx (.lst ds) (.int i) S = ofO (L2.atI ds i) S := rfl
@[simp] theorem o_ofS : ofO (some d) S = .ok d S := rfl
theorem o_rng1 (h0 : 0 ≤ j) (h1 : j ≤ 1000000) : rng1 [.int j] S = .ok (.rng 0 1 j.toNat) S := by
  exact if_pos (Nat.ble_eq_true_of_le (by omega))
theorem atI0 {α : Type} {x : α} {xs : List α} : L2.atI (x :: xs) 0 = some x := L2.atI_nat (j := 0) rfl
theorem atI1 {α : Type} {x y : α} {xs : List α} : L2.atI (x :: y :: xs) 1 = some y := L2.atI_nat (j := 1) rfl
theorem atI2 {α : Type} {x y z : α} {xs : List α} : L2.atI (x :: y :: z :: xs) 2 = some z := L2.atI_nat (j := 2) rfl
@[simp] theorem isNon_non : isNon .non = true := rfl
@[simp] theorem isNon_tup : isNon (.tup ds) = false := rfl
@[simp] theorem isNon_int : isNon (.int i) = false := rfl
theorem cMul_l {i j : Int} (h : i.natAbs < 18446744073709551616) : cMul i j = true := by simp [cMul, Nat.blt_eq, h]
theorem cMul_r {i j : Int} (h : j.natAbs < 18446744073709551616) : cMul i j = true := by simp [cMul, Nat.blt_eq, h]
theorem cPow_of {i j : Int} (h0 : 0 ≤ j) (h1 : j ≤ 1000000) (h : i.natAbs < 18446744073709551616) : cPow i j = true := by
  unfold cPow
  rw [Bool.and_eq_true, Bool.and_eq_true]
  exact ⟨⟨decide_eq_true h0, Nat.ble_eq_true_of_le (by omega)⟩, by rw [Nat.blt_eq]; exact h⟩
theorem cDiv_of {i j : Int} (h0 : 0 < j) (h1 : j < 18446744073709551616) : cDiv i j = true := by
  unfold cDiv
  refine decide_eq_true ⟨h0, ?_⟩
  have h2 : j.natAbs < 2 ^ 64 := by omega
  have h3 : j.natAbs.log2 < 64 := (Nat.log2_lt (by omega)).mpr h2
  omega
@[simp] theorem r_mk {m : Nat} (h : ds.length = n) : mkFn n m s ds S = (match s (ds.map some ++ List.replicate (m - n) none) S with
    | .ret d S' => .ok d S'
    | .nx _ S' => .ok .non S'
    | .exc x S' => .exc x S'
    | _ => .stuck) := if_pos h
theorem mk_ret {m : Nat} {S' : Sto} {ρ0 : Rho} (h : ds.length = n) (hρ : ds.map some ++ List.replicate (m - n) none = ρ0) (e : s ρ0 S = .ret d S') : mkFn n m s ds S = .ok d S' := by
  rw [r_mk h, hρ, e]
theorem mk_nx {m : Nat} {S' : Sto} {ρ0 ρ1 : Rho} (h : ds.length = n) (hρ : ds.map some ++ List.replicate (m - n) none = ρ0) (e : s ρ0 S = .nx ρ1 S') : mkFn n m s ds S = .ok .non S' := by
  rw [r_mk h, hρ, e]
end
end Ev

set_option Elab.async false
set_option linter.all false
set_option maxRecDepth 100000
set_option maxHeartbeats 0
/-! Den_k43: the denotations of the defs (printed by gen.py). -/
namespace k43
open PySem Ev
def b_is_integer (FU : Nat) : DS := (dRet (dAndV (dIsi "int" (dVar 0)) (dNotV (dIsi "bool" (dVar 0)))))
def f_is_integer (FU : Nat) : Fn := mkFn 1 1 (b_is_integer FU)
def b_is_between (FU : Nat) : DS := (dRet (dAndV (dCall (f_is_integer FU) (dCons (dVar 0) dNil)) (dChain (bI fun i j => .bl (decide (i ≤ j))) (bI fun i j => .bl (decide (i ≤ j))) (dVar 1) (dVar 0) (dVar 2))))
def f_is_between (FU : Nat) : Fn := mkFn 3 3 (b_is_between FU)
def b_are_between (FU : Nat) : DS := (dRet (dAndV (dIsi "tuple" (dVar 0)) (dCB oAll (dCons (dLc FU (iSeq (dVar 0)) (gnName 3) dYes (dCall (f_is_between FU) (dCons (dVar 3) (dCons (dVar 1) (dCons (dVar 2) dNil)))) [3] mkV) dNil))))
def f_are_between (FU : Nat) : Fn := mkFn 3 4 (b_are_between FU)
def b_are_bits_value (FU : Nat) : DS := (dRet (dCall (f_are_between FU) (dCons (dVar 0) (dCons (dC (.int 0)) (dCons (dC (.int 1)) dNil)))))
def f_are_bits_value (FU : Nat) : Fn := mkFn 1 1 (b_are_bits_value FU)
def b_need_bits (FU : Nat) : DS := (dIfS (dNotT (dTst (dCall (f_are_bits_value FU) (dCons (dVar 0) dNil)))) dNoS dNext)
def f_need_bits (FU : Nat) : Fn := mkFn 1 1 (b_need_bits FU)
def b_raw_wanted (FU : Nat) : DS := (dThen (dAsg (dTup (dCons (dVar 1) (dCons (dC (.int 0)) dNil))) (dN (gnTup (gnCons (gnTup (gnCons (gnName 6) (gnCons (gnName 7) gnNil))) (gnCons (gnName 4) gnNil)))))
  (dWhile FU (dTst (dC (.bl true))) (dThen (dWhile FU (dTst (dOp bLt (dVar 6) (dOp bShl (dC (.int 1)) (dVar 0)))) (dThen (dIfS (dTst (dOp bEq (dVar 4) (dCB oLenA (dCons (dVar 3) dNil)))) (dRet (dC .non)) dNext)
  (dPar3 6 7 4 (dCons (dOp bMul (dC (.int 2)) (dVar 6)) (dCons (dOp (bAdd mkV) (dOp bMul (dC (.int 2)) (dVar 7)) (dOp oIx (dVar 3) (dVar 4))) (dCons (dOp (bAdd mkV) (dVar 4) (dC (.int 1))) dNil))))))
  (dThen (dSet 5 (dOp bFdiv (dVar 6) (dVar 2)))
  (dThen (dIfS (dTst (dOp bLt (dVar 7) (dOp bMul (dVar 5) (dVar 2)))) (dRet (dTup (dCons (dOp bMod (dVar 7) (dVar 2)) (dCons (dTup (dCons (dVar 5) (dCons (dOp bFdiv (dVar 7) (dVar 2)) dNil))) (dCons (dVar 4) dNil))))) dNext)
  (dPar 6 7 (dCons (dOp bSub (dVar 6) (dOp bMul (dVar 5) (dVar 2))) (dCons (dOp bSub (dVar 7) (dOp bMul (dVar 5) (dVar 2))) dNil))))))))
def f_raw_wanted (FU : Nat) : Fn := mkFn 4 8 (b_raw_wanted FU)
def b_raw_row_wanted (FU : Nat) : DS := (dThen (dPar3 4 5 6 (dCons (dLoc dNil) (dCons (dTup (dCons (dC (.int 1)) (dCons (dC (.int 0)) dNil))) (dCons (dC (.int 0)) dNil))))
  (dThen (dFor FU (iSeq (dVar 1)) (dN (gnName 3)) (dThen (dSet 7 (dCall (f_raw_wanted FU) (dCons (dVar 0) (dCons (dVar 5) (dCons (dVar 3) (dCons (dSl (dVar 2) (some (dVar 6)) none mkV) dNil))))))
  (dThen (dIfS (dTst (dIsN (dVar 7))) (dRet (dC .non)) dNext)
  (dThen (dExpr (dBM isL oAppend (dVar 4) (dCons (dOp oIx (dVar 7) (dC (.int 0))) dNil)))
  (dPar 5 6 (dCons (dOp oIx (dVar 7) (dC (.int 1))) (dCons (dOp (bAdd mkV) (dVar 6) (dOp oIx (dVar 7) (dC (.int 2)))) dNil)))))))
  (dRet (dTup (dCons (dCB oTuple (dCons (dVar 4) dNil)) (dCons (dVar 5) (dCons (dVar 6) dNil)))))))
def f_raw_row_wanted (FU : Nat) : Fn := mkFn 3 8 (b_raw_row_wanted FU)
def b_need_width (FU : Nat) : DS := (dIfS (dNotT (dTst (dCall (f_is_between FU) (dCons (dVar 0) (dCons (dC (.int 1)) (dCons (dC (.int 12)) dNil)))))) dNoS dNext)
def f_need_width (FU : Nat) : Fn := mkFn 1 1 (b_need_width FU)
def b_most_want (FU : Nat) : DS := (dRet (dCB oMin2 (dCons (dC (.int 64)) (dCons (dOp bShl (dC (.int 1)) (dVar 0)) dNil))))
def f_most_want (FU : Nat) : Fn := mkFn 1 1 (b_most_want FU)
def b_need_wants (FU : Nat) : DS := (dThen (dExpr (dCall (f_need_width FU) (dCons (dVar 0) dNil)))
  (dIfS (dNotT (dTst (dCall (f_are_between FU) (dCons (dVar 1) (dCons (dC (.int 2)) (dCons (dCall (f_most_want FU) (dCons (dVar 0) dNil)) dNil)))))) dNoS dNext))
def f_need_wants (FU : Nat) : Fn := mkFn 2 2 (b_need_wants FU)
def b_row_wanted (FU : Nat) : DS := (dThen (dExpr (dCall (f_need_wants FU) (dCons (dVar 0) (dCons (dVar 1) dNil))))
  (dThen (dExpr (dCall (f_need_bits FU) (dCons (dVar 2) dNil)))
  (dRet (dCall (f_raw_row_wanted FU) (dCons (dVar 0) (dCons (dVar 1) (dCons (dVar 2) dNil)))))))
def f_row_wanted (FU : Nat) : Fn := mkFn 3 3 (b_row_wanted FU)
def b__law_deck (FU : Nat) : DS := (dThen (dSet 1 (dC (.int 13736440)))
  (dThen (dFor FU (iSeq (dSl (dVar 0) none (some (dC (.int 63))) mkV)) (dN (gnName 2)) (dSet 1 (dOp bMod (dCB oInt (dCons (dOp (bAdd mkV) (dOp (bAdd mkV) (dOp bMul (dVar 1) (dC (.int 69621))) (dOp bMod (dCB oInt (dCons (dVar 2) dNil)) (dC (.int 2147483629)))) (dC (.int 145))) dNil)) (dC (.int 2147483587)))))
  (dRet (dDisp [((dC (.str "cells")), (dUn (oRev mkL) (dCB oList (dCons (dSl (dVar 0) none (some (dC (.int 63))) mkV) dNil)))), ((dC (.str "mixed")), (dVar 1)), ((dC (.str "draws")), (dC (.int 0)))]))))
def f__law_deck (FU : Nat) : Fn := mkFn 1 3 (b__law_deck FU)
def b__law_draw (FU : Nat) : DS := (dThen (dAsg (dOp (bAdd mkV) (dOp oIx (dVar 0) (dC (.str "draws"))) (dC (.int 1))) (gIx (dVar 0) (dC (.str "draws"))))
  (dThen (dSet 2 (dOp (bAdd mkV) (dOp oIx (dVar 0) (dC (.str "mixed"))) (dOp bMul (dC (.int 61473)) (dOp oIx (dVar 0) (dC (.str "draws"))))))
  (dThen (dIfS (dTst (dOp bNe (dOp oIx (dVar 0) (dC (.str "cells"))) (dLst dNil))) (dThen (dSet 3 (dBM isL oPop (dOp oIx (dVar 0) (dC (.str "cells"))) dNil))
  (dThen (dIfS (dTst (dOp bGe (dVar 3) (dOp bPow (dC (.int 10)) (dC (.int 18))))) (dThen (dExpr (dBM isL oAppend (dOp oIx (dVar 0) (dC (.str "cells"))) (dCons (dOp bFdiv (dVar 3) (dCB oMax2 (dCons (dC (.int 2)) (dCons (dVar 1) dNil)))) dNil)))
  (dRet (dOp bMod (dCB oInt (dCons (dVar 3) dNil)) (dVar 1)))) dNext)
  (dSet 2 (dOp (bAdd mkV) (dVar 2) (dOp bMod (dCB oInt (dCons (dVar 3) dNil)) (dC (.int 2147483629))))))) dNext)
  (dThen (dSet 2 (dOp bMod (dCB oInt (dCons (dOp (bAdd mkV) (dOp bMul (dVar 2) (dC (.int 39373))) (dC (.int 145))) dNil)) (dC (.int 2147483647))))
  (dThen (dSet 2 (dOp bMod (dCB oInt (dCons (dOp (bAdd mkV) (dOp (bAdd mkV) (dOp bMul (dVar 2) (dVar 2)) (dOp bMul (dC (.int 52713)) (dOp oIx (dVar 0) (dC (.str "draws"))))) (dC (.int 295))) dNil)) (dC (.int 2147483587))))
  (dThen (dSet 2 (dOp bMod (dCB oInt (dCons (dOp bMul (dVar 2) (dC (.int 40692))) dNil)) (dC (.int 2147483563))))
  (dRet (dOp bMod (dCB oInt (dCons (dOp bFdiv (dVar 2) (dC (.int 64))) dNil)) (dVar 1)))))))))
def f__law_draw (FU : Nat) : Fn := mkFn 2 4 (b__law_draw FU)
def b__law_pick (FU : Nat) : DS := (dRet (dOp oIx (dVar 1) (dCall (f__law_draw FU) (dCons (dVar 0) (dCons (dCB oLenA (dCons (dVar 1) dNil)) dNil)))))
def f__law_pick (FU : Nat) : Fn := mkFn 2 2 (b__law_pick FU)
def b__law_bits (FU : Nat) : DS := (dRet (dCB oTuple (dCons (dLc FU (iArg rng1 (dCons (dVar 1) dNil)) (gnName 2) dYes (dCall (f__law_draw FU) (dCons (dVar 0) (dCons (dC (.int 2)) dNil))) [2] mkV) dNil)))
def f__law_bits (FU : Nat) : Fn := mkFn 2 3 (b__law_bits FU)
def b__law_wanted (FU : Nat) : DS := (dThen (dAsg (dTup (dCons (dVar 1) (dCons (dC (.int 0)) dNil))) (dN (gnTup (gnCons (gnTup (gnCons (gnName 7) (gnCons (gnName 8) gnNil))) (gnCons (gnName 5) gnNil)))))
  (dThen (dFor FU (iArg rng1 (dCons (dOp (bAdd mkV) (dCB oLenA (dCons (dVar 3) dNil)) (dC (.int 2))) dNil)) (dN (gnName 4)) (dThen (dWhile FU (dTst (dOp bLt (dVar 7) (dOp bShl (dC (.int 1)) (dVar 0)))) (dThen (dIfS (dTst (dOp bEq (dVar 5) (dCB oLenA (dCons (dVar 3) dNil)))) (dRet (dC .non)) dNext)
  (dPar3 7 8 5 (dCons (dOp bMul (dC (.int 2)) (dVar 7)) (dCons (dOp (bAdd mkV) (dOp bMul (dC (.int 2)) (dVar 8)) (dOp oIx (dVar 3) (dVar 5))) (dCons (dOp (bAdd mkV) (dVar 5) (dC (.int 1))) dNil))))))
  (dThen (dSet 6 (dOp bFdiv (dVar 7) (dVar 2)))
  (dThen (dIfS (dTst (dOp bLt (dVar 8) (dOp bMul (dVar 6) (dVar 2)))) (dRet (dTup (dCons (dOp bMod (dCB oInt (dCons (dVar 8) dNil)) (dVar 2)) (dCons (dTup (dCons (dVar 6) (dCons (dOp bFdiv (dVar 8) (dVar 2)) dNil))) (dCons (dVar 5) dNil))))) dNext)
  (dPar 7 8 (dCons (dOp bSub (dVar 7) (dOp bMul (dVar 6) (dVar 2))) (dCons (dOp bSub (dVar 8) (dOp bMul (dVar 6) (dVar 2))) dNil)))))))
  (dRet (dC .non))))
def f__law_wanted (FU : Nat) : Fn := mkFn 4 9 (b__law_wanted FU)
def b__law_row_wanted (FU : Nat) : DS := (dThen (dAsg (dTup (dCons (dTup (dCons (dC (.int 1)) (dCons (dC (.int 0)) dNil))) (dCons (dTup dNil) (dCons (dC (.int 0)) dNil)))) (dN (gnTup (gnCons (gnName 4) (gnCons (gnName 5) (gnCons (gnName 6) gnNil))))))
  (dThen (dFor FU (iSeq (dVar 1)) (dN (gnName 3)) (dThen (dSet 7 (dCall (f__law_wanted FU) (dCons (dVar 0) (dCons (dVar 4) (dCons (dVar 3) (dCons (dSl (dVar 2) (some (dVar 6)) none mkV) dNil))))))
  (dThen (dIfS (dTst (dIsN (dVar 7))) (dRet (dC .non)) dNext)
  (dPar3 5 4 6 (dCons (dOp (bAdd mkV) (dVar 5) (dTup (dCons (dOp oIx (dVar 7) (dC (.int 0))) dNil))) (dCons (dOp oIx (dVar 7) (dC (.int 1))) (dCons (dOp (bAdd mkV) (dVar 6) (dOp oIx (dVar 7) (dC (.int 2)))) dNil)))))))
  (dRet (dTup (dCons (dVar 5) (dCons (dVar 4) (dCons (dVar 6) dNil)))))))
def f__law_row_wanted (FU : Nat) : Fn := mkFn 3 8 (b__law_row_wanted FU)
def b__law_width (FU : Nat) : DS := (dRet (dOp (bAdd mkV) (dC (.int 1)) (dCall (f__law_draw FU) (dCons (dVar 0) (dCons (dVar 1) dNil)))))
def f__law_width (FU : Nat) : Fn := mkFn 2 2 (b__law_width FU)
def b__law_want (FU : Nat) : DS := (dThen (dSet 2 (dCB oMin2 (dCons (dC (.int 64)) (dCons (dOp bShl (dC (.int 1)) (dVar 1)) dNil))))
  (dRet (dIf (dTst (dOp bEq (dCall (f__law_draw FU) (dCons (dVar 0) (dCons (dC (.int 2)) dNil))) (dC (.int 0)))) (dCB oMin2 (dCons (dVar 2) (dCons (dOp (bAdd mkV) (dC (.int 2)) (dCall (f__law_draw FU) (dCons (dVar 0) (dCons (dOp bSub (dVar 2) (dC (.int 1))) dNil)))) dNil))) (dCB oMin2 (dCons (dVar 2) (dCons (dOp (bAdd mkV) (dC (.int 2)) (dCall (f__law_draw FU) (dCons (dVar 0) (dCons (dC (.int 6)) dNil)))) dNil))))))
def f__law_want (FU : Nat) : Fn := mkFn 2 3 (b__law_want FU)
def b_need_want (FU : Nat) : DS := (dIfS (dNotT (dTst (dCall (f_is_between FU) (dCons (dVar 1) (dCons (dC (.int 2)) (dCons (dCall (f_most_want FU) (dCons (dVar 0) dNil)) dNil)))))) dNoS dNext)
def f_need_want (FU : Nat) : Fn := mkFn 2 2 (b_need_want FU)
def b_is_rest (FU : Nat) : DS := (dThen (dIfS (dOrT (dNotT (dTst (dIsi "tuple" (dVar 1)))) (dOrT (dTst (dOp bNe (dCB oLenA (dCons (dVar 1) dNil)) (dC (.int 2)))) (dNotT (dTst (dCall (f_is_between FU) (dCons (dOp oIx (dVar 1) (dC (.int 0))) (dCons (dC (.int 1)) (dCons (dOp bSub (dOp bShl (dC (.int 2)) (dVar 0)) (dC (.int 1))) dNil)))))))) (dRet (dC (.bl false))) dNext)
  (dRet (dCall (f_is_between FU) (dCons (dOp oIx (dVar 1) (dC (.int 1))) (dCons (dC (.int 0)) (dCons (dOp bSub (dOp oIx (dVar 1) (dC (.int 0))) (dC (.int 1))) dNil))))))
def f_is_rest (FU : Nat) : Fn := mkFn 2 2 (b_is_rest FU)
def b_wanted (FU : Nat) : DS := (dThen (dExpr (dCall (f_need_width FU) (dCons (dVar 0) dNil)))
  (dThen (dIfS (dNotT (dTst (dCall (f_is_rest FU) (dCons (dVar 0) (dCons (dVar 1) dNil))))) dNoS dNext)
  (dThen (dExpr (dCall (f_need_want FU) (dCons (dVar 0) (dCons (dVar 2) dNil))))
  (dThen (dExpr (dCall (f_need_bits FU) (dCons (dVar 3) dNil)))
  (dRet (dCall (f_raw_wanted FU) (dCons (dVar 0) (dCons (dVar 1) (dCons (dVar 2) (dCons (dVar 3) dNil))))))))))
def f_wanted (FU : Nat) : Fn := mkFn 4 4 (b_wanted FU)
def b__law_one_by_one (FU : Nat) : DS := (dThen (dAsg (dTup (dCons (dTup (dCons (dC (.int 1)) (dCons (dC (.int 0)) dNil))) (dCons (dTup dNil) (dCons (dC (.int 0)) dNil)))) (dN (gnTup (gnCons (gnName 4) (gnCons (gnName 5) (gnCons (gnName 6) gnNil))))))
  (dThen (dFor FU (iSeq (dVar 1)) (dN (gnName 3)) (dThen (dSet 7 (dCall (f_wanted FU) (dCons (dVar 0) (dCons (dVar 4) (dCons (dVar 3) (dCons (dSl (dVar 2) (some (dVar 6)) none mkV) dNil))))))
  (dThen (dIfS (dTst (dIsN (dVar 7))) (dRet (dC .non)) dNext)
  (dPar3 5 4 6 (dCons (dOp (bAdd mkV) (dVar 5) (dTup (dCons (dOp oIx (dVar 7) (dC (.int 0))) dNil))) (dCons (dOp oIx (dVar 7) (dC (.int 1))) (dCons (dOp (bAdd mkV) (dVar 6) (dOp oIx (dVar 7) (dC (.int 2)))) dNil)))))))
  (dRet (dTup (dCons (dVar 5) (dCons (dVar 4) (dCons (dVar 6) dNil)))))))
def f__law_one_by_one (FU : Nat) : Fn := mkFn 3 8 (b__law_one_by_one FU)
def b__law_are_even (FU : Nat) : DS := (dThen (dPar 5 6 (dCons dNewN (dCons (dLoc (dCons (dTup dNil) dNil)) dNil)))
  (dThen (dWhile FU (dTst (dOp bNe (dVar 6) (dLst dNil))) (dThen (dSet 7 (dBM isL oPop (dVar 6) dNil))
  (dThen (dSet 8 (dCall (f_row_wanted FU) (dCons (dVar 0) (dCons (dVar 1) (dCons (dVar 7) dNil)))))
  (dThen (dIfS (dTst (dRN (dVar 8) (dCall (f__law_row_wanted FU) (dCons (dVar 0) (dCons (dVar 1) (dCons (dVar 7) dNil)))))) (dRet (dC (.bl false))) dNext)
  (dThen (dIfS (dAndT (dTst (dIsN (dVar 8))) (dTst (dOp bLt (dCB oLenA (dCons (dVar 7) dNil)) (dVar 2)))) (dSet 6 (dOp (bAdd mkL) (dVar 6) (dLst (dCons (dOp (bAdd mkV) (dVar 7) (dTup (dCons (dC (.int 0)) dNil))) (dCons (dOp (bAdd mkV) (dVar 7) (dTup (dCons (dC (.int 1)) dNil))) dNil))))) dNext)
  (dIfS (dTst (dNotN (dVar 8))) (dThen (dIfS (dTst (dOp bNe (dOp oIx (dVar 8) (dC (.int 2))) (dCB oLenA (dCons (dVar 7) dNil)))) (dRet (dC (.bl false))) dNext)
  (dThen (dAsg (dVar 8) (dN (gnTup (gnCons (gnName 12) (gnCons (gnTup (gnCons (gnName 10) (gnCons (gnName 13) gnNil))) (gnCons (gnName 9) gnNil))))))
  (dThen (dSet 11 (dGet2 (dVar 5) (dTup (dCons (dVar 9) (dCons (dVar 10) dNil))) dNewN))
  (dThen (dAsg (dOp (bAdd mkV) (dGet2 (dVar 11) (dTup (dCons (dVar 12) (dCons (dVar 13) dNil))) (dC (.int 0))) (dC (.int 1))) (gIx (dVar 11) (dTup (dCons (dVar 12) (dCons (dVar 13) dNil)))))
  (dAsg (dVar 11) (gIx (dVar 5) (dTup (dCons (dVar 9) (dCons (dVar 10) dNil))))))))) dNext))))))
  (dThen (dSet 3 (dC (.int 1)))
  (dThen (dFor FU (iSeq (dVar 1)) (dN (gnName 4)) (dSet 3 (dOp bMul (dVar 3) (dVar 4))))
  (dThen (dFor FU (iSeq (dCB oSortedN (dCons (dVar 5) dNil))) (dN (gnTup (gnCons (gnName 9) (gnCons (gnName 10) gnNil)))) (dThen (dSet 11 (dOp oIx (dVar 5) (dTup (dCons (dVar 9) (dCons (dVar 10) dNil)))))
  (dIfS (dOrT (dTst (dOp bNe (dCB oLenA (dCons (dVar 11) dNil)) (dOp bMul (dVar 3) (dVar 10)))) (dTst (dOp bNe (dLenSet (dVals 14 mkV (dVar 11))) (dC (.int 1))))) (dRet (dC (.bl false))) dNext)))
  (dRet (dC (.bl true))))))))
def f__law_are_even (FU : Nat) : Fn := mkFn 3 15 (b__law_are_even FU)
def b_law (FU : Nat) : DS := (dThen (dSet 1 (dCall (f__law_deck FU) (dCons (dVar 0) dNil)))
  (dThen (dFor FU (iArg rng1 (dCons (dC (.int 5)) dNil)) (dN (gnName 2)) (dThen (dSet 3 (dCall (f__law_width FU) (dCons (dVar 1) (dCons (dC (.int 12)) dNil))))
  (dThen (dSet 4 (dCB oTuple (dCons (dLc FU (iArg rng1 (dCons (dCall (f__law_pick FU) (dCons (dVar 1) (dCons (dLst (dCons (dC (.int 1)) (dCons (dC (.int 2)) (dCons (dC (.int 3)) (dCons (dC (.int 5)) (dCons (dC (.int 0)) (dCons (dC (.int 12)) dNil))))))) dNil))) dNil)) (gnName 7) dYes (dCall (f__law_want FU) (dCons (dVar 1) (dCons (dVar 3) dNil))) [7] mkV) dNil)))
  (dThen (dSet 5 (dCall (f__law_bits FU) (dCons (dVar 1) (dCons (dCall (f__law_pick FU) (dCons (dVar 1) (dCons (dLst (dCons (dC (.int 20)) (dCons (dC (.int 40)) (dCons (dC (.int 100)) (dCons (dC (.int 5)) (dCons (dC (.int 0)) (dCons (dIf (dTst (dOp bEq (dVar 2) (dC (.int 0)))) (dC (.int 400)) (dC (.int 60))) dNil))))))) dNil))) dNil))))
  (dThen (dSet 6 (dCall (f__law_row_wanted FU) (dCons (dVar 3) (dCons (dVar 4) (dCons (dVar 5) dNil)))))
  (dThen (dIfS (dTst (dRN (dTup (dCons (dCall (f_row_wanted FU) (dCons (dVar 3) (dCons (dVar 4) (dCons (dVar 5) dNil)))) (dCons (dCallK [2, 1, 0] (f_row_wanted FU) (dCons (dVar 5) (dCons (dVar 4) (dCons (dVar 3) dNil)))) dNil))) (dTup (dCons (dVar 6) (dCons (dVar 6) dNil))))) (dRet (dC (.bl false))) dNext)
  (dThen (dIfS (dAndT (dTst (dOp bLt (dCB oLenA (dCons (dVar 5) dNil)) (dC (.int 120)))) (dTst (dRN (dCall (f__law_one_by_one FU) (dCons (dVar 3) (dCons (dVar 4) (dCons (dVar 5) dNil)))) (dVar 6)))) (dRet (dC (.bl false))) dNext)
  (dIfS (dAndT (dTst (dNotN (dVar 6))) (dTst (dRN (dCall (f_row_wanted FU) (dCons (dVar 3) (dCons (dVar 4) (dCons (dOp (bAdd mkV) (dSl (dVar 5) none (some (dOp oIx (dVar 6) (dC (.int 2)))) mkV) (dCall (f__law_bits FU) (dCons (dVar 1) (dCons (dC (.int 4)) dNil)))) dNil)))) (dVar 6)))) (dRet (dC (.bl false))) dNext))))))))
  (dThen (dSet 3 (dOp (bAdd mkV) (dC (.int 2)) (dCall (f__law_draw FU) (dCons (dVar 1) (dCons (dC (.int 3)) dNil)))))
  (dThen (dSet 4 (dCall (f__law_pick FU) (dCons (dVar 1) (dCons (dLst (dCons (dTup (dCons (dC (.int 3)) dNil)) (dCons (dTup (dCons (dC (.int 2)) (dCons (dC (.int 3)) dNil))) (dCons (dTup (dCons (dC (.int 3)) (dCons (dC (.int 2)) dNil))) (dCons (dTup (dCons (dC (.int 4)) dNil)) (dCons (dTup (dCons (dC (.int 2)) (dCons (dC (.int 2)) dNil))) (dCons (dTup (dCons (dC (.int 3)) (dCons (dC (.int 3)) dNil))) (dCons (dTup (dCons (dC (.int 4)) (dCons (dC (.int 3)) dNil))) (dCons (dTup (dCons (dC (.int 2)) (dCons (dC (.int 2)) (dCons (dC (.int 3)) dNil)))) dNil))))))))) dNil))))
  (dThen (dIfS (dTst (dOp bGt (dVar 3) (dC (.int 2)))) (dSet 4 (dCall (f__law_pick FU) (dCons (dVar 1) (dCons (dLst (dCons (dVar 4) (dCons (dTup (dCons (dC (.int 5)) dNil)) (dCons (dTup (dCons (dC (.int 7)) dNil)) (dCons (dTup (dCons (dC (.int 6)) dNil)) (dCons (dTup (dCons (dC (.int 5)) (dCons (dC (.int 2)) dNil))) (dCons (dTup (dCons (dC (.int 8)) dNil)) (dCons (dTup (dCons (dC (.int 5)) (dCons (dC (.int 3)) dNil))) (dCons (dTup (dCons (dC (.int 2)) (dCons (dC (.int 7)) dNil))) dNil))))))))) dNil)))) dNext)
  (dRet (dCall (freshC (f__law_are_even FU)) (dCons (dVar 3) (dCons (dVar 4) (dCons (dC (.int 7)) dNil))))))))))
def f_law (FU : Nat) : Fn := mkFn 1 8 (b_law FU)
end k43

set_option Elab.async false
set_option linter.all false
set_option maxRecDepth 100000
set_option maxHeartbeats 0
/-! Der_k43: each def has its denotation (printed by gen.py). -/
namespace k43
open PySem PySem.Spec PyProof.Rows L2 Ev
def top (i : Nat) : Stmt := PySem.Challenge.pw_drawnbits_k43_whole_rows_of_wants.main.body.getD i (.Pass ⟨0, 0, 0, 0⟩)
abbrev FU : Nat := 100000
abbrev CXn : CXT := fun _ _ _ _ _ _ => False
theorem passN {X : Cx} {E : XK} : Passes CXn X E := fun _ _ _ _ _ _ _ h => h.elim
abbrev N_is_integer : List Str := ["thing"]
theorem sc_is_integer : FnScope N_is_integer ["thing"] (defScope (top 6)) := ⟨by kernel_rfl, by kernel_rfl, by kernel_rfl, by decide +kernel, by rfl, by decide +kernel, by decide +kernel⟩
abbrev N_is_between : List Str := ["thing", "least", "most"]
theorem sc_is_between : FnScope N_is_between ["thing", "least", "most"] (defScope (top 7)) := ⟨by kernel_rfl, by kernel_rfl, by kernel_rfl, by decide +kernel, by rfl, by decide +kernel, by decide +kernel⟩
abbrev N_are_between : List Str := ["thing", "least", "most", "part"]
theorem sc_are_between : FnScope N_are_between ["thing", "least", "most"] (defScope (top 8)) := ⟨by kernel_rfl, by kernel_rfl, by kernel_rfl, by decide +kernel, by rfl, by decide +kernel, by decide +kernel⟩
abbrev N_are_bits_value : List Str := ["thing"]
theorem sc_are_bits_value : FnScope N_are_bits_value ["thing"] (defScope (top 9)) := ⟨by kernel_rfl, by kernel_rfl, by kernel_rfl, by decide +kernel, by rfl, by decide +kernel, by decide +kernel⟩
abbrev N_need_bits : List Str := ["bits"]
theorem sc_need_bits : FnScope N_need_bits ["bits"] (defScope (top 11)) := ⟨by kernel_rfl, by kernel_rfl, by kernel_rfl, by decide +kernel, by rfl, by decide +kernel, by decide +kernel⟩
abbrev N_raw_wanted : List Str := ["w", "rest", "n", "bits", "taken", "q", "m", "r"]
theorem sc_raw_wanted : FnScope N_raw_wanted ["w", "rest", "n", "bits"] (defScope (top 13)) := ⟨by kernel_rfl, by kernel_rfl, by kernel_rfl, by decide +kernel, by rfl, by decide +kernel, by decide +kernel⟩
abbrev N_raw_row_wanted : List Str := ["w", "wants", "bits", "n", "outcomes", "rest", "taken", "told"]
theorem sc_raw_row_wanted : FnScope N_raw_row_wanted ["w", "wants", "bits"] (defScope (top 14)) := ⟨by kernel_rfl, by kernel_rfl, by kernel_rfl, by decide +kernel, by rfl, by decide +kernel, by decide +kernel⟩
abbrev N_need_width : List Str := ["w"]
theorem sc_need_width : FnScope N_need_width ["w"] (defScope (top 18)) := ⟨by kernel_rfl, by kernel_rfl, by kernel_rfl, by decide +kernel, by rfl, by decide +kernel, by decide +kernel⟩
abbrev N_most_want : List Str := ["w"]
theorem sc_most_want : FnScope N_most_want ["w"] (defScope (top 19)) := ⟨by kernel_rfl, by kernel_rfl, by kernel_rfl, by decide +kernel, by rfl, by decide +kernel, by decide +kernel⟩
abbrev N_need_wants : List Str := ["w", "wants"]
theorem sc_need_wants : FnScope N_need_wants ["w", "wants"] (defScope (top 21)) := ⟨by kernel_rfl, by kernel_rfl, by kernel_rfl, by decide +kernel, by rfl, by decide +kernel, by decide +kernel⟩
abbrev N_row_wanted : List Str := ["w", "wants", "bits"]
theorem sc_row_wanted : FnScope N_row_wanted ["w", "wants", "bits"] (defScope (top 24)) := ⟨by kernel_rfl, by kernel_rfl, by kernel_rfl, by decide +kernel, by rfl, by decide +kernel, by decide +kernel⟩
abbrev N__law_deck : List Str := ["_law_script", "_law_mixed", "_law_cell"]
theorem sc__law_deck : FnScope N__law_deck ["_law_script"] (defScope (top 26)) := ⟨by kernel_rfl, by kernel_rfl, by kernel_rfl, by decide +kernel, by rfl, by decide +kernel, by decide +kernel⟩
abbrev N__law_draw : List Str := ["_law_deck_here", "_law_many", "_law_number", "_law_cell"]
theorem sc__law_draw : FnScope N__law_draw ["_law_deck_here", "_law_many"] (defScope (top 27)) := ⟨by kernel_rfl, by kernel_rfl, by kernel_rfl, by decide +kernel, by rfl, by decide +kernel, by decide +kernel⟩
abbrev N__law_pick : List Str := ["_law_deck_here", "_law_some"]
theorem sc__law_pick : FnScope N__law_pick ["_law_deck_here", "_law_some"] (defScope (top 28)) := ⟨by kernel_rfl, by kernel_rfl, by kernel_rfl, by decide +kernel, by rfl, by decide +kernel, by decide +kernel⟩
abbrev N__law_bits : List Str := ["_law_deck_here", "_law_many", "_law_turn"]
theorem sc__law_bits : FnScope N__law_bits ["_law_deck_here", "_law_many"] (defScope (top 29)) := ⟨by kernel_rfl, by kernel_rfl, by kernel_rfl, by decide +kernel, by rfl, by decide +kernel, by decide +kernel⟩
abbrev N__law_wanted : List Str := ["_law_w", "_law_rest", "_law_n", "_law_bits_here", "_law_turn", "_law_taken", "_law_q", "_law_m", "_law_r"]
theorem sc__law_wanted : FnScope N__law_wanted ["_law_w", "_law_rest", "_law_n", "_law_bits_here"] (defScope (top 30)) := ⟨by kernel_rfl, by kernel_rfl, by kernel_rfl, by decide +kernel, by rfl, by decide +kernel, by decide +kernel⟩
abbrev N__law_row_wanted : List Str := ["_law_w", "_law_wants", "_law_bits_here", "_law_n", "_law_rest", "_law_found", "_law_taken", "_law_told"]
theorem sc__law_row_wanted : FnScope N__law_row_wanted ["_law_w", "_law_wants", "_law_bits_here"] (defScope (top 31)) := ⟨by kernel_rfl, by kernel_rfl, by kernel_rfl, by decide +kernel, by rfl, by decide +kernel, by decide +kernel⟩
abbrev N__law_width : List Str := ["_law_deck_here", "_law_most"]
theorem sc__law_width : FnScope N__law_width ["_law_deck_here", "_law_most"] (defScope (top 32)) := ⟨by kernel_rfl, by kernel_rfl, by kernel_rfl, by decide +kernel, by rfl, by decide +kernel, by decide +kernel⟩
abbrev N__law_want : List Str := ["_law_deck_here", "_law_w", "_law_most"]
theorem sc__law_want : FnScope N__law_want ["_law_deck_here", "_law_w"] (defScope (top 33)) := ⟨by kernel_rfl, by kernel_rfl, by kernel_rfl, by decide +kernel, by rfl, by decide +kernel, by decide +kernel⟩
abbrev N_need_want : List Str := ["w", "n"]
theorem sc_need_want : FnScope N_need_want ["w", "n"] (defScope (top 20)) := ⟨by kernel_rfl, by kernel_rfl, by kernel_rfl, by decide +kernel, by rfl, by decide +kernel, by decide +kernel⟩
abbrev N_is_rest : List Str := ["w", "thing"]
theorem sc_is_rest : FnScope N_is_rest ["w", "thing"] (defScope (top 22)) := ⟨by kernel_rfl, by kernel_rfl, by kernel_rfl, by decide +kernel, by rfl, by decide +kernel, by decide +kernel⟩
abbrev N_wanted : List Str := ["w", "rest", "n", "bits"]
theorem sc_wanted : FnScope N_wanted ["w", "rest", "n", "bits"] (defScope (top 23)) := ⟨by kernel_rfl, by kernel_rfl, by kernel_rfl, by decide +kernel, by rfl, by decide +kernel, by decide +kernel⟩
abbrev N__law_one_by_one : List Str := ["_law_w", "_law_wants", "_law_bits_here", "_law_n", "_law_rest", "_law_found", "_law_taken", "_law_told"]
theorem sc__law_one_by_one : FnScope N__law_one_by_one ["_law_w", "_law_wants", "_law_bits_here"] (defScope (top 34)) := ⟨by kernel_rfl, by kernel_rfl, by kernel_rfl, by decide +kernel, by rfl, by decide +kernel, by decide +kernel⟩
abbrev N__law_are_even : List Str := ["_law_w", "_law_wants", "_law_most", "_law_product", "_law_n", "_law_lots", "_law_todo", "_law_bits_here", "_law_told", "_law_taken", "_law_m", "_law_lot", "_law_outcomes", "_law_r", "_law_many"]
theorem sc__law_are_even : FnScope N__law_are_even ["_law_w", "_law_wants", "_law_most"] (defScope (top 35)) := ⟨by kernel_rfl, by kernel_rfl, by kernel_rfl, by decide +kernel, by rfl, by decide +kernel, by decide +kernel⟩
abbrev N_law : List Str := ["_law_script", "_law_deck_here", "_law_turn", "_law_w", "_law_wants", "_law_bits_here", "_law_due", "_law_at"]
theorem sc_law : FnScope N_law ["_law_script"] (defScope (top 36)) := ⟨by kernel_rfl, by kernel_rfl, by kernel_rfl, by decide +kernel, by rfl, by decide +kernel, by decide +kernel⟩
/-- what the head tells -/
structure Gv (K : PySem.W.Frag) (mg : Str → Option Value) : Prop where
  f_all : mg "all" = none
  f_bool : mg "bool" = none
  f_int : mg "int" = none
  f_isinstance : mg "isinstance" = none
  f_len : mg "len" = none
  f_list : mg "list" = none
  f_max : mg "max" = none
  f_min : mg "min" = none
  f_range : mg "range" = none
  f_repr : mg "repr" = none
  f_set : mg "set" = none
  f_sorted : mg "sorted" = none
  f_tuple : mg "tuple" = none
  i_MOST_WANT : ∃ t, mg "MOST_WANT" = some (.int 64 t)
  i_MOST_WIDTH : ∃ t, mg "MOST_WIDTH" = some (.int 12 t)
  k_bool : ∀ t ∈ kinds, PySem.W.kitOne K (.type t) (.type "bool") = some (isaB t "bool")
  k_int : ∀ t ∈ kinds, PySem.W.kitOne K (.type t) (.type "int") = some (isaB t "int")
  k_tuple : ∀ t ∈ kinds, PySem.W.kitOne K (.type t) (.type "tuple") = some (isaB t "tuple")
  d_is_integer : ∃ f fd, FunD K "is_integer" "is_integer" (defArgs (top 6)) (defBody (top 6)) (defScope (top 6)) [] [] f fd ∧ mg "is_integer" = some (.ref f)
  d_is_between : ∃ f fd, FunD K "is_between" "is_between" (defArgs (top 7)) (defBody (top 7)) (defScope (top 7)) [] [] f fd ∧ mg "is_between" = some (.ref f)
  d_are_between : ∃ f fd, FunD K "are_between" "are_between" (defArgs (top 8)) (defBody (top 8)) (defScope (top 8)) [] [] f fd ∧ mg "are_between" = some (.ref f)
  d_are_bits_value : ∃ f fd, FunD K "are_bits_value" "are_bits_value" (defArgs (top 9)) (defBody (top 9)) (defScope (top 9)) [] [] f fd ∧ mg "are_bits_value" = some (.ref f)
  d_need_bits : ∃ f fd, FunD K "need_bits" "need_bits" (defArgs (top 11)) (defBody (top 11)) (defScope (top 11)) [] [] f fd ∧ mg "need_bits" = some (.ref f)
  d_raw_wanted : ∃ f fd, FunD K "raw_wanted" "raw_wanted" (defArgs (top 13)) (defBody (top 13)) (defScope (top 13)) [] [] f fd ∧ mg "raw_wanted" = some (.ref f)
  d_raw_row_wanted : ∃ f fd, FunD K "raw_row_wanted" "raw_row_wanted" (defArgs (top 14)) (defBody (top 14)) (defScope (top 14)) [] [] f fd ∧ mg "raw_row_wanted" = some (.ref f)
  d_need_width : ∃ f fd, FunD K "need_width" "need_width" (defArgs (top 18)) (defBody (top 18)) (defScope (top 18)) [] [] f fd ∧ mg "need_width" = some (.ref f)
  d_most_want : ∃ f fd, FunD K "most_want" "most_want" (defArgs (top 19)) (defBody (top 19)) (defScope (top 19)) [] [] f fd ∧ mg "most_want" = some (.ref f)
  d_need_wants : ∃ f fd, FunD K "need_wants" "need_wants" (defArgs (top 21)) (defBody (top 21)) (defScope (top 21)) [] [] f fd ∧ mg "need_wants" = some (.ref f)
  d_row_wanted : ∃ f fd, FunD K "row_wanted" "row_wanted" (defArgs (top 24)) (defBody (top 24)) (defScope (top 24)) [] [] f fd ∧ mg "row_wanted" = some (.ref f)
  d__law_deck : ∃ f fd, FunD K "_law_deck" "_law_deck" (defArgs (top 26)) (defBody (top 26)) (defScope (top 26)) [] [] f fd ∧ mg "_law_deck" = some (.ref f)
  d__law_draw : ∃ f fd, FunD K "_law_draw" "_law_draw" (defArgs (top 27)) (defBody (top 27)) (defScope (top 27)) [] [] f fd ∧ mg "_law_draw" = some (.ref f)
  d__law_pick : ∃ f fd, FunD K "_law_pick" "_law_pick" (defArgs (top 28)) (defBody (top 28)) (defScope (top 28)) [] [] f fd ∧ mg "_law_pick" = some (.ref f)
  d__law_bits : ∃ f fd, FunD K "_law_bits" "_law_bits" (defArgs (top 29)) (defBody (top 29)) (defScope (top 29)) [] [] f fd ∧ mg "_law_bits" = some (.ref f)
  d__law_wanted : ∃ f fd, FunD K "_law_wanted" "_law_wanted" (defArgs (top 30)) (defBody (top 30)) (defScope (top 30)) [] [] f fd ∧ mg "_law_wanted" = some (.ref f)
  d__law_row_wanted : ∃ f fd, FunD K "_law_row_wanted" "_law_row_wanted" (defArgs (top 31)) (defBody (top 31)) (defScope (top 31)) [] [] f fd ∧ mg "_law_row_wanted" = some (.ref f)
  d__law_width : ∃ f fd, FunD K "_law_width" "_law_width" (defArgs (top 32)) (defBody (top 32)) (defScope (top 32)) [] [] f fd ∧ mg "_law_width" = some (.ref f)
  d__law_want : ∃ f fd, FunD K "_law_want" "_law_want" (defArgs (top 33)) (defBody (top 33)) (defScope (top 33)) [] [] f fd ∧ mg "_law_want" = some (.ref f)
  d_need_want : ∃ f fd, FunD K "need_want" "need_want" (defArgs (top 20)) (defBody (top 20)) (defScope (top 20)) [] [] f fd ∧ mg "need_want" = some (.ref f)
  d_is_rest : ∃ f fd, FunD K "is_rest" "is_rest" (defArgs (top 22)) (defBody (top 22)) (defScope (top 22)) [] [] f fd ∧ mg "is_rest" = some (.ref f)
  d_wanted : ∃ f fd, FunD K "wanted" "wanted" (defArgs (top 23)) (defBody (top 23)) (defScope (top 23)) [] [] f fd ∧ mg "wanted" = some (.ref f)
  d__law_one_by_one : ∃ f fd, FunD K "_law_one_by_one" "_law_one_by_one" (defArgs (top 34)) (defBody (top 34)) (defScope (top 34)) [] [] f fd ∧ mg "_law_one_by_one" = some (.ref f)
  d__law_are_even : ∃ f fd, FunD K "_law_are_even" "_law_are_even" (defArgs (top 35)) (defBody (top 35)) (defScope (top 35)) [] [] f fd ∧ mg "_law_are_even" = some (.ref f)
  d_law : ∃ f fd, FunD K "law" "law" (defArgs (top 36)) (defBody (top 36)) (defScope (top 36)) [] [] f fd ∧ mg "law" = some (.ref f)
section
variable {P : Program} {w : World} {K : PySem.W.Frag} {mg : Str → Option Value} {base : Heap}
theorem ar_is_integer (b : List Stmt) (sc : Scope) (kV doc pm : Value) (an : Option Addr) (cdv ct : Value) : ∀ us : List Value, us.length = 1 → bindArgs (PySem.W.fnOf "is_integer" "is_integer" (defArgs (top 6)) b sc .none kV doc pm an cdv ct) ⟨us, []⟩ = pure ((["thing"] : List Str).zip us)
  | [x0], _ => by kernel_rfl
theorem c_is_integer (G : Gv K mg) : Cal P w K mg base CXn 1 "is_integer" ["thing"] (f_is_integer FU) := by
  obtain ⟨f, fd, F, hm⟩ := G.d_is_integer
  have hb := F.bindsN (ps := ["thing"]) (fun kV doc pm an cdv ct us hl => ar_is_integer _ _ kV doc pm an cdv ct us hl)
  have h1 := cal_of (P := P) (w := w) (base := base) (CX := CXn) (k := 0) (d := b_is_integer FU) F sc_is_integer hm hb
  have h2 : Cal P w K mg base CXn 1 "is_integer" ["thing"] (mkFn 1 1 (b_is_integer FU)) := by
   apply h1
   intro cdv A outer s H E hr
   apply PSs.nox
   have hN : (N_is_integer).Nodup := sc_is_integer.nd
   exact (es_one (es_ret (ev_andV (ev_isi (c := "int") G.f_isinstance G.f_int (by decide +kernel) G.k_int (ev_var 0)) (ev_one (ev_notV (ev_isi (c := "bool") G.f_isinstance G.f_bool (by decide +kernel) G.k_bool (ev_var 0)))))))
  exact h2
theorem ar_is_between (b : List Stmt) (sc : Scope) (kV doc pm : Value) (an : Option Addr) (cdv ct : Value) : ∀ us : List Value, us.length = 3 → bindArgs (PySem.W.fnOf "is_between" "is_between" (defArgs (top 7)) b sc .none kV doc pm an cdv ct) ⟨us, []⟩ = pure ((["thing", "least", "most"] : List Str).zip us)
  | [x0, x1, x2], _ => by kernel_rfl
theorem c_is_between (G : Gv K mg) : Cal P w K mg base CXn 2 "is_between" ["thing", "least", "most"] (f_is_between FU) := by
  obtain ⟨f, fd, F, hm⟩ := G.d_is_between
  have hb := F.bindsN (ps := ["thing", "least", "most"]) (fun kV doc pm an cdv ct us hl => ar_is_between _ _ kV doc pm an cdv ct us hl)
  have h1 := cal_of (P := P) (w := w) (base := base) (CX := CXn) (k := 1) (d := b_is_between FU) F sc_is_between hm hb
  have h2 : Cal P w K mg base CXn 2 "is_between" ["thing", "least", "most"] (mkFn 3 3 (b_is_between FU)) := by
   apply h1
   intro cdv A outer s H E hr
   apply PSs.nox
   have hN : (N_is_between).Nodup := sc_is_between.nd
   exact (es_one (es_ret (ev_andV (ev_call (c_is_integer G) (hr.mono (by decide)) passN (ea_cons (ev_var 0) ea_nil)) (ev_one (ev_chain op_le op_le (ev_var 1) (ev_var 0) (ev_var 2))))))
  exact h2
theorem ar_are_between (b : List Stmt) (sc : Scope) (kV doc pm : Value) (an : Option Addr) (cdv ct : Value) : ∀ us : List Value, us.length = 3 → bindArgs (PySem.W.fnOf "are_between" "are_between" (defArgs (top 8)) b sc .none kV doc pm an cdv ct) ⟨us, []⟩ = pure ((["thing", "least", "most"] : List Str).zip us)
  | [x0, x1, x2], _ => by kernel_rfl
theorem c_are_between (G : Gv K mg) : Cal P w K mg base CXn 3 "are_between" ["thing", "least", "most"] (f_are_between FU) := by
  obtain ⟨f, fd, F, hm⟩ := G.d_are_between
  have hb := F.bindsN (ps := ["thing", "least", "most"]) (fun kV doc pm an cdv ct us hl => ar_are_between _ _ kV doc pm an cdv ct us hl)
  have h1 := cal_of (P := P) (w := w) (base := base) (CX := CXn) (k := 2) (d := b_are_between FU) F sc_are_between hm hb
  have h2 : Cal P w K mg base CXn 3 "are_between" ["thing", "least", "most"] (mkFn 3 4 (b_are_between FU)) := by
   apply h1
   intro cdv A outer s H E hr
   apply PSs.nox
   have hN : (N_are_between).Nodup := sc_are_between.nd
   exact (es_one (es_ret (ev_andV (ev_isi (c := "tuple") G.f_isinstance G.f_tuple (by decide +kernel) G.k_tuple (ev_var 0)) (ev_one (ev_all G.f_all rfl (ea_cons (ev_lc (own := [("part", 3)]) FU mkV_ok rfl hN (ei_seq (ev_var 0)) (blkOk_by (N := N_are_between) (sc := defScope (top 8)) (own := [("part", 3)]) (by decide +kernel)) (fun _ _ _ _ _ => (gn_name 3 hN)) (fun _ _ _ _ _ => eq_nil) (fun _ _ _ _ _ => (ev_call (c_is_between G) (hr.mono (by decide)) passN (ea_cons (ev_var 3) (ea_cons (ev_var 1) (ea_cons (ev_var 2) ea_nil)))))) ea_nil))))))
  exact h2
theorem ar_are_bits_value (b : List Stmt) (sc : Scope) (kV doc pm : Value) (an : Option Addr) (cdv ct : Value) : ∀ us : List Value, us.length = 1 → bindArgs (PySem.W.fnOf "are_bits_value" "are_bits_value" (defArgs (top 9)) b sc .none kV doc pm an cdv ct) ⟨us, []⟩ = pure ((["thing"] : List Str).zip us)
  | [x0], _ => by kernel_rfl
theorem c_are_bits_value (G : Gv K mg) : Cal P w K mg base CXn 4 "are_bits_value" ["thing"] (f_are_bits_value FU) := by
  obtain ⟨f, fd, F, hm⟩ := G.d_are_bits_value
  have hb := F.bindsN (ps := ["thing"]) (fun kV doc pm an cdv ct us hl => ar_are_bits_value _ _ kV doc pm an cdv ct us hl)
  have h1 := cal_of (P := P) (w := w) (base := base) (CX := CXn) (k := 3) (d := b_are_bits_value FU) F sc_are_bits_value hm hb
  have h2 : Cal P w K mg base CXn 4 "are_bits_value" ["thing"] (mkFn 1 1 (b_are_bits_value FU)) := by
   apply h1
   intro cdv A outer s H E hr
   apply PSs.nox
   have hN : (N_are_bits_value).Nodup := sc_are_bits_value.nd
   exact (es_one (es_ret (ev_call (c_are_between G) (hr.mono (by decide)) passN (ea_cons (ev_var 0) (ea_cons ev_int (ea_cons ev_int ea_nil))))))
  exact h2
theorem ar_need_bits (b : List Stmt) (sc : Scope) (kV doc pm : Value) (an : Option Addr) (cdv ct : Value) : ∀ us : List Value, us.length = 1 → bindArgs (PySem.W.fnOf "need_bits" "need_bits" (defArgs (top 11)) b sc .none kV doc pm an cdv ct) ⟨us, []⟩ = pure ((["bits"] : List Str).zip us)
  | [x0], _ => by kernel_rfl
theorem c_need_bits (G : Gv K mg) : Cal P w K mg base CXn 5 "need_bits" ["bits"] (f_need_bits FU) := by
  obtain ⟨f, fd, F, hm⟩ := G.d_need_bits
  have hb := F.bindsN (ps := ["bits"]) (fun kV doc pm an cdv ct us hl => ar_need_bits _ _ kV doc pm an cdv ct us hl)
  have h1 := cal_of (P := P) (w := w) (base := base) (CX := CXn) (k := 4) (d := b_need_bits FU) F sc_need_bits hm hb
  have h2 : Cal P w K mg base CXn 5 "need_bits" ["bits"] (mkFn 1 1 (b_need_bits FU)) := by
   apply h1
   intro cdv A outer s H E hr
   apply PSs.nox
   have hN : (N_need_bits).Nodup := sc_need_bits.nd
   exact (es_one (es_if (te_not (te_val (ev_call (c_are_bits_value G) (hr.mono (by decide)) passN (ea_cons (ev_var 0) ea_nil)))) (es_one es_no) es_nil))
  exact h2
theorem ar_raw_wanted (b : List Stmt) (sc : Scope) (kV doc pm : Value) (an : Option Addr) (cdv ct : Value) : ∀ us : List Value, us.length = 4 → bindArgs (PySem.W.fnOf "raw_wanted" "raw_wanted" (defArgs (top 13)) b sc .none kV doc pm an cdv ct) ⟨us, []⟩ = pure ((["w", "rest", "n", "bits"] : List Str).zip us)
  | [x0, x1, x2, x3], _ => by kernel_rfl
theorem c_raw_wanted (G : Gv K mg) : Cal P w K mg base CXn 1 "raw_wanted" ["w", "rest", "n", "bits"] (f_raw_wanted FU) := by
  obtain ⟨f, fd, F, hm⟩ := G.d_raw_wanted
  have hb := F.bindsN (ps := ["w", "rest", "n", "bits"]) (fun kV doc pm an cdv ct us hl => ar_raw_wanted _ _ kV doc pm an cdv ct us hl)
  have h1 := cal_of (P := P) (w := w) (base := base) (CX := CXn) (k := 0) (d := b_raw_wanted FU) F sc_raw_wanted hm hb
  have h2 : Cal P w K mg base CXn 1 "raw_wanted" ["w", "rest", "n", "bits"] (mkFn 4 8 (b_raw_wanted FU)) := by
   apply h1
   intro cdv A outer s H E hr
   apply PSs.nox
   have hN : (N_raw_wanted).Nodup := sc_raw_wanted.nd
   exact (es_cons (es_asg (ev_tup (ea_cons (ev_var 1) (ea_cons ev_int ea_nil))) (tG_of (gn_tup rfl (gn_cons (gn_tup rfl (gn_cons (gn_name 6 hN) (gn_cons (gn_name 7 hN) gn_nil)) (gnl1 (gnl1 gnl0))) (gn_cons (gn_name 4 hN) gn_nil)) (gnl1 (gnl1 gnl0)))) dN_nx)
  (es_one (es_while FU PassesOwn.never (te_val ev_bl) (es_cons (es_while FU PassesOwn.never (te_ltI (ev_var 6) (ev_shl ev_int (ev_var 0))) (es_cons (es_if (te_eq hr (ev_var 4) (ev_lenA G.f_len (ea_cons (ev_var 3) ea_nil))) (es_one (es_ret ev_non)) es_nil)
  (es_one (es_par3 6 7 4 hN rfl (ea_cons (ev_mul ev_int (ev_var 6)) (ea_cons (ev_add (ev_mul ev_int (ev_var 7)) (ev_ix hr (ev_var 3) (ev_var 4))) (ea_cons (ev_add (ev_var 4) ev_int) ea_nil)))))))
  (es_cons (es_set 5 hN (ev_fdiv (ev_var 6) (ev_var 2)))
  (es_cons (es_if (te_ltI (ev_var 7) (ev_mul (ev_var 5) (ev_var 2))) (es_one (es_ret (ev_tup (ea_cons (ev_mod (ev_var 7) (ev_var 2)) (ea_cons (ev_tup (ea_cons (ev_var 5) (ea_cons (ev_fdiv (ev_var 7) (ev_var 2)) ea_nil))) (ea_cons (ev_var 4) ea_nil)))))) es_nil)
  (es_one (es_par 6 7 hN rfl (ea_cons (ev_sub (ev_var 6) (ev_mul (ev_var 5) (ev_var 2))) (ea_cons (ev_sub (ev_var 7) (ev_mul (ev_var 5) (ev_var 2))) ea_nil))))))))))
  exact h2
theorem ar_raw_row_wanted (b : List Stmt) (sc : Scope) (kV doc pm : Value) (an : Option Addr) (cdv ct : Value) : ∀ us : List Value, us.length = 3 → bindArgs (PySem.W.fnOf "raw_row_wanted" "raw_row_wanted" (defArgs (top 14)) b sc .none kV doc pm an cdv ct) ⟨us, []⟩ = pure ((["w", "wants", "bits"] : List Str).zip us)
  | [x0, x1, x2], _ => by kernel_rfl
theorem c_raw_row_wanted (G : Gv K mg) : Cal P w K mg base CXn 2 "raw_row_wanted" ["w", "wants", "bits"] (f_raw_row_wanted FU) := by
  obtain ⟨f, fd, F, hm⟩ := G.d_raw_row_wanted
  have hb := F.bindsN (ps := ["w", "wants", "bits"]) (fun kV doc pm an cdv ct us hl => ar_raw_row_wanted _ _ kV doc pm an cdv ct us hl)
  have h1 := cal_of (P := P) (w := w) (base := base) (CX := CXn) (k := 1) (d := b_raw_row_wanted FU) F sc_raw_row_wanted hm hb
  have h2 : Cal P w K mg base CXn 2 "raw_row_wanted" ["w", "wants", "bits"] (mkFn 3 8 (b_raw_row_wanted FU)) := by
   apply h1
   intro cdv A outer s H E hr
   apply PSs.nox
   have hN : (N_raw_row_wanted).Nodup := sc_raw_row_wanted.nd
   exact (es_cons (es_par3 4 5 6 hN rfl (ea_cons (ev_loc ea_nil) (ea_cons (ev_tup (ea_cons ev_int (ea_cons ev_int ea_nil))) (ea_cons ev_int ea_nil))))
  (es_cons (es_for FU PassesOwn.never rfl (ei_seq (ev_var 1)) (tG_of (gn_name 3 hN)) dN_nx (es_cons (es_set 7 hN (ev_call (c_raw_wanted G) (hr.mono (by decide)) passN (ea_cons (ev_var 0) (ea_cons (ev_var 5) (ea_cons (ev_var 3) (ea_cons (ev_sl (ev_var 2) (eo_some (ev_var 6)) eo_none) ea_nil))))))
  (es_cons (es_if (te_isN (ev_var 7)) (es_one (es_ret ev_non)) es_nil)
  (es_cons (es_expr (ev_append (ev_var 4) (ea_cons (ev_ix hr (ev_var 7) ev_int) ea_nil)))
  (es_one (es_par 5 6 hN rfl (ea_cons (ev_ix hr (ev_var 7) ev_int) (ea_cons (ev_add (ev_var 6) (ev_ix hr (ev_var 7) ev_int)) ea_nil))))))))
  (es_one (es_ret (ev_tup (ea_cons (ev_tuple G.f_tuple (ea_cons (ev_var 4) ea_nil)) (ea_cons (ev_var 5) (ea_cons (ev_var 6) ea_nil))))))))
  exact h2
theorem ar_need_width (b : List Stmt) (sc : Scope) (kV doc pm : Value) (an : Option Addr) (cdv ct : Value) : ∀ us : List Value, us.length = 1 → bindArgs (PySem.W.fnOf "need_width" "need_width" (defArgs (top 18)) b sc .none kV doc pm an cdv ct) ⟨us, []⟩ = pure ((["w"] : List Str).zip us)
  | [x0], _ => by kernel_rfl
theorem c_need_width (G : Gv K mg) : Cal P w K mg base CXn 3 "need_width" ["w"] (f_need_width FU) := by
  obtain ⟨f, fd, F, hm⟩ := G.d_need_width
  have hb := F.bindsN (ps := ["w"]) (fun kV doc pm an cdv ct us hl => ar_need_width _ _ kV doc pm an cdv ct us hl)
  have h1 := cal_of (P := P) (w := w) (base := base) (CX := CXn) (k := 2) (d := b_need_width FU) F sc_need_width hm hb
  have h2 : Cal P w K mg base CXn 3 "need_width" ["w"] (mkFn 1 1 (b_need_width FU)) := by
   apply h1
   intro cdv A outer s H E hr
   apply PSs.nox
   have hN : (N_need_width).Nodup := sc_need_width.nd
   exact (es_one (es_if (te_not (te_val (ev_call (c_is_between G) (hr.mono (by decide)) passN (ea_cons (ev_var 0) (ea_cons ev_int (ea_cons (ev_gint G.i_MOST_WIDTH) ea_nil)))))) (es_one es_no) es_nil))
  exact h2
theorem ar_most_want (b : List Stmt) (sc : Scope) (kV doc pm : Value) (an : Option Addr) (cdv ct : Value) : ∀ us : List Value, us.length = 1 → bindArgs (PySem.W.fnOf "most_want" "most_want" (defArgs (top 19)) b sc .none kV doc pm an cdv ct) ⟨us, []⟩ = pure ((["w"] : List Str).zip us)
  | [x0], _ => by kernel_rfl
theorem c_most_want (G : Gv K mg) : Cal P w K mg base CXn 1 "most_want" ["w"] (f_most_want FU) := by
  obtain ⟨f, fd, F, hm⟩ := G.d_most_want
  have hb := F.bindsN (ps := ["w"]) (fun kV doc pm an cdv ct us hl => ar_most_want _ _ kV doc pm an cdv ct us hl)
  have h1 := cal_of (P := P) (w := w) (base := base) (CX := CXn) (k := 0) (d := b_most_want FU) F sc_most_want hm hb
  have h2 : Cal P w K mg base CXn 1 "most_want" ["w"] (mkFn 1 1 (b_most_want FU)) := by
   apply h1
   intro cdv A outer s H E hr
   apply PSs.nox
   have hN : (N_most_want).Nodup := sc_most_want.nd
   exact (es_one (es_ret (ev_min2 G.f_min rfl (ea_cons (ev_gint G.i_MOST_WANT) (ea_cons (ev_shl ev_int (ev_var 0)) ea_nil)))))
  exact h2
theorem ar_need_wants (b : List Stmt) (sc : Scope) (kV doc pm : Value) (an : Option Addr) (cdv ct : Value) : ∀ us : List Value, us.length = 2 → bindArgs (PySem.W.fnOf "need_wants" "need_wants" (defArgs (top 21)) b sc .none kV doc pm an cdv ct) ⟨us, []⟩ = pure ((["w", "wants"] : List Str).zip us)
  | [x0, x1], _ => by kernel_rfl
theorem c_need_wants (G : Gv K mg) : Cal P w K mg base CXn 4 "need_wants" ["w", "wants"] (f_need_wants FU) := by
  obtain ⟨f, fd, F, hm⟩ := G.d_need_wants
  have hb := F.bindsN (ps := ["w", "wants"]) (fun kV doc pm an cdv ct us hl => ar_need_wants _ _ kV doc pm an cdv ct us hl)
  have h1 := cal_of (P := P) (w := w) (base := base) (CX := CXn) (k := 3) (d := b_need_wants FU) F sc_need_wants hm hb
  have h2 : Cal P w K mg base CXn 4 "need_wants" ["w", "wants"] (mkFn 2 2 (b_need_wants FU)) := by
   apply h1
   intro cdv A outer s H E hr
   apply PSs.nox
   have hN : (N_need_wants).Nodup := sc_need_wants.nd
   exact (es_cons (es_expr (ev_call (c_need_width G) (hr.mono (by decide)) passN (ea_cons (ev_var 0) ea_nil)))
  (es_one (es_if (te_not (te_val (ev_call (c_are_between G) (hr.mono (by decide)) passN (ea_cons (ev_var 1) (ea_cons ev_int (ea_cons (ev_call (c_most_want G) (hr.mono (by decide)) passN (ea_cons (ev_var 0) ea_nil)) ea_nil)))))) (es_one es_no) es_nil)))
  exact h2
theorem ar_row_wanted (b : List Stmt) (sc : Scope) (kV doc pm : Value) (an : Option Addr) (cdv ct : Value) : ∀ us : List Value, us.length = 3 → bindArgs (PySem.W.fnOf "row_wanted" "row_wanted" (defArgs (top 24)) b sc .none kV doc pm an cdv ct) ⟨us, []⟩ = pure ((["w", "wants", "bits"] : List Str).zip us)
  | [x0, x1, x2], _ => by kernel_rfl
theorem c_row_wanted (G : Gv K mg) : Cal P w K mg base CXn 6 "row_wanted" ["w", "wants", "bits"] (f_row_wanted FU) := by
  obtain ⟨f, fd, F, hm⟩ := G.d_row_wanted
  have hb := F.bindsN (ps := ["w", "wants", "bits"]) (fun kV doc pm an cdv ct us hl => ar_row_wanted _ _ kV doc pm an cdv ct us hl)
  have h1 := cal_of (P := P) (w := w) (base := base) (CX := CXn) (k := 5) (d := b_row_wanted FU) F sc_row_wanted hm hb
  have h2 : Cal P w K mg base CXn 6 "row_wanted" ["w", "wants", "bits"] (mkFn 3 3 (b_row_wanted FU)) := by
   apply h1
   intro cdv A outer s H E hr
   apply PSs.nox
   have hN : (N_row_wanted).Nodup := sc_row_wanted.nd
   exact (es_cons (es_expr (ev_call (c_need_wants G) (hr.mono (by decide)) passN (ea_cons (ev_var 0) (ea_cons (ev_var 1) ea_nil))))
  (es_cons (es_expr (ev_call (c_need_bits G) (hr.mono (by decide)) passN (ea_cons (ev_var 2) ea_nil)))
  (es_one (es_ret (ev_call (c_raw_row_wanted G) (hr.mono (by decide)) passN (ea_cons (ev_var 0) (ea_cons (ev_var 1) (ea_cons (ev_var 2) ea_nil))))))))
  exact h2
theorem kb_row_wanted_bits_wants_w (G : Gv K mg) (f : Addr) (fd : FuncData) (params : Arguments) (body : List Stmt) (scope : Scope) (F : FunD K "row_wanted" "row_wanted" params body scope [] [] f fd) (hm : mg "row_wanted" = some (.ref f)) : KB K fd ["w", "wants", "bits"] ["bits", "wants", "w"] [2, 1, 0] := by
  obtain ⟨f1, fd1, F1, hm1⟩ := G.d_row_wanted
  cases hm.symm.trans hm1
  obtain ⟨oc, od, dV, kV, doc, pm, an, cdv, ct, osl, e1, lk, hcd, hD, hK⟩ := F1.ex
  obtain ⟨_, _, _, _, _, _, _, _, _, _, _, lk2, _, _, _⟩ := F.ex
  have e2 := lk.symm.trans lk2
  injection e2 with e2
  injection e2 with _ _ e2 _
  injection e2 with e2
  subst e2
  subst e1
  rcases hD with ⟨_, rfl⟩ | ⟨e, _⟩
  · intro s ws _ hl
    match ws, hl with
    | a0 :: a1 :: a2 :: _, _ => exact .of_eq rfl
  · exact absurd rfl e
theorem ar__law_deck (b : List Stmt) (sc : Scope) (kV doc pm : Value) (an : Option Addr) (cdv ct : Value) : ∀ us : List Value, us.length = 1 → bindArgs (PySem.W.fnOf "_law_deck" "_law_deck" (defArgs (top 26)) b sc .none kV doc pm an cdv ct) ⟨us, []⟩ = pure ((["_law_script"] : List Str).zip us)
  | [x0], _ => by kernel_rfl
theorem c__law_deck (G : Gv K mg) : Cal P w K mg base CXn 1 "_law_deck" ["_law_script"] (f__law_deck FU) := by
  obtain ⟨f, fd, F, hm⟩ := G.d__law_deck
  have hb := F.bindsN (ps := ["_law_script"]) (fun kV doc pm an cdv ct us hl => ar__law_deck _ _ kV doc pm an cdv ct us hl)
  have h1 := cal_of (P := P) (w := w) (base := base) (CX := CXn) (k := 0) (d := b__law_deck FU) F sc__law_deck hm hb
  have h2 : Cal P w K mg base CXn 1 "_law_deck" ["_law_script"] (mkFn 1 3 (b__law_deck FU)) := by
   apply h1
   intro cdv A outer s H E hr
   apply PSs.nox
   have hN : (N__law_deck).Nodup := sc__law_deck.nd
   exact (es_cons (es_set 1 hN ev_int)
  (es_cons (es_for FU PassesOwn.never rfl (ei_seq (ev_sl (ev_var 0) eo_none (eo_some ev_int))) (tG_of (gn_name 2 hN)) dN_nx (es_one (es_set 1 hN (ev_mod (ev_intC G.f_int (ea_cons (ev_add (ev_add (ev_mul (ev_var 1) ev_int) (ev_mod (ev_intC G.f_int (ea_cons (ev_var 2) ea_nil)) ev_int)) ev_int) ea_nil)) ev_int))))
  (es_one (es_ret (ev_disp (ep_cons ev_str (ev_revL (ev_list G.f_list (ea_cons (ev_sl (ev_var 0) eo_none (eo_some ev_int)) ea_nil))) (ep_cons ev_str (ev_var 1) (ep_cons ev_str ev_int ep_nil))))))))
  exact h2
theorem ar__law_draw (b : List Stmt) (sc : Scope) (kV doc pm : Value) (an : Option Addr) (cdv ct : Value) : ∀ us : List Value, us.length = 2 → bindArgs (PySem.W.fnOf "_law_draw" "_law_draw" (defArgs (top 27)) b sc .none kV doc pm an cdv ct) ⟨us, []⟩ = pure ((["_law_deck_here", "_law_many"] : List Str).zip us)
  | [x0, x1], _ => by kernel_rfl
theorem c__law_draw (G : Gv K mg) : Cal P w K mg base CXn 1 "_law_draw" ["_law_deck_here", "_law_many"] (f__law_draw FU) := by
  obtain ⟨f, fd, F, hm⟩ := G.d__law_draw
  have hb := F.bindsN (ps := ["_law_deck_here", "_law_many"]) (fun kV doc pm an cdv ct us hl => ar__law_draw _ _ kV doc pm an cdv ct us hl)
  have h1 := cal_of (P := P) (w := w) (base := base) (CX := CXn) (k := 0) (d := b__law_draw FU) F sc__law_draw hm hb
  have h2 : Cal P w K mg base CXn 1 "_law_draw" ["_law_deck_here", "_law_many"] (mkFn 2 4 (b__law_draw FU)) := by
   apply h1
   intro cdv A outer s H E hr
   apply PSs.nox
   have hN : (N__law_draw).Nodup := sc__law_draw.nd
   exact (es_cons (es_put hr (ev_var 0) ev_str (ev_add (ev_ix hr (ev_var 0) ev_str) ev_int))
  (es_cons (es_set 2 hN (ev_add (ev_ix hr (ev_var 0) ev_str) (ev_mul ev_int (ev_ix hr (ev_var 0) ev_str))))
  (es_cons (es_if (te_ne hr (ev_ix hr (ev_var 0) ev_str) (ev_lst ea_nil)) (es_cons (es_set 3 hN (ev_pop (ev_ix hr (ev_var 0) ev_str)))
  (es_cons (es_if (te_ge (ev_var 3) (ev_pow ev_int ev_int)) (es_cons (es_expr (ev_append (ev_ix hr (ev_var 0) ev_str) (ea_cons (ev_fdiv (ev_var 3) (ev_max2 G.f_max rfl (ea_cons ev_int (ea_cons (ev_var 1) ea_nil)))) ea_nil)))
  (es_one (es_ret (ev_mod (ev_intC G.f_int (ea_cons (ev_var 3) ea_nil)) (ev_var 1))))) es_nil)
  (es_one (es_set 2 hN (ev_add (ev_var 2) (ev_mod (ev_intC G.f_int (ea_cons (ev_var 3) ea_nil)) ev_int)))))) es_nil)
  (es_cons (es_set 2 hN (ev_mod (ev_intC G.f_int (ea_cons (ev_add (ev_mul (ev_var 2) ev_int) ev_int) ea_nil)) ev_int))
  (es_cons (es_set 2 hN (ev_mod (ev_intC G.f_int (ea_cons (ev_add (ev_add (ev_mul (ev_var 2) (ev_var 2)) (ev_mul ev_int (ev_ix hr (ev_var 0) ev_str))) ev_int) ea_nil)) ev_int))
  (es_cons (es_set 2 hN (ev_mod (ev_intC G.f_int (ea_cons (ev_mul (ev_var 2) ev_int) ea_nil)) ev_int))
  (es_one (es_ret (ev_mod (ev_intC G.f_int (ea_cons (ev_fdiv (ev_var 2) ev_int) ea_nil)) (ev_var 1))))))))))
  exact h2
theorem ar__law_pick (b : List Stmt) (sc : Scope) (kV doc pm : Value) (an : Option Addr) (cdv ct : Value) : ∀ us : List Value, us.length = 2 → bindArgs (PySem.W.fnOf "_law_pick" "_law_pick" (defArgs (top 28)) b sc .none kV doc pm an cdv ct) ⟨us, []⟩ = pure ((["_law_deck_here", "_law_some"] : List Str).zip us)
  | [x0, x1], _ => by kernel_rfl
theorem c__law_pick (G : Gv K mg) : Cal P w K mg base CXn 2 "_law_pick" ["_law_deck_here", "_law_some"] (f__law_pick FU) := by
  obtain ⟨f, fd, F, hm⟩ := G.d__law_pick
  have hb := F.bindsN (ps := ["_law_deck_here", "_law_some"]) (fun kV doc pm an cdv ct us hl => ar__law_pick _ _ kV doc pm an cdv ct us hl)
  have h1 := cal_of (P := P) (w := w) (base := base) (CX := CXn) (k := 1) (d := b__law_pick FU) F sc__law_pick hm hb
  have h2 : Cal P w K mg base CXn 2 "_law_pick" ["_law_deck_here", "_law_some"] (mkFn 2 2 (b__law_pick FU)) := by
   apply h1
   intro cdv A outer s H E hr
   apply PSs.nox
   have hN : (N__law_pick).Nodup := sc__law_pick.nd
   exact (es_one (es_ret (ev_ix hr (ev_var 1) (ev_call (c__law_draw G) (hr.mono (by decide)) passN (ea_cons (ev_var 0) (ea_cons (ev_lenA G.f_len (ea_cons (ev_var 1) ea_nil)) ea_nil))))))
  exact h2
theorem ar__law_bits (b : List Stmt) (sc : Scope) (kV doc pm : Value) (an : Option Addr) (cdv ct : Value) : ∀ us : List Value, us.length = 2 → bindArgs (PySem.W.fnOf "_law_bits" "_law_bits" (defArgs (top 29)) b sc .none kV doc pm an cdv ct) ⟨us, []⟩ = pure ((["_law_deck_here", "_law_many"] : List Str).zip us)
  | [x0, x1], _ => by kernel_rfl
theorem c__law_bits (G : Gv K mg) : Cal P w K mg base CXn 2 "_law_bits" ["_law_deck_here", "_law_many"] (f__law_bits FU) := by
  obtain ⟨f, fd, F, hm⟩ := G.d__law_bits
  have hb := F.bindsN (ps := ["_law_deck_here", "_law_many"]) (fun kV doc pm an cdv ct us hl => ar__law_bits _ _ kV doc pm an cdv ct us hl)
  have h1 := cal_of (P := P) (w := w) (base := base) (CX := CXn) (k := 1) (d := b__law_bits FU) F sc__law_bits hm hb
  have h2 : Cal P w K mg base CXn 2 "_law_bits" ["_law_deck_here", "_law_many"] (mkFn 2 3 (b__law_bits FU)) := by
   apply h1
   intro cdv A outer s H E hr
   apply PSs.nox
   have hN : (N__law_bits).Nodup := sc__law_bits.nd
   exact (es_one (es_ret (ev_tuple G.f_tuple (ea_cons (ev_lc (own := [("_law_turn", 2)]) FU mkV_ok rfl hN (ei_range1 (ea_cons (ev_var 1) ea_nil) G.f_range) (blkOk_by (N := N__law_bits) (sc := defScope (top 29)) (own := [("_law_turn", 2)]) (by decide +kernel)) (fun _ _ _ _ _ => (gn_name 2 hN)) (fun _ _ _ _ _ => eq_nil) (fun _ _ _ _ _ => (ev_call (c__law_draw G) (hr.mono (by decide)) passN (ea_cons (ev_var 0) (ea_cons ev_int ea_nil))))) ea_nil))))
  exact h2
theorem ar__law_wanted (b : List Stmt) (sc : Scope) (kV doc pm : Value) (an : Option Addr) (cdv ct : Value) : ∀ us : List Value, us.length = 4 → bindArgs (PySem.W.fnOf "_law_wanted" "_law_wanted" (defArgs (top 30)) b sc .none kV doc pm an cdv ct) ⟨us, []⟩ = pure ((["_law_w", "_law_rest", "_law_n", "_law_bits_here"] : List Str).zip us)
  | [x0, x1, x2, x3], _ => by kernel_rfl
theorem c__law_wanted (G : Gv K mg) : Cal P w K mg base CXn 1 "_law_wanted" ["_law_w", "_law_rest", "_law_n", "_law_bits_here"] (f__law_wanted FU) := by
  obtain ⟨f, fd, F, hm⟩ := G.d__law_wanted
  have hb := F.bindsN (ps := ["_law_w", "_law_rest", "_law_n", "_law_bits_here"]) (fun kV doc pm an cdv ct us hl => ar__law_wanted _ _ kV doc pm an cdv ct us hl)
  have h1 := cal_of (P := P) (w := w) (base := base) (CX := CXn) (k := 0) (d := b__law_wanted FU) F sc__law_wanted hm hb
  have h2 : Cal P w K mg base CXn 1 "_law_wanted" ["_law_w", "_law_rest", "_law_n", "_law_bits_here"] (mkFn 4 9 (b__law_wanted FU)) := by
   apply h1
   intro cdv A outer s H E hr
   apply PSs.nox
   have hN : (N__law_wanted).Nodup := sc__law_wanted.nd
   exact (es_cons (es_asg (ev_tup (ea_cons (ev_var 1) (ea_cons ev_int ea_nil))) (tG_of (gn_tup rfl (gn_cons (gn_tup rfl (gn_cons (gn_name 7 hN) (gn_cons (gn_name 8 hN) gn_nil)) (gnl1 (gnl1 gnl0))) (gn_cons (gn_name 5 hN) gn_nil)) (gnl1 (gnl1 gnl0)))) dN_nx)
  (es_cons (es_for FU PassesOwn.never rfl (ei_range1 (ea_cons (ev_add (ev_lenA G.f_len (ea_cons (ev_var 3) ea_nil)) ev_int) ea_nil) G.f_range) (tG_of (gn_name 4 hN)) dN_nx (es_cons (es_while FU PassesOwn.never (te_ltI (ev_var 7) (ev_shl ev_int (ev_var 0))) (es_cons (es_if (te_eq hr (ev_var 5) (ev_lenA G.f_len (ea_cons (ev_var 3) ea_nil))) (es_one (es_ret ev_non)) es_nil)
  (es_one (es_par3 7 8 5 hN rfl (ea_cons (ev_mul ev_int (ev_var 7)) (ea_cons (ev_add (ev_mul ev_int (ev_var 8)) (ev_ix hr (ev_var 3) (ev_var 5))) (ea_cons (ev_add (ev_var 5) ev_int) ea_nil)))))))
  (es_cons (es_set 6 hN (ev_fdiv (ev_var 7) (ev_var 2)))
  (es_cons (es_if (te_ltI (ev_var 8) (ev_mul (ev_var 6) (ev_var 2))) (es_one (es_ret (ev_tup (ea_cons (ev_mod (ev_intC G.f_int (ea_cons (ev_var 8) ea_nil)) (ev_var 2)) (ea_cons (ev_tup (ea_cons (ev_var 6) (ea_cons (ev_fdiv (ev_var 8) (ev_var 2)) ea_nil))) (ea_cons (ev_var 5) ea_nil)))))) es_nil)
  (es_one (es_par 7 8 hN rfl (ea_cons (ev_sub (ev_var 7) (ev_mul (ev_var 6) (ev_var 2))) (ea_cons (ev_sub (ev_var 8) (ev_mul (ev_var 6) (ev_var 2))) ea_nil))))))))
  (es_one (es_ret ev_non))))
  exact h2
theorem ar__law_row_wanted (b : List Stmt) (sc : Scope) (kV doc pm : Value) (an : Option Addr) (cdv ct : Value) : ∀ us : List Value, us.length = 3 → bindArgs (PySem.W.fnOf "_law_row_wanted" "_law_row_wanted" (defArgs (top 31)) b sc .none kV doc pm an cdv ct) ⟨us, []⟩ = pure ((["_law_w", "_law_wants", "_law_bits_here"] : List Str).zip us)
  | [x0, x1, x2], _ => by kernel_rfl
theorem c__law_row_wanted (G : Gv K mg) : Cal P w K mg base CXn 2 "_law_row_wanted" ["_law_w", "_law_wants", "_law_bits_here"] (f__law_row_wanted FU) := by
  obtain ⟨f, fd, F, hm⟩ := G.d__law_row_wanted
  have hb := F.bindsN (ps := ["_law_w", "_law_wants", "_law_bits_here"]) (fun kV doc pm an cdv ct us hl => ar__law_row_wanted _ _ kV doc pm an cdv ct us hl)
  have h1 := cal_of (P := P) (w := w) (base := base) (CX := CXn) (k := 1) (d := b__law_row_wanted FU) F sc__law_row_wanted hm hb
  have h2 : Cal P w K mg base CXn 2 "_law_row_wanted" ["_law_w", "_law_wants", "_law_bits_here"] (mkFn 3 8 (b__law_row_wanted FU)) := by
   apply h1
   intro cdv A outer s H E hr
   apply PSs.nox
   have hN : (N__law_row_wanted).Nodup := sc__law_row_wanted.nd
   exact (es_cons (es_asg (ev_tup (ea_cons (ev_tup (ea_cons ev_int (ea_cons ev_int ea_nil))) (ea_cons (ev_tup ea_nil) (ea_cons ev_int ea_nil)))) (tG_of (gn_tup rfl (gn_cons (gn_name 4 hN) (gn_cons (gn_name 5 hN) (gn_cons (gn_name 6 hN) gn_nil))) (gnl1 (gnl1 (gnl1 gnl0))))) dN_nx)
  (es_cons (es_for FU PassesOwn.never rfl (ei_seq (ev_var 1)) (tG_of (gn_name 3 hN)) dN_nx (es_cons (es_set 7 hN (ev_call (c__law_wanted G) (hr.mono (by decide)) passN (ea_cons (ev_var 0) (ea_cons (ev_var 4) (ea_cons (ev_var 3) (ea_cons (ev_sl (ev_var 2) (eo_some (ev_var 6)) eo_none) ea_nil))))))
  (es_cons (es_if (te_isN (ev_var 7)) (es_one (es_ret ev_non)) es_nil)
  (es_one (es_par3 5 4 6 hN rfl (ea_cons (ev_add (ev_var 5) (ev_tup (ea_cons (ev_ix hr (ev_var 7) ev_int) ea_nil))) (ea_cons (ev_ix hr (ev_var 7) ev_int) (ea_cons (ev_add (ev_var 6) (ev_ix hr (ev_var 7) ev_int)) ea_nil))))))))
  (es_one (es_ret (ev_tup (ea_cons (ev_var 5) (ea_cons (ev_var 4) (ea_cons (ev_var 6) ea_nil))))))))
  exact h2
theorem ar__law_width (b : List Stmt) (sc : Scope) (kV doc pm : Value) (an : Option Addr) (cdv ct : Value) : ∀ us : List Value, us.length = 2 → bindArgs (PySem.W.fnOf "_law_width" "_law_width" (defArgs (top 32)) b sc .none kV doc pm an cdv ct) ⟨us, []⟩ = pure ((["_law_deck_here", "_law_most"] : List Str).zip us)
  | [x0, x1], _ => by kernel_rfl
theorem c__law_width (G : Gv K mg) : Cal P w K mg base CXn 2 "_law_width" ["_law_deck_here", "_law_most"] (f__law_width FU) := by
  obtain ⟨f, fd, F, hm⟩ := G.d__law_width
  have hb := F.bindsN (ps := ["_law_deck_here", "_law_most"]) (fun kV doc pm an cdv ct us hl => ar__law_width _ _ kV doc pm an cdv ct us hl)
  have h1 := cal_of (P := P) (w := w) (base := base) (CX := CXn) (k := 1) (d := b__law_width FU) F sc__law_width hm hb
  have h2 : Cal P w K mg base CXn 2 "_law_width" ["_law_deck_here", "_law_most"] (mkFn 2 2 (b__law_width FU)) := by
   apply h1
   intro cdv A outer s H E hr
   apply PSs.nox
   have hN : (N__law_width).Nodup := sc__law_width.nd
   exact (es_one (es_ret (ev_add ev_int (ev_call (c__law_draw G) (hr.mono (by decide)) passN (ea_cons (ev_var 0) (ea_cons (ev_var 1) ea_nil))))))
  exact h2
theorem ar__law_want (b : List Stmt) (sc : Scope) (kV doc pm : Value) (an : Option Addr) (cdv ct : Value) : ∀ us : List Value, us.length = 2 → bindArgs (PySem.W.fnOf "_law_want" "_law_want" (defArgs (top 33)) b sc .none kV doc pm an cdv ct) ⟨us, []⟩ = pure ((["_law_deck_here", "_law_w"] : List Str).zip us)
  | [x0, x1], _ => by kernel_rfl
theorem c__law_want (G : Gv K mg) : Cal P w K mg base CXn 2 "_law_want" ["_law_deck_here", "_law_w"] (f__law_want FU) := by
  obtain ⟨f, fd, F, hm⟩ := G.d__law_want
  have hb := F.bindsN (ps := ["_law_deck_here", "_law_w"]) (fun kV doc pm an cdv ct us hl => ar__law_want _ _ kV doc pm an cdv ct us hl)
  have h1 := cal_of (P := P) (w := w) (base := base) (CX := CXn) (k := 1) (d := b__law_want FU) F sc__law_want hm hb
  have h2 : Cal P w K mg base CXn 2 "_law_want" ["_law_deck_here", "_law_w"] (mkFn 2 3 (b__law_want FU)) := by
   apply h1
   intro cdv A outer s H E hr
   apply PSs.nox
   have hN : (N__law_want).Nodup := sc__law_want.nd
   exact (es_cons (es_set 2 hN (ev_min2 G.f_min rfl (ea_cons ev_int (ea_cons (ev_shl ev_int (ev_var 1)) ea_nil))))
  (es_one (es_ret (ev_if (te_eq hr (ev_call (c__law_draw G) (hr.mono (by decide)) passN (ea_cons (ev_var 0) (ea_cons ev_int ea_nil))) ev_int) (ev_min2 G.f_min rfl (ea_cons (ev_var 2) (ea_cons (ev_add ev_int (ev_call (c__law_draw G) (hr.mono (by decide)) passN (ea_cons (ev_var 0) (ea_cons (ev_sub (ev_var 2) ev_int) ea_nil)))) ea_nil))) (ev_min2 G.f_min rfl (ea_cons (ev_var 2) (ea_cons (ev_add ev_int (ev_call (c__law_draw G) (hr.mono (by decide)) passN (ea_cons (ev_var 0) (ea_cons ev_int ea_nil)))) ea_nil)))))))
  exact h2
theorem ar_need_want (b : List Stmt) (sc : Scope) (kV doc pm : Value) (an : Option Addr) (cdv ct : Value) : ∀ us : List Value, us.length = 2 → bindArgs (PySem.W.fnOf "need_want" "need_want" (defArgs (top 20)) b sc .none kV doc pm an cdv ct) ⟨us, []⟩ = pure ((["w", "n"] : List Str).zip us)
  | [x0, x1], _ => by kernel_rfl
theorem c_need_want (G : Gv K mg) : Cal P w K mg base CXn 3 "need_want" ["w", "n"] (f_need_want FU) := by
  obtain ⟨f, fd, F, hm⟩ := G.d_need_want
  have hb := F.bindsN (ps := ["w", "n"]) (fun kV doc pm an cdv ct us hl => ar_need_want _ _ kV doc pm an cdv ct us hl)
  have h1 := cal_of (P := P) (w := w) (base := base) (CX := CXn) (k := 2) (d := b_need_want FU) F sc_need_want hm hb
  have h2 : Cal P w K mg base CXn 3 "need_want" ["w", "n"] (mkFn 2 2 (b_need_want FU)) := by
   apply h1
   intro cdv A outer s H E hr
   apply PSs.nox
   have hN : (N_need_want).Nodup := sc_need_want.nd
   exact (es_one (es_if (te_not (te_val (ev_call (c_is_between G) (hr.mono (by decide)) passN (ea_cons (ev_var 1) (ea_cons ev_int (ea_cons (ev_call (c_most_want G) (hr.mono (by decide)) passN (ea_cons (ev_var 0) ea_nil)) ea_nil)))))) (es_one es_no) es_nil))
  exact h2
theorem ar_is_rest (b : List Stmt) (sc : Scope) (kV doc pm : Value) (an : Option Addr) (cdv ct : Value) : ∀ us : List Value, us.length = 2 → bindArgs (PySem.W.fnOf "is_rest" "is_rest" (defArgs (top 22)) b sc .none kV doc pm an cdv ct) ⟨us, []⟩ = pure ((["w", "thing"] : List Str).zip us)
  | [x0, x1], _ => by kernel_rfl
theorem c_is_rest (G : Gv K mg) : Cal P w K mg base CXn 3 "is_rest" ["w", "thing"] (f_is_rest FU) := by
  obtain ⟨f, fd, F, hm⟩ := G.d_is_rest
  have hb := F.bindsN (ps := ["w", "thing"]) (fun kV doc pm an cdv ct us hl => ar_is_rest _ _ kV doc pm an cdv ct us hl)
  have h1 := cal_of (P := P) (w := w) (base := base) (CX := CXn) (k := 2) (d := b_is_rest FU) F sc_is_rest hm hb
  have h2 : Cal P w K mg base CXn 3 "is_rest" ["w", "thing"] (mkFn 2 2 (b_is_rest FU)) := by
   apply h1
   intro cdv A outer s H E hr
   apply PSs.nox
   have hN : (N_is_rest).Nodup := sc_is_rest.nd
   exact (es_cons (es_if (te_w (tw_or (te_not (te_val (ev_isi (c := "tuple") G.f_isinstance G.f_tuple (by decide +kernel) G.k_tuple (ev_var 1)))) (tw_or (te_ne hr (ev_lenA G.f_len (ea_cons (ev_var 1) ea_nil)) ev_int) (tw_or1 (te_not (te_val (ev_call (c_is_between G) (hr.mono (by decide)) passN (ea_cons (ev_ix hr (ev_var 1) ev_int) (ea_cons ev_int (ea_cons (ev_sub (ev_shl ev_int (ev_var 0)) ev_int) ea_nil)))))))))) (es_one (es_ret ev_bl)) es_nil)
  (es_one (es_ret (ev_call (c_is_between G) (hr.mono (by decide)) passN (ea_cons (ev_ix hr (ev_var 1) ev_int) (ea_cons ev_int (ea_cons (ev_sub (ev_ix hr (ev_var 1) ev_int) ev_int) ea_nil)))))))
  exact h2
theorem ar_wanted (b : List Stmt) (sc : Scope) (kV doc pm : Value) (an : Option Addr) (cdv ct : Value) : ∀ us : List Value, us.length = 4 → bindArgs (PySem.W.fnOf "wanted" "wanted" (defArgs (top 23)) b sc .none kV doc pm an cdv ct) ⟨us, []⟩ = pure ((["w", "rest", "n", "bits"] : List Str).zip us)
  | [x0, x1, x2, x3], _ => by kernel_rfl
theorem c_wanted (G : Gv K mg) : Cal P w K mg base CXn 6 "wanted" ["w", "rest", "n", "bits"] (f_wanted FU) := by
  obtain ⟨f, fd, F, hm⟩ := G.d_wanted
  have hb := F.bindsN (ps := ["w", "rest", "n", "bits"]) (fun kV doc pm an cdv ct us hl => ar_wanted _ _ kV doc pm an cdv ct us hl)
  have h1 := cal_of (P := P) (w := w) (base := base) (CX := CXn) (k := 5) (d := b_wanted FU) F sc_wanted hm hb
  have h2 : Cal P w K mg base CXn 6 "wanted" ["w", "rest", "n", "bits"] (mkFn 4 4 (b_wanted FU)) := by
   apply h1
   intro cdv A outer s H E hr
   apply PSs.nox
   have hN : (N_wanted).Nodup := sc_wanted.nd
   exact (es_cons (es_expr (ev_call (c_need_width G) (hr.mono (by decide)) passN (ea_cons (ev_var 0) ea_nil)))
  (es_cons (es_if (te_not (te_val (ev_call (c_is_rest G) (hr.mono (by decide)) passN (ea_cons (ev_var 0) (ea_cons (ev_var 1) ea_nil))))) (es_one es_no) es_nil)
  (es_cons (es_expr (ev_call (c_need_want G) (hr.mono (by decide)) passN (ea_cons (ev_var 0) (ea_cons (ev_var 2) ea_nil))))
  (es_cons (es_expr (ev_call (c_need_bits G) (hr.mono (by decide)) passN (ea_cons (ev_var 3) ea_nil)))
  (es_one (es_ret (ev_call (c_raw_wanted G) (hr.mono (by decide)) passN (ea_cons (ev_var 0) (ea_cons (ev_var 1) (ea_cons (ev_var 2) (ea_cons (ev_var 3) ea_nil)))))))))))
  exact h2
theorem ar__law_one_by_one (b : List Stmt) (sc : Scope) (kV doc pm : Value) (an : Option Addr) (cdv ct : Value) : ∀ us : List Value, us.length = 3 → bindArgs (PySem.W.fnOf "_law_one_by_one" "_law_one_by_one" (defArgs (top 34)) b sc .none kV doc pm an cdv ct) ⟨us, []⟩ = pure ((["_law_w", "_law_wants", "_law_bits_here"] : List Str).zip us)
  | [x0, x1, x2], _ => by kernel_rfl
theorem c__law_one_by_one (G : Gv K mg) : Cal P w K mg base CXn 7 "_law_one_by_one" ["_law_w", "_law_wants", "_law_bits_here"] (f__law_one_by_one FU) := by
  obtain ⟨f, fd, F, hm⟩ := G.d__law_one_by_one
  have hb := F.bindsN (ps := ["_law_w", "_law_wants", "_law_bits_here"]) (fun kV doc pm an cdv ct us hl => ar__law_one_by_one _ _ kV doc pm an cdv ct us hl)
  have h1 := cal_of (P := P) (w := w) (base := base) (CX := CXn) (k := 6) (d := b__law_one_by_one FU) F sc__law_one_by_one hm hb
  have h2 : Cal P w K mg base CXn 7 "_law_one_by_one" ["_law_w", "_law_wants", "_law_bits_here"] (mkFn 3 8 (b__law_one_by_one FU)) := by
   apply h1
   intro cdv A outer s H E hr
   apply PSs.nox
   have hN : (N__law_one_by_one).Nodup := sc__law_one_by_one.nd
   exact (es_cons (es_asg (ev_tup (ea_cons (ev_tup (ea_cons ev_int (ea_cons ev_int ea_nil))) (ea_cons (ev_tup ea_nil) (ea_cons ev_int ea_nil)))) (tG_of (gn_tup rfl (gn_cons (gn_name 4 hN) (gn_cons (gn_name 5 hN) (gn_cons (gn_name 6 hN) gn_nil))) (gnl1 (gnl1 (gnl1 gnl0))))) dN_nx)
  (es_cons (es_for FU PassesOwn.never rfl (ei_seq (ev_var 1)) (tG_of (gn_name 3 hN)) dN_nx (es_cons (es_set 7 hN (ev_call (c_wanted G) (hr.mono (by decide)) passN (ea_cons (ev_var 0) (ea_cons (ev_var 4) (ea_cons (ev_var 3) (ea_cons (ev_sl (ev_var 2) (eo_some (ev_var 6)) eo_none) ea_nil))))))
  (es_cons (es_if (te_isN (ev_var 7)) (es_one (es_ret ev_non)) es_nil)
  (es_one (es_par3 5 4 6 hN rfl (ea_cons (ev_add (ev_var 5) (ev_tup (ea_cons (ev_ix hr (ev_var 7) ev_int) ea_nil))) (ea_cons (ev_ix hr (ev_var 7) ev_int) (ea_cons (ev_add (ev_var 6) (ev_ix hr (ev_var 7) ev_int)) ea_nil))))))))
  (es_one (es_ret (ev_tup (ea_cons (ev_var 5) (ea_cons (ev_var 4) (ea_cons (ev_var 6) ea_nil))))))))
  exact h2
theorem ar__law_are_even (b : List Stmt) (sc : Scope) (kV doc pm : Value) (an : Option Addr) (cdv ct : Value) : ∀ us : List Value, us.length = 3 → bindArgs (PySem.W.fnOf "_law_are_even" "_law_are_even" (defArgs (top 35)) b sc .none kV doc pm an cdv ct) ⟨us, []⟩ = pure ((["_law_w", "_law_wants", "_law_most"] : List Str).zip us)
  | [x0, x1, x2], _ => by kernel_rfl
theorem c__law_are_even (G : Gv K mg) : Cal P w K mg base CXn 7 "_law_are_even" ["_law_w", "_law_wants", "_law_most"] (f__law_are_even FU) := by
  obtain ⟨f, fd, F, hm⟩ := G.d__law_are_even
  have hb := F.bindsN (ps := ["_law_w", "_law_wants", "_law_most"]) (fun kV doc pm an cdv ct us hl => ar__law_are_even _ _ kV doc pm an cdv ct us hl)
  have h1 := cal_of (P := P) (w := w) (base := base) (CX := CXn) (k := 6) (d := b__law_are_even FU) F sc__law_are_even hm hb
  have h2 : Cal P w K mg base CXn 7 "_law_are_even" ["_law_w", "_law_wants", "_law_most"] (mkFn 3 15 (b__law_are_even FU)) := by
   apply h1
   intro cdv A outer s H E hr
   apply PSs.nox
   have hN : (N__law_are_even).Nodup := sc__law_are_even.nd
   exact (es_cons (es_par 5 6 hN rfl (ea_cons ev_newN (ea_cons (ev_loc (ea_cons (ev_tup ea_nil) ea_nil)) ea_nil)))
  (es_cons (es_while FU PassesOwn.never (te_ne hr (ev_var 6) (ev_lst ea_nil)) (es_cons (es_set 7 hN (ev_pop (ev_var 6)))
  (es_cons (es_set 8 hN (ev_call (c_row_wanted G) (hr.mono (by decide)) passN (ea_cons (ev_var 0) (ea_cons (ev_var 1) (ea_cons (ev_var 7) ea_nil)))))
  (es_cons (es_if (te_reprNe hr G.f_repr (ev_var 8) (ev_call (c__law_row_wanted G) (hr.mono (by decide)) passN (ea_cons (ev_var 0) (ea_cons (ev_var 1) (ea_cons (ev_var 7) ea_nil))))) (es_one (es_ret ev_bl)) es_nil)
  (es_cons (es_if (te_w (tw_and (te_isN (ev_var 8)) (tw_and1 (te_ltI (ev_lenA G.f_len (ea_cons (ev_var 7) ea_nil)) (ev_var 2))))) (es_one (es_set 6 hN (ev_addL (ev_var 6) (ev_lst (ea_cons (ev_add (ev_var 7) (ev_tup (ea_cons ev_int ea_nil))) (ea_cons (ev_add (ev_var 7) (ev_tup (ea_cons ev_int ea_nil))) ea_nil)))))) es_nil)
  (es_one (es_if (te_notN (ev_var 8)) (es_cons (es_if (te_ne hr (ev_ix hr (ev_var 8) ev_int) (ev_lenA G.f_len (ea_cons (ev_var 7) ea_nil))) (es_one (es_ret ev_bl)) es_nil)
  (es_cons (es_asg (ev_var 8) (tG_of (gn_tup rfl (gn_cons (gn_name 12 hN) (gn_cons (gn_tup rfl (gn_cons (gn_name 10 hN) (gn_cons (gn_name 13 hN) gn_nil)) (gnl1 (gnl1 gnl0))) (gn_cons (gn_name 9 hN) gn_nil))) (gnl1 (gnl1 (gnl1 gnl0))))) dN_nx)
  (es_cons (es_set 11 hN (ev_get2 hr (ev_var 5) (ev_tup (ea_cons (ev_var 9) (ea_cons (ev_var 10) ea_nil))) ev_newN))
  (es_cons (es_put hr (ev_var 11) (ev_tup (ea_cons (ev_var 12) (ea_cons (ev_var 13) ea_nil))) (ev_add (ev_get2 hr (ev_var 11) (ev_tup (ea_cons (ev_var 12) (ea_cons (ev_var 13) ea_nil))) ev_int) ev_int))
  (es_one (es_put hr (ev_var 5) (ev_tup (ea_cons (ev_var 9) (ea_cons (ev_var 10) ea_nil))) (ev_var 11))))))) es_nil)))))))
  (es_cons (es_set 3 hN ev_int)
  (es_cons (es_for FU PassesOwn.never rfl (ei_seq (ev_var 1)) (tG_of (gn_name 4 hN)) dN_nx (es_one (es_set 3 hN (ev_mul (ev_var 3) (ev_var 4)))))
  (es_cons (es_for FU PassesOwn.never rfl (ei_seq (ev_sortedN G.f_sorted rfl (ea_cons (ev_var 5) ea_nil))) (tG_of (gn_tup rfl (gn_cons (gn_name 9 hN) (gn_cons (gn_name 10 hN) gn_nil)) (gnl1 (gnl1 gnl0)))) dN_nx (es_cons (es_set 11 hN (ev_ix hr (ev_var 5) (ev_tup (ea_cons (ev_var 9) (ea_cons (ev_var 10) ea_nil)))))
  (es_one (es_if (te_w (tw_or (te_ne hr (ev_lenA G.f_len (ea_cons (ev_var 11) ea_nil)) (ev_mul (ev_var 3) (ev_var 10))) (tw_or1 (te_ne hr (ev_lenSet G.f_len G.f_set rfl (ev_vals (own := [("_law_many", 14)]) 14 mkV_new rfl hN (ev_var 11) (blkOk_by (N := N__law_are_even) (sc := defScope (top 35)) (own := [("_law_many", 14)]) (by decide +kernel)))) ev_int)))) (es_one (es_ret ev_bl)) es_nil))))
  (es_one (es_ret ev_bl)))))))
  exact h2
theorem ar_law (b : List Stmt) (sc : Scope) (kV doc pm : Value) (an : Option Addr) (cdv ct : Value) : ∀ us : List Value, us.length = 1 → bindArgs (PySem.W.fnOf "law" "law" (defArgs (top 36)) b sc .none kV doc pm an cdv ct) ⟨us, []⟩ = pure ((["_law_script"] : List Str).zip us)
  | [x0], _ => by kernel_rfl
theorem c_law (G : Gv K mg) : Cal P w K mg base CXn 8 "law" ["_law_script"] (f_law FU) := by
  obtain ⟨f, fd, F, hm⟩ := G.d_law
  have hb := F.bindsN (ps := ["_law_script"]) (fun kV doc pm an cdv ct us hl => ar_law _ _ kV doc pm an cdv ct us hl)
  have h1 := cal_of (P := P) (w := w) (base := base) (CX := CXn) (k := 7) (d := b_law FU) F sc_law hm hb
  have h2 : Cal P w K mg base CXn 8 "law" ["_law_script"] (mkFn 1 8 (b_law FU)) := by
   apply h1
   intro cdv A outer s H E hr
   apply PSs.nox
   have hN : (N_law).Nodup := sc_law.nd
   exact (es_cons (es_set 1 hN (ev_call (c__law_deck G) (hr.mono (by decide)) passN (ea_cons (ev_var 0) ea_nil)))
  (es_cons (es_for FU PassesOwn.never rfl (ei_range1 (ea_cons ev_int ea_nil) G.f_range) (tG_of (gn_name 2 hN)) dN_nx (es_cons (es_set 3 hN (ev_call (c__law_width G) (hr.mono (by decide)) passN (ea_cons (ev_var 1) (ea_cons ev_int ea_nil))))
  (es_cons (es_set 4 hN (ev_tuple G.f_tuple (ea_cons (ev_lc (own := [("_law_at", 7)]) FU mkV_ok rfl hN (ei_range1 (ea_cons (ev_call (c__law_pick G) (hr.mono (by decide)) passN (ea_cons (ev_var 1) (ea_cons (ev_lst (ea_cons ev_int (ea_cons ev_int (ea_cons ev_int (ea_cons ev_int (ea_cons ev_int (ea_cons ev_int ea_nil))))))) ea_nil))) ea_nil) G.f_range) (blkOk_by (N := N_law) (sc := defScope (top 36)) (own := [("_law_at", 7)]) (by decide +kernel)) (fun _ _ _ _ _ => (gn_name 7 hN)) (fun _ _ _ _ _ => eq_nil) (fun _ _ _ _ _ => (ev_call (c__law_want G) (hr.mono (by decide)) passN (ea_cons (ev_var 1) (ea_cons (ev_var 3) ea_nil))))) ea_nil)))
  (es_cons (es_set 5 hN (ev_call (c__law_bits G) (hr.mono (by decide)) passN (ea_cons (ev_var 1) (ea_cons (ev_call (c__law_pick G) (hr.mono (by decide)) passN (ea_cons (ev_var 1) (ea_cons (ev_lst (ea_cons ev_int (ea_cons ev_int (ea_cons ev_int (ea_cons ev_int (ea_cons ev_int (ea_cons (ev_if (te_eq hr (ev_var 2) ev_int) ev_int ev_int) ea_nil))))))) ea_nil))) ea_nil))))
  (es_cons (es_set 6 hN (ev_call (c__law_row_wanted G) (hr.mono (by decide)) passN (ea_cons (ev_var 3) (ea_cons (ev_var 4) (ea_cons (ev_var 5) ea_nil)))))
  (es_cons (es_if (te_reprNe hr G.f_repr (ev_tup (ea_cons (ev_call (c_row_wanted G) (hr.mono (by decide)) passN (ea_cons (ev_var 3) (ea_cons (ev_var 4) (ea_cons (ev_var 5) ea_nil)))) (ea_cons (ev_callK (c_row_wanted G) (kb_row_wanted_bits_wants_w G) (hr.mono (by decide)) passN (ek_cons (ev_var 5) (ek_cons (ev_var 4) (ek_cons (ev_var 3) ek_nil)))) ea_nil))) (ev_tup (ea_cons (ev_var 6) (ea_cons (ev_var 6) ea_nil)))) (es_one (es_ret ev_bl)) es_nil)
  (es_cons (es_if (te_w (tw_and (te_ltI (ev_lenA G.f_len (ea_cons (ev_var 5) ea_nil)) ev_int) (tw_and1 (te_reprNe hr G.f_repr (ev_call (c__law_one_by_one G) (hr.mono (by decide)) passN (ea_cons (ev_var 3) (ea_cons (ev_var 4) (ea_cons (ev_var 5) ea_nil)))) (ev_var 6))))) (es_one (es_ret ev_bl)) es_nil)
  (es_one (es_if (te_w (tw_and (te_notN (ev_var 6)) (tw_and1 (te_reprNe hr G.f_repr (ev_call (c_row_wanted G) (hr.mono (by decide)) passN (ea_cons (ev_var 3) (ea_cons (ev_var 4) (ea_cons (ev_add (ev_sl (ev_var 5) eo_none (eo_some (ev_ix hr (ev_var 6) ev_int))) (ev_call (c__law_bits G) (hr.mono (by decide)) passN (ea_cons (ev_var 1) (ea_cons ev_int ea_nil)))) ea_nil)))) (ev_var 6))))) (es_one (es_ret ev_bl)) es_nil)))))))))
  (es_cons (es_set 3 hN (ev_add ev_int (ev_call (c__law_draw G) (hr.mono (by decide)) passN (ea_cons (ev_var 1) (ea_cons ev_int ea_nil)))))
  (es_cons (es_set 4 hN (ev_call (c__law_pick G) (hr.mono (by decide)) passN (ea_cons (ev_var 1) (ea_cons (ev_lst (ea_cons (ev_tup (ea_cons ev_int ea_nil)) (ea_cons (ev_tup (ea_cons ev_int (ea_cons ev_int ea_nil))) (ea_cons (ev_tup (ea_cons ev_int (ea_cons ev_int ea_nil))) (ea_cons (ev_tup (ea_cons ev_int ea_nil)) (ea_cons (ev_tup (ea_cons ev_int (ea_cons ev_int ea_nil))) (ea_cons (ev_tup (ea_cons ev_int (ea_cons ev_int ea_nil))) (ea_cons (ev_tup (ea_cons ev_int (ea_cons ev_int ea_nil))) (ea_cons (ev_tup (ea_cons ev_int (ea_cons ev_int (ea_cons ev_int ea_nil)))) ea_nil))))))))) ea_nil))))
  (es_cons (es_if (te_gt (ev_var 3) ev_int) (es_one (es_set 4 hN (ev_call (c__law_pick G) (hr.mono (by decide)) passN (ea_cons (ev_var 1) (ea_cons (ev_lst (ea_cons (ev_var 4) (ea_cons (ev_tup (ea_cons ev_int ea_nil)) (ea_cons (ev_tup (ea_cons ev_int ea_nil)) (ea_cons (ev_tup (ea_cons ev_int ea_nil)) (ea_cons (ev_tup (ea_cons ev_int (ea_cons ev_int ea_nil))) (ea_cons (ev_tup (ea_cons ev_int ea_nil)) (ea_cons (ev_tup (ea_cons ev_int (ea_cons ev_int ea_nil))) (ea_cons (ev_tup (ea_cons ev_int (ea_cons ev_int ea_nil))) ea_nil))))))))) ea_nil))))) es_nil)
  (es_one (es_ret (ev_call (c__law_are_even G).fresh (hr.mono (by decide)) passN (ea_cons (ev_var 3) (ea_cons (ev_var 4) (ea_cons ev_int ea_nil)))))))))))
  exact h2
end
end k43

set_option Elab.async false
set_option linter.all false
set_option maxRecDepth 100000
set_option maxHeartbeats 0
/-! Head_k43: the top, run once; what it leaves (printed by gen.py). -/
namespace k43
open PySem PySem.Spec PyProof.Rows L2 Ev
def dd_is_integer : He.DefD := ⟨("is_integer", none), "is_integer", "is_integer", defArgs (top 6), defBody (top 6), defScope (top 6), [], []⟩
def dd_is_between : He.DefD := ⟨("is_between", none), "is_between", "is_between", defArgs (top 7), defBody (top 7), defScope (top 7), [], []⟩
def dd_are_between : He.DefD := ⟨("are_between", none), "are_between", "are_between", defArgs (top 8), defBody (top 8), defScope (top 8), [], []⟩
def dd_are_bits_value : He.DefD := ⟨("are_bits_value", none), "are_bits_value", "are_bits_value", defArgs (top 9), defBody (top 9), defScope (top 9), [], []⟩
def dd_need_bits : He.DefD := ⟨("need_bits", none), "need_bits", "need_bits", defArgs (top 11), defBody (top 11), defScope (top 11), [], []⟩
def dd_raw_wanted : He.DefD := ⟨("raw_wanted", none), "raw_wanted", "raw_wanted", defArgs (top 13), defBody (top 13), defScope (top 13), [], []⟩
def dd_raw_row_wanted : He.DefD := ⟨("raw_row_wanted", none), "raw_row_wanted", "raw_row_wanted", defArgs (top 14), defBody (top 14), defScope (top 14), [], []⟩
def dd_need_width : He.DefD := ⟨("need_width", none), "need_width", "need_width", defArgs (top 18), defBody (top 18), defScope (top 18), [], []⟩
def dd_most_want : He.DefD := ⟨("most_want", none), "most_want", "most_want", defArgs (top 19), defBody (top 19), defScope (top 19), [], []⟩
def dd_need_wants : He.DefD := ⟨("need_wants", none), "need_wants", "need_wants", defArgs (top 21), defBody (top 21), defScope (top 21), [], []⟩
def dd_row_wanted : He.DefD := ⟨("row_wanted", none), "row_wanted", "row_wanted", defArgs (top 24), defBody (top 24), defScope (top 24), [], []⟩
def dd__law_deck : He.DefD := ⟨("_law_deck", none), "_law_deck", "_law_deck", defArgs (top 26), defBody (top 26), defScope (top 26), [], []⟩
def dd__law_draw : He.DefD := ⟨("_law_draw", none), "_law_draw", "_law_draw", defArgs (top 27), defBody (top 27), defScope (top 27), [], []⟩
def dd__law_pick : He.DefD := ⟨("_law_pick", none), "_law_pick", "_law_pick", defArgs (top 28), defBody (top 28), defScope (top 28), [], []⟩
def dd__law_bits : He.DefD := ⟨("_law_bits", none), "_law_bits", "_law_bits", defArgs (top 29), defBody (top 29), defScope (top 29), [], []⟩
def dd__law_wanted : He.DefD := ⟨("_law_wanted", none), "_law_wanted", "_law_wanted", defArgs (top 30), defBody (top 30), defScope (top 30), [], []⟩
def dd__law_row_wanted : He.DefD := ⟨("_law_row_wanted", none), "_law_row_wanted", "_law_row_wanted", defArgs (top 31), defBody (top 31), defScope (top 31), [], []⟩
def dd__law_width : He.DefD := ⟨("_law_width", none), "_law_width", "_law_width", defArgs (top 32), defBody (top 32), defScope (top 32), [], []⟩
def dd__law_want : He.DefD := ⟨("_law_want", none), "_law_want", "_law_want", defArgs (top 33), defBody (top 33), defScope (top 33), [], []⟩
def dd_need_want : He.DefD := ⟨("need_want", none), "need_want", "need_want", defArgs (top 20), defBody (top 20), defScope (top 20), [], []⟩
def dd_is_rest : He.DefD := ⟨("is_rest", none), "is_rest", "is_rest", defArgs (top 22), defBody (top 22), defScope (top 22), [], []⟩
def dd_wanted : He.DefD := ⟨("wanted", none), "wanted", "wanted", defArgs (top 23), defBody (top 23), defScope (top 23), [], []⟩
def dd__law_one_by_one : He.DefD := ⟨("_law_one_by_one", none), "_law_one_by_one", "_law_one_by_one", defArgs (top 34), defBody (top 34), defScope (top 34), [], []⟩
def dd__law_are_even : He.DefD := ⟨("_law_are_even", none), "_law_are_even", "_law_are_even", defArgs (top 35), defBody (top 35), defScope (top 35), [], []⟩
def dd_law : He.DefD := ⟨("law", none), "law", "law", defArgs (top 36), defBody (top 36), defScope (top 36), [], []⟩
def fn : List He.DefD := [dd_is_integer, dd_is_between, dd_are_between, dd_are_bits_value, dd_need_bits, dd_raw_wanted, dd_raw_row_wanted, dd_need_width, dd_most_want, dd_need_wants, dd_row_wanted, dd__law_deck, dd__law_draw, dd__law_pick, dd__law_bits, dd__law_wanted, dd__law_row_wanted, dd__law_width, dd__law_want, dd_need_want, dd_is_rest, dd_wanted, dd__law_one_by_one, dd__law_are_even, dd_law]
def fa : List He.Fa := [.free "all", .free "bool", .free "int", .free "isinstance", .free "len", .free "list", .free "max", .free "min", .free "range", .free "repr", .free "set", .free "sorted", .free "tuple", .int "MOST_WANT" 64, .int "MOST_WIDTH" 12, .glo "is_integer", .glo "is_between", .glo "are_between", .glo "are_bits_value", .glo "need_bits", .glo "raw_wanted", .glo "raw_row_wanted", .glo "need_width", .glo "most_want", .glo "need_wants", .glo "row_wanted", .glo "_law_deck", .glo "_law_draw", .glo "_law_pick", .glo "_law_bits", .glo "_law_wanted", .glo "_law_row_wanted", .glo "_law_width", .glo "_law_want", .glo "need_want", .glo "is_rest", .glo "wanted", .glo "_law_one_by_one", .glo "_law_are_even", .glo "law"]
abbrev Rr : PySem.W.OpenRow := PySem.W.OpenLaw.row PySem.Challenge.rw_drawnbits_k43_whole_rows_of_wants
abbrev hk : PySem.W.Hook := He.hookD 240 fa fn
def ob (s : PySem.W.SharedT) : He.AlD := He.obsDG 240 fa fn (HandSHeadRun.getT s)
theorem ob_eq (s : PySem.W.SharedT) : ob s = hk.obs s.abs := He.obsDG_eq (HandSHeadRun.getT_eq s)
def loose : List Str := ["DrawError", "BadNumber", "BadBits", "BadRow", "is_integer", "is_between", "are_between", "are_bits_value", "need_bits", "raw_wanted", "raw_row_wanted", "MOST_WIDTH", "MOST_WANT", "need_width", "most_want", "need_want", "need_wants", "is_rest", "wanted", "row_wanted", "_law_deck", "_law_draw", "_law_pick", "_law_bits", "_law_wanted", "_law_row_wanted", "_law_width", "_law_want", "_law_one_by_one", "_law_are_even"]
theorem run (w : World) : HandSHeadRun.RunEq Rr (PySem.W.view Rr.prog [36]) hk ob 4000 loose w := by
  intro os
  kernel_rfl
theorem facts {K : PySem.W.Frag} {h : Heap} {mg : Str → Option Value} (X : K.In h) (G : h.Ns mainGlobals mg) (c : He.SaysD fa fn K) : Gv K mg where
  f_all := He.free_ok X G (c.fact 0 (f := .free "all") rfl)
  f_bool := He.free_ok X G (c.fact 1 (f := .free "bool") rfl)
  f_int := He.free_ok X G (c.fact 2 (f := .free "int") rfl)
  f_isinstance := He.free_ok X G (c.fact 3 (f := .free "isinstance") rfl)
  f_len := He.free_ok X G (c.fact 4 (f := .free "len") rfl)
  f_list := He.free_ok X G (c.fact 5 (f := .free "list") rfl)
  f_max := He.free_ok X G (c.fact 6 (f := .free "max") rfl)
  f_min := He.free_ok X G (c.fact 7 (f := .free "min") rfl)
  f_range := He.free_ok X G (c.fact 8 (f := .free "range") rfl)
  f_repr := He.free_ok X G (c.fact 9 (f := .free "repr") rfl)
  f_set := He.free_ok X G (c.fact 10 (f := .free "set") rfl)
  f_sorted := He.free_ok X G (c.fact 11 (f := .free "sorted") rfl)
  f_tuple := He.free_ok X G (c.fact 12 (f := .free "tuple") rfl)
  i_MOST_WANT := He.int_ok X G (c.fact 13 (f := .int "MOST_WANT" 64) rfl)
  i_MOST_WIDTH := He.int_ok X G (c.fact 14 (f := .int "MOST_WIDTH" 12) rfl)
  k_bool := fun t ht => kit_ty (by revert t; decide +kernel)
  k_int := fun t ht => kit_ty (by revert t; decide +kernel)
  k_tuple := fun t ht => kit_ty (by revert t; decide +kernel)
  d_is_integer := by
    obtain ⟨fd, F⟩ := c.def_ 0 (d := dd_is_integer) rfl
    exact ⟨_, fd, F, He.glo_ok X G (c.fact 15 (f := .glo "is_integer") rfl)⟩
  d_is_between := by
    obtain ⟨fd, F⟩ := c.def_ 1 (d := dd_is_between) rfl
    exact ⟨_, fd, F, He.glo_ok X G (c.fact 16 (f := .glo "is_between") rfl)⟩
  d_are_between := by
    obtain ⟨fd, F⟩ := c.def_ 2 (d := dd_are_between) rfl
    exact ⟨_, fd, F, He.glo_ok X G (c.fact 17 (f := .glo "are_between") rfl)⟩
  d_are_bits_value := by
    obtain ⟨fd, F⟩ := c.def_ 3 (d := dd_are_bits_value) rfl
    exact ⟨_, fd, F, He.glo_ok X G (c.fact 18 (f := .glo "are_bits_value") rfl)⟩
  d_need_bits := by
    obtain ⟨fd, F⟩ := c.def_ 4 (d := dd_need_bits) rfl
    exact ⟨_, fd, F, He.glo_ok X G (c.fact 19 (f := .glo "need_bits") rfl)⟩
  d_raw_wanted := by
    obtain ⟨fd, F⟩ := c.def_ 5 (d := dd_raw_wanted) rfl
    exact ⟨_, fd, F, He.glo_ok X G (c.fact 20 (f := .glo "raw_wanted") rfl)⟩
  d_raw_row_wanted := by
    obtain ⟨fd, F⟩ := c.def_ 6 (d := dd_raw_row_wanted) rfl
    exact ⟨_, fd, F, He.glo_ok X G (c.fact 21 (f := .glo "raw_row_wanted") rfl)⟩
  d_need_width := by
    obtain ⟨fd, F⟩ := c.def_ 7 (d := dd_need_width) rfl
    exact ⟨_, fd, F, He.glo_ok X G (c.fact 22 (f := .glo "need_width") rfl)⟩
  d_most_want := by
    obtain ⟨fd, F⟩ := c.def_ 8 (d := dd_most_want) rfl
    exact ⟨_, fd, F, He.glo_ok X G (c.fact 23 (f := .glo "most_want") rfl)⟩
  d_need_wants := by
    obtain ⟨fd, F⟩ := c.def_ 9 (d := dd_need_wants) rfl
    exact ⟨_, fd, F, He.glo_ok X G (c.fact 24 (f := .glo "need_wants") rfl)⟩
  d_row_wanted := by
    obtain ⟨fd, F⟩ := c.def_ 10 (d := dd_row_wanted) rfl
    exact ⟨_, fd, F, He.glo_ok X G (c.fact 25 (f := .glo "row_wanted") rfl)⟩
  d__law_deck := by
    obtain ⟨fd, F⟩ := c.def_ 11 (d := dd__law_deck) rfl
    exact ⟨_, fd, F, He.glo_ok X G (c.fact 26 (f := .glo "_law_deck") rfl)⟩
  d__law_draw := by
    obtain ⟨fd, F⟩ := c.def_ 12 (d := dd__law_draw) rfl
    exact ⟨_, fd, F, He.glo_ok X G (c.fact 27 (f := .glo "_law_draw") rfl)⟩
  d__law_pick := by
    obtain ⟨fd, F⟩ := c.def_ 13 (d := dd__law_pick) rfl
    exact ⟨_, fd, F, He.glo_ok X G (c.fact 28 (f := .glo "_law_pick") rfl)⟩
  d__law_bits := by
    obtain ⟨fd, F⟩ := c.def_ 14 (d := dd__law_bits) rfl
    exact ⟨_, fd, F, He.glo_ok X G (c.fact 29 (f := .glo "_law_bits") rfl)⟩
  d__law_wanted := by
    obtain ⟨fd, F⟩ := c.def_ 15 (d := dd__law_wanted) rfl
    exact ⟨_, fd, F, He.glo_ok X G (c.fact 30 (f := .glo "_law_wanted") rfl)⟩
  d__law_row_wanted := by
    obtain ⟨fd, F⟩ := c.def_ 16 (d := dd__law_row_wanted) rfl
    exact ⟨_, fd, F, He.glo_ok X G (c.fact 31 (f := .glo "_law_row_wanted") rfl)⟩
  d__law_width := by
    obtain ⟨fd, F⟩ := c.def_ 17 (d := dd__law_width) rfl
    exact ⟨_, fd, F, He.glo_ok X G (c.fact 32 (f := .glo "_law_width") rfl)⟩
  d__law_want := by
    obtain ⟨fd, F⟩ := c.def_ 18 (d := dd__law_want) rfl
    exact ⟨_, fd, F, He.glo_ok X G (c.fact 33 (f := .glo "_law_want") rfl)⟩
  d_need_want := by
    obtain ⟨fd, F⟩ := c.def_ 19 (d := dd_need_want) rfl
    exact ⟨_, fd, F, He.glo_ok X G (c.fact 34 (f := .glo "need_want") rfl)⟩
  d_is_rest := by
    obtain ⟨fd, F⟩ := c.def_ 20 (d := dd_is_rest) rfl
    exact ⟨_, fd, F, He.glo_ok X G (c.fact 35 (f := .glo "is_rest") rfl)⟩
  d_wanted := by
    obtain ⟨fd, F⟩ := c.def_ 21 (d := dd_wanted) rfl
    exact ⟨_, fd, F, He.glo_ok X G (c.fact 36 (f := .glo "wanted") rfl)⟩
  d__law_one_by_one := by
    obtain ⟨fd, F⟩ := c.def_ 22 (d := dd__law_one_by_one) rfl
    exact ⟨_, fd, F, He.glo_ok X G (c.fact 37 (f := .glo "_law_one_by_one") rfl)⟩
  d__law_are_even := by
    obtain ⟨fd, F⟩ := c.def_ 23 (d := dd__law_are_even) rfl
    exact ⟨_, fd, F, He.glo_ok X G (c.fact 38 (f := .glo "_law_are_even") rfl)⟩
  d_law := by
    obtain ⟨fd, F⟩ := c.def_ 24 (d := dd_law) rfl
    exact ⟨_, fd, F, He.glo_ok X G (c.fact 39 (f := .glo "law") rfl)⟩
end k43
open PySem PySem.W PySem.Calls PyProof.Rows in
theorem k43.end_ (hy : ∀ ns : List Int, ns.length ≤ 63 → Ev.Yes (k43.f_law k43.FU) ns) : PySem.Challenge.rw_drawnbits_k43_whole_rows_of_wants.Holds := by
  w_on; o_law
  refine HandSHeadRun.head_any (r := OpenLaw.row PySem.Challenge.rw_drawnbits_k43_whole_rows_of_wants) (q := view (OpenLaw.row PySem.Challenge.rw_drawnbits_k43_whole_rows_of_wants).prog [36]) (H := k43.hk) (ob := k43.ob) (M := 4000) (loose := k43.loose) (d := HandSHeadRun.topDef (OpenLaw.row PySem.Challenge.rw_drawnbits_k43_whole_rows_of_wants).prog 36) (kwd := []) k43.ob_eq
    (by kernel_rfl) (fun s => by kernel_rfl) k43.run (by kernel_rfl) (by kernel_rfl) (by kernel_rfl) (by rfl) (by first | assumption | decide +kernel) (by decide +kernel) ⟨rfl, rfl, rfl, rfl, rfl, by decide +kernel⟩ ?hw ?hc
  case hw => w_witness2
  case hc =>
    refine Ev.walk_ofG (l := PySem.Challenge.rw_drawnbits_k43_whole_rows_of_wants) (n := 63) (k := 8) (x := "_law_script") (CX := k43.CXn) rfl (by decide) (by kernel_rfl) ⟨⟨rfl, by decide, by decide⟩, rfl⟩ ?F (fun _ _ _ _ z => z)
    intro w mg fa h Y G hmg0
    obtain ⟨K, KX, c⟩ := Y
    have hmg : mg ("law" : PySem.Str) = some (.ref fa) := by
      have e : (HandSHeadRun.topDef (OpenLaw.row PySem.Challenge.rw_drawnbits_k43_whole_rows_of_wants).prog 36).name = ("law" : PySem.Str) := by kernel_rfl
      rw [← e]
      exact hmg0
    have gv := k43.facts KX G c
    obtain ⟨f, fd, F, hm⟩ := gv.d_law
    cases hm.symm.trans hmg
    refine ⟨K, fd, k43.f_law k43.FU, KX, fun s v => L2.FunD.bindsA (ps := ["_law_script"]) F (fun kV doc pm an cdv ct us hl => k43.ar_law _ _ kV doc pm an cdv ct us hl) s [v] rfl, hy, fun base _ _ => ?_⟩
    obtain ⟨f2, fd2, F2, hm2, _, _, _, _, F3, _⟩ := k43.c_law (P := PySem.Challenge.pw_drawnbits_k43_whole_rows_of_wants) (w := w) (base := base) gv
    cases hm2.symm.trans hm
    have e := F.same F3
    subst e
    exact F2

set_option Elab.async false
set_option linter.all false
set_option maxRecDepth 100000
set_option maxHeartbeats 4000000
/-! Ma_k43: what the defs of k43 compute, in plain Lean. -/
namespace k43
open PySem Ev

/-! ### one draw -/
/-- bits are taken till m is at least M -/
def inn (M : Int) : Int → Int → Nat → List Int → Option (Int × Int × Nat × List Int)
  | m, r, t, [] => if m < M then none else some (m, r, t, [])
  | m, r, t, b :: bs => if m < M then inn M (2 * m) (2 * r + b) (t + 1) bs else some (m, r, t, b :: bs)
/-- one wanted draw -/
def out (M n : Int) : Nat → Int → Int → Nat → List Int → Option (Int × Int × Int × Nat)
  | 0, _, _, _, _ => none
  | k + 1, m, r, t, bs => match inn M m r t bs with
    | none => none
    | some (m, r, t, bs) => if r < m / n * n then some (r % n, m / n, r / n, t) else out M n k (m - m / n * n) (r - m / n * n) t bs
def toldD : Option (Int × Int × Int × Nat) → D
  | none => .non
  | some (o, q, r, t) => .tup [.int o, .tup [.int q, .int r], .int (t : Nat)]
section
variable {FU : Nat} {w n : Int} {bits : List Int} {rest0 : D} {q0 : Option D} {S : Sto}
abbrev tupI (bs : List Int) : D := .tup (bs.map D.int)
theorem at_bits {t : Nat} {b : Int} {bs : List Int} (h : bits.drop t = b :: bs) : L2.atI (bits.map D.int) (t : Int) = some (.int b) := by
  refine L2.atI_nat ?_
  have h1 : bits[t]? = some b := by
    have := congrArg (fun l => l[0]?) h
    simpa using this
  rw [List.getElem?_map, h1]
  rfl
theorem drop_succ {t : Nat} {b : Int} {bs : List Int} (h : bits.drop t = b :: bs) : bits.drop (t + 1) = bs := by
  rw [← List.drop_drop, h]
  rfl
def P1 (i : Nat) : DT := dTst (dOp bLt (dVar i) (dOp bShl (dC (.int 1)) (dVar 0)))
def F1 (im ir it : Nat) : DS := dThen (dIfS (dTst (dOp bEq (dVar it) (dCB oLenA (dCons (dVar 3) dNil)))) (dRet (dC .non)) dNext)
  (dPar3 im ir it (dCons (dOp bMul (dC (.int 2)) (dVar im)) (dCons (dOp (bAdd mkV) (dOp bMul (dC (.int 2)) (dVar ir)) (dOp oIx (dVar 3) (dVar it))) (dCons (dOp (bAdd mkV) (dVar it) (dC (.int 1))) dNil))))
theorem inner_raw (hw : 0 ≤ w ∧ w ≤ 1000000) : ∀ (bs : List Int) (k : Nat) (m r : Int) (t : Nat), bits.drop t = bs → t ≤ bits.length → bs.length < k →
    dWhile k (P1 6) (F1 6 7 4) [some (.int w), some rest0, some (.int n), some (tupI bits), some (.int t), q0, some (.int m), some (.int r)] S =
    (match inn (2 ^ w.toNat) m r t bs with
      | none => .ret .non S
      | some (m, r, t, _) => .nx [some (.int w), some rest0, some (.int n), some (tupI bits), some (.int (t : Nat)), q0, some (.int m), some (.int r)] S)
  | [], k + 1, m, r, t, hd, ht, hk => by
    have hl : (t : Int) = bits.length := by
      have : bits.length ≤ t := List.drop_eq_nil_iff.mp hd
      omega
    rw [while_go]
    by_cases hm : m < 2 ^ w.toNat
    · simp [P1, F1, inn, hm, cPow_of hw.1 hw.2, hl]
    · simp [P1, F1, inn, hm, cPow_of hw.1 hw.2]
  | b :: bs, k + 1, m, r, t, hd, ht, hk => by
    have hl : t < bits.length := by
      by_cases h : t < bits.length
      · exact h
      · rw [List.drop_eq_nil_iff.mpr (by omega)] at hd; cases hd
    rw [while_go]
    by_cases hm : m < 2 ^ w.toNat
    · have ih := inner_raw hw bs k (2 * m) (2 * r + b) (t + 1) (drop_succ hd) (by omega) (by simpa using hk)
      have hne : ¬ (t : Int) = bits.length := by omega
      simp [P1, F1, inn, hm, cPow_of hw.1 hw.2, hne, at_bits hd, cMul_l]
      simpa [P1, F1] using ih
    · simp [P1, F1, inn, hm, cPow_of hw.1 hw.2]
theorem inner_law (hw : 0 ≤ w ∧ w ≤ 1000000) {tn : Option D} : ∀ (bs : List Int) (k : Nat) (m r : Int) (t : Nat), bits.drop t = bs → t ≤ bits.length → bs.length < k →
    dWhile k (P1 7) (F1 7 8 5) [some (.int w), some rest0, some (.int n), some (tupI bits), tn, some (.int t), q0, some (.int m), some (.int r)] S =
    (match inn (2 ^ w.toNat) m r t bs with
      | none => .ret .non S
      | some (m, r, t, _) => .nx [some (.int w), some rest0, some (.int n), some (tupI bits), tn, some (.int (t : Nat)), q0, some (.int m), some (.int r)] S)
  | [], k + 1, m, r, t, hd, ht, hk => by
    have hl : (t : Int) = bits.length := by
      have : bits.length ≤ t := List.drop_eq_nil_iff.mp hd
      omega
    rw [while_go]
    by_cases hm : m < 2 ^ w.toNat
    · simp [P1, F1, inn, hm, cPow_of hw.1 hw.2, hl]
    · simp [P1, F1, inn, hm, cPow_of hw.1 hw.2]
  | b :: bs, k + 1, m, r, t, hd, ht, hk => by
    have hl : t < bits.length := by
      by_cases h : t < bits.length
      · exact h
      · rw [List.drop_eq_nil_iff.mpr (by omega)] at hd; cases hd
    rw [while_go]
    by_cases hm : m < 2 ^ w.toNat
    · have ih := inner_law hw (tn := tn) bs k (2 * m) (2 * r + b) (t + 1) (drop_succ hd) (by omega) (by simpa using hk)
      have hne : ¬ (t : Int) = bits.length := by omega
      simp [P1, F1, inn, hm, cPow_of hw.1 hw.2, hne, at_bits hd, cMul_l]
      simpa [P1, F1] using ih
    · simp [P1, F1, inn, hm, cPow_of hw.1 hw.2]
theorem inn_spec {M : Int} : ∀ (bs : List Int) (m r : Int) (t : Nat) {m' r' : Int} {t' : Nat} {bs' : List Int}, bits.drop t = bs → t ≤ bits.length → inn M m r t bs = some (m', r', t', bs') →
    bits.drop t' = bs' ∧ t' ≤ bits.length ∧ M ≤ m' ∧ bs'.length ≤ bs.length ∧ (m < M → bs'.length < bs.length)
  | [], m, r, t, m', r', t', bs', hd, ht, e => by
    unfold inn at e
    split at e
    · cases e
    · cases e
      exact ⟨hd, ht, by omega, Nat.le_refl _, fun h => by omega⟩
  | b :: bs, m, r, t, m', r', t', bs', hd, ht, e => by
    have hl : t < bits.length := by
      by_cases h : t < bits.length
      · exact h
      · rw [List.drop_eq_nil_iff.mpr (by omega)] at hd; cases hd
    unfold inn at e
    split at e
    · obtain ⟨h1, h2, h3, h4, h5⟩ := inn_spec bs _ _ _ (drop_succ hd) (by omega) e
      exact ⟨h1, h2, h3, by simp; omega, fun _ => by simp; omega⟩
    · cases e
      exact ⟨hd, ht, by omega, Nat.le_refl _, fun h => by omega⟩
def B1 (FU : Nat) : DS := dThen (dWhile FU (P1 6) (F1 6 7 4)) (dThen (dSet 5 (dOp bFdiv (dVar 6) (dVar 2)))
  (dThen (dIfS (dTst (dOp bLt (dVar 7) (dOp bMul (dVar 5) (dVar 2)))) (dRet (dTup (dCons (dOp bMod (dVar 7) (dVar 2)) (dCons (dTup (dCons (dVar 5) (dCons (dOp bFdiv (dVar 7) (dVar 2)) dNil))) (dCons (dVar 4) dNil))))) dNext)
  (dPar 6 7 (dCons (dOp bSub (dVar 6) (dOp bMul (dVar 5) (dVar 2))) (dCons (dOp bSub (dVar 7) (dOp bMul (dVar 5) (dVar 2))) dNil)))))
theorem while_T {s : DS} {k : Nat} {ρ : Rho} {S : Sto} : dWhile (k + 1) (dTst (dC (.bl true))) s ρ S = (s ρ S).again (dWhile k (dTst (dC (.bl true))) s) := rfl
theorem sz3 : 3 ≤ sizeLine := by decide
theorem sz2 : 2 ≤ sizeLine := by decide
theorem outer_raw (hw : 0 ≤ w ∧ w ≤ 1000000) (hn : 0 < n ∧ n ≤ 2 ^ w.toNat ∧ n < 18446744073709551616) : ∀ (k K : Nat) (bs : List Int) (m r : Int) (t : Nat) (q0 : Option D), bits.drop t = bs → t ≤ bits.length → bs.length < FU →
    (bs.length + 2 ≤ k ∨ (m < 2 ^ w.toNat ∧ bs.length + 1 ≤ k)) → (bs.length + 2 ≤ K ∨ (m < 2 ^ w.toNat ∧ bs.length + 1 ≤ K)) →
    dWhile k (dTst (dC (.bl true))) (B1 FU) [some (.int w), some rest0, some (.int n), some (tupI bits), some (.int t), q0, some (.int m), some (.int r)] S = .ret (toldD (out (2 ^ w.toNat) n K m r t bs)) S
  | 0, K, bs, m, r, t, q0, hd, ht, hF, hk, hK => by omega
  | k + 1, 0, bs, m, r, t, q0, hd, ht, hF, hk, hK => by omega
  | k + 1, K + 1, bs, m, r, t, q0, hd, ht, hF, hk, hK => by
    have h1 := inner_raw (w := w) (n := n) (bits := bits) (rest0 := rest0) (q0 := q0) (S := S) hw bs FU m r t hd ht hF
    rw [while_T]
    have e0 : (B1 FU) [some (.int w), some rest0, some (.int n), some (tupI bits), some (.int t), q0, some (.int m), some (.int r)] S = (dWhile FU (P1 6) (F1 6 7 4) [some (.int w), some rest0, some (.int n), some (tupI bits), some (.int t), q0, some (.int m), some (.int r)] S).thn (dThen (dSet 5 (dOp bFdiv (dVar 6) (dVar 2)))
  (dThen (dIfS (dTst (dOp bLt (dVar 7) (dOp bMul (dVar 5) (dVar 2)))) (dRet (dTup (dCons (dOp bMod (dVar 7) (dVar 2)) (dCons (dTup (dCons (dVar 5) (dCons (dOp bFdiv (dVar 7) (dVar 2)) dNil))) (dCons (dVar 4) dNil))))) dNext)
  (dPar 6 7 (dCons (dOp bSub (dVar 6) (dOp bMul (dVar 5) (dVar 2))) (dCons (dOp bSub (dVar 7) (dOp bMul (dVar 5) (dVar 2))) dNil))))) := rfl
    rw [e0, h1]
    unfold out
    cases q : inn (2 ^ w.toNat) m r t bs with
    | none => rfl
    | some x =>
      obtain ⟨m', r', t', bs'⟩ := x
      obtain ⟨a1, a2, a3, a4, a5⟩ := inn_spec bs m r t hd ht q
      have hm2 : m' - m' / n * n < 2 ^ w.toNat := by
        have h2 := Int.emod_lt_of_pos m' hn.1
        have h3 := Int.emod_def m' n
        have h4 : n * (m' / n) = m' / n * n := Int.mul_comm ..
        omega
      by_cases hr : r' < m' / n * n
      · simp [hr, cDiv_of hn.1 hn.2.2, cMul_r (i := m' / n) (j := n) (by omega), hn.1, sz3, sz2, toldD]
      · have ih := outer_raw hw hn k K bs' (m' - m' / n * n) (r' - m' / n * n) t' (some (.int (m' / n))) a1 a2 (by omega) (.inr ⟨hm2, by omega⟩) (.inr ⟨hm2, by omega⟩)
        simp [hr, cDiv_of hn.1 hn.2.2, cMul_r (i := m' / n) (j := n) (by omega)]
        exact ih
def B2 (FU : Nat) : DS := dThen (dWhile FU (P1 7) (F1 7 8 5)) (dThen (dSet 6 (dOp bFdiv (dVar 7) (dVar 2)))
  (dThen (dIfS (dTst (dOp bLt (dVar 8) (dOp bMul (dVar 6) (dVar 2)))) (dRet (dTup (dCons (dOp bMod (dCB oInt (dCons (dVar 8) dNil)) (dVar 2)) (dCons (dTup (dCons (dVar 6) (dCons (dOp bFdiv (dVar 8) (dVar 2)) dNil))) (dCons (dVar 5) dNil))))) dNext)
  (dPar 7 8 (dCons (dOp bSub (dVar 7) (dOp bMul (dVar 6) (dVar 2))) (dCons (dOp bSub (dVar 8) (dOp bMul (dVar 6) (dVar 2))) dNil)))))
theorem outer_law (hw : 0 ≤ w ∧ w ≤ 1000000) (hn : 0 < n ∧ n ≤ 2 ^ w.toNat ∧ n < 18446744073709551616) (N : Nat) : ∀ (K k i : Nat) (bs : List Int) (m r : Int) (t : Nat) (q0 tn : Option D), bits.drop t = bs → t ≤ bits.length → bs.length < FU →
    i + K = N → K < k →
    (dForGo (.rng 0 1 N) (dN (gnName 4)) (B2 FU) k i [some (.int w), some rest0, some (.int n), some (tupI bits), tn, some (.int t), q0, some (.int m), some (.int r)] S).thn (dRet (dC .non)) = .ret (toldD (out (2 ^ w.toNat) n K m r t bs)) S
  | 0, k + 1, i, bs, m, r, t, q0, tn, hd, ht, hF, hi, hk => by
    rw [for_go]
    have : ¬ i < N := by omega
    simp [nextOf, this, out, toldD]
  | K + 1, k + 1, i, bs, m, r, t, q0, tn, hd, ht, hF, hi, hk => by
    rw [for_go]
    have hiN : i < N := by omega
    have h1 := inner_law (w := w) (n := n) (bits := bits) (rest0 := rest0) (q0 := q0) (S := S) (tn := some (.int i)) hw bs FU m r t hd ht hF
    have e0 : (B2 FU) [some (.int w), some rest0, some (.int n), some (tupI bits), some (.int i), some (.int t), q0, some (.int m), some (.int r)] S = (dWhile FU (P1 7) (F1 7 8 5) [some (.int w), some rest0, some (.int n), some (tupI bits), some (.int i), some (.int t), q0, some (.int m), some (.int r)] S).thn (dThen (dSet 6 (dOp bFdiv (dVar 7) (dVar 2)))
  (dThen (dIfS (dTst (dOp bLt (dVar 8) (dOp bMul (dVar 6) (dVar 2)))) (dRet (dTup (dCons (dOp bMod (dCB oInt (dCons (dVar 8) dNil)) (dVar 2)) (dCons (dTup (dCons (dVar 6) (dCons (dOp bFdiv (dVar 8) (dVar 2)) dNil))) (dCons (dVar 5) dNil))))) dNext)
  (dPar 7 8 (dCons (dOp bSub (dVar 7) (dOp bMul (dVar 6) (dVar 2))) (dCons (dOp bSub (dVar 8) (dOp bMul (dVar 6) (dVar 2))) dNil))))) := rfl
    have e1 : nextOf (.rng 0 1 N) i S = some (some (.int i)) := by simp [nextOf, hiN]
    rw [e1]
    show (RS.thn (.nx [some (.int w), some rest0, some (.int n), some (tupI bits), some (.int i), some (.int t), q0, some (.int m), some (.int r)] S) (fun ρ1 S1 => ((B2 FU) ρ1 S1).again (dForGo (.rng 0 1 N) (dN (gnName 4)) (B2 FU) k (i + 1)))).thn _ = _
    rw [t_nx, e0, h1]
    unfold out
    cases q : inn (2 ^ w.toNat) m r t bs with
    | none => rfl
    | some x =>
      obtain ⟨m', r', t', bs'⟩ := x
      obtain ⟨a1, a2, a3, a4, a5⟩ := inn_spec bs m r t hd ht q
      by_cases hr : r' < m' / n * n
      · simp [hr, cDiv_of hn.1 hn.2.2, cMul_r (i := m' / n) (j := n) (by omega), hn.1, sz3, sz2, toldD]
      · have ih := outer_law hw hn N K k (i + 1) bs' (m' - m' / n * n) (r' - m' / n * n) t' (some (.int (m' / n))) (some (.int i)) a1 a2 (by omega) (by omega) (by omega)
        simp [hr, cDiv_of hn.1 hn.2.2, cMul_r (i := m' / n) (j := n) (by omega)]
        simpa using ih
end
theorem b_raw_eq {FU : Nat} : b_raw_wanted FU = dThen (dAsg (dTup (dCons (dVar 1) (dCons (dC (.int 0)) dNil))) (dN (gnTup (gnCons (gnTup (gnCons (gnName 6) (gnCons (gnName 7) gnNil))) (gnCons (gnName 4) gnNil))))) (dWhile FU (dTst (dC (.bl true))) (B1 FU)) := rfl
theorem b_lawW_eq {FU : Nat} : b__law_wanted FU = dThen (dAsg (dTup (dCons (dVar 1) (dCons (dC (.int 0)) dNil))) (dN (gnTup (gnCons (gnTup (gnCons (gnName 7) (gnCons (gnName 8) gnNil))) (gnCons (gnName 5) gnNil))))) (dThen (dFor FU (iArg rng1 (dCons (dOp (bAdd mkV) (dCB oLenA (dCons (dVar 3) dNil)) (dC (.int 2))) dNil)) (dN (gnName 4)) (B2 FU)) (dRet (dC .non))) := rfl
/-- a draw's answer -/
def tellZ (w n m r : Int) (bits : List Int) : Option (Int × Int × Int × Nat) := out (2 ^ w.toNat) n (bits.length + 2) m r 0 bits
structure WN (w n : Int) : Prop where
  w0 : 1 ≤ w
  w1 : w ≤ 12
  n0 : 2 ≤ n
  n1 : n ≤ 64
  n2 : n ≤ 2 ^ w.toNat
abbrev restD (m r : Int) : D := .tup [.int m, .int r]
theorem raw_wanted {FU : Nat} (hU : 2000 ≤ FU) {w n m r : Int} {bits : List Int} {S : Sto} (h : WN w n) (hb : bits.length < 1000) : f_raw_wanted FU [.int w, restD m r, .int n, tupI bits] S = .ok (toldD (tellZ w n m r bits)) S := by
  have e := outer_raw (FU := FU) (w := w) (n := n) (bits := bits) (rest0 := restD m r) (S := S) ⟨by have := h.w0; omega, by have := h.w1; omega⟩ ⟨by have := h.n0; omega, h.n2, by have := h.n1; omega⟩ FU (bits.length + 2) bits m r 0 none rfl (Nat.zero_le _) (by omega) (.inl (by omega)) (.inl (Nat.le_refl _))
  unfold f_raw_wanted
  rw [r_mk (n := 4) rfl, b_raw_eq]
  simp [restD, sz2] at e ⊢
  rw [e]
  rfl
theorem law_wanted {FU : Nat} (hU : 2000 ≤ FU) {w n m r : Int} {bits : List Int} {S : Sto} (h : WN w n) (hb : bits.length < 1000) : f__law_wanted FU [.int w, restD m r, .int n, tupI bits] S = .ok (toldD (tellZ w n m r bits)) S := by
  have e := outer_law (FU := FU) (w := w) (n := n) (bits := bits) (rest0 := restD m r) (S := S) ⟨by have := h.w0; omega, by have := h.w1; omega⟩ ⟨by have := h.n0; omega, h.n2, by have := h.n1; omega⟩ (bits.length + 2) (bits.length + 2) FU 0 bits m r 0 none none rfl (Nat.zero_le _) (by omega) (by omega) (by omega)
  have hnat : ((bits.length : Int) + 2).toNat = bits.length + 2 := by omega
  have hr : rng1 [.int ((bits.length : Int) + 2)] S = .ok (.rng 0 1 (bits.length + 2)) S := by
    rw [o_rng1 (by omega) (by omega), hnat]
  have h1 : dAsg (dTup (dCons (dVar 1) (dCons (dC (.int 0)) dNil))) (dN (gnTup (gnCons (gnTup (gnCons (gnName 7) (gnCons (gnName 8) gnNil))) (gnCons (gnName 5) gnNil)))) [some (.int w), some (restD m r), some (.int n), some (tupI bits), none, none, none, none, none] S =
      .nx [some (.int w), some (restD m r), some (.int n), some (tupI bits), none, some (.int ((0 : Nat) : Int)), none, some (.int m), some (.int r)] S := by
    simp [restD, sz2]
  have h2 : ∀ ρ : Rho, ρ[3]? = some (some (tupI bits)) → iArg rng1 (dCons (dOp (bAdd mkV) (dCB oLenA (dCons (dVar 3) dNil)) (dC (.int 2))) dNil) ρ S = .ok (.rng 0 1 (bits.length + 2)) S := by
    intro ρ hρ
    simp [hρ]
    exact hr
  have h3 : dThen (dAsg (dTup (dCons (dVar 1) (dCons (dC (.int 0)) dNil))) (dN (gnTup (gnCons (gnTup (gnCons (gnName 7) (gnCons (gnName 8) gnNil))) (gnCons (gnName 5) gnNil))))) (dThen (dFor FU (iArg rng1 (dCons (dOp (bAdd mkV) (dCB oLenA (dCons (dVar 3) dNil)) (dC (.int 2))) dNil)) (dN (gnName 4)) (B2 FU)) (dRet (dC .non)))
      [some (.int w), some (restD m r), some (.int n), some (tupI bits), none, none, none, none, none] S = .ret (toldD (tellZ w n m r bits)) S := by
    rw [r_then, h1, t_nx, r_then, r_for, h2 _ rfl, R.bindS_ok]
    exact e
  unfold f__law_wanted
  rw [b_lawW_eq]
  exact mk_ret rfl rfl h3
end k43

set_option Elab.async false
set_option linter.all false
set_option maxRecDepth 100000
set_option maxHeartbeats 4000000
/-! Mb_k43: rows. -/
namespace k43
open PySem Ev

/-- a row's draws: what is drawn; the rest and the bits taken, or none -/
def rows (w : Int) : List Int → Int → Int → Nat → List Int → List Int → List Int × Option (Int × Int × Nat)
  | [], m, r, t, _, acc => (acc, some (m, r, t))
  | n :: ns, m, r, t, bs, acc => match tellZ w n m r bs with
    | none => (acc, none)
    | some (o, q, r, u) => rows w ns q r (t + u) (bs.drop u) (acc ++ [o])
def rowD : List Int × Option (Int × Int × Nat) → D
  | (_, none) => .non
  | (o, some (m, r, t)) => .tup [tupI o, restD m r, .int (t : Nat)]
theorem cut_from {ds : List D} {t : Nat} (h : t ≤ ds.length) : cutD ds (some (t : Int)) none = ds.drop t := by
  unfold cutD
  rw [HT.sIx_nat, HT.sIx_none, Nat.min_eq_left h, List.take_of_length_le (by simp)]
theorem tell_le {w n : Int} {all : List Int} : ∀ (k : Nat) (bs : List Int) (m r : Int) (t : Nat) {o q r' : Int} {u : Nat}, out (2 ^ w.toNat) n k m r t bs = some (o, q, r', u) → all.drop t = bs → t ≤ all.length → u ≤ all.length
  | 0, bs, m, r, t, o, q, r', u, h, _, _ => by cases h
  | k + 1, bs, m, r, t, o, q, r', u, h, hd, ht => by
    unfold out at h
    split at h
    · cases h
    · rename_i m' r'' t' bs' e
      obtain ⟨a1, a2, _⟩ := inn_spec bs m r t hd ht e
      split at h
      · cases h; exact a2
      · exact tell_le k bs' _ _ t' h a1 a2
theorem tellZ_le {w n m r : Int} {bs : List Int} {o q r' : Int} {u : Nat} (h : tellZ w n m r bs = some (o, q, r', u)) : u ≤ bs.length := tell_le _ _ _ _ _ h rfl (Nat.zero_le _)
section
variable {FU : Nat} {w : Int} {wants bits : List Int} {S : Sto}
def BR (FU : Nat) : DS := dThen (dSet 7 (dCall (f_raw_wanted FU) (dCons (dVar 0) (dCons (dVar 5) (dCons (dVar 3) (dCons (dSl (dVar 2) (some (dVar 6)) none mkV) dNil))))))
  (dThen (dIfS (dTst (dIsN (dVar 7))) (dRet (dC .non)) dNext)
  (dThen (dExpr (dBM isL oAppend (dVar 4) (dCons (dOp oIx (dVar 7) (dC (.int 0))) dNil)))
  (dPar 5 6 (dCons (dOp oIx (dVar 7) (dC (.int 1))) (dCons (dOp (bAdd mkV) (dVar 6) (dOp oIx (dVar 7) (dC (.int 2)))) dNil)))))
/-- the slice that is handed on -/
theorem slice_from {ρ : Rho} {i j : Nat} {ds : List D} {t : Nat} (h1 : ρ[i]? = some (some (.tup ds))) (h2 : ρ[j]? = some (some (.int (t : Int)))) (h : t ≤ ds.length) : dSl (dVar i) (some (dVar j)) none mkV ρ S = .ok (.tup (ds.drop t)) S := by
  unfold dSl dPo asIx
  simp [h1, h2]
  show R.ok (D.tup (cutD ds (some (t : Int)) none)) S = _
  rw [cut_from h]
theorem sto_last {S0 : Sto} {x y : AO} : (S0 ++ [x]).set S0.length y = S0 ++ [y] := by simp
theorem sto_get {S0 : Sto} {x : AO} : (S0 ++ [x])[S0.length]? = some x := by simp
theorem app_last {S0 : Sto} {ds : List D} {d : D} (h : ds.length < sizeLine) : oAppend (.loc S0.length) [d] (S0 ++ [.lst ds]) = .ok .non (S0 ++ [.lst (ds ++ [d])]) := by
  simp [oAppend, h]
theorem sz1000 : 1000 < sizeLine := by decide
theorem for_raw (hU : 2000 ≤ FU) (hb : bits.length < 1000) (hl : wants.length < 900) : ∀ (ns : List Int) (k i : Nat) (m r : Int) (t : Nat) (acc : List Int) (n0 t0 : Option D), (∀ n ∈ ns, WN w n) → wants.drop i = ns → ns.length < k → t ≤ bits.length → acc.length = i → i + ns.length = wants.length →
    (dForGo (.sta (wants.map D.int)) (dN (gnName 3)) (BR FU) k i [some (.int w), some (tupI wants), some (tupI bits), n0, some (.loc S.length), some (restD m r), some (.int (t : Nat)), t0] (S ++ [.lst (acc.map D.int)])).thn
      (dRet (dTup (dCons (dCB oTuple (dCons (dVar 4) dNil)) (dCons (dVar 5) (dCons (dVar 6) dNil))))) =
    .ret (rowD (rows w ns m r t (bits.drop t) acc)) (S ++ [.lst ((rows w ns m r t (bits.drop t) acc).1.map D.int)])
  | [], k + 1, i, m, r, t, acc, n0, t0, hn, hd, hk, ht, ha, hi => by
    rw [for_go]
    have e : (wants.map D.int)[i]? = none := by rw [List.getElem?_eq_none (by simp at hi ⊢; omega)]
    have e2 : nextOf (.sta (wants.map D.int)) i (S ++ [.lst (acc.map D.int)]) = some none := by
      show some ((wants.map D.int)[i]?) = _
      rw [e]
    rw [e2]
    simp [oTuple, lstOf, sz3, rows, rowD]
  | n :: ns, k + 1, i, m, r, t, acc, n0, t0, hn, hd, hk, ht, ha, hi => by
    rw [for_go]
    have e : (wants.map D.int)[i]? = some (.int n) := by
      have : wants[i]? = some n := by
        have := congrArg (fun l => l[0]?) hd
        simpa using this
      rw [List.getElem?_map, this]
      rfl
    have e2 : nextOf (.sta (wants.map D.int)) i (S ++ [.lst (acc.map D.int)]) = some (some (.int n)) := by
      show some ((wants.map D.int)[i]?) = _
      rw [e]
    rw [e2]
    have hW := hn n (List.mem_cons_self ..)
    have hsl := slice_from (S := S ++ [.lst (acc.map D.int)]) (ρ := [some (.int w), some (tupI wants), some (tupI bits), some (.int n), some (.loc S.length), some (restD m r), some (.int (t : Nat)), t0]) (i := 2) (j := 6) (ds := bits.map D.int) (t := t) rfl rfl (by simpa using ht)
    have hrw := raw_wanted hU (m := m) (r := r) (bits := bits.drop t) (S := S ++ [.lst (acc.map D.int)]) hW (by simp; omega)
    have hmap : (bits.map D.int).drop t = (bits.drop t).map D.int := by rw [List.map_drop]
    have hset : dSet 7 (dCall (f_raw_wanted FU) (dCons (dVar 0) (dCons (dVar 5) (dCons (dVar 3) (dCons (dSl (dVar 2) (some (dVar 6)) none mkV) dNil)))))
        [some (.int w), some (tupI wants), some (tupI bits), some (.int n), some (.loc S.length), some (restD m r), some (.int (t : Nat)), t0] (S ++ [.lst (acc.map D.int)]) =
        .nx [some (.int w), some (tupI wants), some (tupI bits), some (.int n), some (.loc S.length), some (restD m r), some (.int (t : Nat)), some (toldD (tellZ w n m r (bits.drop t)))] (S ++ [.lst (acc.map D.int)]) := by
      simp only [r_set, r_call, r_cons, r_var, r_nil, R.bind_ok, List.getElem?_cons_zero, List.getElem?_cons_succ, hsl, hmap]
      rw [hrw]
      rfl
    show (RS.thn (.nx [some (.int w), some (tupI wants), some (tupI bits), some (.int n), some (.loc S.length), some (restD m r), some (.int (t : Nat)), t0] (S ++ [.lst (acc.map D.int)])) (fun ρ1 S1 => ((BR FU) ρ1 S1).again (dForGo (.sta (wants.map D.int)) (dN (gnName 3)) (BR FU) k (i + 1)))).thn _ = _
    rw [t_nx]
    unfold BR
    rw [r_then, hset, t_nx]
    unfold rows
    cases q : tellZ w n m r (bits.drop t) with
    | none => simp [toldD, rowD]
    | some x =>
      obtain ⟨o, q', r', u⟩ := x
      have hu := tellZ_le q
      have hu2 : t + u ≤ bits.length := by simp at hu; omega
      have ih := for_raw hU hb hl ns k (i + 1) q' r' (t + u) (acc ++ [o]) (some (.int n)) (some (toldD (some (o, q', r', u)))) (fun n h => hn n (List.mem_cons_of_mem _ h)) (by rw [← List.drop_drop, hd]; rfl) (by simpa using hk) hu2 (by simp; omega) (by simp at hi ⊢; omega)
      have hal : (acc.map D.int).length < sizeLine := by
        have := sz1000
        simp at hi ⊢; omega
      have happ := app_last (S0 := S) (d := .int o) hal
      rw [← List.drop_drop] at ih
      simp [toldD, atI0, atI1, atI2, dBM, isL, lstOf, happ, sz2] at ih ⊢
      exact ih
end
end k43

set_option Elab.async false
set_option linter.all false
set_option maxRecDepth 100000
set_option maxHeartbeats 4000000
/-! Mc_k43: checks, comprehensions. -/
namespace Ev
open PySem
section
variable {ρ : Rho} {S : Sto} {tf : DN} {tt : DT} {te : DE} {vs : List Nat}
theorem lc_go {ai : AI} {n i : Nat} {acc : List D} : dLcGo ai tf dYes te vs (n + 1) i acc ρ S = (match nextOf ai i S with
    | none => .stuck
    | some none => .ok acc S
    | some (some d) => match tf d (wipeR ρ vs) with
      | none => .stuck
      | some ρ2 => match te ρ2 S with
        | .ok y S4 => if acc.length < sizeLine then dLcGo ai tf dYes te vs n (i + 1) (acc ++ [y]) ρ S4 else .stuck
        | _ => .stuck) := by
  rw [dLcGo]
  rfl
/-- a comprehension over items that stand still, its element a function of the item -/
theorem lc_map {xs : List D} {g : D → D} (h : ∀ x ∈ xs, ∃ ρ2, tf x (wipeR ρ vs) = some ρ2 ∧ te ρ2 S = .ok (g x) S) (hz : xs.length ≤ sizeLine) : ∀ (n i : Nat) (acc : List D), acc.length = i → i ≤ xs.length → xs.length - i < n → dLcGo (.sta xs) tf dYes te vs n i acc ρ S = .ok (acc ++ (xs.drop i).map g) S
  | n + 1, i, acc, ha, hi, hn => by
    rw [lc_go]
    by_cases hl : i < xs.length
    · have e : nextOf (.sta xs) i S = some (some xs[i]) := by
        show some xs[i]? = _
        rw [List.getElem?_eq_getElem hl]
      rw [e]
      obtain ⟨ρ2, e1, e2⟩ := h xs[i] (List.getElem_mem hl)
      simp only [e1, e2]
      rw [if_pos (by omega), lc_map h hz n (i + 1) _ (by simp [ha]) (by omega) (by omega), List.drop_eq_getElem_cons hl]
      simp only [List.map_cons, List.append_assoc, List.cons_append, List.nil_append]
    · have e : nextOf (.sta xs) i S = some none := by
        show some xs[i]? = _
        rw [List.getElem?_eq_none (by omega)]
      rw [e, List.drop_eq_nil_iff.mpr (by omega)]
      simp
/-- a comprehension over a range that keeps P -/
theorem lc_state {P : Sto → Prop} {Rr : D → Prop} {N : Nat} (h : ∀ (j : Nat) (S : Sto), P S → ∃ ρ2 d S', tf (.int (j : Nat)) (wipeR ρ vs) = some ρ2 ∧ te ρ2 S = .ok d S' ∧ P S' ∧ Rr d) (hz : N ≤ sizeLine) : ∀ (n i : Nat) (acc : List D) (S : Sto), P S → acc.length = i → i ≤ N → N - i < n → (∀ d ∈ acc, Rr d) →
    ∃ ds S', dLcGo (.rng 0 1 N) tf dYes te vs n i acc ρ S = .ok ds S' ∧ P S' ∧ (∀ d ∈ ds, Rr d) ∧ ds.length = N
  | n + 1, i, acc, S, hP, ha, hi, hn, hr => by
    rw [lc_go]
    by_cases hl : i < N
    · have e : nextOf (.rng 0 1 N) i S = some (some (.int (i : Nat))) := by simp [nextOf, hl]
      rw [e]
      obtain ⟨ρ2, d, S', e1, e2, h1, h2⟩ := h i S hP
      simp only [e1, e2]
      rw [if_pos (by omega)]
      refine lc_state h hz n (i + 1) _ S' h1 (by simp [ha]) (by omega) (by omega) fun x hx => ?_
      rcases List.mem_append.mp hx with hx | hx
      · exact hr x hx
      · rw [List.mem_singleton.mp hx]; exact h2
    · have e : nextOf (.rng 0 1 N) i S = some none := by simp [nextOf, hl]
      rw [e]
      exact ⟨acc, S, rfl, hP, hr, by omega⟩
theorem all_bls (bs : List Bool) : oAll [.lst (bs.map D.bl)] S = .ok (.bl (bs.all id)) S := by
  simp [oAll, lstOf, blsOf_map]
end
end Ev
namespace k43
open PySem Ev
section
variable {FU : Nat} {S : Sto} {x a b : Int} {xs : List Int}
theorem isi_ii {ρ : Rho} {i : Nat} (h : ρ[i]? = some (some (.int x))) : dIsi "int" (dVar i) ρ S = .ok (.bl true) S := by
  simp [dIsi, h, tyName, isaB]
theorem isi_ib {ρ : Rho} {i : Nat} (h : ρ[i]? = some (some (.int x))) : dIsi "bool" (dVar i) ρ S = .ok (.bl false) S := by
  simp [dIsi, h, tyName, isaB]
theorem isi_t {ρ : Rho} {i : Nat} {ds : List D} (h : ρ[i]? = some (some (.tup ds))) : dIsi "tuple" (dVar i) ρ S = .ok (.bl true) S := by
  simp [dIsi, h, tyName, isaB]
theorem is_integer : f_is_integer FU [.int x] S = .ok (.bl true) S := by
  unfold f_is_integer
  refine mk_ret (ρ0 := [some (.int x)]) rfl rfl ?_
  unfold b_is_integer
  simp [isi_ii (ρ := [some (.int x)]) (i := 0) (x := x) rfl, isi_ib (ρ := [some (.int x)]) (i := 0) (x := x) rfl]
theorem is_between : f_is_between FU [.int x, .int a, .int b] S = .ok (.bl (decide (a ≤ x) && decide (x ≤ b))) S := by
  unfold f_is_between
  refine mk_ret (ρ0 := [some (.int x), some (.int a), some (.int b)]) rfl rfl ?_
  unfold b_is_between
  simp [is_integer]
  by_cases h : a ≤ x <;> simp [h]
theorem are_between (hU : 2000 ≤ FU) (hl : xs.length < 1000) : f_are_between FU [tupI xs, .int a, .int b] S = .ok (.bl (xs.all fun x => decide (a ≤ x) && decide (x ≤ b))) S := by
  unfold f_are_between
  refine mk_ret (ρ0 := [some (tupI xs), some (.int a), some (.int b), none]) rfl rfl ?_
  unfold b_are_between
  have h0 := isi_t (S := S) (ρ := [some (tupI xs), some (.int a), some (.int b), none]) (i := 0) (ds := xs.map D.int) rfl
  have h1 := lc_map (S := S) (ρ := [some (tupI xs), some (.int a), some (.int b), none]) (tf := gnName 3) (te := dCall (f_is_between FU) (dCons (dVar 3) (dCons (dVar 1) (dCons (dVar 2) dNil)))) (vs := [3]) (xs := xs.map D.int)
    (g := fun d => match d with | .int x => .bl (decide (a ≤ x) && decide (x ≤ b)) | _ => .non) (fun d hd => by
      obtain ⟨x, _, rfl⟩ := List.mem_map.mp hd
      refine ⟨_, rfl, ?_⟩
      simp [wipeR, is_between]) (by have := sz1000; simp; omega) FU 0 [] rfl (Nat.zero_le _) (by simp; omega)
  have h2 : (xs.map D.int).map (fun d => match d with | .int x => .bl (decide (a ≤ x) && decide (x ≤ b)) | _ => D.non) = (xs.map fun x => decide (a ≤ x) && decide (x ≤ b)).map D.bl := by
    rw [List.map_map, List.map_map]
    rfl
  have h3 : dLc FU (iSeq (dVar 0)) (gnName 3) dYes (dCall (f_is_between FU) (dCons (dVar 3) (dCons (dVar 1) (dCons (dVar 2) dNil)))) [3] mkV [some (tupI xs), some (.int a), some (.int b), none] S = .ok (.lst ((xs.map fun x => decide (a ≤ x) && decide (x ≤ b)).map D.bl)) S := by
    unfold dLc
    simp only [r_iSeq, r_var, List.getElem?_cons_zero, R.bind_ok, r_aiT]
    rw [h1]
    simp only [R.bind_ok, List.drop_zero, List.nil_append, h2]
    rfl
  simp only [r_ret, r_andV, h0, R.bind_ok, r_cb, r_cons, h3, r_nil, all_bls]
  simp
theorem bits_ok (hU : 2000 ≤ FU) (hl : xs.length < 1000) (h : ∀ x ∈ xs, 0 ≤ x ∧ x ≤ 1) : f_need_bits FU [tupI xs] S = .ok .non S := by
  have h1 : f_are_bits_value FU [tupI xs] S = .ok (.bl true) S := by
    unfold f_are_bits_value
    refine mk_ret (ρ0 := [some (tupI xs)]) rfl rfl ?_
    unfold b_are_bits_value
    simp [are_between hU hl]
    exact fun x hx => h x hx
  unfold f_need_bits
  refine mk_nx (ρ0 := [some (tupI xs)]) (ρ1 := [some (tupI xs)]) rfl rfl ?_
  unfold b_need_bits
  simp [h1]
theorem need_width {w : Int} (h : 1 ≤ w ∧ w ≤ 12) : f_need_width FU [.int w] S = .ok .non S := by
  unfold f_need_width
  refine mk_nx (ρ0 := [some (.int w)]) (ρ1 := [some (.int w)]) rfl rfl ?_
  unfold b_need_width
  simp [is_between, h]
def mostW (w : Int) : Int := if (2 : Int) ^ w.toNat < 64 then (2 : Int) ^ w.toNat else 64
theorem most_want {w : Int} (h : 1 ≤ w ∧ w ≤ 12) : f_most_want FU [.int w] S = .ok (.int (mostW w)) S := by
  unfold f_most_want
  refine mk_ret (ρ0 := [some (.int w)]) rfl rfl ?_
  unfold b_most_want mostW
  simp [cPow_of (i := 1) (j := w) (by omega) (by omega)]
theorem WN.most {w n : Int} (h : WN w n) : 2 ≤ n ∧ n ≤ mostW w := by
  have := h.n0; have := h.n1; have := h.n2
  unfold mostW
  split <;> omega
theorem need_wants {w : Int} (hU : 2000 ≤ FU) (hl : xs.length < 1000) (hw : 1 ≤ w ∧ w ≤ 12) (h : ∀ x ∈ xs, WN w x) : f_need_wants FU [.int w, tupI xs] S = .ok .non S := by
  unfold f_need_wants
  refine mk_nx (ρ0 := [some (.int w), some (tupI xs)]) (ρ1 := [some (.int w), some (tupI xs)]) rfl rfl ?_
  unfold b_need_wants
  have h1 : (xs.all fun x => decide (2 ≤ x) && decide (x ≤ mostW w)) = true := by
    rw [List.all_eq_true]
    intro x hx
    have := (h x hx).most
    simp [this]
  simp [need_width hw, most_want hw, are_between hU hl]
  exact fun x hx => (h x hx).most
end
end k43

set_option Elab.async false
set_option linter.all false
set_option maxRecDepth 100000
set_option maxHeartbeats 4000000
/-! Md_k43: the defs of rows, whole. -/
namespace k43
open PySem Ev
section
variable {FU : Nat} {S : Sto} {w : Int} {wants bits : List Int}
structure Good (w : Int) (wants bits : List Int) : Prop where
  w0 : 1 ≤ w
  w1 : w ≤ 12
  wn : ∀ n ∈ wants, WN w n
  wl : wants.length < 900
  bl : bits.length < 1000
  b01 : ∀ b ∈ bits, 0 ≤ b ∧ b ≤ 1
abbrev rowZ (w : Int) (wants bits : List Int) := rows w wants 1 0 0 bits []
theorem b_rr_eq : b_raw_row_wanted FU = dThen (dPar3 4 5 6 (dCons (dLoc dNil) (dCons (dTup (dCons (dC (.int 1)) (dCons (dC (.int 0)) dNil))) (dCons (dC (.int 0)) dNil))))
  (dThen (dFor FU (iSeq (dVar 1)) (dN (gnName 3)) (BR FU)) (dRet (dTup (dCons (dCB oTuple (dCons (dVar 4) dNil)) (dCons (dVar 5) (dCons (dVar 6) dNil)))))) := rfl
theorem raw_row (hU : 2000 ≤ FU) (g : Good w wants bits) : f_raw_row_wanted FU [.int w, tupI wants, tupI bits] S = .ok (rowD (rowZ w wants bits)) (S ++ [.lst ((rowZ w wants bits).1.map D.int)]) := by
  have e := for_raw (S := S) hU g.bl g.wl wants FU 0 1 0 0 [] none none g.wn rfl (by have := g.wl; omega) (Nat.zero_le _) rfl (by omega)
  have h1 : dPar3 4 5 6 (dCons (dLoc dNil) (dCons (dTup (dCons (dC (.int 1)) (dCons (dC (.int 0)) dNil))) (dCons (dC (.int 0)) dNil))) [some (.int w), some (tupI wants), some (tupI bits), none, none, none, none, none] S =
      .nx [some (.int w), some (tupI wants), some (tupI bits), none, some (.loc S.length), some (restD 1 0), some (.int ((0 : Nat) : Int)), none] (S ++ [.lst []]) := by
    simp [sz2]
  unfold f_raw_row_wanted
  refine mk_ret (ρ0 := [some (.int w), some (tupI wants), some (tupI bits), none, none, none, none, none]) rfl rfl ?_
  rw [b_rr_eq, r_then, h1, t_nx, r_then, r_for]
  have h2 : iSeq (dVar 1) [some (.int w), some (tupI wants), some (tupI bits), none, some (.loc S.length), some (restD 1 0), some (.int ((0 : Nat) : Int)), none] (S ++ [.lst []]) = .ok (.sta (wants.map D.int)) (S ++ [.lst []]) := by simp
  rw [h2, R.bindS_ok]
  exact e
theorem row_wanted (hU : 2000 ≤ FU) (g : Good w wants bits) : f_row_wanted FU [.int w, tupI wants, tupI bits] S = .ok (rowD (rowZ w wants bits)) (S ++ [.lst ((rowZ w wants bits).1.map D.int)]) := by
  unfold f_row_wanted
  refine mk_ret (ρ0 := [some (.int w), some (tupI wants), some (tupI bits)]) rfl rfl ?_
  unfold b_row_wanted
  have h1 := need_wants (S := S) (FU := FU) hU (by have := g.wl; omega) ⟨g.w0, g.w1⟩ g.wn
  have h2 := bits_ok (S := S) (FU := FU) hU g.bl g.b01
  have h3 := raw_row (S := S) hU g
  simp only [r_then, r_expr, r_call, r_cons, r_var, r_nil, R.bind_ok, List.getElem?_cons_zero, List.getElem?_cons_succ, h1, R.bindS_ok, t_nx, h2, r_ret, h3]
/-! the law's own -/
def BL (FU : Nat) (fn : Fn) : DS := dThen (dSet 7 (dCall fn (dCons (dVar 0) (dCons (dVar 4) (dCons (dVar 3) (dCons (dSl (dVar 2) (some (dVar 6)) none mkV) dNil))))))
  (dThen (dIfS (dTst (dIsN (dVar 7))) (dRet (dC .non)) dNext)
  (dPar3 5 4 6 (dCons (dOp (bAdd mkV) (dVar 5) (dTup (dCons (dOp oIx (dVar 7) (dC (.int 0))) dNil))) (dCons (dOp oIx (dVar 7) (dC (.int 1))) (dCons (dOp (bAdd mkV) (dVar 6) (dOp oIx (dVar 7) (dC (.int 2)))) dNil)))))
theorem sz1 : 1 ≤ sizeLine := by decide
theorem for_law {fn : Fn} {Iv : Int → Int → Prop} (hfn : ∀ n m r bs (S : Sto), n ∈ wants → Iv m r → (∀ b ∈ bs, b ∈ bits) → bs.length ≤ bits.length → fn [.int w, restD m r, .int n, tupI bs] S = .ok (toldD (tellZ w n m r bs)) S)
    (hIv : ∀ n m r bs o q r' u, n ∈ wants → Iv m r → (∀ b ∈ bs, b ∈ bits) → tellZ w n m r bs = some (o, q, r', u) → Iv q r') (hl : wants.length < 900) : ∀ (ns : List Int) (k i : Nat) (m r : Int) (t : Nat) (acc : List Int) (n0 t0 : Option D), (∀ n ∈ ns, n ∈ wants) → Iv m r → wants.drop i = ns → ns.length < k → t ≤ bits.length → acc.length = i → i + ns.length = wants.length →
    (dForGo (.sta (wants.map D.int)) (dN (gnName 3)) (BL FU fn) k i [some (.int w), some (tupI wants), some (tupI bits), n0, some (restD m r), some (tupI acc), some (.int (t : Nat)), t0] S).thn
      (dRet (dTup (dCons (dVar 5) (dCons (dVar 4) (dCons (dVar 6) dNil))))) =
    .ret (rowD (rows w ns m r t (bits.drop t) acc)) S
  | [], k + 1, i, m, r, t, acc, n0, t0, hn, hv, hd, hk, ht, ha, hi => by
    rw [for_go]
    have e : (wants.map D.int)[i]? = none := by rw [List.getElem?_eq_none (by simp at hi ⊢; omega)]
    have e2 : nextOf (.sta (wants.map D.int)) i S = some none := by
      show some ((wants.map D.int)[i]?) = _
      rw [e]
    rw [e2]
    simp [sz3, rows, rowD]
  | n :: ns, k + 1, i, m, r, t, acc, n0, t0, hn, hv, hd, hk, ht, ha, hi => by
    rw [for_go]
    have e : (wants.map D.int)[i]? = some (.int n) := by
      have : wants[i]? = some n := by
        have := congrArg (fun l => l[0]?) hd
        simpa using this
      rw [List.getElem?_map, this]
      rfl
    have e2 : nextOf (.sta (wants.map D.int)) i S = some (some (.int n)) := by
      show some ((wants.map D.int)[i]?) = _
      rw [e]
    rw [e2]
    have hW := hn n (List.mem_cons_self ..)
    have hsl := slice_from (S := S) (ρ := [some (.int w), some (tupI wants), some (tupI bits), some (.int n), some (restD m r), some (tupI acc), some (.int (t : Nat)), t0]) (i := 2) (j := 6) (ds := bits.map D.int) (t := t) rfl rfl (by simpa using ht)
    have hrw := hfn n m r (bits.drop t) S hW hv (fun b hb => List.mem_of_mem_drop hb) (by simp)
    have hmap : (bits.map D.int).drop t = (bits.drop t).map D.int := by rw [List.map_drop]
    have hset : dSet 7 (dCall fn (dCons (dVar 0) (dCons (dVar 4) (dCons (dVar 3) (dCons (dSl (dVar 2) (some (dVar 6)) none mkV) dNil)))))
        [some (.int w), some (tupI wants), some (tupI bits), some (.int n), some (restD m r), some (tupI acc), some (.int (t : Nat)), t0] S =
        .nx [some (.int w), some (tupI wants), some (tupI bits), some (.int n), some (restD m r), some (tupI acc), some (.int (t : Nat)), some (toldD (tellZ w n m r (bits.drop t)))] S := by
      simp only [r_set, r_call, r_cons, r_var, r_nil, R.bind_ok, List.getElem?_cons_zero, List.getElem?_cons_succ, hsl, hmap]
      rw [hrw]
      rfl
    show (RS.thn (.nx [some (.int w), some (tupI wants), some (tupI bits), some (.int n), some (restD m r), some (tupI acc), some (.int (t : Nat)), t0] S) (fun ρ1 S1 => ((BL FU fn) ρ1 S1).again (dForGo (.sta (wants.map D.int)) (dN (gnName 3)) (BL FU fn) k (i + 1)))).thn _ = _
    rw [t_nx]
    have eB : (BL FU fn) [some (.int w), some (tupI wants), some (tupI bits), some (.int n), some (restD m r), some (tupI acc), some (.int (t : Nat)), t0] S = (dThen (dIfS (dTst (dIsN (dVar 7))) (dRet (dC .non)) dNext)
  (dPar3 5 4 6 (dCons (dOp (bAdd mkV) (dVar 5) (dTup (dCons (dOp oIx (dVar 7) (dC (.int 0))) dNil))) (dCons (dOp oIx (dVar 7) (dC (.int 1))) (dCons (dOp (bAdd mkV) (dVar 6) (dOp oIx (dVar 7) (dC (.int 2)))) dNil)))))
      [some (.int w), some (tupI wants), some (tupI bits), some (.int n), some (restD m r), some (tupI acc), some (.int (t : Nat)), some (toldD (tellZ w n m r (bits.drop t)))] S := by
      unfold BL
      rw [r_then, hset, t_nx]
    rw [eB]
    unfold rows
    cases q : tellZ w n m r (bits.drop t) with
    | none => simp [toldD, rowD]
    | some x =>
      obtain ⟨o, q', r', u⟩ := x
      have hu := tellZ_le q
      have hu2 : t + u ≤ bits.length := by simp at hu; omega
      have hv2 := hIv n m r _ o q' r' u hW hv (fun b hb => List.mem_of_mem_drop hb) q
      have ih := for_law hfn hIv hl ns k (i + 1) q' r' (t + u) (acc ++ [o]) (some (.int n)) (some (toldD (some (o, q', r', u)))) (fun n h => hn n (List.mem_cons_of_mem _ h)) hv2 (by rw [← List.drop_drop, hd]; rfl) (by simpa using hk) hu2 (by simp; omega) (by simp at hi ⊢; omega)
      have hal : acc.length + 1 ≤ sizeLine := by
        have := sz1000
        simp at hi; omega
      have et : tupI (acc ++ [o]) = .tup (acc.map D.int ++ [.int o]) := by simp
      rw [← List.drop_drop, et] at ih
      simp [toldD, atI0, atI1, atI2, sz2, sz1, hal] at ih ⊢
      exact ih
abbrev AL : DS := dAsg (dTup (dCons (dTup (dCons (dC (.int 1)) (dCons (dC (.int 0)) dNil))) (dCons (dTup dNil) (dCons (dC (.int 0)) dNil)))) (dN (gnTup (gnCons (gnName 4) (gnCons (gnName 5) (gnCons (gnName 6) gnNil)))))
theorem b_lr_eq : b__law_row_wanted FU = dThen AL (dThen (dFor FU (iSeq (dVar 1)) (dN (gnName 3)) (BL FU (f__law_wanted FU))) (dRet (dTup (dCons (dVar 5) (dCons (dVar 4) (dCons (dVar 6) dNil)))))) := rfl
theorem b_ob_eq : b__law_one_by_one FU = dThen AL (dThen (dFor FU (iSeq (dVar 1)) (dN (gnName 3)) (BL FU (f_wanted FU))) (dRet (dTup (dCons (dVar 5) (dCons (dVar 4) (dCons (dVar 6) dNil)))))) := rfl
theorem row_of (hU : 2000 ≤ FU) (hl : wants.length < 900) {fn : Fn} {Iv : Int → Int → Prop} (hfn : ∀ n m r bs (S : Sto), n ∈ wants → Iv m r → (∀ b ∈ bs, b ∈ bits) → bs.length ≤ bits.length → fn [.int w, restD m r, .int n, tupI bs] S = .ok (toldD (tellZ w n m r bs)) S)
    (hIv : ∀ n m r bs o q r' u, n ∈ wants → Iv m r → (∀ b ∈ bs, b ∈ bits) → tellZ w n m r bs = some (o, q, r', u) → Iv q r') (h1 : Iv 1 0) :
    dThen AL (dThen (dFor FU (iSeq (dVar 1)) (dN (gnName 3)) (BL FU fn)) (dRet (dTup (dCons (dVar 5) (dCons (dVar 4) (dCons (dVar 6) dNil)))))) [some (.int w), some (tupI wants), some (tupI bits), none, none, none, none, none] S = .ret (rowD (rowZ w wants bits)) S := by
  have e := for_law (S := S) (FU := FU) hfn hIv hl wants FU 0 1 0 0 [] none none (fun n h => h) h1 rfl (by omega) (Nat.zero_le _) rfl (by omega)
  have h2 : AL [some (.int w), some (tupI wants), some (tupI bits), none, none, none, none, none] S = .nx [some (.int w), some (tupI wants), some (tupI bits), none, some (restD 1 0), some (tupI []), some (.int ((0 : Nat) : Int)), none] S := by
    simp [sz2, sz3]
  rw [r_then, h2, t_nx, r_then, r_for]
  have h3 : iSeq (dVar 1) [some (.int w), some (tupI wants), some (tupI bits), none, some (restD 1 0), some (tupI []), some (.int ((0 : Nat) : Int)), none] S = .ok (.sta (wants.map D.int)) S := by simp
  rw [h3, R.bindS_ok]
  exact e
theorem law_row (hU : 2000 ≤ FU) (g : Good w wants bits) : f__law_row_wanted FU [.int w, tupI wants, tupI bits] S = .ok (rowD (rowZ w wants bits)) S := by
  unfold f__law_row_wanted
  refine mk_ret (ρ0 := [some (.int w), some (tupI wants), some (tupI bits), none, none, none, none, none]) rfl rfl ?_
  rw [b_lr_eq]
  exact row_of hU g.wl (Iv := fun _ _ => True) (fun n m r bs S hn _ _ hb => law_wanted hU (g.wn n hn) (by have := g.bl; omega)) (fun _ _ _ _ _ _ _ _ _ _ _ _ => True.intro) True.intro
/-! one by one -/
structure RestOk (w m r : Int) : Prop where
  m0 : 1 ≤ m
  m1 : m < 2 * 2 ^ w.toNat
  r0 : 0 ≤ r
  r1 : r < m
theorem inn_rest {M : Int} : ∀ (bs : List Int) (m r : Int) (t : Nat) {m' r' : Int} {t' : Nat} {bs' : List Int}, (∀ b ∈ bs, 0 ≤ b ∧ b ≤ 1) → 0 ≤ m → m < 2 * M → 0 ≤ r → inn M m r t bs = some (m', r', t', bs') → (M ≤ m' ∧ m' < 2 * M) ∧ 0 ≤ r' ∧ ∀ b ∈ bs', 0 ≤ b ∧ b ≤ 1
  | [], m, r, t, m', r', t', bs', hb, h0, h1, h2, e => by
    unfold inn at e
    split at e
    · cases e
    · cases e; exact ⟨⟨by omega, h1⟩, h2, hb⟩
  | b :: bs, m, r, t, m', r', t', bs', hb, h0, h1, h2, e => by
    unfold inn at e
    have hb0 := hb b (List.mem_cons_self ..)
    split at e
    · exact inn_rest bs _ _ _ (fun b h => hb b (List.mem_cons_of_mem _ h)) (by omega) (by omega) (by omega) e
    · cases e; exact ⟨⟨by omega, h1⟩, h2, hb⟩
theorem out_rest {M n : Int} (hn : 1 ≤ n ∧ n ≤ M) : ∀ (k : Nat) (bs : List Int) (m r : Int) (t : Nat) {o q r' : Int} {u : Nat}, (∀ b ∈ bs, 0 ≤ b ∧ b ≤ 1) → 0 ≤ m → m < 2 * M → 0 ≤ r → out M n k m r t bs = some (o, q, r', u) → 1 ≤ q ∧ q < 2 * M ∧ 0 ≤ r' ∧ r' < q
  | 0, bs, m, r, t, o, q, r', u, hb, h0, h1, h2, e => by cases e
  | k + 1, bs, m, r, t, o, q, r', u, hb, h0, h1, h2, e => by
    unfold out at e
    split at e
    · cases e
    · rename_i m' r'' t' bs' e1
      obtain ⟨⟨a1, a2⟩, a3, a4⟩ := inn_rest bs m r t hb h0 h1 h2 e1
      have hq1 : 1 ≤ m' / n := by
        rw [Int.le_ediv_iff_mul_le (by omega)]
        omega
      have hq2 : m' / n ≤ m' := Int.ediv_le_self _ (by omega)
      have hmod := Int.emod_def m' n
      have hm0 := Int.emod_nonneg m' (show n ≠ 0 by omega)
      have hm1 := Int.emod_lt_of_pos m' (show 0 < n by omega)
      have hcm : n * (m' / n) = m' / n * n := Int.mul_comm ..
      split at e
      · rename_i hr
        cases e
        refine ⟨hq1, by omega, Int.ediv_nonneg a3 (by omega), ?_⟩
        exact Int.ediv_lt_of_lt_mul (by omega) hr
      · rename_i hr
        exact out_rest hn k bs' _ _ t' a4 (by omega) (by omega) (by omega) e
theorem tell_rest {n m r : Int} {bs : List Int} {o q r' : Int} {u : Nat} (h : WN w n) (hb : ∀ b ∈ bs, 0 ≤ b ∧ b ≤ 1) (hr : RestOk w m r) (e : tellZ w n m r bs = some (o, q, r', u)) : RestOk w q r' := by
  have := h.n0; have := h.n2; have := hr.m0
  obtain ⟨a, b, c, d⟩ := out_rest (M := 2 ^ w.toNat) (n := n) ⟨by omega, by omega⟩ _ bs m r 0 hb (by omega) hr.m1 hr.r0 e
  exact ⟨a, b, c, d⟩
theorem is_rest {m r : Int} (hw : 1 ≤ w ∧ w ≤ 12) (h : RestOk w m r) : f_is_rest FU [.int w, restD m r] S = .ok (.bl true) S := by
  unfold f_is_rest
  refine mk_ret (ρ0 := [some (.int w), some (restD m r)]) rfl rfl ?_
  unfold b_is_rest
  have h0 := isi_t (S := S) (ρ := [some (.int w), some (restD m r)]) (i := 1) (ds := [.int m, .int r]) rfl
  have := h.m0; have := h.m1; have := h.r0; have := h.r1
  have hm : (1 ≤ m ∧ m ≤ 2 * 2 ^ w.toNat - 1) := ⟨by omega, by omega⟩
  have hr : (0 ≤ r ∧ r ≤ m - 1) := ⟨by omega, by omega⟩
  simp [h0, atI0, atI1, is_between, cPow_of (i := 2) (j := w) (by omega) (by omega), hm, hr]
theorem wanted {n m r : Int} {bs : List Int} (hU : 2000 ≤ FU) (h : WN w n) (hb : ∀ b ∈ bs, 0 ≤ b ∧ b ≤ 1) (hl : bs.length < 1000) (hr : RestOk w m r) : f_wanted FU [.int w, restD m r, .int n, tupI bs] S = .ok (toldD (tellZ w n m r bs)) S := by
  unfold f_wanted
  refine mk_ret (ρ0 := [some (.int w), some (restD m r), some (.int n), some (tupI bs)]) rfl rfl ?_
  unfold b_wanted
  have h1 := need_width (S := S) (FU := FU) ⟨h.w0, h.w1⟩
  have h2 := is_rest (S := S) (FU := FU) ⟨h.w0, h.w1⟩ hr
  have h3 : f_need_want FU [.int w, .int n] S = .ok .non S := by
    unfold f_need_want
    refine mk_nx (ρ0 := [some (.int w), some (.int n)]) (ρ1 := [some (.int w), some (.int n)]) rfl rfl ?_
    unfold b_need_want
    simp [most_want ⟨h.w0, h.w1⟩, is_between, h.most]
  have h4 := bits_ok (S := S) (FU := FU) hU hl hb
  have h5 := raw_wanted (S := S) hU (m := m) (r := r) h hl
  simp only [r_then, r_expr, r_call, r_cons, r_var, r_nil, R.bind_ok, List.getElem?_cons_zero, List.getElem?_cons_succ, h1, R.bindS_ok, t_nx, r_ifS, r_notT, r_tst, h2, Bool.not_true, h3, h4, r_ret, h5, r_next, Bool.false_eq_true, if_false]
theorem one_by_one (hU : 2000 ≤ FU) (g : Good w wants bits) : f__law_one_by_one FU [.int w, tupI wants, tupI bits] S = .ok (rowD (rowZ w wants bits)) S := by
  unfold f__law_one_by_one
  refine mk_ret (ρ0 := [some (.int w), some (tupI wants), some (tupI bits), none, none, none, none, none]) rfl rfl ?_
  rw [b_ob_eq]
  have hp : (0 : Int) < 2 ^ w.toNat := Int.pow_pos (by decide)
  exact row_of hU g.wl (Iv := RestOk w) (fun n m r bs S hn hv hs hb => wanted hU (g.wn n hn) (fun b h => g.b01 b (hs b h)) (by have := g.bl; omega) hv)
    (fun n m r bs o q r' u hn hv hs e => tell_rest (g.wn n hn) (fun b h => g.b01 b (hs b h)) hv e) ⟨by omega, by omega, by omega, by omega⟩
end
end k43

set_option Elab.async false
set_option linter.all false
set_option maxRecDepth 100000
set_option maxHeartbeats 0
/-! Me_k43: the even lots, by computing. -/
namespace k43
open PySem Ev
def evB (FU : Nat) (F G : Fn) : DS := (dThen (dPar 5 6 (dCons dNewN (dCons (dLoc (dCons (dTup dNil) dNil)) dNil)))
  (dThen (dWhile FU (dTst (dOp bNe (dVar 6) (dLst dNil))) (dThen (dSet 7 (dBM isL oPop (dVar 6) dNil))
  (dThen (dSet 8 (dCall F (dCons (dVar 0) (dCons (dVar 1) (dCons (dVar 7) dNil)))))
  (dThen (dIfS (dTst (dRN (dVar 8) (dCall G (dCons (dVar 0) (dCons (dVar 1) (dCons (dVar 7) dNil)))))) (dRet (dC (.bl false))) dNext)
  (dThen (dIfS (dAndT (dTst (dIsN (dVar 8))) (dTst (dOp bLt (dCB oLenA (dCons (dVar 7) dNil)) (dVar 2)))) (dSet 6 (dOp (bAdd mkL) (dVar 6) (dLst (dCons (dOp (bAdd mkV) (dVar 7) (dTup (dCons (dC (.int 0)) dNil))) (dCons (dOp (bAdd mkV) (dVar 7) (dTup (dCons (dC (.int 1)) dNil))) dNil))))) dNext)
  (dIfS (dTst (dNotN (dVar 8))) (dThen (dIfS (dTst (dOp bNe (dOp oIx (dVar 8) (dC (.int 2))) (dCB oLenA (dCons (dVar 7) dNil)))) (dRet (dC (.bl false))) dNext)
  (dThen (dAsg (dVar 8) (dN (gnTup (gnCons (gnName 12) (gnCons (gnTup (gnCons (gnName 10) (gnCons (gnName 13) gnNil))) (gnCons (gnName 9) gnNil))))))
  (dThen (dSet 11 (dGet2 (dVar 5) (dTup (dCons (dVar 9) (dCons (dVar 10) dNil))) dNewN))
  (dThen (dAsg (dOp (bAdd mkV) (dGet2 (dVar 11) (dTup (dCons (dVar 12) (dCons (dVar 13) dNil))) (dC (.int 0))) (dC (.int 1))) (gIx (dVar 11) (dTup (dCons (dVar 12) (dCons (dVar 13) dNil)))))
  (dAsg (dVar 11) (gIx (dVar 5) (dTup (dCons (dVar 9) (dCons (dVar 10) dNil))))))))) dNext))))))
  (dThen (dSet 3 (dC (.int 1)))
  (dThen (dFor FU (iSeq (dVar 1)) (dN (gnName 4)) (dSet 3 (dOp bMul (dVar 3) (dVar 4))))
  (dThen (dFor FU (iSeq (dCB oSortedN (dCons (dVar 5) dNil))) (dN (gnTup (gnCons (gnName 9) (gnCons (gnName 10) gnNil)))) (dThen (dSet 11 (dOp oIx (dVar 5) (dTup (dCons (dVar 9) (dCons (dVar 10) dNil)))))
  (dIfS (dOrT (dTst (dOp bNe (dCB oLenA (dCons (dVar 11) dNil)) (dOp bMul (dVar 3) (dVar 10)))) (dTst (dOp bNe (dLenSet (dVals 14 mkV (dVar 11))) (dC (.int 1))))) (dRet (dC (.bl false))) dNext)))
  (dRet (dC (.bl true))))))))
theorem ev_eq {FU : Nat} : b__law_are_even FU = evB FU (f_row_wanted FU) (f__law_row_wanted FU) := rfl
def goodB (w : Int) (ns bs : List Int) : Bool := decide (1 ≤ w) && decide (w ≤ 12) && Nat.blt ns.length 900 && Nat.blt bs.length 1000 && ns.all (fun n => decide (2 ≤ n) && decide (n ≤ 64) && decide (n ≤ 2 ^ w.toNat)) && bs.all (fun b => decide (0 ≤ b) && decide (b ≤ 1))
theorem goodB_ok {w : Int} {ns bs : List Int} (h : goodB w ns bs = true) : Good w ns bs := by
  simp only [goodB, Bool.and_eq_true, decide_eq_true_eq, List.all_eq_true, Nat.blt_eq] at h
  obtain ⟨⟨⟨⟨⟨h1, h2⟩, h3⟩, h4⟩, h5⟩, h6⟩ := h
  exact ⟨h1, h2, fun n hn => ⟨h1, h2, (h5 n hn).1.1, (h5 n hn).1.2, (h5 n hn).2⟩, h3, h4, h6⟩
def rowF (FU : Nat) (keep : Bool) (alt : Fn) : Fn := fun ds S => match ds with
  | [.int w, .tup a, .tup b] => match intsOf a, intsOf b with
    | some ns, some bs => if goodB w ns bs = true then (match rowZ w ns bs with
      | z => .ok (rowD z) (if keep = true then S ++ [.lst (z.1.map D.int)] else S)) else alt ds S
    | _, _ => alt ds S
  | _ => alt ds S
theorem rowF_raw {FU : Nat} (hU : 2000 ≤ FU) : f_row_wanted FU = rowF FU true (f_row_wanted FU) := by
  funext ds S
  unfold rowF
  split
  · split
    · rename_i ns bs e1 e2
      split
      · rename_i hg
        rw [intsOf_eq e1, intsOf_eq e2]
        exact row_wanted hU (goodB_ok hg)
      · rfl
    · rfl
  · rfl
theorem rowF_law {FU : Nat} (hU : 2000 ≤ FU) : f__law_row_wanted FU = rowF FU false (f__law_row_wanted FU) := by
  funext ds S
  unfold rowF
  split
  · split
    · rename_i ns bs e1 e2
      split
      · rename_i hg
        rw [intsOf_eq e1, intsOf_eq e2]
        exact law_row hU (goodB_ok hg)
      · rfl
    · rfl
  · rfl
def okT : R D → Bool
  | .ok (.bl b) _ => b
  | _ => false
abbrev UU : Nat := 100000
theorem ev_fast : f__law_are_even UU = mkFn 3 15 (evB UU (rowF UU true (f_row_wanted UU)) (rowF UU false (f__law_row_wanted UU))) := by
  unfold f__law_are_even
  rw [ev_eq, ← rowF_raw (by decide), ← rowF_law (by decide)]
def mn1 : List (List Int) := [[3], [2, 3], [3, 2], [4], [2, 2], [3, 3], [4, 3], [2, 2, 3]]
def mn2 : List (List Int) := mn1 ++ [[5], [7], [6], [5, 2], [8], [5, 3], [2, 7]]
def evenAt (w : Int) (ns : List Int) : Bool := okT (mkFn 3 15 (evB UU (rowF UU true (f_row_wanted UU)) (rowF UU false (f__law_row_wanted UU))) [.int w, tupI ns, .int 7] [])
theorem ev2_0 : evenAt 2 [3] = true := by decide +kernel
theorem ev2_1 : evenAt 2 [2, 3] = true := by decide +kernel
theorem ev2_2 : evenAt 2 [3, 2] = true := by decide +kernel
theorem ev2_3 : evenAt 2 [4] = true := by decide +kernel
theorem ev2_4 : evenAt 2 [2, 2] = true := by decide +kernel
theorem ev2_5 : evenAt 2 [3, 3] = true := by decide +kernel
theorem ev2_6 : evenAt 2 [4, 3] = true := by decide +kernel
theorem ev2_7 : evenAt 2 [2, 2, 3] = true := by decide +kernel
theorem ev3_0 : evenAt 3 [3] = true := by decide +kernel
theorem ev3_1 : evenAt 3 [2, 3] = true := by decide +kernel
theorem ev3_2 : evenAt 3 [3, 2] = true := by decide +kernel
theorem ev3_3 : evenAt 3 [4] = true := by decide +kernel
theorem ev3_4 : evenAt 3 [2, 2] = true := by decide +kernel
theorem ev3_5 : evenAt 3 [3, 3] = true := by decide +kernel
theorem ev3_6 : evenAt 3 [4, 3] = true := by decide +kernel
theorem ev3_7 : evenAt 3 [2, 2, 3] = true := by decide +kernel
theorem ev3_8 : evenAt 3 [5] = true := by decide +kernel
theorem ev3_9 : evenAt 3 [7] = true := by decide +kernel
theorem ev3_10 : evenAt 3 [6] = true := by decide +kernel
theorem ev3_11 : evenAt 3 [5, 2] = true := by decide +kernel
theorem ev3_12 : evenAt 3 [8] = true := by decide +kernel
theorem ev3_13 : evenAt 3 [5, 3] = true := by decide +kernel
theorem ev3_14 : evenAt 3 [2, 7] = true := by decide +kernel
theorem ev4_0 : evenAt 4 [3] = true := by decide +kernel
theorem ev4_1 : evenAt 4 [2, 3] = true := by decide +kernel
theorem ev4_2 : evenAt 4 [3, 2] = true := by decide +kernel
theorem ev4_3 : evenAt 4 [4] = true := by decide +kernel
theorem ev4_4 : evenAt 4 [2, 2] = true := by decide +kernel
theorem ev4_5 : evenAt 4 [3, 3] = true := by decide +kernel
theorem ev4_6 : evenAt 4 [4, 3] = true := by decide +kernel
theorem ev4_7 : evenAt 4 [2, 2, 3] = true := by decide +kernel
theorem ev4_8 : evenAt 4 [5] = true := by decide +kernel
theorem ev4_9 : evenAt 4 [7] = true := by decide +kernel
theorem ev4_10 : evenAt 4 [6] = true := by decide +kernel
theorem ev4_11 : evenAt 4 [5, 2] = true := by decide +kernel
theorem ev4_12 : evenAt 4 [8] = true := by decide +kernel
theorem ev4_13 : evenAt 4 [5, 3] = true := by decide +kernel
theorem ev4_14 : evenAt 4 [2, 7] = true := by decide +kernel
theorem ev2 : ∀ ns ∈ mn1, evenAt 2 ns = true := by
  intro ns h
  simp only [mn2, mn1, List.mem_append, List.mem_cons, List.not_mem_nil, or_false, or_assoc] at h
  rcases h with rfl | rfl | rfl | rfl | rfl | rfl | rfl | rfl
  · exact ev2_0
  · exact ev2_1
  · exact ev2_2
  · exact ev2_3
  · exact ev2_4
  · exact ev2_5
  · exact ev2_6
  · exact ev2_7
theorem ev3 : ∀ ns ∈ mn2, evenAt 3 ns = true := by
  intro ns h
  simp only [mn2, mn1, List.mem_append, List.mem_cons, List.not_mem_nil, or_false, or_assoc] at h
  rcases h with rfl | rfl | rfl | rfl | rfl | rfl | rfl | rfl | rfl | rfl | rfl | rfl | rfl | rfl | rfl
  · exact ev3_0
  · exact ev3_1
  · exact ev3_2
  · exact ev3_3
  · exact ev3_4
  · exact ev3_5
  · exact ev3_6
  · exact ev3_7
  · exact ev3_8
  · exact ev3_9
  · exact ev3_10
  · exact ev3_11
  · exact ev3_12
  · exact ev3_13
  · exact ev3_14
theorem ev4 : ∀ ns ∈ mn2, evenAt 4 ns = true := by
  intro ns h
  simp only [mn2, mn1, List.mem_append, List.mem_cons, List.not_mem_nil, or_false, or_assoc] at h
  rcases h with rfl | rfl | rfl | rfl | rfl | rfl | rfl | rfl | rfl | rfl | rfl | rfl | rfl | rfl | rfl
  · exact ev4_0
  · exact ev4_1
  · exact ev4_2
  · exact ev4_3
  · exact ev4_4
  · exact ev4_5
  · exact ev4_6
  · exact ev4_7
  · exact ev4_8
  · exact ev4_9
  · exact ev4_10
  · exact ev4_11
  · exact ev4_12
  · exact ev4_13
  · exact ev4_14
end k43

set_option Elab.async false
set_option linter.all false
set_option maxRecDepth 100000
set_option maxHeartbeats 4000000
/-! Mg_k43: the deck and the draws. -/
namespace k43
open PySem Ev
abbrev deckD (cn : Nat) (mixed draws : Int) : AO := .dic [(.inr "cells", .loc cn), (.inr "mixed", .int mixed), (.inr "draws", .int draws)]
structure Deck (dn cn : Nat) (S : Sto) : Prop where
  ne : dn ≠ cn
  d : ∃ mixed draws, S[dn]? = some (deckD cn mixed draws)
  c : ∃ cells : List Int, S[cn]? = some (.lst (cells.map D.int)) ∧ cells.length ≤ 1000
theorem Deck.more {dn cn : Nat} {S : Sto} (h : Deck dn cn S) (T : Sto) : Deck dn cn (S ++ T) := by
  obtain ⟨m, d, e⟩ := h.d
  obtain ⟨c, e2, hc⟩ := h.c
  have l1 := (List.getElem?_eq_some_iff.mp e).1
  have l2 := (List.getElem?_eq_some_iff.mp e2).1
  exact ⟨h.ne, ⟨m, d, by rw [List.getElem?_append_left l1]; exact e⟩, ⟨c, by rw [List.getElem?_append_left l2]; exact e2, hc⟩⟩
section
variable {FU : Nat} {S : Sto} {dn cn : Nat} {mixed draws : Int}
theorem k_cells {a b c : D} : dval [(.inr "cells", a), (.inr "mixed", b), (.inr "draws", c)] (.inr "cells") = some a := by
  simp [dval]
theorem k_mixed {a b c : D} : dval [(.inr "cells", a), (.inr "mixed", b), (.inr "draws", c)] (.inr "mixed") = some b := by
  have h1 : (Str.ofString "cells" = Str.ofString "mixed") = False := by decide
  simp [dval, h1]
theorem k_draws {a b c : D} : dval [(.inr "cells", a), (.inr "mixed", b), (.inr "draws", c)] (.inr "draws") = some c := by
  have h1 : (Str.ofString "cells" = Str.ofString "draws") = False := by decide
  have h2 : (Str.ofString "mixed" = Str.ofString "draws") = False := by decide
  simp [dval, h1, h2]
theorem p_draws {a b c d : D} : dput [(.inr "cells", a), (.inr "mixed", b), (.inr "draws", c)] (.inr "draws") d = [(.inr "cells", a), (.inr "mixed", b), (.inr "draws", d)] := by
  have h1 : (Str.ofString "cells" = Str.ofString "draws") = False := by decide
  have h2 : (Str.ofString "mixed" = Str.ofString "draws") = False := by decide
  simp [dput, h1, h2]
theorem ix_dic {kvs : List (L2.Key × D)} {x : Str} {d : D} (h : S[dn]? = some (.dic kvs)) (hv : dval kvs (.inr x) = some d) : oIx (.loc dn) (.str x) S = .ok d S := by
  unfold oIx
  simp only [seqOf, h, ixL, key?]
  simp [hv]
theorem st_draws (h : S[dn]? = some (deckD cn mixed draws)) {i : Int} : stO (.loc dn) (.str "draws") (.int i) S = some (S.set dn (deckD cn mixed i)) := by
  unfold stO
  simp only [h, key?]
  simp [p_draws]
  decide
theorem ints_dat : ∀ cs : List Int, pdats (cs.map D.int) = some (cs.map PyData.int)
  | [] => rfl
  | c :: cs => by simp [pdats, pdat, ints_dat cs]
theorem ints_lay : ∀ cs : List Int, PyData.canLayAll0 (cs.map PyData.int) = true
  | [] => rfl
  | c :: cs => by simp [PyData.canLayAll0, PyData.canLay0, ints_lay cs]
theorem ints_deep : ∀ cs : List Int, PyData.depthAll (cs.map PyData.int) = 0
  | [] => rfl
  | c :: cs => by simp [PyData.depthAll, PyData.depth, ints_deep cs]
theorem ne_nil {cs : List Int} (h : S[cn]? = some (.lst (cs.map D.int))) : bNe (.loc cn) (.lst []) S = .ok (.bl (!cs.isEmpty)) S := by
  unfold bNe
  simp only [datOf, h, ints_dat, Option.map_some, pdat, pdats]
  have h1 : SeqAt.shaped (.list (cs.map PyData.int)) = true := by simp [SeqAt.shaped, PyData.canLay0, PyData.depth, ints_lay, ints_deep]
  have h2 : SeqAt.shaped (.list []) = true := by simp [SeqAt.shaped, PyData.canLay0, PyData.depth, PyData.canLayAll0, PyData.depthAll]
  rw [h1, h2]
  cases cs <;> simp [PyData.eqv, PyData.eqvAll]
theorem pop_last {cs : List Int} {c : Int} (h : S[cn]? = some (.lst ((cs ++ [c]).map D.int))) : oPop (.loc cn) [] S = .ok (.int c) (S.set cn (.lst (cs.map D.int))) := by
  simp [oPop, h]
theorem app_at {cs : List Int} {c : Int} (h : S[cn]? = some (.lst (cs.map D.int))) (hz : cs.length < sizeLine) : oAppend (.loc cn) [.int c] S = .ok .non (S.set cn (.lst ((cs ++ [c]).map D.int))) := by
  simp [oAppend, h, hz]
def TL : DS := dThen (dSet 2 (dOp bMod (dCB oInt (dCons (dOp (bAdd mkV) (dOp bMul (dVar 2) (dC (.int 39373))) (dC (.int 145))) dNil)) (dC (.int 2147483647))))
  (dThen (dSet 2 (dOp bMod (dCB oInt (dCons (dOp (bAdd mkV) (dOp (bAdd mkV) (dOp bMul (dVar 2) (dVar 2)) (dOp bMul (dC (.int 52713)) (dOp oIx (dVar 0) (dC (.str "draws"))))) (dC (.int 295))) dNil)) (dC (.int 2147483587))))
  (dThen (dSet 2 (dOp bMod (dCB oInt (dCons (dOp bMul (dVar 2) (dC (.int 40692))) dNil)) (dC (.int 2147483563))))
  (dRet (dOp bMod (dCB oInt (dCons (dOp bFdiv (dVar 2) (dC (.int 64))) dNil)) (dVar 1)))))
def A1 : DS := dAsg (dOp (bAdd mkV) (dOp oIx (dVar 0) (dC (.str "draws"))) (dC (.int 1))) (gIx (dVar 0) (dC (.str "draws")))
def A2 : DS := dSet 2 (dOp (bAdd mkV) (dOp oIx (dVar 0) (dC (.str "mixed"))) (dOp bMul (dC (.int 61473)) (dOp oIx (dVar 0) (dC (.str "draws")))))
def C1 : DT := dTst (dOp bNe (dOp oIx (dVar 0) (dC (.str "cells"))) (dLst dNil))
def A3 : DS := dSet 3 (dBM isL oPop (dOp oIx (dVar 0) (dC (.str "cells"))) dNil)
def C2 : DT := dTst (dOp bGe (dVar 3) (dOp bPow (dC (.int 10)) (dC (.int 18))))
def R1 : DS := dThen (dExpr (dBM isL oAppend (dOp oIx (dVar 0) (dC (.str "cells"))) (dCons (dOp bFdiv (dVar 3) (dCB oMax2 (dCons (dC (.int 2)) (dCons (dVar 1) dNil)))) dNil)))
  (dRet (dOp bMod (dCB oInt (dCons (dVar 3) dNil)) (dVar 1)))
def A4 : DS := dSet 2 (dOp (bAdd mkV) (dVar 2) (dOp bMod (dCB oInt (dCons (dVar 3) dNil)) (dC (.int 2147483629))))
theorem b_draw_eq : b__law_draw FU = dThen A1 (dThen A2 (dThen (dIfS C1 (dThen A3 (dThen (dIfS C2 R1 dNext) A4)) dNext) TL)) := rfl
theorem tail_ok {many x : Int} {t3 : Option D} (hm : 1 ≤ many ∧ many ≤ 1000000) (h : S[dn]? = some (deckD cn mixed draws)) : ∃ r, TL [some (.loc dn), some (.int many), some (.int x), t3] S = .ret (.int r) S ∧ 0 ≤ r ∧ r < many := by
  have e1 := ix_dic (x := "draws") h k_draws
  have h0 : (0 : Int) < many := by omega
  have hb := Int.emod_nonneg (x * 39373 + 145) (show (2147483647 : Int) ≠ 0 by decide)
  have hb2 := Int.emod_lt_of_pos (x * 39373 + 145) (show (0 : Int) < 2147483647 by decide)
  generalize hy : (x * 39373 + 145) % 2147483647 = y at hb hb2
  generalize hz : ((y * y + 52713 * draws + 295) % 2147483587 * 40692 % 2147483563 / 64) = z
  refine ⟨z % many, ?_, Int.emod_nonneg _ (by omega), Int.emod_lt_of_pos _ h0⟩
  unfold TL
  simp [e1, cMul_r (j := 39373) (by decide), cMul_r (j := 40692) (by decide), cMul_l (i := 52713) (by decide), cMul_l (i := y) (j := y) (by omega), cDiv_of (j := 64) (by decide) (by decide), h0, hy, hz]
theorem draw_ok {many : Int} (hm : 1 ≤ many ∧ many ≤ 1000000) (h : Deck dn cn S) : ∃ r S', f__law_draw FU [.loc dn, .int many] S = .ok (.int r) S' ∧ 0 ≤ r ∧ r < many ∧ Deck dn cn S' := by
  obtain ⟨mixed, draws, hd⟩ := h.d
  obtain ⟨cells, hc, hl⟩ := h.c
  have ld := (List.getElem?_eq_some_iff.mp hd).1
  have lc := (List.getElem?_eq_some_iff.mp hc).1
  have hne := h.ne
  have S1d : (S.set dn (deckD cn mixed (draws + 1)))[dn]? = some (deckD cn mixed (draws + 1)) := by simp [ld]
  have S1c : (S.set dn (deckD cn mixed (draws + 1)))[cn]? = some (.lst (cells.map D.int)) := by rw [List.getElem?_set_ne hne]; exact hc
  have s1 : A1 [some (.loc dn), some (.int many), none, none] S = .nx [some (.loc dn), some (.int many), none, none] (S.set dn (deckD cn mixed (draws + 1))) := by
    have e1 := ix_dic (x := "draws") hd k_draws
    have e2 := st_draws hd (i := draws + 1)
    simp [A1, e1, gIx, e2, stS]
  generalize hS1 : S.set dn (deckD cn mixed (draws + 1)) = S1 at S1d S1c s1
  have D1 : Deck dn cn S1 := ⟨hne, ⟨_, _, S1d⟩, ⟨cells, S1c, hl⟩⟩
  obtain ⟨x, s2⟩ : ∃ x : Int, A2 [some (.loc dn), some (.int many), none, none] S1 = .nx [some (.loc dn), some (.int many), some (.int x), none] S1 := by
    have e1 := ix_dic (x := "draws") S1d k_draws
    have e2 := ix_dic (x := "mixed") S1d k_mixed
    exact ⟨_, by simp [A2, e1, e2, cMul_l (i := 61473) (by decide)]; rfl⟩
  have e3 := ix_dic (x := "cells") S1d k_cells
  have e4 := ne_nil S1c
  have c1 : C1 [some (.loc dn), some (.int many), some (.int x), none] S1 = .ok (!cells.isEmpty) S1 := by
    simp [C1, e3, e4]
  have fin : ∀ (S2 : Sto) (y : Int) (t3 : Option D), Deck dn cn S2 → ∃ r, TL [some (.loc dn), some (.int many), some (.int y), t3] S2 = .ret (.int r) S2 ∧ 0 ≤ r ∧ r < many := fun S2 y t3 h2 => by
    obtain ⟨m2, d2, h2⟩ := h2.d
    exact tail_ok hm h2
  have start : ∀ {r : Int} {S' : Sto}, (dIfS C1 (dThen A3 (dThen (dIfS C2 R1 dNext) A4)) dNext [some (.loc dn), some (.int many), some (.int x), none] S1).thn TL = .ret (.int r) S' → f__law_draw FU [.loc dn, .int many] S = .ok (.int r) S' := fun {r S'} e => by
    unfold f__law_draw
    refine mk_ret (ρ0 := [some (.loc dn), some (.int many), none, none]) rfl rfl ?_
    rw [b_draw_eq, r_then, s1, t_nx, r_then, s2, t_nx, r_then]
    exact e
  rcases List.eq_nil_or_concat cells with rfl | ⟨cs, c, rfl⟩
  · obtain ⟨r, e, h1, h2⟩ := fin S1 x none D1
    refine ⟨r, S1, start ?_, h1, h2, D1⟩
    rw [r_ifS, c1]
    simpa using e
  · have e5 := pop_last (S := S1) (cn := cn) (cs := cs) (c := c) (by simpa using S1c)
    have l1 : cn < S1.length := (List.getElem?_eq_some_iff.mp S1c).1
    have S2d : (S1.set cn (.lst (cs.map D.int)))[dn]? = some (deckD cn mixed (draws + 1)) := by rw [List.getElem?_set_ne (Ne.symm hne)]; exact S1d
    have S2c : (S1.set cn (.lst (cs.map D.int)))[cn]? = some (.lst (cs.map D.int)) := by simp [l1]
    have hl2 : cs.length ≤ 1000 := by simp at hl; omega
    have D2 : Deck dn cn (S1.set cn (.lst (cs.map D.int))) := ⟨hne, ⟨_, _, S2d⟩, ⟨cs, S2c, hl2⟩⟩
    have s3 : A3 [some (.loc dn), some (.int many), some (.int x), none] S1 = .nx [some (.loc dn), some (.int many), some (.int x), some (.int c)] (S1.set cn (.lst (cs.map D.int))) := by
      have hl3 : isL (.loc cn) S1 = true := by simp [isL, lstOf, S1c]
      simp [A3, dBM, e3, hl3, e5]
    generalize hS2 : S1.set cn (.lst (cs.map D.int)) = S2 at S2d S2c D2 s3
    have c2 : C2 [some (.loc dn), some (.int many), some (.int x), some (.int c)] S2 = .ok (decide ((10 : Int) ^ 18 ≤ c)) S2 := by
      simp [C2, cPow_of (i := 10) (j := 18) (by decide) (by decide) (by decide)]
    have hpre : (dIfS C1 (dThen A3 (dThen (dIfS C2 R1 dNext) A4)) dNext [some (.loc dn), some (.int many), some (.int x), none] S1) = (dIfS C2 R1 dNext [some (.loc dn), some (.int many), some (.int x), some (.int c)] S2).thn A4 := by
      rw [r_ifS, c1]
      simp [s3]
    by_cases hbig : (10 : Int) ^ 18 ≤ c
    · have hmx : (if many > 2 then many else 2) = max 2 many ∧ 0 < max 2 many ∧ max 2 many < 18446744073709551616 := by
        refine ⟨?_, by omega, by omega⟩
        split <;> omega
      have e6 := ix_dic (x := "cells") S2d k_cells
      have e7 := app_at (S := S2) (cn := cn) (cs := cs) (c := c / max 2 many) S2c (by have := sz1000; omega)
      have hl3 : isL (.loc cn) S2 = true := by simp [isL, lstOf, S2c]
      have l2 : cn < S2.length := (List.getElem?_eq_some_iff.mp S2c).1
      have hR : R1 [some (.loc dn), some (.int many), some (.int x), some (.int c)] S2 = .ret (.int (c % many)) (S2.set cn (.lst ((cs ++ [c / max 2 many]).map D.int))) := by
        have h0 : 0 < many := by omega
        simp only [R1, r_then, r_expr, dBM, r_op, r_var, r_c, R.bind_ok, List.getElem?_cons_zero, List.getElem?_cons_succ, e6, hl3, if_true, r_cons, r_cb, o_max, hmx.1, o_fdiv, cDiv_of hmx.2.1 hmx.2.2, r_nil, e7, R.bindS_ok, t_nx, r_ret, o_int, o_mod, h0, decide_true]
      refine ⟨c % many, S2.set cn (.lst ((cs ++ [c / max 2 many]).map D.int)), start ?_, Int.emod_nonneg _ (by omega), Int.emod_lt_of_pos _ (by omega), ⟨hne, ⟨mixed, draws + 1, by rw [List.getElem?_set_ne (Ne.symm hne)]; exact S2d⟩, ⟨cs ++ [c / max 2 many], by simp [l2], by simp at hl ⊢; omega⟩⟩⟩
      rw [hpre, r_ifS, c2, R.bindS_ok, if_pos (by simpa using hbig), hR]
      rfl
    · obtain ⟨r, e, h1, h2⟩ := fin S2 (x + c % 2147483629) (some (.int c)) D2
      refine ⟨r, S2, start ?_, h1, h2, D2⟩
      rw [hpre, r_ifS, c2, R.bindS_ok, if_neg (by simpa using hbig), r_next, t_nx]
      have h4 : A4 [some (.loc dn), some (.int many), some (.int x), some (.int c)] S2 = .nx [some (.loc dn), some (.int many), some (.int (x + c % 2147483629)), some (.int c)] S2 := by
        simp [A4]
      rw [h4, t_nx]
      exact e
end
end k43

set_option Elab.async false
set_option linter.all false
set_option maxRecDepth 100000
set_option maxHeartbeats 4000000
/-! Mh_k43: a row leans on the bits it takes; its bounds; its text. -/
namespace k43
open PySem Ev
theorem inn_pre {M : Int} : ∀ (bs : List Int) (m r : Int) (t : Nat) {m' r' : Int} {t' : Nat} {bs' : List Int}, inn M m r t bs = some (m', r', t', bs') → ∃ pre, bs = pre ++ bs' ∧ t' = t + pre.length ∧ M ≤ m' ∧ (m < M → 1 ≤ pre.length) ∧ ∀ x, inn M m r t (pre ++ x) = some (m', r', t', x)
  | [], m, r, t, m', r', t', bs', e => by
    unfold inn at e
    split at e
    · cases e
    · rename_i hm
      cases e
      refine ⟨[], rfl, rfl, by omega, fun h => by omega, fun x => ?_⟩
      cases x <;> simp [inn, hm]
  | b :: bs, m, r, t, m', r', t', bs', e => by
    unfold inn at e
    split at e
    · rename_i hm
      obtain ⟨pre, e1, e2, e3, _, e4⟩ := inn_pre bs _ _ _ e
      exact ⟨b :: pre, by rw [e1]; rfl, by simp; omega, e3, fun _ => by simp, fun x => by rw [List.cons_append]; unfold inn; rw [if_pos hm]; exact e4 x⟩
    · rename_i hm
      cases e
      refine ⟨[], rfl, rfl, by omega, fun h => by omega, fun x => ?_⟩
      cases x <;> simp [inn, hm]
theorem out_pre {M n : Int} (hn : 1 ≤ n ∧ n ≤ M) : ∀ (k : Nat) (bs : List Int) (m r : Int) (t : Nat) {o q r' : Int} {u : Nat}, out M n k m r t bs = some (o, q, r', u) →
    ∃ pre suf, bs = pre ++ suf ∧ u = t + pre.length ∧ ∀ x k', (pre.length + 2 ≤ k' ∨ (m < M ∧ pre.length + 1 ≤ k')) → out M n k' m r t (pre ++ x) = some (o, q, r', u)
  | 0, bs, m, r, t, o, q, r', u, e => by cases e
  | k + 1, bs, m, r, t, o, q, r', u, e => by
    unfold out at e
    split at e
    · cases e
    · rename_i m' r'' t' bs' e1
      obtain ⟨p1, a1, a2, a3, a4, a5⟩ := inn_pre bs m r t e1
      have hm2 : m' - m' / n * n < M := by
        have h2 := Int.emod_lt_of_pos m' (show 0 < n by omega)
        have h3 := Int.emod_def m' n
        have h4 : n * (m' / n) = m' / n * n := Int.mul_comm ..
        omega
      split at e
      · rename_i hr
        cases e
        refine ⟨p1, bs', a1, a2, fun x k' hk => ?_⟩
        cases k' with
        | zero => omega
        | succ k' =>
          unfold out
          rw [a5 x]
          simp [hr]
      · rename_i hr
        obtain ⟨p2, suf, b1, b2, b3⟩ := out_pre hn k bs' _ _ t' e
        refine ⟨p1 ++ p2, suf, by rw [a1, b1, List.append_assoc], by simp; omega, fun x k' hk => ?_⟩
        cases k' with
        | zero => simp at hk
        | succ k' =>
          unfold out
          rw [List.append_assoc, a5 (p2 ++ x)]
          simp only [hr, if_false]
          refine b3 x k' (.inr ⟨hm2, ?_⟩)
          simp only [List.length_append] at hk
          rcases hk with hk | ⟨h1, hk⟩
          · omega
          · have := a4 h1; omega
theorem tell_pre {w n m r : Int} {bs : List Int} {o q r' : Int} {u : Nat} (h : WN w n) (e : tellZ w n m r bs = some (o, q, r', u)) : ∃ pre suf, bs = pre ++ suf ∧ u = pre.length ∧ ∀ x, tellZ w n m r (pre ++ x) = some (o, q, r', u) := by
  have := h.n0; have := h.n2
  obtain ⟨pre, suf, e1, e2, e3⟩ := out_pre (M := 2 ^ w.toNat) (n := n) ⟨by omega, by omega⟩ _ bs m r 0 e
  exact ⟨pre, suf, e1, by omega, fun x => e3 x _ (.inl (by simp))⟩
theorem rows_pre {w : Int} : ∀ (ns : List Int) (m r : Int) (t : Nat) (bs acc : List Int) {o : List Int} {m' r' : Int} {T : Nat}, (∀ n ∈ ns, WN w n) → rows w ns m r t bs acc = (o, some (m', r', T)) →
    ∃ pre suf, bs = pre ++ suf ∧ T = t + pre.length ∧ ∀ x, rows w ns m r t (pre ++ x) acc = (o, some (m', r', T))
  | [], m, r, t, bs, acc, o, m', r', T, hn, e => by
    cases e
    exact ⟨[], bs, rfl, rfl, fun x => rfl⟩
  | n :: ns, m, r, t, bs, acc, o, m', r', T, hn, e => by
    unfold rows at e
    split at e
    · cases e
    · rename_i o1 q1 r1 u1 e1
      obtain ⟨p1, s1, a1, a2, a3⟩ := tell_pre (hn n (List.mem_cons_self ..)) e1
      have hdrop : bs.drop u1 = s1 := by rw [a1, a2]; simp
      rw [hdrop] at e
      obtain ⟨p2, s2, b1, b2, b3⟩ := rows_pre ns _ _ _ s1 _ (fun n h => hn n (List.mem_cons_of_mem _ h)) e
      refine ⟨p1 ++ p2, s2, by rw [a1, b1, List.append_assoc], by simp; omega, fun x => ?_⟩
      unfold rows
      rw [List.append_assoc, a3 (p2 ++ x)]
      simp only
      have : (p1 ++ (p2 ++ x)).drop u1 = p2 ++ x := by rw [a2]; simp
      rw [this]
      exact b3 x
theorem row_again {w : Int} {wants bits : List Int} {o : List Int} {m r : Int} {t : Nat} (hn : ∀ n ∈ wants, WN w n) (e : rowZ w wants bits = (o, some (m, r, t))) (x : List Int) : rowZ w wants (bits.take t ++ x) = (o, some (m, r, t)) := by
  obtain ⟨pre, suf, e1, e2, e3⟩ := rows_pre wants 1 0 0 bits [] hn e
  have : bits.take t = pre := by rw [e1, show t = pre.length by omega]; simp
  rw [this]
  exact e3 x
/-! bounds -/
structure Bd (w : Int) (bits : List Int) (z : List Int × Option (Int × Int × Nat)) (k : Nat) : Prop where
  o : ∀ x ∈ z.1, 0 ≤ x ∧ x < 64
  l : z.1.length ≤ k
  r : ∀ m r t, z.2 = some (m, r, t) → RestOk w m r ∧ t ≤ bits.length
theorem out_o {M n : Int} (hn : 0 < n) : ∀ (k : Nat) (bs : List Int) (m r : Int) (t : Nat) {o q r' : Int} {u : Nat}, out M n k m r t bs = some (o, q, r', u) → 0 ≤ o ∧ o < n
  | 0, bs, m, r, t, o, q, r', u, e => by cases e
  | k + 1, bs, m, r, t, o, q, r', u, e => by
    unfold out at e
    split at e
    · cases e
    · split at e
      · cases e; exact ⟨Int.emod_nonneg _ (by omega), Int.emod_lt_of_pos _ hn⟩
      · exact out_o hn k _ _ _ _ e
theorem rows_bd {w : Int} {bits : List Int} (hb : ∀ b ∈ bits, 0 ≤ b ∧ b ≤ 1) : ∀ (ns : List Int) (m r : Int) (t : Nat) (acc : List Int), (∀ n ∈ ns, WN w n) → RestOk w m r → t ≤ bits.length → (∀ x ∈ acc, 0 ≤ x ∧ x < 64) → Bd w bits (rows w ns m r t (bits.drop t) acc) (acc.length + ns.length)
  | [], m, r, t, acc, hn, hr, ht, ha => ⟨ha, by simp [rows], fun m' r' t' e => by cases e; exact ⟨hr, ht⟩⟩
  | n :: ns, m, r, t, acc, hn, hr, ht, ha => by
    unfold rows
    have hW := hn n (List.mem_cons_self ..)
    cases q : tellZ w n m r (bits.drop t) with
    | none => exact ⟨ha, by simp, fun _ _ _ e => by cases e⟩
    | some z =>
      obtain ⟨o, q', r', u⟩ := z
      have hu := tellZ_le q
      have hb2 : ∀ b ∈ bits.drop t, 0 ≤ b ∧ b ≤ 1 := fun b h => hb b (List.mem_of_mem_drop h)
      have ho := out_o (n := n) (by have := hW.n0; omega) _ _ _ _ _ q
      have ih := rows_bd hb ns q' r' (t + u) (acc ++ [o]) (fun n h => hn n (List.mem_cons_of_mem _ h)) (tell_rest hW hb2 hr q) (by simp at hu; omega) (fun x hx => by
        rcases List.mem_append.mp hx with hx | hx
        · exact ha x hx
        · rw [List.mem_singleton.mp hx]
          have := hW.n1
          exact ⟨ho.1, by omega⟩)
      rw [← List.drop_drop] at ih
      exact ⟨ih.o, by have := ih.l; simp at this ⊢; omega, ih.r⟩
theorem row_bd {w : Int} {wants bits : List Int} (g : Good w wants bits) : Bd w bits (rowZ w wants bits) wants.length := by
  have hp : (0 : Int) < 2 ^ w.toNat := Int.pow_pos (by decide)
  have := rows_bd g.b01 wants 1 0 0 [] g.wn ⟨by omega, by omega, by omega, by omega⟩ (Nat.zero_le _) (fun x h => by cases h)
  simpa using this
/-! the text -/
theorem dats (cs : List Int) : pdats (cs.map D.int) = some (cs.map PyData.int) := by
  induction cs with
  | nil => rfl
  | cons c cs ih => simp [pdats, pdat, ih]
theorem log_lt {x : Int} (h : x.natAbs < 1048576) : x.natAbs.log2 < 20 := by
  by_cases h0 : x.natAbs = 0
  · rw [h0]; decide
  · exact (Nat.log2_lt h0).mpr h
theorem ints_fit : ∀ cs : List Int, (∀ c ∈ cs, c.natAbs < 1048576) → PyData.showableAll (cs.map PyData.int) = true ∧ PyData.hasDictAll (cs.map PyData.int) = false ∧ PyData.depthAll (cs.map PyData.int) = 0 ∧ wShs (cs.map PyData.int) ≤ 24 * cs.length ∧ noStrs (cs.map PyData.int) = true
  | [], _ => ⟨rfl, rfl, rfl, Nat.le_refl _, rfl⟩
  | c :: cs, h => by
    obtain ⟨h1, h2, h3, h4, h5⟩ := ints_fit cs fun c hc => h c (List.mem_cons_of_mem _ hc)
    have hl := log_lt (h c (List.mem_cons_self ..))
    refine ⟨?_, ?_, ?_, ?_, ?_⟩
    · simp [PyData.showableAll, PyData.showable, h1]; omega
    · simp [PyData.hasDictAll, PyData.hasDict, h2]
    · simp [PyData.depthAll, PyData.depth, h3]
    · simp only [List.map_cons, wShs, wSh, List.length_cons]; omega
    · simp [noStrs, noStr, h5]
theorem beq_ints : ∀ cs : List Int, beqDs (cs.map D.int) (cs.map D.int) = true
  | [] => rfl
  | c :: cs => by simp [beqDs, beqD, beq_ints cs]
theorem beq_row (z : List Int × Option (Int × Int × Nat)) : beqD (rowD z) (rowD z) = true := by
  obtain ⟨o, x⟩ := z
  cases x with
  | none => rfl
  | some x => obtain ⟨m, r, t⟩ := x; simp [rowD, beqD, beqDs, beq_ints]
theorem row_fit {w : Int} {bits : List Int} {z : List Int × Option (Int × Int × Nat)} {k : Nat} (hw : 1 ≤ w ∧ w ≤ 12) (hb : bits.length < 1000) (b : Bd w bits z k) (hk : k ≤ 900) : reprFit (rowD z) = true ∧ reprFit (.tup [rowD z, rowD z]) = true := by
  obtain ⟨o, x⟩ := z
  cases x with
  | none => exact ⟨show reprFit .non = true by decide, show reprFit (.tup [.non, .non]) = true by decide⟩
  | some x =>
    obtain ⟨m, r, t⟩ := x
    obtain ⟨hr, ht⟩ := b.r m r t rfl
    have h12 : (2 : Int) ^ w.toNat ≤ 4096 := by
      have h1 : w.toNat ≤ 12 := by omega
      have h2 : (2 : Int) ^ w.toNat ≤ 2 ^ 12 := by
        have := Nat.pow_le_pow_right (n := 2) (by decide) h1
        exact_mod_cast this
      exact Int.le_trans h2 (by decide)
    have := hr.m0; have := hr.m1; have := hr.r0; have := hr.r1
    obtain ⟨h1, h2, h3, h4, h5⟩ := ints_fit o fun c hc => by have := b.o c hc; omega
    have lm := log_lt (x := m) (by omega)
    have lr := log_lt (x := r) (by omega)
    have lt : t.log2 < 20 := by simpa using log_lt (x := (t : Int)) (by omega)
    have hl := b.l
    have hl : o.length ≤ k := hl
    have sz : 100000 ≤ sizeLine := by decide
    refine ⟨?_, ?_⟩
    · simp only [reprFit, rowD, pdat, pdats, dats, Option.map_some]
      simp [reprOk, PyData.showable, PyData.showableAll, PyData.hasDict, PyData.hasDictAll, PyData.depth, PyData.depthAll, wSh, wShs, noStr, noStrs, h1, h2, h3, h5]
      exact ⟨by omega, decide_eq_true (by omega)⟩
    · simp only [reprFit, rowD, pdat, pdats, dats, Option.map_some]
      simp [reprOk, PyData.showable, PyData.showableAll, PyData.hasDict, PyData.hasDictAll, PyData.depth, PyData.depthAll, wSh, wShs, noStr, noStrs, h1, h2, h3, h5]
      exact ⟨by omega, decide_eq_true (by omega)⟩
end k43

set_option Elab.async false
set_option linter.all false
set_option maxRecDepth 100000
set_option maxHeartbeats 4000000
/-! Mi_k43: the law's own defs over the deck. -/
namespace k43
open PySem Ev
section
variable {FU : Nat} {S : Sto} {dn cn : Nat}
theorem pick_ok {ds : List D} (h0 : 1 ≤ ds.length) (h1 : ds.length ≤ 1000) (h : Deck dn cn S) : ∃ d S', f__law_pick FU [.loc dn, .lst ds] S = .ok d S' ∧ d ∈ ds ∧ Deck dn cn S' := by
  obtain ⟨r, S', e, h2, h3, hD⟩ := draw_ok (FU := FU) (S := S) (many := (ds.length : Int)) ⟨by omega, by omega⟩ h
  obtain ⟨k, rfl⟩ := Int.eq_ofNat_of_zero_le h2
  have hlt : k < ds.length := by omega
  have hr : L2.atI ds (k : Int) = some ds[k] := L2.atI_nat (by simp [hlt])
  refine ⟨ds[k], S', ?_, List.getElem_mem hlt, hD⟩
  unfold f__law_pick
  refine mk_ret (ρ0 := [some (.loc dn), some (.lst ds)]) rfl rfl ?_
  unfold b__law_pick
  simp [e, hr]
theorem ints_back {ds : List D} {P : Int → Prop} (h : ∀ d ∈ ds, ∃ x : Int, d = .int x ∧ P x) : ∃ xs : List Int, ds = xs.map D.int ∧ ∀ x ∈ xs, P x := by
  induction ds with
  | nil => exact ⟨[], rfl, fun x h => by cases h⟩
  | cons d ds ih =>
    obtain ⟨x, rfl, hx⟩ := h _ (List.mem_cons_self ..)
    obtain ⟨xs, rfl, hxs⟩ := ih fun d hd => h d (List.mem_cons_of_mem _ hd)
    exact ⟨x :: xs, rfl, fun y hy => by
      rcases List.mem_cons.mp hy with rfl | hy
      · exact hx
      · exact hxs y hy⟩
/-- tuple([f(..) for .. in range(N)]) -/
theorem row_draw (hU : 2000 ≤ FU) {ρ : Rho} {te : DE} {k N : Nat} {P : Int → Prop} {it : DI} (hN : N ≤ 900) (hit : ∃ S', it ρ S = .ok (.rng 0 1 N) S' ∧ Deck dn cn S')
    (h : ∀ (j : Nat) (S : Sto), Deck dn cn S → ∃ x S', te ((wipeR ρ [k]).set k (some (.int (j : Nat)))) S = .ok (.int x) S' ∧ P x ∧ Deck dn cn S') (hD : Deck dn cn S) :
    ∃ xs S', dCB oTuple (dCons (dLc FU it (gnName k) dYes te [k] mkV) dNil) ρ S = .ok (tupI xs) S' ∧ (∀ x ∈ xs, P x) ∧ xs.length = N ∧ Deck dn cn S' := by
  obtain ⟨S1, e1, D1⟩ := hit
  obtain ⟨ds, S2, e2, D2, hr, hl⟩ := lc_state (ρ := ρ) (tf := gnName k) (te := te) (vs := [k]) (P := Deck dn cn) (Rr := fun d => ∃ x : Int, d = .int x ∧ P x) (N := N) (fun j S hS => by
    obtain ⟨x, S', e, h1, h2⟩ := h j S hS
    exact ⟨_, .int x, S', rfl, e, h2, x, rfl, h1⟩) (by have := sz1000; omega) FU 0 [] S1 D1 rfl (Nat.zero_le _) (by omega) (fun d hd => by cases hd)
  obtain ⟨xs, rfl, hx⟩ := ints_back hr
  refine ⟨xs, S2, ?_, hx, by simpa using hl, D2⟩
  simp only [r_cb, r_cons, dLc, e1, R.bind_ok, e2, mkV, r_nil, o_tupL]
theorem bits_draw (hU : 2000 ≤ FU) {N : Int} (hN : 0 ≤ N ∧ N ≤ 900) (hD : Deck dn cn S) : ∃ xs S', f__law_bits FU [.loc dn, .int N] S = .ok (tupI xs) S' ∧ (∀ x ∈ xs, 0 ≤ x ∧ x ≤ 1) ∧ xs.length = N.toNat ∧ Deck dn cn S' := by
  obtain ⟨xs, S', e, h1, h2, h3⟩ := row_draw (S := S) (dn := dn) (cn := cn) hU (ρ := [some (.loc dn), some (.int N), none]) (te := dCall (f__law_draw FU) (dCons (dVar 0) (dCons (dC (.int 2)) dNil))) (k := 2) (N := N.toNat) (P := fun x => 0 ≤ x ∧ x ≤ 1) (it := iArg rng1 (dCons (dVar 1) dNil)) (by omega)
    ⟨S, by simp [o_rng1 hN.1 (by omega)], hD⟩ (fun j S hS => by
      obtain ⟨r, S', e, h1, h2, h3⟩ := draw_ok (FU := FU) (many := 2) ⟨by omega, by omega⟩ hS
      exact ⟨r, S', by simp [wipeR, e], ⟨h1, by omega⟩, h3⟩) hD
  refine ⟨xs, S', ?_, h1, h2, h3⟩
  unfold f__law_bits
  refine mk_ret (ρ0 := [some (.loc dn), some (.int N), none]) rfl rfl ?_
  unfold b__law_bits
  rw [r_ret, e]
  rfl
theorem width_draw {N : Int} (hN : 1 ≤ N ∧ N ≤ 1000) (hD : Deck dn cn S) : ∃ x S', f__law_width FU [.loc dn, .int N] S = .ok (.int x) S' ∧ 1 ≤ x ∧ x ≤ N ∧ Deck dn cn S' := by
  obtain ⟨r, S', e, h1, h2, h3⟩ := draw_ok (FU := FU) (S := S) (many := N) ⟨by omega, by omega⟩ hD
  refine ⟨1 + r, S', ?_, by omega, by omega, h3⟩
  unfold f__law_width
  refine mk_ret (ρ0 := [some (.loc dn), some (.int N)]) rfl rfl ?_
  unfold b__law_width
  simp [e]
theorem pow_b {w : Int} (hw : 1 ≤ w ∧ w ≤ 12) : 2 ≤ (2 : Int) ^ w.toNat := by
  have h : w.toNat = (w.toNat - 1) + 1 := by omega
  rw [h, Int.pow_succ]
  have : (0 : Int) < 2 ^ (w.toNat - 1) := Int.pow_pos (by decide)
  omega
theorem want_draw {w : Int} (hw : 1 ≤ w ∧ w ≤ 12) (hD : Deck dn cn S) : ∃ n S', f__law_want FU [.loc dn, .int w] S = .ok (.int n) S' ∧ WN w n ∧ Deck dn cn S' := by
  have hp := pow_b hw
  have hm : 2 ≤ mostW w ∧ mostW w ≤ 64 ∧ mostW w ≤ 2 ^ w.toNat := by
    unfold mostW
    split <;> omega
  obtain ⟨c, S1, e1, h1, h2, D1⟩ := draw_ok (FU := FU) (S := S) (many := 2) ⟨by omega, by omega⟩ hD
  have fin : ∀ (r : Int), 0 ≤ r → WN w (if 2 + r < mostW w then 2 + r else mostW w) := fun r hr => by
    split
    · exact ⟨hw.1, hw.2, by omega, by omega, by omega⟩
    · exact ⟨hw.1, hw.2, by omega, by omega, by omega⟩
  have run : ∀ {n : Int} {S' : Sto}, (dIf (dTst (dOp bEq (dCall (f__law_draw FU) (dCons (dVar 0) (dCons (dC (.int 2)) dNil))) (dC (.int 0)))) (dCB oMin2 (dCons (dVar 2) (dCons (dOp (bAdd mkV) (dC (.int 2)) (dCall (f__law_draw FU) (dCons (dVar 0) (dCons (dOp bSub (dVar 2) (dC (.int 1))) dNil)))) dNil))) (dCB oMin2 (dCons (dVar 2) (dCons (dOp (bAdd mkV) (dC (.int 2)) (dCall (f__law_draw FU) (dCons (dVar 0) (dCons (dC (.int 6)) dNil)))) dNil))))
      [some (.loc dn), some (.int w), some (.int (mostW w))] S = .ok (.int n) S' → f__law_want FU [.loc dn, .int w] S = .ok (.int n) S' := fun {n S'} e => by
    unfold f__law_want
    refine mk_ret (ρ0 := [some (.loc dn), some (.int w), none]) rfl rfl ?_
    unfold b__law_want
    have hs : dSet 2 (dCB oMin2 (dCons (dC (.int 64)) (dCons (dOp bShl (dC (.int 1)) (dVar 1)) dNil))) [some (.loc dn), some (.int w), none] S = .nx [some (.loc dn), some (.int w), some (.int (mostW w))] S := by
      simp [cPow_of (i := 1) (j := w) (by omega) (by omega), mostW]
    rw [r_then, hs, t_nx, r_ret, e]
    rfl
  by_cases hc : c = 0
  · obtain ⟨r, S2, e2, h3, h4, D2⟩ := draw_ok (FU := FU) (S := S1) (many := mostW w - 1) ⟨by omega, by omega⟩ D1
    refine ⟨_, S2, run (n := if 2 + r < mostW w then 2 + r else mostW w) ?_, fin r h3, D2⟩
    simp [e1, hc, e2]
  · obtain ⟨r, S2, e2, h3, h4, D2⟩ := draw_ok (FU := FU) (S := S1) (many := 6) ⟨by omega, by omega⟩ D1
    refine ⟨_, S2, run (n := if 2 + r < mostW w then 2 + r else mostW w) ?_, fin r h3, D2⟩
    simp [e1, hc, e2]
end
end k43

set_option Elab.async false
set_option linter.all false
set_option maxRecDepth 100000
set_option maxHeartbeats 4000000
/-! Mj_k43: the law answers True. -/
namespace k43
open PySem Ev
section
variable {FU : Nat} {S : Sto} {dn cn : Nat}
/-! the deck -/
def DB : DS := dSet 1 (dOp bMod (dCB oInt (dCons (dOp (bAdd mkV) (dOp (bAdd mkV) (dOp bMul (dVar 1) (dC (.int 69621))) (dOp bMod (dCB oInt (dCons (dVar 2) dNil)) (dC (.int 2147483629)))) (dC (.int 145))) dNil)) (dC (.int 2147483587)))
theorem deck_go {a : D} {xs : List Int} : ∀ (n i : Nat) (x : Int) (t : Option D), i ≤ xs.length → xs.length - i < n → ∃ (x' : Int) (t' : Option D), dForGo (.sta (xs.map D.int)) (dN (gnName 2)) DB n i [some a, some (.int x), t] S = .nx [some a, some (.int x'), t'] S
  | n + 1, i, x, t, hi, hn => by
    rw [for_go]
    by_cases hl : i < xs.length
    · have e : nextOf (.sta (xs.map D.int)) i S = some (some (.int xs[i])) := by
        show some ((xs.map D.int)[i]?) = _
        rw [List.getElem?_map, List.getElem?_eq_getElem hl]
        rfl
      rw [e]
      obtain ⟨x', t', h⟩ := deck_go (a := a) (xs := xs) n (i + 1) ((x * 69621 + xs[i] % 2147483629 + 145) % 2147483587) (some (.int xs[i])) (by omega) (by omega)
      refine ⟨x', t', ?_⟩
      have hB : DB [some a, some (.int x), some (.int xs[i])] S = .nx [some a, some (.int ((x * 69621 + xs[i] % 2147483629 + 145) % 2147483587)), some (.int xs[i])] S := by
        simp [DB, cMul_r (j := 69621) (by decide)]
      show (RS.thn (.nx [some a, some (.int x), some (.int xs[i])] S) (fun ρ1 S1 => (DB ρ1 S1).again (dForGo (.sta (xs.map D.int)) (dN (gnName 2)) DB n (i + 1)))) = _
      rw [t_nx, hB, g_nx]
      exact h
    · have e : nextOf (.sta (xs.map D.int)) i S = some none := by
        show some ((xs.map D.int)[i]?) = _
        rw [List.getElem?_eq_none (by simp; omega)]
      rw [e]
      exact ⟨x, t, rfl⟩
def DI1 : DE := dDisp [((dC (.str "cells")), (dUn (oRev mkL) (dCB oList (dCons (dSl (dVar 0) none (some (dC (.int 63))) mkV) dNil)))), ((dC (.str "mixed")), (dVar 1)), ((dC (.str "draws")), (dC (.int 0)))]
theorem b_deck_eq : b__law_deck FU = dThen (dSet 1 (dC (.int 13736440))) (dThen (dFor FU (iSeq (dSl (dVar 0) none (some (dC (.int 63))) mkV)) (dN (gnName 2)) DB) (dRet DI1)) := rfl
theorem cut63 {ds : List D} : cutD ds none (some 63) = ds.take 63 := by
  unfold cutD
  show List.take (HT.sIx ds.length ds.length (some ((63 : Nat) : Int)) - 0) (List.drop 0 ds) = _
  rw [HT.sIx_nat]
  simp
theorem sl63 {ρ : Rho} {ds : List D} (h : ρ[0]? = some (some (.lst ds))) : dSl (dVar 0) none (some (dC (.int 63))) mkV ρ S = .ok (.lst (ds.take 63)) S := by
  have e : dSl (dVar 0) none (some (dC (.int 63))) mkV ρ S = slK mkV none (some 63) (.lst ds) S := by
    unfold dSl dPo asIx
    simp [h]
  rw [e]
  show R.ok (D.lst (cutD ds none (some 63))) S = _
  rw [cut63]
theorem disp_ok {ns : List Int} {x : Int} {t : Option D} : DI1 [some (.lst (ns.map D.int)), some (.int x), t] S = .ok (.loc (S.length + 1)) (S ++ [.lst ((ns.take 63).reverse.map D.int)] ++ [deckD S.length x 0]) := by
  have h1 := sl63 (S := S) (ρ := [some (.lst (ns.map D.int)), some (.int x), t]) (ds := ns.map D.int) rfl
  have h2 : (dUn (oRev mkL) (dCB oList (dCons (dSl (dVar 0) none (some (dC (.int 63))) mkV) dNil))) [some (.lst (ns.map D.int)), some (.int x), t] S = .ok (.loc S.length) (S ++ [.lst ((ns.take 63).reverse.map D.int)]) := by
    simp only [r_un, r_cb, r_cons, h1, R.bind_ok, r_nil, oList, seqOf, oRev, lstOf, mkL]
    rw [← List.map_take, ← List.map_reverse]
  have h3 : dmerge [(.inr "cells", .loc S.length), (.inr "mixed", .int x), (.inr "draws", .int 0)] = [(.inr "cells", .loc S.length), (.inr "mixed", .int x), (.inr "draws", .int 0)] := by
    have n1 : (Str.ofString "cells" = Str.ofString "mixed") = False := by decide
    have n2 : (Str.ofString "cells" = Str.ofString "draws") = False := by decide
    have n3 : (Str.ofString "mixed" = Str.ofString "draws") = False := by decide
    simp [dmerge, dput, n1, n2, n3]
  unfold DI1 dDisp
  have h4 : dPairs [((dC (.str "cells")), (dUn (oRev mkL) (dCB oList (dCons (dSl (dVar 0) none (some (dC (.int 63))) mkV) dNil)))), ((dC (.str "mixed")), (dVar 1)), ((dC (.str "draws")), (dC (.int 0)))] [some (.lst (ns.map D.int)), some (.int x), t] S = .ok [(.inr "cells", .loc S.length), (.inr "mixed", .int x), (.inr "draws", .int 0)] (S ++ [.lst ((ns.take 63).reverse.map D.int)]) := by
    simp only [dPairs, r_c, R.bind_ok, h2, key?, r_var, List.getElem?_cons_zero, List.getElem?_cons_succ]
  rw [h4]
  show mkD [(.inr "cells", .loc S.length), (.inr "mixed", .int x), (.inr "draws", .int 0)] (S ++ [.lst ((ns.take 63).reverse.map D.int)]) = _
  unfold mkD
  rw [if_pos (by simp), h3]
  simp
theorem deck_ok (hU : 2000 ≤ FU) {ns : List Int} (hl : ns.length ≤ 63) : ∃ S', f__law_deck FU [.lst (ns.map D.int)] [] = .ok (.loc 1) S' ∧ Deck 1 0 S' := by
  obtain ⟨x, t, e⟩ := deck_go (S := []) (a := .lst (ns.map D.int)) (xs := ns.take 63) FU 0 13736440 none (Nat.zero_le _) (by simp; omega)
  refine ⟨[.lst ((ns.take 63).reverse.map D.int), deckD 0 x 0], ?_, ⟨by decide, ⟨x, 0, rfl⟩, ⟨(ns.take 63).reverse, rfl, by simp; omega⟩⟩⟩
  unfold f__law_deck
  refine mk_ret (ρ0 := [some (.lst (ns.map D.int)), none, none]) rfl rfl ?_
  have h1 := sl63 (S := []) (ρ := [some (.lst (ns.map D.int)), some (.int 13736440), none]) (ds := ns.map D.int) rfl
  rw [b_deck_eq, r_then, r_set, r_c, R.bindS_ok, t_nx, r_then, r_for]
  show ((iSeq (dSl (dVar 0) none (some (dC (.int 63))) mkV) [some (.lst (ns.map D.int)), some (.int 13736440), none] []).bindS fun ai S1 => dForGo ai (dN (gnName 2)) DB FU 0 [some (.lst (ns.map D.int)), some (.int 13736440), none] S1).thn (dRet DI1) = _
  rw [r_iSeq, h1, R.bind_ok, r_aiL, R.bindS_ok, ← List.map_take, e, t_nx, r_ret, disp_ok]
  rfl
/-! one turn -/
theorem neR_same {d : D} (h1 : beqD d d = true) (h2 : reprFit d = true) : neR d d S = .ok (.bl false) S := by
  unfold neR
  rw [h1, h2]
  rfl
def T1 (FU : Nat) : DS := dSet 3 (dCall (f__law_width FU) (dCons (dVar 1) (dCons (dC (.int 12)) dNil)))
def T2 (FU : Nat) : DS := dSet 4 (dCB oTuple (dCons (dLc FU (iArg rng1 (dCons (dCall (f__law_pick FU) (dCons (dVar 1) (dCons (dLst (dCons (dC (.int 1)) (dCons (dC (.int 2)) (dCons (dC (.int 3)) (dCons (dC (.int 5)) (dCons (dC (.int 0)) (dCons (dC (.int 12)) dNil))))))) dNil))) dNil)) (gnName 7) dYes (dCall (f__law_want FU) (dCons (dVar 1) (dCons (dVar 3) dNil))) [7] mkV) dNil))
def T3 (FU : Nat) : DS := dSet 5 (dCall (f__law_bits FU) (dCons (dVar 1) (dCons (dCall (f__law_pick FU) (dCons (dVar 1) (dCons (dLst (dCons (dC (.int 20)) (dCons (dC (.int 40)) (dCons (dC (.int 100)) (dCons (dC (.int 5)) (dCons (dC (.int 0)) (dCons (dIf (dTst (dOp bEq (dVar 2) (dC (.int 0)))) (dC (.int 400)) (dC (.int 60))) dNil))))))) dNil))) dNil)))
def T4 (FU : Nat) : DS := dSet 6 (dCall (f__law_row_wanted FU) (dCons (dVar 3) (dCons (dVar 4) (dCons (dVar 5) dNil))))
def T5 (FU : Nat) : DT := dTst (dRN (dTup (dCons (dCall (f_row_wanted FU) (dCons (dVar 3) (dCons (dVar 4) (dCons (dVar 5) dNil)))) (dCons (dCallK [2, 1, 0] (f_row_wanted FU) (dCons (dVar 5) (dCons (dVar 4) (dCons (dVar 3) dNil)))) dNil))) (dTup (dCons (dVar 6) (dCons (dVar 6) dNil))))
def T6 (FU : Nat) : DT := dAndT (dTst (dOp bLt (dCB oLenA (dCons (dVar 5) dNil)) (dC (.int 120)))) (dTst (dRN (dCall (f__law_one_by_one FU) (dCons (dVar 3) (dCons (dVar 4) (dCons (dVar 5) dNil)))) (dVar 6)))
def T7 (FU : Nat) : DT := dAndT (dTst (dNotN (dVar 6))) (dTst (dRN (dCall (f_row_wanted FU) (dCons (dVar 3) (dCons (dVar 4) (dCons (dOp (bAdd mkV) (dSl (dVar 5) none (some (dOp oIx (dVar 6) (dC (.int 2)))) mkV) (dCall (f__law_bits FU) (dCons (dVar 1) (dCons (dC (.int 4)) dNil)))) dNil)))) (dVar 6)))
def rF : DS := dRet (dC (.bl false))
def TB (FU : Nat) : DS := dThen (T1 FU) (dThen (T2 FU) (dThen (T3 FU) (dThen (T4 FU) (dThen (dIfS (T5 FU) rF dNext) (dThen (dIfS (T6 FU) rF dNext) (dIfS (T7 FU) rF dNext))))))
def PK (FU : Nat) : DS := dSet 4 (dCall (f__law_pick FU) (dCons (dVar 1) (dCons (dLst (dCons (dTup (dCons (dC (.int 3)) dNil)) (dCons (dTup (dCons (dC (.int 2)) (dCons (dC (.int 3)) dNil))) (dCons (dTup (dCons (dC (.int 3)) (dCons (dC (.int 2)) dNil))) (dCons (dTup (dCons (dC (.int 4)) dNil)) (dCons (dTup (dCons (dC (.int 2)) (dCons (dC (.int 2)) dNil))) (dCons (dTup (dCons (dC (.int 3)) (dCons (dC (.int 3)) dNil))) (dCons (dTup (dCons (dC (.int 4)) (dCons (dC (.int 3)) dNil))) (dCons (dTup (dCons (dC (.int 2)) (dCons (dC (.int 2)) (dCons (dC (.int 3)) dNil)))) dNil))))))))) dNil)))
def PL (FU : Nat) : DS := dIfS (dTst (dOp bGt (dVar 3) (dC (.int 2)))) (dSet 4 (dCall (f__law_pick FU) (dCons (dVar 1) (dCons (dLst (dCons (dVar 4) (dCons (dTup (dCons (dC (.int 5)) dNil)) (dCons (dTup (dCons (dC (.int 7)) dNil)) (dCons (dTup (dCons (dC (.int 6)) dNil)) (dCons (dTup (dCons (dC (.int 5)) (dCons (dC (.int 2)) dNil))) (dCons (dTup (dCons (dC (.int 8)) dNil)) (dCons (dTup (dCons (dC (.int 5)) (dCons (dC (.int 3)) dNil))) (dCons (dTup (dCons (dC (.int 2)) (dCons (dC (.int 7)) dNil))) dNil))))))))) dNil)))) dNext
def W3 (FU : Nat) : DS := dSet 3 (dOp (bAdd mkV) (dC (.int 2)) (dCall (f__law_draw FU) (dCons (dVar 1) (dCons (dC (.int 3)) dNil))))
theorem b_law_eq : b_law FU = dThen (dSet 1 (dCall (f__law_deck FU) (dCons (dVar 0) dNil))) (dThen (dFor FU (iArg rng1 (dCons (dC (.int 5)) dNil)) (dN (gnName 2)) (TB FU)) (dThen (W3 FU) (dThen (PK FU) (dThen (PL FU) (dRet (dCall (freshC (f__law_are_even FU)) (dCons (dVar 3) (dCons (dVar 4) (dCons (dC (.int 7)) dNil))))))))) := rfl
theorem sz6 : 6 ≤ sizeLine ∧ 8 ≤ sizeLine := by decide
/-- the slots in a turn -/
def Sl (ρ : Rho) (a : D) (dn : Nat) : Prop := ρ.length = 8 ∧ ρ[0]? = some (some a) ∧ ρ[1]? = some (some (.loc dn))
theorem turn_ok (hU : 2000 ≤ FU) {a : D} {j : Int} {x3 x4 x5 x6 x7 : Option D} (hD : Deck dn cn S) : ∃ y3 y4 y5 y6 S', TB FU [some a, some (.loc dn), some (.int j), x3, x4, x5, x6, x7] S = .nx [some a, some (.loc dn), some (.int j), y3, y4, y5, y6, x7] S' ∧ Deck dn cn S' := by
  obtain ⟨w, S1, e1, hw1, hw2, D1⟩ := width_draw (FU := FU) (S := S) (N := 12) ⟨by decide, by decide⟩ hD
  have hw : 1 ≤ w ∧ w ≤ 12 := ⟨hw1, hw2⟩
  have s1 : T1 FU [some a, some (.loc dn), some (.int j), x3, x4, x5, x6, x7] S = .nx [some a, some (.loc dn), some (.int j), some (.int w), x4, x5, x6, x7] S1 := by
    simp [T1, e1]
  -- the wants
  obtain ⟨d2, S2, e2, h2, D2⟩ := pick_ok (FU := FU) (S := S1) (ds := [.int 1, .int 2, .int 3, .int 5, .int 0, .int 12]) (by decide) (by decide) D1
  obtain ⟨n2, rfl, hn2⟩ : ∃ n : Nat, d2 = .int (n : Int) ∧ n ≤ 12 := by
    simp only [List.mem_cons, List.not_mem_nil, or_false] at h2
    rcases h2 with rfl | rfl | rfl | rfl | rfl | rfl
    · exact ⟨1, rfl, by decide⟩
    · exact ⟨2, rfl, by decide⟩
    · exact ⟨3, rfl, by decide⟩
    · exact ⟨5, rfl, by decide⟩
    · exact ⟨0, rfl, by decide⟩
    · exact ⟨12, rfl, by decide⟩
  obtain ⟨ws, S3, e3, hws, hwl, D3⟩ := row_draw (S := S1) (dn := dn) (cn := cn) hU (ρ := [some a, some (.loc dn), some (.int j), some (.int w), x4, x5, x6, x7]) (te := dCall (f__law_want FU) (dCons (dVar 1) (dCons (dVar 3) dNil))) (k := 7) (N := n2) (P := fun x => WN w x)
    (it := iArg rng1 (dCons (dCall (f__law_pick FU) (dCons (dVar 1) (dCons (dLst (dCons (dC (.int 1)) (dCons (dC (.int 2)) (dCons (dC (.int 3)) (dCons (dC (.int 5)) (dCons (dC (.int 0)) (dCons (dC (.int 12)) dNil))))))) dNil))) dNil)) (by omega)
    ⟨S2, by
      have hr := o_rng1 (S := S2) (j := (n2 : Int)) (by omega) (by omega)
      simp only [r_iArg, r_cons, r_call, r_lst, r_c, r_var, r_nil, R.bind_ok, List.getElem?_cons_zero, List.getElem?_cons_succ, List.length_cons, List.length_nil]
      rw [if_pos sz6.1]
      simp only [R.bind_ok]
      rw [e2]
      simpa using hr, D2⟩ (fun i S hS => by
      obtain ⟨n, S', e, h1, h3⟩ := want_draw (FU := FU) (S := S) hw hS
      exact ⟨n, S', by simp [wipeR, e], h1, h3⟩) D1
  have s2 : T2 FU [some a, some (.loc dn), some (.int j), some (.int w), x4, x5, x6, x7] S1 = .nx [some a, some (.loc dn), some (.int j), some (.int w), some (tupI ws), x5, x6, x7] S3 := by
    unfold T2
    rw [r_set, e3]
    rfl
  -- the bits
  obtain ⟨nb, hnb, e4'⟩ : ∃ nb : Int, (nb = 400 ∨ nb = 60) ∧ ∀ S : Sto, dIf (dTst (dOp bEq (dVar 2) (dC (.int 0)))) (dC (.int 400)) (dC (.int 60)) [some a, some (.loc dn), some (.int j), some (.int w), some (tupI ws), x5, x6, x7] S = .ok (.int nb) S := by
    by_cases hj : j = 0
    · exact ⟨400, .inl rfl, fun S => by simp [hj]⟩
    · exact ⟨60, .inr rfl, fun S => by simp [hj]⟩
  obtain ⟨d4, S4, e4, h4, D4⟩ := pick_ok (FU := FU) (S := S3) (ds := [.int 20, .int 40, .int 100, .int 5, .int 0, .int nb]) (by simp) (by simp) D3
  obtain ⟨n4, rfl, hn4⟩ : ∃ n : Int, d4 = .int n ∧ 0 ≤ n ∧ n ≤ 400 := by
    simp only [List.mem_cons, List.not_mem_nil, or_false] at h4
    rcases h4 with rfl | rfl | rfl | rfl | rfl | rfl
    · exact ⟨20, rfl, by decide⟩
    · exact ⟨40, rfl, by decide⟩
    · exact ⟨100, rfl, by decide⟩
    · exact ⟨5, rfl, by decide⟩
    · exact ⟨0, rfl, by decide⟩
    · exact ⟨nb, rfl, by omega⟩
  obtain ⟨bs, S5, e5, hbs, hbl, D5⟩ := bits_draw (FU := FU) (S := S4) hU (N := n4) ⟨by omega, by omega⟩ D4
  have s3 : T3 FU [some a, some (.loc dn), some (.int j), some (.int w), some (tupI ws), x5, x6, x7] S3 = .nx [some a, some (.loc dn), some (.int j), some (.int w), some (tupI ws), some (tupI bs), x6, x7] S5 := by
    unfold T3
    simp only [r_set, r_call, r_cons, r_lst, r_c, e4', r_var, r_nil, R.bind_ok, List.getElem?_cons_zero, List.getElem?_cons_succ, List.length_cons, List.length_nil]
    rw [if_pos sz6.1]
    simp only [R.bind_ok, e4, e5, R.bindS_ok]
    rfl
  have g : Good w ws bs := ⟨hw1, hw2, hws, by omega, by omega, hbs⟩
  have bd := row_bd g
  obtain ⟨fit1, fit2⟩ := row_fit hw g.bl bd (by have := g.wl; omega)
  have bq := beq_row (rowZ w ws bs)
  have s4 : T4 FU [some a, some (.loc dn), some (.int j), some (.int w), some (tupI ws), some (tupI bs), x6, x7] S5 = .nx [some a, some (.loc dn), some (.int j), some (.int w), some (tupI ws), some (tupI bs), some (rowD (rowZ w ws bs)), x7] S5 := by
    have e := law_row (S := S5) hU g
    unfold T4
    simp only [r_set, r_call, r_cons, r_var, r_nil, R.bind_ok, List.getElem?_cons_zero, List.getElem?_cons_succ, e, R.bindS_ok]
    rfl
  generalize hR : rowZ w ws bs = z at *
  -- the first look
  have r1 := row_wanted (S := S5) hU g
  rw [hR] at r1
  generalize hS6 : S5 ++ [.lst (z.1.map D.int)] = S6 at r1
  have D6 : Deck dn cn S6 := by rw [← hS6]; exact D5.more _
  have r2 := row_wanted (S := S6) hU g
  rw [hR] at r2
  generalize hS7 : S6 ++ [.lst (z.1.map D.int)] = S7 at r2
  have D7 : Deck dn cn S7 := by rw [← hS7]; exact D6.more _
  have bq2 : beqD (.tup [rowD z, rowD z]) (.tup [rowD z, rowD z]) = true := by simp [beqD, beqDs, bq]
  have s5 : T5 FU [some a, some (.loc dn), some (.int j), some (.int w), some (tupI ws), some (tupI bs), some (rowD z), x7] S5 = .ok false S7 := by
    have hs : (0 + 1 + 1) ≤ sizeLine := sz2
    have ha : arr [2, 1, 0] [tupI bs, tupI ws, .int w] = [.int w, tupI ws, tupI bs] := rfl
    unfold T5 dRN dReprNe
    simp only [r_tst, r_tup, r_cons, r_call, r_callK, r_var, r_nil, R.bind_ok, List.getElem?_cons_zero, List.getElem?_cons_succ, r1, ha, r2, List.length_cons, List.length_nil, if_pos hs, neR_same bq2 fit2, noX]
  have s6 : T6 FU [some a, some (.loc dn), some (.int j), some (.int w), some (tupI ws), some (tupI bs), some (rowD z), x7] S7 = .ok false S7 := by
    have r3 := one_by_one (S := S7) hU g
    rw [hR] at r3
    unfold T6 dRN dReprNe
    simp only [r_andT, r_tst, r_op, r_cb, r_cons, r_call, r_var, r_c, r_nil, R.bind_ok, List.getElem?_cons_zero, List.getElem?_cons_succ, o_lenT, o_lt, r3, neR_same bq fit1, noX]
    split <;> rfl
  have s7 : ∃ S9, T7 FU [some a, some (.loc dn), some (.int j), some (.int w), some (tupI ws), some (tupI bs), some (rowD z), x7] S7 = .ok false S9 ∧ Deck dn cn S9 := by
    obtain ⟨o, zr⟩ := z
    cases zr with
    | none =>
      refine ⟨S7, ?_, D7⟩
      unfold T7
      simp [rowD]
    | some x =>
      obtain ⟨m, r, t⟩ := x
      obtain ⟨hrest, ht⟩ := bd.r m r t rfl
      obtain ⟨more, S8, e8, hm01, hml, D8⟩ := bits_draw (FU := FU) (S := S7) hU (N := 4) ⟨by decide, by decide⟩ D7
      have g2 : Good w ws (bs.take t ++ more) := ⟨hw1, hw2, hws, g.wl, by simp [hml]; omega, fun b hb => by
        rcases List.mem_append.mp hb with hb | hb
        · exact hbs b (List.mem_of_mem_take hb)
        · exact hm01 b hb⟩
      have r4 := row_wanted (S := S8) hU g2
      rw [row_again hws hR more] at r4
      refine ⟨S8 ++ [.lst (o.map D.int)], ?_, D8.more _⟩
      have hsl : dSl (dVar 5) none (some (dOp oIx (dVar 6) (dC (.int 2)))) mkV [some a, some (.loc dn), some (.int j), some (.int w), some (tupI ws), some (tupI bs), some (rowD (o, some (m, r, t))), x7] S7 = .ok (tupI (bs.take t)) S7 := by
        have e : dSl (dVar 5) none (some (dOp oIx (dVar 6) (dC (.int 2)))) mkV [some a, some (.loc dn), some (.int j), some (.int w), some (tupI ws), some (tupI bs), some (rowD (o, some (m, r, t))), x7] S7 = slK mkV none (some (t : Int)) (tupI bs) S7 := by
          unfold dSl dPo asIx
          simp [rowD, atI2]
        rw [e]
        show R.ok (D.tup (cutD (bs.map D.int) none (some (t : Int)))) S7 = _
        unfold cutD
        rw [HT.sIx_nat, HT.sIx_none]
        simp [List.map_take]
      have hadd : bAdd mkV (tupI (bs.take t)) (tupI more) S8 = .ok (tupI (bs.take t ++ more)) S8 := by
        have := sz1000
        rw [o_addT, if_pos (by simp [hml]; omega), ← List.map_append]
      have hn : isNon (rowD (o, some (m, r, t))) = false := rfl
      unfold T7 dRN dReprNe
      simp only [r_andT, r_tst, r_notN, r_op, r_cons, r_call, r_var, r_c, r_nil, R.bind_ok, List.getElem?_cons_zero, List.getElem?_cons_succ, hn, Bool.not_false, if_true, hsl, e8, hadd, r4, neR_same bq fit1, noX]
  obtain ⟨S9, s7, D9⟩ := s7
  refine ⟨some (.int w), some (tupI ws), some (tupI bs), some (rowD z), S9, ?_, D9⟩
  unfold TB
  simp only [r_then, s1, t_nx, s2, s3, s4, r_ifS, s5, R.bindS_ok, Bool.false_eq_true, if_false, r_next, s6, s7]
theorem turns_ok (hU : 2000 ≤ FU) {a : D} : ∀ (k i : Nat) (S : Sto) (x2 x3 x4 x5 x6 x7 : Option D), Deck dn cn S → i ≤ 5 → 5 - i < k →
    ∃ y2 y3 y4 y5 y6 S', dForGo (.rng 0 1 5) (dN (gnName 2)) (TB FU) k i [some a, some (.loc dn), x2, x3, x4, x5, x6, x7] S = .nx [some a, some (.loc dn), y2, y3, y4, y5, y6, x7] S' ∧ Deck dn cn S'
  | k + 1, i, S, x2, x3, x4, x5, x6, x7, hD, hi, hk => by
    rw [for_go]
    by_cases hl : i < 5
    · have e : nextOf (.rng 0 1 5) i S = some (some (.int (i : Nat))) := by simp [nextOf, hl]
      rw [e]
      obtain ⟨y3, y4, y5, y6, S1, e1, D1⟩ := turn_ok (S := S) (x3 := x3) (x4 := x4) (x5 := x5) (x6 := x6) (x7 := x7) (a := a) (j := (i : Nat)) hU hD
      obtain ⟨z2, z3, z4, z5, z6, S2, e2, D2⟩ := turns_ok hU (a := a) k (i + 1) S1 (some (.int (i : Nat))) y3 y4 y5 y6 x7 D1 (by omega) (by omega)
      refine ⟨z2, z3, z4, z5, z6, S2, ?_, D2⟩
      show (RS.thn (.nx [some a, some (.loc dn), some (.int (i : Nat)), x3, x4, x5, x6, x7] S) (fun ρ1 S1 => ((TB FU) ρ1 S1).again (dForGo (.rng 0 1 5) (dN (gnName 2)) (TB FU) k (i + 1)))) = _
      rw [t_nx, e1, g_nx]
      exact e2
    · have e : nextOf (.rng 0 1 5) i S = some none := by simp [nextOf, hl]
      rw [e]
      exact ⟨x2, x3, x4, x5, x6, S, rfl, hD⟩
end
theorem even_yes {w : Int} {ns : List Int} (h : evenAt w ns = true) (S : Sto) : freshC (f__law_are_even UU) [.int w, tupI ns, .int 7] S = .ok (.bl true) S := by
  unfold evenAt at h
  rw [← ev_fast] at h
  have hp : plains [.int w, tupI ns, .int 7] = true := by
    have hq : ∀ cs : List Int, plains (cs.map D.int) = true := by
      intro cs
      induction cs with
      | nil => rfl
      | cons c cs ih => simp [plains, Ev.plain, ih]
    simp [plains, Ev.plain, hq]
  unfold freshC
  rw [if_pos hp]
  cases q : f__law_are_even UU [.int w, tupI ns, .int 7] [] with
  | stuck => rw [q] at h; cases h
  | exc x S' => rw [q] at h; cases h
  | ok d S' =>
    rw [q] at h
    unfold okT at h
    split at h
    · rename_i b S'' e
      cases e
      have hb : b = true := h
      subst hb
      rfl
    · cases h
theorem yes (ns : List Int) (hl : ns.length ≤ 63) : Yes (f_law UU) ns := by
  have hU : 2000 ≤ UU := by decide
  obtain ⟨S1, e1, D1⟩ := deck_ok (FU := UU) hU hl
  obtain ⟨y2, y3, y4, y5, y6, S2, e2, D2⟩ := turns_ok (FU := UU) hU (a := .lst (ns.map D.int)) UU 0 S1 none none none none none none D1 (by decide) (by decide)
  obtain ⟨r, S3, e3, hr0, hr1, D3⟩ := draw_ok (FU := UU) (S := S2) (many := 3) ⟨by decide, by decide⟩ D2
  obtain ⟨d4, S4, e4, h4, D4⟩ := pick_ok (FU := UU) (S := S3) (ds := mn1.map tupI) (by decide) (by decide) D3
  obtain ⟨n4, hn4, rfl⟩ := List.mem_map.mp h4
  have hw3 : W3 UU [some (.lst (ns.map D.int)), some (.loc 1), y2, y3, y4, y5, y6, none] S2 = .nx [some (.lst (ns.map D.int)), some (.loc 1), y2, some (.int (2 + r)), y4, y5, y6, none] S3 := by
    simp [W3, e3]
  have e4' : f__law_pick UU [.loc 1, .lst [.tup [.int 3], .tup [.int 2, .int 3], .tup [.int 3, .int 2], .tup [.int 4], .tup [.int 2, .int 2], .tup [.int 3, .int 3], .tup [.int 4, .int 3], .tup [.int 2, .int 2, .int 3]]] S3 = .ok (tupI n4) S4 := e4
  have hpk : PK UU [some (.lst (ns.map D.int)), some (.loc 1), y2, some (.int (2 + r)), y4, y5, y6, none] S3 = .nx [some (.lst (ns.map D.int)), some (.loc 1), y2, some (.int (2 + r)), some (tupI n4), y5, y6, none] S4 := by
    simp [PK, sizeLine_eq, e4']
  have fin : ∃ n5 S5, PL UU [some (.lst (ns.map D.int)), some (.loc 1), y2, some (.int (2 + r)), some (tupI n4), y5, y6, none] S4 = .nx [some (.lst (ns.map D.int)), some (.loc 1), y2, some (.int (2 + r)), some (tupI n5), y5, y6, none] S5 ∧ evenAt (2 + r) n5 = true := by
    by_cases hr : r = 0
    · subst hr
      exact ⟨n4, S4, by simp [PL], ev2 n4 hn4⟩
    · obtain ⟨d5, S5, e5, h5, D5⟩ := pick_ok (FU := UU) (S := S4) (ds := tupI n4 :: [[5], [7], [6], [5, 2], [8], [5, 3], [2, 7]].map tupI) (by simp) (by simp) D4
      have e5' : f__law_pick UU [.loc 1, .lst [tupI n4, .tup [.int 5], .tup [.int 7], .tup [.int 6], .tup [.int 5, .int 2], .tup [.int 8], .tup [.int 5, .int 3], .tup [.int 2, .int 7]]] S4 = .ok d5 S5 := e5
      obtain ⟨n5, rfl, hn5⟩ : ∃ n5, d5 = tupI n5 ∧ n5 ∈ mn2 := by
        rcases List.mem_cons.mp h5 with rfl | h5
        · exact ⟨n4, rfl, List.mem_append_left _ hn4⟩
        · obtain ⟨n5, h6, rfl⟩ := List.mem_map.mp h5
          exact ⟨n5, rfl, List.mem_append_right _ h6⟩
      refine ⟨n5, S5, ?_, ?_⟩
      · have hgt : (2 : Int) < 2 + r := by omega
        simp only [tupI] at e5' ⊢
        simp [PL, sizeLine_eq, hgt, e5']
      · have hr2 : r = 1 ∨ r = 2 := by omega
        rcases hr2 with rfl | rfl
        · exact ev3 n5 hn5
        · exact ev4 n5 hn5
  obtain ⟨n5, S5, e5, h5⟩ := fin
  refine ⟨S5, ?_⟩
  unfold f_law
  refine mk_ret (ρ0 := [some (.lst (ns.map D.int)), none, none, none, none, none, none, none]) rfl rfl ?_
  have hy := even_yes h5 S5
  have hr5 : iArg rng1 (dCons (dC (.int 5)) dNil) [some (.lst (ns.map D.int)), some (.loc 1), none, none, none, none, none, none] S1 = .ok (.rng 0 1 5) S1 := rfl
  have h1 : dSet 1 (dCall (f__law_deck UU) (dCons (dVar 0) dNil)) [some (.lst (ns.map D.int)), none, none, none, none, none, none, none] [] = .nx [some (.lst (ns.map D.int)), some (.loc 1), none, none, none, none, none, none] S1 := by
    simp only [r_set, r_call, r_cons, r_var, r_nil, R.bind_ok, List.getElem?_cons_zero, e1, R.bindS_ok]
    rfl
  have h7 : dRet (dCall (freshC (f__law_are_even UU)) (dCons (dVar 3) (dCons (dVar 4) (dCons (dC (.int 7)) dNil)))) [some (.lst (ns.map D.int)), some (.loc 1), y2, some (.int (2 + r)), some (tupI n5), y5, y6, none] S5 = .ret (.bl true) S5 := by
    simp only [r_ret, r_call, r_cons, r_var, r_c, r_nil, R.bind_ok, List.getElem?_cons_zero, List.getElem?_cons_succ, hy, R.bindS_ok]
  rw [b_law_eq, r_then, h1, t_nx, r_then, r_for, hr5, R.bindS_ok, e2, t_nx, r_then, hw3, t_nx, r_then, hpk, t_nx, r_then, e5, t_nx, h7]
end k43

open PySem PySem.W in
theorem PySem.Challenge.cw_drawnbits_k43_whole_rows_of_wants_holds : PySem.Challenge.rw_drawnbits_k43_whole_rows_of_wants.Holds := by
  exact k43.end_ k43.yes
