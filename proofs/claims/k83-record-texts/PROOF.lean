import PyProof.Rows.All
import Wide.All
import OpenK.AllK
import Wide.FinOn
import HandS.ForMost
import HandS.Exc
import HandS.Wide
import HandS.TupAny
import HandS.Deep
import HandS.ForExc
import HandS.Defaults
import HandS.IsInst
import HandS.WordsDict
import HandS.Style
import HandS.RaiseMore
import HandS.Conv
import HandS.RaiseOp
import KE.KExcSuper
import HandS.ExcInit
import KE.GoesMore
import KE.GoesZip
import HandS.SortKw
import KE.GoesEnumKw
import KE.KUnpackStar
import HandS.ExcField
import HandS.ExcIs
import HandS.ClsMeth
import HandS.Star
import PyProof.ListStr
import HandS.More
import HandS.HeadEnd
import HandS.Words
import PySem.Challenge.RW_stalekeys_k83_record_texts
import HandS.Codes
import HandS.HeadHook3
import HandS.Head0
import HandS.Head1
import HandS.Head2
section
set_option Elab.async false
set_option linter.all false
set_option maxRecDepth 100000
set_option maxHeartbeats 1000000
namespace SK
open PySem L2

inductive D where
  | non | bl (b : Bool) | int (i : Int) | str (x : Str)
  | tup (xs : List D) | lst (xs : List D) | dic (kvs : List (Key × D))
  | ins (C : Addr) (fs : List (Str × D))
  | ref (n : Nat) | adr (a : Addr) | ty (n : String) | scr (xs : List D)

inductive MO where
  | lst (xs : List D) | dic (kvs : List (Key × D)) | ins (C : Addr) (fs : List (Str × D))

abbrev Fg := PySem.W.Frag
mutual
def Rep (K : Fg) (μ : List Addr) (m : Hp) : D → V → Prop
  | .non, v => v = .non
  | .bl b, v => v = .bl b
  | .int i, v => v = .int i
  | .str x, v => v = .str x
  | .ty n, v => v = .ty n
  | .adr a, v => v = .ref a
  | .ref n, v => ∃ a, v = .ref a ∧ μ[n]? = some a
  | .tup xs, v => ∃ a vs, v = .ref a ∧ SqT K m a vs ∧ Reps K μ m xs vs
  | .lst xs, v => ∃ a vs, v = .ref a ∧ m a = some (.lst vs) ∧ Reps K μ m xs vs
  | .scr xs, v => ∃ a vs, v = .ref a ∧ SqL K m a vs ∧ Reps K μ m xs vs
  | .dic ks, v => ∃ a vs, v = .ref a ∧ m a = some (.dK vs) ∧ RepK K μ m ks vs
  | .ins C fs, v => ∃ a dx vs, v = .ref a ∧ m a = some (.ins C dx vs) ∧ RepF K μ m fs vs
def Reps (K : Fg) (μ : List Addr) (m : Hp) : List D → List V → Prop
  | [], vs => vs = []
  | x :: xs, vs => ∃ v ws, vs = v :: ws ∧ Rep K μ m x v ∧ Reps K μ m xs ws
def RepK (K : Fg) (μ : List Addr) (m : Hp) : List (Key × D) → List (Key × V) → Prop
  | [], vs => vs = []
  | (k, x) :: xs, vs => ∃ v ws, vs = (k, v) :: ws ∧ Rep K μ m x v ∧ RepK K μ m xs ws
def RepF (K : Fg) (μ : List Addr) (m : Hp) : List (Str × D) → List (Str × V) → Prop
  | [], vs => vs = []
  | (k, x) :: xs, vs => ∃ v ws, vs = (k, v) :: ws ∧ Rep K μ m x v ∧ RepF K μ m xs ws
end

/-- the store grows, the fixed part grows -/
structure Up (μ μ' : List Addr) (m m' : Hp) : Prop where
  st : ∀ (n : Nat) a, μ[n]? = some a → μ'[n]? = some a
  hp : ∀ a o, m a = some o → m' a = some o
theorem Up.refl {μ : List Addr} {m : Hp} : Up μ μ m m := ⟨fun _ _ h => h, fun _ _ h => h⟩
theorem Up.trans {μ μ' μ'' : List Addr} {m m' m'' : Hp} (a : Up μ μ' m m') (b : Up μ' μ'' m' m'') : Up μ μ'' m m'' := ⟨fun n x h => b.st n x (a.st n x h), fun x o h => b.hp x o (a.hp x o h)⟩
theorem rd_up {m m' : Hp} {a : Addr} {o : HO} (h : ∀ a o, m a = some o → m' a = some o) (r : Rd m a o) : Rd m' a o := by
  rcases r with r | ⟨ob, r⟩
  · exact .inl (h _ _ r)
  · exact .inr ⟨ob, h _ _ r⟩
theorem sqT_up {K : Fg} {m m' : Hp} {a : Addr} {vs : List V} (h : ∀ a o, m a = some o → m' a = some o) (r : SqT K m a vs) : SqT K m' a vs := r.imp (rd_up h) id
theorem sqL_up {K : Fg} {m m' : Hp} {a : Addr} {vs : List V} (h : ∀ a o, m a = some o → m' a = some o) (r : SqL K m a vs) : SqL K m' a vs := r.imp (rd_up h) id

section
variable {K : Fg} {μ μ' : List Addr} {m m' : Hp} (u : Up μ μ' m m')
include u
mutual
theorem Rep.up : ∀ (d : D) {v : V}, Rep K μ m d v → Rep K μ' m' d v
  | .non, v, h => h
  | .bl b, v, h => h
  | .int i, v, h => h
  | .str x, v, h => h
  | .ty n, v, h => h
  | .adr a, v, h => h
  | .ref n, v, ⟨a, e, h⟩ => ⟨a, e, u.st n a h⟩
  | .tup xs, v, ⟨a, vs, e, h, r⟩ => ⟨a, vs, e, sqT_up u.hp h, Reps.up xs r⟩
  | .lst xs, v, ⟨a, vs, e, h, r⟩ => ⟨a, vs, e, u.hp _ _ h, Reps.up xs r⟩
  | .scr xs, v, ⟨a, vs, e, h, r⟩ => ⟨a, vs, e, sqL_up u.hp h, Reps.up xs r⟩
  | .dic ks, v, ⟨a, vs, e, h, r⟩ => ⟨a, vs, e, u.hp _ _ h, RepK.up ks r⟩
  | .ins C fs, v, ⟨a, dx, vs, e, h, r⟩ => ⟨a, dx, vs, e, u.hp _ _ h, RepF.up fs r⟩
theorem Reps.up : ∀ (d : List D) {v : List V}, Reps K μ m d v → Reps K μ' m' d v
  | [], v, h => h
  | x :: xs, v, ⟨w, ws, e, h, r⟩ => ⟨w, ws, e, Rep.up x h, Reps.up xs r⟩
theorem RepK.up : ∀ (d : List (Key × D)) {v : List (Key × V)}, RepK K μ m d v → RepK K μ' m' d v
  | [], v, h => h
  | (k, x) :: xs, v, ⟨w, ws, e, h, r⟩ => ⟨w, ws, e, Rep.up x h, RepK.up xs r⟩
theorem RepF.up : ∀ (d : List (Str × D)) {v : List (Str × V)}, RepF K μ m d v → RepF K μ' m' d v
  | [], v, h => h
  | (k, x) :: xs, v, ⟨w, ws, e, h, r⟩ => ⟨w, ws, e, Rep.up x h, RepF.up xs r⟩
end
end
section
variable {K : Fg} {μ : List Addr} {m : Hp}
theorem Reps.length : ∀ {ds : List D} {vs : List V}, Reps K μ m ds vs → ds.length = vs.length
  | [], vs, h => by rw [show vs = [] from h]; rfl
  | x :: xs, vs, ⟨w, ws, e, h, r⟩ => by rw [e, List.length_cons, List.length_cons, r.length]
theorem Reps.append : ∀ {ds es : List D} {vs ws : List V}, Reps K μ m ds vs → Reps K μ m es ws → Reps K μ m (ds ++ es) (vs ++ ws)
  | [], es, vs, ws, h, h2 => by rw [show vs = [] from h]; exact h2
  | x :: xs, es, vs, ws, ⟨w, ws', e, h, r⟩, h2 => by rw [e]; exact ⟨w, _, rfl, h, r.append h2⟩
theorem Reps.get : ∀ {ds : List D} {vs : List V} {i : Nat} {d : D}, Reps K μ m ds vs → ds[i]? = some d → ∃ v, vs[i]? = some v ∧ Rep K μ m d v
  | [], _, _, _, _, e => by simp at e
  | x :: xs, _, 0, d, ⟨w, ws, e, h, r⟩, e2 => by simp at e2; subst e2; subst e; exact ⟨w, rfl, h⟩
  | x :: xs, _, i + 1, d, ⟨w, ws, e, h, r⟩, e2 => by
    subst e
    obtain ⟨v, h1, h2⟩ := r.get (i := i) (d := d) (by simpa using e2)
    exact ⟨v, by simpa using h1, h2⟩
theorem Reps.getV : ∀ {ds : List D} {vs : List V} {i : Nat} {v : V}, Reps K μ m ds vs → vs[i]? = some v → ∃ d, ds[i]? = some d ∧ Rep K μ m d v
  | [], vs, i, v, h, e => by rw [show vs = [] from h] at e; simp at e
  | x :: xs, _, 0, v, ⟨w, ws, e, h, r⟩, e2 => by subst e; simp at e2; subst e2; exact ⟨x, rfl, h⟩
  | x :: xs, _, i + 1, v, ⟨w, ws, e, h, r⟩, e2 => by
    subst e
    obtain ⟨d, h1, h2⟩ := r.getV (i := i) (v := v) (by simpa using e2)
    exact ⟨d, by simpa using h1, h2⟩
theorem Reps.set : ∀ {ds : List D} {vs : List V} (i : Nat) {d : D} {v : V}, Reps K μ m ds vs → Rep K μ m d v → Reps K μ m (ds.set i d) (vs.set i v)
  | [], vs, i, d, v, h, _ => by rw [show vs = [] from h]; exact rfl
  | x :: xs, _, 0, d, v, ⟨w, ws, e, h, r⟩, h2 => by subst e; exact ⟨v, ws, rfl, h2, r⟩
  | x :: xs, _, i + 1, d, v, ⟨w, ws, e, h, r⟩, h2 => by subst e; exact ⟨w, _, rfl, h, r.set i h2⟩
theorem Reps.take : ∀ {ds : List D} {vs : List V} (n : Nat), Reps K μ m ds vs → Reps K μ m (ds.take n) (vs.take n)
  | _, _, 0, _ => rfl
  | [], vs, n + 1, h => by rw [show vs = [] from h]; exact rfl
  | x :: xs, _, n + 1, ⟨w, ws, e, h, r⟩ => by subst e; exact ⟨w, _, rfl, h, r.take n⟩
theorem Reps.drop : ∀ {ds : List D} {vs : List V} (n : Nat), Reps K μ m ds vs → Reps K μ m (ds.drop n) (vs.drop n)
  | _, _, 0, h => h
  | [], vs, n + 1, h => by rw [show vs = [] from h]; exact rfl
  | x :: xs, _, n + 1, ⟨w, ws, e, h, r⟩ => by subst e; exact r.drop n
theorem Reps.one {d : D} {v : V} (h : Rep K μ m d v) : Reps K μ m [d] [v] := ⟨v, [], rfl, h, rfl⟩
theorem Reps.ints : ∀ (ns : List Int), Reps K μ m (ns.map D.int) (ns.map V.int)
  | [] => rfl
  | n :: ns => ⟨.int n, _, rfl, rfl, Reps.ints ns⟩
end

/-! ### what stands at a mutable object -/
def MRep (K : Fg) (μ : List Addr) (m H : Hp) (a : Addr) : MO → Prop
  | .lst xs => ∃ vs, H a = some (.lst vs) ∧ Reps K μ m xs vs
  | .dic ks => ∃ vs, H a = some (.dK vs) ∧ RepK K μ m ks vs
  | .ins C fs => ∃ dx vs, H a = some (.ins C dx vs) ∧ RepF K μ m fs vs
theorem MRep.up {K : Fg} {μ μ' : List Addr} {m m' H H' : Hp} {a : Addr} (u : Up μ μ' m m') (e : H' a = H a) : ∀ {o : MO}, MRep K μ m H a o → MRep K μ' m' H' a o
  | .lst xs, ⟨vs, h, r⟩ => ⟨vs, e.trans h, Reps.up u xs r⟩
  | .dic ks, ⟨vs, h, r⟩ => ⟨vs, e.trans h, RepK.up u ks r⟩
  | .ins C fs, ⟨dx, vs, h, r⟩ => ⟨dx, vs, e.trans h, RepF.up u fs r⟩
theorem MRep.there {K : Fg} {μ : List Addr} {m H : Hp} {a : Addr} : ∀ {o : MO}, MRep K μ m H a o → ∃ u, H a = some u
  | .lst xs, ⟨vs, h, r⟩ => ⟨_, h⟩
  | .dic ks, ⟨vs, h, r⟩ => ⟨_, h⟩
  | .ins C fs, ⟨dx, vs, h, r⟩ => ⟨_, h⟩

/-- slots -/
inductive Sl where
  | no | val (d : D) | own (o : MO)
abbrev En := List Sl

/-- the fixed part lies in the heap -/
def Sub (m H : Hp) : Prop := ∀ a o, m a = some o → H a = some o
theorem Sub.rd {m H : Hp} (s : Sub m H) {a : Addr} {o : HO} (h : m a = some o) : Rd H a o := .inl (s a o h)
theorem Sub.sqT {K : Fg} {m H : Hp} (s : Sub m H) {a : Addr} {vs : List V} (h : SqT K m a vs) : SqT K H a vs := sqT_up s h
theorem Sub.sqL {K : Fg} {m H : Hp} (s : Sub m H) {a : Addr} {vs : List V} (h : SqL K m a vs) : SqL K H a vs := sqL_up s h
theorem Sub.some_ {m H : Hp} (s : Sub m H) {a : Addr} {o : HO} (h : m a = some o) : ∃ u, H a = some u := ⟨_, s a o h⟩
theorem Sub.none_ {m H : Hp} (s : Sub m H) {a : Addr} (h : H a = none) : m a = none := by
  cases e : m a with
  | none => rfl
  | some o => obtain ⟨u, q⟩ := s.some_ e; rw [h] at q; cases q

/-- where a def (or a block) began -/
structure Bs where
  m : Hp
  μ : List Addr
  H : Hp
/-- an own object of slot i at a -/
def OwnAt (env : En) (σ : St) (i : Nat) (a : Addr) : Prop := ∃ o, env[i]? = some (.own o) ∧ σ[i]? = some (some (.ref a))
structure Rel (K : Fg) (B : Bs) (m : Hp) (μ : List Addr) (env : En) (st : List MO) (σ : St) (H : Hp) : Prop where
  sub : Sub m H
  sto : ∀ (n : Nat) o, st[n]? = some o → ∃ a, μ[n]? = some a ∧ MRep K μ m H a o
  len : μ.length = st.length
  nd : μ.Nodup
  out : ∀ a ∈ μ, m a = none
  ln : env.length = σ.length
  val : ∀ (i : Nat) d, env[i]? = some (.val d) → ∃ v, σ[i]? = some (some v) ∧ Rep K μ m d v
  own : ∀ (i : Nat) o, env[i]? = some (.own o) → ∃ a, σ[i]? = some (some (.ref a)) ∧ MRep K μ m H a o ∧ m a = none ∧ a ∉ μ ∧ B.H a = none
  ow : ∀ i j a, OwnAt env σ i a → OwnAt env σ j a → i = j
  up : Up B.μ μ B.m m
  fr : ∀ b o, B.H b = some o → b ∉ B.μ → H b = some o
  nw : ∀ (n : Nat) a, B.μ.length ≤ n → μ[n]? = some a → B.H a = none
  mn : ∀ b o, m b = some o → B.m b = some o ∨ B.H b = none

section
variable {K : Fg} {B : Bs} {m m' : Hp} {μ μ' : List Addr} {env : En} {st st' : List MO} {σ : St} {H H' : Hp}
theorem Rel.stAt (R : Rel K B m μ env st σ H) {n : Nat} {a : Addr} (h : μ[n]? = some a) : ∃ o, st[n]? = some o ∧ MRep K μ m H a o := by
  have hn : n < μ.length := (List.getElem?_eq_some_iff.mp h).1
  obtain ⟨a', h1, h2⟩ := R.sto n (st[n]'(by rw [← R.len]; exact hn)) (List.getElem?_eq_getElem _)
  rw [h] at h1; cases h1
  exact ⟨_, List.getElem?_eq_getElem _, h2⟩
theorem Rel.mem (R : Rel K B m μ env st σ H) {a : Addr} (h : a ∈ μ) : ∃ u, H a = some u := by
  obtain ⟨n, hn, e⟩ := List.mem_iff_getElem.mp h
  obtain ⟨o, _, q⟩ := R.stAt (n := n) (a := a) (by rw [List.getElem?_eq_getElem hn, e])
  exact q.there
theorem Rel.memB (R : Rel K B m μ env st σ H) {a : Addr} (h : a ∈ B.μ) : a ∈ μ := by
  obtain ⟨n, hn, e⟩ := List.mem_iff_getElem.mp h
  exact List.mem_of_getElem? (R.up.st n a (by rw [List.getElem?_eq_getElem hn, e]))
theorem Rel.freshB (R : Rel K B m μ env st σ H) {p : Addr} (h : H p = none) : B.H p = none := by
  cases e : B.H p with
  | none => rfl
  | some o =>
    by_cases hb : p ∈ B.μ
    · obtain ⟨u, q⟩ := R.mem (R.memB hb); rw [h] at q; cases q
    · rw [R.fr p o e hb] at h; cases h
/-- a new object is no part of anything -/
theorem Rel.fresh (R : Rel K B m μ env st σ H) {p : Addr} (h : H p = none) : m p = none ∧ p ∉ μ ∧ (∀ i, ¬ OwnAt env σ i p) ∧ B.H p = none := by
  have h1 : p ∉ μ := fun z => by obtain ⟨u, e⟩ := R.mem z; rw [h] at e; cases e
  refine ⟨R.sub.none_ h, h1, fun i ⟨o, e1, e2⟩ => ?_, R.freshB h⟩
  obtain ⟨a, e3, q, _⟩ := R.own i o e1
  rw [e2] at e3; cases e3
  obtain ⟨u, e⟩ := q.there
  rw [h] at e; cases e
/-- an object laid at a free place: nothing else moves -/
theorem Rel.alloc (R : Rel K B m μ env st σ H) {p : Addr} {o : HO} (h : H p = none) : Rel K B m μ env st σ (upd H p o) := by
  obtain ⟨h1, h2, h3, h4⟩ := R.fresh h
  have ne : ∀ {b u}, H b = some u → b ≠ p := fun {b u} e z => by rw [z, h] at e; cases e
  have keep : ∀ {b u}, H b = some u → upd H p o b = H b := fun {b u} e => upd_ne (ne e)
  refine ⟨fun a u e => ?_, fun n u e => ?_, R.len, R.nd, R.out, R.ln, R.val, fun i u e => ?_, R.ow, R.up, fun b u e hb => ?_, R.nw, R.mn⟩
  · have q := R.sub a u e
    exact (keep q).trans q
  · obtain ⟨a, e1, q⟩ := R.sto n u e
    obtain ⟨w, e2⟩ := q.there
    exact ⟨a, e1, q.up Up.refl (keep e2)⟩
  · obtain ⟨a, e1, q, r⟩ := R.own i u e
    obtain ⟨w, e2⟩ := q.there
    exact ⟨a, e1, q.up Up.refl (keep e2), r⟩
  · have q := R.fr b u e hb
    exact (keep q).trans q
/-- a loose object is taken into the fixed part -/
theorem Rel.fix (R : Rel K B m μ env st σ H) {p : Addr} {o : HO} (h : H p = some o) (h1 : m p = none) (h2 : p ∉ μ) (h3 : ∀ i, ¬ OwnAt env σ i p) (h4 : B.H p = none) : Rel K B (upd m p o) μ env st σ H := by
  have u : Up μ μ m (upd m p o) := ⟨fun _ _ e => e, fun a w e => by rw [upd_ne (fun z => by rw [z, h1] at e; cases e)]; exact e⟩
  refine ⟨fun a w e => ?_, fun n w e => ?_, R.len, R.nd, fun a ha => ?_, R.ln, fun i d e => ?_, fun i w e => ?_, R.ow, R.up.trans u, R.fr, R.nw, fun b w e => ?_⟩
  · by_cases ha : a = p
    · subst ha; rw [upd_same] at e; cases e; exact h
    · rw [upd_ne ha] at e; exact R.sub a w e
  · obtain ⟨a, e1, q⟩ := R.sto n w e
    exact ⟨a, e1, q.up u rfl⟩
  · rw [upd_ne (fun (z : a = p) => h2 (z ▸ ha))]; exact R.out a ha
  · obtain ⟨v, e1, q⟩ := R.val i d e
    exact ⟨v, e1, Rep.up u _ q⟩
  · obtain ⟨a, e1, q, q1, q2, q3⟩ := R.own i w e
    refine ⟨a, e1, q.up u rfl, ?_, q2, q3⟩
    rw [upd_ne (fun (z : a = p) => h3 i (by subst z; exact ⟨w, e, e1⟩))]; exact q1
  · by_cases hb : b = p
    · subst hb; exact .inr h4
    · rw [upd_ne hb] at e; exact R.mn b w e
/-- a new fixed object -/
theorem Rel.newFix (R : Rel K B m μ env st σ H) {p : Addr} {o : HO} (h : H p = none) : Rel K B (upd m p o) μ env st σ (upd H p o) ∧ Up μ μ m (upd m p o) := by
  obtain ⟨h1, h2, h3, h4⟩ := R.fresh h
  exact ⟨(R.alloc h).fix upd_same h1 h2 h3 h4, ⟨fun _ _ e => e, fun a w e => by rw [upd_ne (fun z => by rw [z, h1] at e; cases e)]; exact e⟩⟩
/-- behind a call: the callee's frame is gone -/
theorem Rel.call (R : Rel K B m μ env st σ H) (S : Rel K ⟨m, μ, H⟩ m' μ' [] st' [] H') : Rel K B m' μ' env st' σ H' := by
  have nB : ∀ {b o}, B.H b = some o → b ∉ B.μ → b ∉ μ := fun {b o} e hb hm => by
    obtain ⟨n, hn, q⟩ := List.mem_iff_getElem.mp hm
    have q : μ[n]? = some b := by rw [List.getElem?_eq_getElem hn, q]
    by_cases hl : n < B.μ.length
    · have q2 : B.μ[n]? = some B.μ[n] := List.getElem?_eq_getElem hl
      have q3 := R.up.st n _ q2
      rw [q] at q3
      exact hb (by rw [Option.some.inj q3]; exact List.getElem_mem hl)
    · rw [R.nw n b (Nat.le_of_not_lt hl) q] at e; cases e
  refine ⟨S.sub, S.sto, S.len, S.nd, S.out, R.ln, fun i d e => ?_, fun i o e => ?_, R.ow, R.up.trans S.up, fun b o e hb => ?_, fun n a hn e => ?_, fun b o e => ?_⟩
  · obtain ⟨v, e1, r⟩ := R.val i d e
    exact ⟨v, e1, Rep.up S.up _ r⟩
  · obtain ⟨a, e1, q, q1, q2, q3⟩ := R.own i o e
    obtain ⟨u, hu⟩ := q.there
    have hu' : H' a = H a := by rw [hu]; exact S.fr a u hu q2
    refine ⟨a, e1, q.up S.up hu', ?_, fun hm => ?_, q3⟩
    · cases z : m' a with
      | none => rfl
      | some w =>
        rcases S.mn a w z with h1 | h1
        · have h1 : m a = some w := h1
          rw [q1] at h1; cases h1
        · have h1 : H a = none := h1
          rw [hu] at h1; cases h1
    · obtain ⟨n, hn, q⟩ := List.mem_iff_getElem.mp hm
      have q : μ'[n]? = some a := by rw [List.getElem?_eq_getElem hn, q]
      by_cases hl : n < μ.length
      · have g2 : μ[n]? = some μ[n] := List.getElem?_eq_getElem hl
        have g3 := S.up.st n _ g2
        rw [q] at g3
        exact q2 (by rw [Option.some.inj g3]; exact List.getElem_mem hl)
      · have h1 : H a = none := S.nw n a (Nat.le_of_not_lt hl) q
        rw [hu] at h1; cases h1
  · exact S.fr b o (R.fr b o e hb) (nB e hb)
  · by_cases hl : n < μ.length
    · have q2 : μ[n]? = some μ[n] := List.getElem?_eq_getElem hl
      have q3 := S.up.st n _ q2
      rw [e] at q3
      have q4 : μ[n]? = some a := by rw [q2, Option.some.inj q3]
      exact R.nw n a hn q4
    · exact R.freshB (S.nw n a (Nat.le_of_not_lt hl) e)
  · rcases S.mn b o e with q | q
    · exact R.mn b o q
    · exact .inr (R.freshB q)
/-- the state as a callee meets it -/
theorem Rel.enter (R : Rel K B m μ env st σ H) : Rel K ⟨m, μ, H⟩ m μ [] st [] H :=
  ⟨R.sub, R.sto, R.len, R.nd, R.out, rfl, fun i d e => by simp at e, fun i o e => by simp at e, fun i j a ⟨o, e, _⟩ => by simp at e, Up.refl, fun _ _ e _ => e, fun n a hn e => by
    have := (List.getElem?_eq_some_iff.mp e).1
    exact absurd this (Nat.not_lt_of_le hn), fun _ _ e => .inl e⟩
/-- slots forgotten -/
theorem Rel.drop (R : Rel K B m μ env st σ H) : Rel K B m μ [] st [] H :=
  ⟨R.sub, R.sto, R.len, R.nd, R.out, rfl, fun i d e => by simp at e, fun i o e => by simp at e, fun i j a ⟨o, e, _⟩ => by simp at e, R.up, R.fr, R.nw, R.mn⟩
end
end SK
end
section
set_option Elab.async false
set_option linter.all false
set_option autoImplicit false
set_option maxRecDepth 100000
set_option maxHeartbeats 1000000
namespace SK
open PySem L2

inductive Out (α : Type) where
  | ok (a : α) (st : List MO) | exc (c : Value) (fs : List (Str × D)) (st : List MO) | bad
def Out.bind {α β : Type} : Out α → (α → List MO → Out β) → Out β
  | .ok a st, f => f a st
  | .exc c fs st, _ => .exc c fs st
  | .bad, _ => .bad
def Out.of {α : Type} : Option α → List MO → Out α
  | some a, st => .ok a st
  | none, _ => .bad
abbrev M (α : Type) := En → List MO → Out α
/-- a result: a value, or an object that nobody else holds -/
inductive Rs where
  | v (d : D) | o (o : MO)
def MO.d : MO → D
  | .lst xs => .lst xs
  | .dic ks => .dic ks
  | .ins C fs => .ins C fs
def Rs.d : Rs → D
  | .v d => d
  | .o q => q.d

/-- the dict of an exception -/
def XdAt (K : Fg) (μ : List Addr) (m H : Hp) (fs : List (Str × D)) (dx : Option Addr) : Prop :=
  (fs = [] ∧ dx = none) ∨ ∃ d vs, dx = some d ∧ H d = some (.xd vs) ∧ RepF K μ m fs vs

section
variable {α β ρ ρ' : Type}
def Post (K : Fg) (B : Bs) (W : WX) (σ : L2.St) (env : En) (m : Hp) (μ : List Addr) (P : α → ρ → List Addr → Hp → Hp → Prop) (Q : ρ → Hp → Prop) : Out α → Prop
  | .ok a st => ∀ r m' μ' H', Up μ μ' m m' → Rel K B m' μ' env st σ H' → P a r μ' m' H' → Q r H'
  | .exc c fs st => ∀ dx m' μ' H', Up μ μ' m m' → Rel K B m' μ' env st σ H' → XdAt K μ' m' H' fs dx → W c dx σ H'
  | .bad => False
variable {K : Fg} {B : Bs} {W : WX} {σ : L2.St} {env : En} {m m1 : Hp} {μ μ1 : List Addr} {P : α → ρ → List Addr → Hp → Hp → Prop} {Q : ρ → Hp → Prop} {P1 : β → ρ' → List Addr → Hp → Hp → Prop} {N : ρ' → Hp → Prop}
theorem Post.later (u : Up μ μ1 m m1) : ∀ {o : Out α}, Post K B W σ env m μ P Q o → Post K B W σ env m1 μ1 P Q o
  | .ok a st, h => fun r m' μ' H' u' => h r m' μ' H' (u.trans u')
  | .exc c fs st, h => fun dx m' μ' H' u' => h dx m' μ' H' (u.trans u')
  | .bad, h => h
theorem Post.split {x : Out β} {f : β → List MO → Out α} (h : Post K B W σ env m μ P Q (x.bind f))
    (k : ∀ b st1 r1 m1 μ1 H1, Up μ μ1 m m1 → Rel K B m1 μ1 env st1 σ H1 → P1 b r1 μ1 m1 H1 → Post K B W σ env m1 μ1 P Q (f b st1) → N r1 H1) : Post K B W σ env m μ P1 N x := by
  cases x with
  | ok b st1 => exact fun r1 m1 μ1 H1 u R p => k b st1 r1 m1 μ1 H1 u R p (Post.later u h)
  | exc c fs st1 => exact h
  | bad => exact h
theorem Post.imp {P' : α → ρ → List Addr → Hp → Hp → Prop} {Q' : ρ → Hp → Prop} (k : ∀ a r st' m' μ' H', Up μ μ' m m' → Rel K B m' μ' env st' σ H' → P' a r μ' m' H' → (∀ r' H'', (∃ m'' μ'', Up μ' μ'' m' m'' ∧ Rel K B m'' μ'' env st' σ H'' ∧ P a r' μ'' m'' H'') → Q r' H'') → Q' r H') :
    ∀ {o : Out α}, Post K B W σ env m μ P Q o → Post K B W σ env m μ P' Q' o
  | .ok a st, h => fun r m' μ' H' u R p => k a r st m' μ' H' u R p fun r' H'' ⟨m'', μ'', u', R', p'⟩ => h r' m'' μ'' H'' (u.trans u') R' p'
  | .exc c fs st, h => h
  | .bad, h => h
/-- the answer at hand -/
theorem Post.now {a : α} {st : List MO} (h : Post K B W σ env m μ P Q (.ok a st)) {r : ρ} {H : Hp} (R : Rel K B m μ env st σ H) (p : P a r μ m H) : Q r H := h r m μ H Up.refl R p
end

abbrev pD (K : Fg) : D → V → List Addr → Hp → Hp → Prop := fun d v μ m _ => Rep K μ m d v
abbrev pA (K : Fg) : List D → List V → List Addr → Hp → Hp → Prop := fun d v μ m _ => Reps K μ m d v
abbrev pB : Bool → Bool → List Addr → Hp → Hp → Prop := fun b c _ _ _ => c = b
/-- the reading of what f computes -/
def tI (K : Fg) (W : WX) (f : M D) : TE := fun σ H Q => ∃ B m μ env st, Rel K B m μ env st σ H ∧ Post K B W σ env m μ (pD K) Q (f env st)
def tIA (K : Fg) (W : WX) (f : M (List D)) : TA := fun σ H Q => ∃ B m μ env st, Rel K B m μ env st σ H ∧ Post K B W σ env m μ (pA K) Q (f env st)
def tIT (K : Fg) (W : WX) (f : M Bool) : TT := fun σ H Q => ∃ B m μ env st, Rel K B m μ env st σ H ∧ Post K B W σ env m μ pB Q (f env st)
abbrev IE (X : Cx) (W : WX) (e : Expr) (f : M D) : Prop := PE X e (tI X.K W f)
abbrev IA (X : Cx) (W : WX) (es : List Expr) (f : M (List D)) : Prop := PA X es (tIA X.K W f)
abbrev IT (X : Cx) (W : WX) (e : Expr) (f : M Bool) : Prop := PT X e (tIT X.K W f)
abbrev IW (X : Cx) (W : WX) (e : Expr) (f : M Bool) : Prop := PW X e (tIT X.K W f)

theorem pe_imp {X : Cx} {e : Expr} {t t' : TE} (h : PE X e t) (k : ∀ σ H Q, t' σ H Q → t σ H Q) : PE X e t' := ⟨fun pins s σ H Q I q => h.run pins s σ H Q I (k σ H Q q)⟩
theorem pa_imp {X : Cx} {e : List Expr} {t t' : TA} (h : PA X e t) (k : ∀ σ H Q, t' σ H Q → t σ H Q) : PA X e t' := ⟨fun pos pins s σ H Q I q => h.run pos pins s σ H Q I (k σ H Q q)⟩
theorem pt_imp {X : Cx} {e : Expr} {t t' : TT} (h : PT X e t) (k : ∀ σ H Q, t' σ H Q → t σ H Q) : PT X e t' := ⟨fun pins s σ H Q I q => h.run pins s σ H Q I (k σ H Q q)⟩
theorem pw_imp {X : Cx} {e : Expr} {t t' : TT} (h : PW X e t) (k : ∀ σ H Q, t' σ H Q → t σ H Q) : PW X e t' := ⟨fun w pins s σ H Q I q => h.run w pins s σ H Q I (k σ H Q q)⟩

/-! ### the combinators -/
def eVar (i : Nat) : M D := fun env st => match env[i]? with
  | some (.val d) => .ok d st
  | _ => .bad
def eC (d : D) : M D := fun _ st => .ok d st
def aNil : M (List D) := fun _ st => .ok [] st
def aCons (f : M D) (g : M (List D)) : M (List D) := fun env st => (f env st).bind fun d st => (g env st).bind fun ds st => .ok (d :: ds) st
def e1 (f : M D) (g : D → Option D) : M D := fun env st => (f env st).bind fun d st => Out.of (g d) st
def e2 (f f' : M D) (g : D → D → Option D) : M D := fun env st => (f env st).bind fun d st => (f' env st).bind fun d' st => Out.of (g d d') st
def eA (f : M (List D)) (g : List D → Option D) : M D := fun env st => (f env st).bind fun d st => Out.of (g d) st
def eTest (f : M D) : M Bool := fun env st => (f env st).bind fun d st => match d with
  | .bl b => .ok b st
  | _ => .bad
def eB (f : M Bool) : M D := fun env st => (f env st).bind fun b st => .ok (.bl b) st
def eIf (c : M Bool) (f g : M D) : M D := fun env st => (c env st).bind fun b st => if b then f env st else g env st
def tAndI (f g : M Bool) : M Bool := fun env st => (f env st).bind fun b st => if b then g env st else .ok false st
def tOrI (f g : M Bool) : M Bool := fun env st => (f env st).bind fun b st => if b then .ok true st else g env st
def tNotI (f : M Bool) : M Bool := fun env st => (f env st).bind fun b st => .ok (!b) st

section
variable {X : Cx} {W : WX} {e a b c : Expr} {es : List Expr} {f g h : M D} {fs : M (List D)} {p q : M Bool} {pos : Pos}

theorem ie_var {i : Nat} (h : PE X e (tVar i)) : IE X W e (eVar i) := pe_imp h fun σ H Q ⟨B, m, μ, env, st, R, k⟩ => by
  unfold eVar at k
  split at k
  · rename_i d e1
    obtain ⟨v, e2, r⟩ := R.val i d e1
    exact ⟨v, e2, k.now R r⟩
  · exact k.elim
theorem ie_c {v : V} {d : D} (h : PE X e (tC v)) (r : ∀ μ m, Rep X.K μ m d v) : IE X W e (eC d) := pe_imp h fun σ H Q ⟨B, m, μ, env, st, R, k⟩ => k.now R (r μ m)
theorem ie_int {i : Int} {j pos} : IE X W (.Constant (.int i) j pos) (eC (.int i)) := ie_c pe_int fun _ _ => rfl
theorem ie_str {i : Str} {j pos} : IE X W (.Constant (.str i) j pos) (eC (.str i)) := ie_c pe_str fun _ _ => rfl
theorem ie_bl {i : Bool} {j pos} : IE X W (.Constant (.bool i) j pos) (eC (.bl i)) := ie_c pe_bl fun _ _ => rfl
theorem ie_non {j pos} : IE X W (.Constant .none j pos) (eC .non) := ie_c pe_non fun _ _ => rfl

theorem ia_nil : IA X W [] aNil := pa_imp pa_nil fun σ H Q ⟨B, m, μ, env, st, R, k⟩ => k.now R rfl
theorem ia_cons (he : IE X W e f) (hs : IA X W es fs) (hse : starEach (e :: es) X.env = (false, eval e X.env) :: starEach es X.env := by rfl) : IA X W (e :: es) (aCons f fs) :=
  pa_imp (pa_cons he hs hse) fun σ H Q ⟨B, m, μ, env, st, R, k⟩ => by
    refine ⟨B, m, μ, env, st, R, k.split fun d st1 v m1 μ1 H1 u R1 r k1 => ⟨B, m1, μ1, env, st1, R1, k1.split fun ds st2 vs m2 μ2 H2 u2 R2 r2 k2 => ?_⟩⟩
    exact k2.now R2 ⟨v, vs, rfl, Rep.up u2 _ r, r2⟩
/-- a new tuple -/
def gTup (ds : List D) : Option D := if ds.length ≤ sizeLine then some (.tup ds) else none
theorem ie_tup {x1} (hs : IA X W es fs) : IE X W (.Tuple es x1 pos) (eA fs gTup) := pe_imp (pe_tup hs) fun σ H Q ⟨B, m, μ, env, st, R, k⟩ => by
  refine ⟨B, m, μ, env, st, R, k.split fun ds st1 vs m1 μ1 H1 u R1 r k1 => ?_⟩
  unfold gTup at k1
  split at k1
  · rename_i hz
    refine ⟨by rw [← Reps.length r]; exact hz, fun p hp => ?_⟩
    obtain ⟨R2, u2⟩ := R1.newFix (o := .tup vs) hp
    exact k1 _ _ _ _ u2 R2 ⟨p, vs, rfl, .of upd_same, Reps.up u2 _ r⟩
  · exact k1.elim
def gLst (ds : List D) : Option D := if ds.length ≤ sizeLine then some (.lst ds) else none
theorem ie_lst (hs : IA X W es fs) : IE X W (.List es pos) (eA fs gLst) := pe_imp (pe_lst hs) fun σ H Q ⟨B, m, μ, env, st, R, k⟩ => by
  refine ⟨B, m, μ, env, st, R, k.split fun ds st1 vs m1 μ1 H1 u R1 r k1 => ?_⟩
  unfold gLst at k1
  split at k1
  · rename_i hz
    refine ⟨by rw [← Reps.length r]; exact hz, fun p hp => ?_⟩
    obtain ⟨R2, u2⟩ := R1.newFix (o := .lst vs) hp
    exact k1 _ _ _ _ u2 R2 ⟨p, vs, rfl, upd_same, Reps.up u2 _ r⟩
  · exact k1.elim

/-! ### tests -/
theorem it_val (he : IE X W e f) (hh : ∀ whole, isTrue e X.env whole = (do let v ← whole; standAt e.pos; holding [v] (truthy v)) := by intro _; rfl) : IT X W e (eTest f) :=
  pt_imp (pt_val he hh) fun σ H Q ⟨B, m, μ, env, st, R, k⟩ => by
    refine ⟨B, m, μ, env, st, R, k.split fun d st1 v m1 μ1 H1 u R1 r k1 => ?_⟩
    cases d with
    | bl c => exact ⟨c, r, k1.now R1 rfl⟩
    | _ => exact k1.elim
theorem it_not (ha : IT X W a p) : IT X W (.UnaryOp .Not a pos) (tNotI p) := pt_imp (pt_not ha) fun σ H Q ⟨B, m, μ, env, st, R, k⟩ =>
  ⟨B, m, μ, env, st, R, k.split fun d st1 v m1 μ1 H1 u R1 r k1 => by cases r; exact k1.now R1 rfl⟩
theorem iw_and1 (ha : IT X W a p) : IW X W (.BoolOp .And [a] pos) p := pw_and1 ha
theorem iw_or1 (ha : IT X W a p) : IW X W (.BoolOp .Or [a] pos) p := pw_or1 ha
theorem iw_and (ha : IT X W a p) (hb : IW X W (.BoolOp .And (b :: es) pos) q) : IW X W (.BoolOp .And (a :: b :: es) pos) (tAndI p q) :=
  pw_imp (pw_and ha hb) fun σ H Q ⟨B, m, μ, env, st, R, k⟩ => ⟨B, m, μ, env, st, R, k.split fun d st1 v m1 μ1 H1 u R1 r k1 => by
    cases r
    cases d with
    | true => exact ⟨B, m1, μ1, env, st1, R1, k1⟩
    | false => exact k1.now R1 rfl⟩
theorem iw_or (ha : IT X W a p) (hb : IW X W (.BoolOp .Or (b :: es) pos) q) : IW X W (.BoolOp .Or (a :: b :: es) pos) (tOrI p q) :=
  pw_imp (pw_or ha hb) fun σ H Q ⟨B, m, μ, env, st, R, k⟩ => ⟨B, m, μ, env, st, R, k.split fun d st1 v m1 μ1 H1 u R1 r k1 => by
    cases r
    cases d with
    | true => exact k1.now R1 rfl
    | false => exact ⟨B, m1, μ1, env, st1, R1, k1⟩⟩
theorem iw_it (h : IW X W e p) : IT X W e p := h.pt
theorem ie_if (hc : IT X W c p) (ha : IE X W a f) (hb : IE X W b g) : IE X W (.IfExp c a b pos) (eIf p f g) := pe_imp (pe_ifExp hc ha hb) fun σ H Q ⟨B, m, μ, env, st, R, k⟩ =>
  ⟨B, m, μ, env, st, R, k.split fun d st1 v m1 μ1 H1 u R1 r k1 => by
    cases r
    cases d with
    | true => exact ⟨B, m1, μ1, env, st1, R1, k1⟩
    | false => exact ⟨B, m1, μ1, env, st1, R1, k1⟩⟩
end
end SK
end
section
set_option Elab.async false
set_option linter.all false
set_option autoImplicit false
set_option maxRecDepth 100000
set_option maxHeartbeats 1000000
namespace SK
open PySem L2

/-! ### data of Python's own: None, bools, ints, texts, lists, tuples -/
mutual
def D.py : D → Option PyData
  | .non => some .none
  | .bl b => some (.bool b)
  | .int i => some (.int i)
  | .str x => some (.str x)
  | .tup xs => (D.pys xs).map .tuple
  | .lst xs => (D.pys xs).map .list
  | _ => none
def D.pys : List D → Option (List PyData)
  | [] => some []
  | x :: xs => match D.py x, D.pys xs with
    | some p, some ps => some (p :: ps)
    | _, _ => none
end
section
variable {K : Fg} {μ : List Addr} {m H : Hp} (hs : Sub m H)
include hs
mutual
theorem Rep.dp : ∀ (d : D) {v : V} {p : PyData}, Rep K μ m d v → D.py d = some p → Dp K H v p
  | .non, v, p, h, e => by cases h; cases e; exact .non
  | .bl b, v, p, h, e => by cases h; cases e; exact .bl b
  | .int i, v, p, h, e => by cases h; cases e; exact .int i
  | .str x, v, p, h, e => by cases h; cases e; exact .str x
  | .tup xs, v, p, ⟨a, vs, e1, h, r⟩, e => by
    unfold D.py at e
    cases q : D.pys xs with
    | none => rw [q] at e; cases e
    | some ps => rw [q] at e; cases e; subst e1; exact .tup (hs.sqT h) (Reps.dp xs r q)
  | .lst xs, v, p, ⟨a, vs, e1, h, r⟩, e => by
    unfold D.py at e
    cases q : D.pys xs with
    | none => rw [q] at e; cases e
    | some ps => rw [q] at e; cases e; subst e1; exact .lst (hs.sqL (.inl (.inl h))) (Reps.dp xs r q)
  | .ty n, v, p, h, e => by cases e
  | .adr a, v, p, h, e => by cases e
  | .ref n, v, p, h, e => by cases e
  | .scr n, v, p, h, e => by cases e
  | .dic n, v, p, h, e => by cases e
  | .ins C n, v, p, h, e => by cases e
theorem Reps.dp : ∀ (d : List D) {v : List V} {p : List PyData}, Reps K μ m d v → D.pys d = some p → DpAll K H v p
  | [], v, p, h, e => by rw [show v = [] from h]; cases e; exact .nil
  | x :: xs, v, p, ⟨w, ws, e1, h, r⟩, e => by
    unfold D.pys at e
    cases q1 : D.py x with
    | none => rw [q1] at e; cases e
    | some p1 =>
      cases q2 : D.pys xs with
      | none => rw [q1, q2] at e; cases e
      | some ps =>
        rw [q1, q2] at e; cases e; subst e1
        exact .cons (Rep.dp x h q1) (Reps.dp xs r q2)
end
end
/-- == of data -/
def gEq (d d' : D) : Option D := match d.py, d'.py with
  | some p, some q => if SeqAt.shaped p && SeqAt.shaped q then some (.bl (PyData.eqv p q)) else none
  | _, _ => none
def gNe (d d' : D) : Option D := match d.py, d'.py with
  | some p, some q => if SeqAt.shaped p && SeqAt.shaped q then some (.bl (!PyData.eqv p q)) else none
  | _, _ => none
/-- flat values -/
def D.fv : D → Option V
  | .non => some .non
  | .bl b => some (.bl b)
  | .int i => some (.int i)
  | .str x => some (.str x)
  | _ => none
def D.fvs : List D → Option (List V)
  | [] => some []
  | x :: xs => match D.fv x, D.fvs xs with
    | some p, some ps => some (p :: ps)
    | _, _ => none
theorem rep_fv {K : Fg} {μ : List Addr} {m : Hp} {d : D} {v w : V} (h : Rep K μ m d v) (e : d.fv = some w) : v = w ∧ flatV w = true := by
  cases d with
  | non => cases h; cases e; exact ⟨rfl, rfl⟩
  | bl => cases h; cases e; exact ⟨rfl, rfl⟩
  | int => cases h; cases e; exact ⟨rfl, rfl⟩
  | str => cases h; cases e; exact ⟨rfl, rfl⟩
  | _ => cases e
theorem reps_fv {K : Fg} {μ : List Addr} {m : Hp} : ∀ {d : List D} {v w : List V}, Reps K μ m d v → D.fvs d = some w → v = w ∧ w.all flatV = true
  | [], v, w, h, e => by rw [show v = [] from h]; cases e; exact ⟨rfl, rfl⟩
  | x :: xs, v, w, ⟨y, ys, e1, h, r⟩, e => by
    unfold D.fvs at e
    cases q1 : D.fv x with
    | none => rw [q1] at e; cases e
    | some p1 =>
      cases q2 : D.fvs xs with
      | none => rw [q1, q2] at e; cases e
      | some ps =>
        rw [q1, q2] at e; cases e; subst e1
        obtain ⟨h1, h2⟩ := rep_fv h q1
        obtain ⟨h3, h4⟩ := reps_fv r q2
        subst h1; subst h3
        exact ⟨rfl, by rw [List.all_cons, h2, h4]; rfl⟩

/-! ### operators by what they do to values -/
def OpD (K : Fg) (r : R2) (g : D → D → Option D) : Prop := ∀ B m μ env st σ H d d' x y z Q, Rel K B m μ env st σ H → Rep K μ m d x → Rep K μ m d' y → g d d' = some z →
  (∀ v m' μ' H', Up μ μ' m m' → Rel K B m' μ' env st σ H' → Rep K μ' m' z v → Q v H') → r x y H Q
theorem OpD.or {K : Fg} {r r' : R2} {g g' : D → D → Option D} (h : OpD K r g) (h' : OpD K r' g') : OpD K (fun x y H Q => r x y H Q ∨ r' x y H Q) (fun d d' => match g d d' with | some z => some z | none => g' d d') := by
  intro B m μ env st σ H d d' x y z Q R r1 r2 e k
  dsimp only at e
  cases q : g d d' with
  | some w => 
    rw [q] at e
    have e' : w = z := Option.some.inj e
    subst e'
    exact .inl (h B m μ env st σ H d d' x y w Q R r1 r2 q k)
  | none => rw [q] at e; exact .inr (h' B m μ env st σ H d d' x y z Q R r1 r2 e k)
theorem OpD.imp {K : Fg} {r : R2} {g g' : D → D → Option D} (h : OpD K r g) (k : ∀ d d' z, g' d d' = some z → g d d' = some z) : OpD K r g' := fun B m μ env st σ H d d' x y z Q R r1 r2 e q => h B m μ env st σ H d d' x y z Q R r1 r2 (k d d' z e) q
section
variable {X : Cx} {W : WX} {a b c : Expr} {f f' f3 : M D} {pos : Pos} {r r' : R2} {g g' : D → D → Option D}
theorem Post.of_eq {α ρ : Type} {K : Fg} {B : Bs} {σ : L2.St} {env : En} {m : Hp} {μ : List Addr} {P : α → ρ → List Addr → Hp → Hp → Prop} {Q : ρ → Hp → Prop} {o : Option α} {st : List MO} (h : Post K B W σ env m μ P Q (Out.of o st)) :
    ∃ z, o = some z ∧ ∀ r m' μ' H', Up μ μ' m m' → Rel K B m' μ' env st σ H' → P z r μ' m' H' → Q r H' := by
  cases o with
  | none => exact h.elim
  | some z => exact ⟨z, rfl, h⟩
theorem ie_op {op : Operator} (ho : OpR X (binaryOp op) r) (hg : OpD X.K r g) (ha : IE X W a f) (hb : IE X W b f') : IE X W (.BinOp a op b pos) (e2 f f' g) :=
  pe_imp (pe_op ho ha hb) fun σ H Q ⟨B, m, μ, env, st, R, k⟩ => by
    refine ⟨B, m, μ, env, st, R, k.split fun d st1 v m1 μ1 H1 u R1 r1 k1 => ⟨B, m1, μ1, env, st1, R1, k1.split fun d' st2 v' m2 μ2 H2 u2 R2 r2 k2 => ?_⟩⟩
    obtain ⟨z, e, k3⟩ := k2.of_eq
    exact hg B m2 μ2 env st2 σ H2 d d' v v' z Q R2 (Rep.up u2 _ r1) r2 e k3
theorem ie_cmp {op : CmpOp} (ho : OpR X (compareOp op) r) (hg : OpD X.K r g) (ha : IE X W a f) (hb : IE X W b f') (hm : behindInMarks op b = false) : IE X W (.Compare a [op] [b] pos) (e2 f f' g) :=
  pe_imp (pe_cmpR ho ha hb hm) fun σ H Q ⟨B, m, μ, env, st, R, k⟩ => by
    refine ⟨B, m, μ, env, st, R, k.split fun d st1 v m1 μ1 H1 u R1 r1 k1 => ⟨B, m1, μ1, env, st1, R1, k1.split fun d' st2 v' m2 μ2 H2 u2 R2 r2 k2 => ?_⟩⟩
    obtain ⟨z, e, k3⟩ := k2.of_eq
    exact hg B m2 μ2 env st2 σ H2 d d' v v' z Q R2 (Rep.up u2 _ r1) r2 e k3
theorem it_cmp {op : CmpOp} (ho : OpR X (compareOp op) r) (hg : OpD X.K r g) (ha : IE X W a f) (hb : IE X W b f') (hm : behindInMarks op b = false) : IT X W (.Compare a [op] [b] pos) (eTest (e2 f f' g)) :=
  pt_imp (pt_cmpR ho ha hb hm) fun σ H Q ⟨B, m, μ, env, st, R, k⟩ => by
    refine ⟨B, m, μ, env, st, R, ?_⟩
    unfold eTest e2 at k
    cases q : f env st with
    | bad => rw [q] at k; exact k.elim
    | exc cc fs st1 => rw [q] at k; exact k
    | ok d st1 =>
      rw [q] at k
      intro v m1 μ1 H1 u1 R1 r1
      refine ⟨B, m1, μ1, env, st1, R1, ?_⟩
      have k := Post.later u1 k
      simp only [Out.bind] at k
      cases q2 : f' env st1 with
      | bad => rw [q2] at k; exact k.elim
      | exc cc fs st2 => rw [q2] at k; exact k
      | ok d' st2 =>
        rw [q2] at k
        intro v' m2 μ2 H2 u2 R2 r2
        have k := Post.later u2 k
        simp only [Out.bind] at k
        cases q3 : g d d' with
        | none => rw [q3] at k; exact k.elim
        | some z =>
          rw [q3] at k
          refine hg B m2 μ2 env st2 σ H2 d d' v v' z _ R2 (Rep.up u2 _ r1) r2 q3 fun w m3 μ3 H3 u3 R3 r3 => ?_
          have k := Post.later u3 k
          cases z with
          | bl c =>
            cases r3
            exact ⟨c, rfl, k.now R3 rfl⟩
          | _ => exact k.elim
end
/-! ### ints -/
def gI (C : Int → Int → Bool) (h : Int → Int → Int) : D → D → Option D
  | .int i, .int j => if C i j then some (.int (h i j)) else none
  | _, _ => none
theorem od_I {K : Fg} {C : Int → Int → Prop} {Cb : Int → Int → Bool} {h : Int → Int → Int} (hc : ∀ i j, Cb i j = true → C i j) : OpD K (rI C fun i j => .int (h i j)) (gI Cb h) := by
  intro B m μ env st σ H d d' x y z Q R r1 r2 e k
  cases d with
  | int i =>
    cases d' with
    | int j =>
      simp only [gI] at e
      split at e
      · rename_i hh
        cases e; cases r1; cases r2
        exact ⟨i, j, rfl, rfl, hc i j hh, k _ m μ H Up.refl R rfl⟩
      · cases e
    | _ => cases e
  | _ => cases e
def gB (h : Int → Int → Bool) : D → D → Option D
  | .int i, .int j => some (.bl (h i j))
  | _, _ => none
def gI0 (h : Int → Int → Int) : D → D → Option D
  | .int i, .int j => some (.int (h i j))
  | _, _ => none
theorem od_I0 {K : Fg} {h : Int → Int → Int} : OpD K (rI0 fun i j => .int (h i j)) (gI0 h) := by
  intro B m μ env st σ H d d' x y z Q R r1 r2 e k
  cases d with
  | int i =>
    cases d' with
    | int j => cases e; cases r1; cases r2; exact ⟨i, j, rfl, rfl, k _ m μ H Up.refl R rfl⟩
    | _ => cases e
  | _ => cases e
theorem od_B {K : Fg} {h : Int → Int → Bool} : OpD K (rI0 fun i j => .bl (h i j)) (gB h) := by
  intro B m μ env st σ H d d' x y z Q R r1 r2 e k
  cases d with
  | int i =>
    cases d' with
    | int j => cases e; cases r1; cases r2; exact ⟨i, j, rfl, rfl, k _ m μ H Up.refl R rfl⟩
    | _ => cases e
  | _ => cases e
/-! ### texts, lists, tuples added -/
def gAddS : D → D → Option D
  | .str a, .str b => if a.length + b.length ≤ sizeLine then some (.str (a ++ b)) else none
  | _, _ => none
theorem od_addS {K : Fg} : OpD K (fun x y H Q => ∃ i j, x = .str i ∧ y = .str j ∧ i.length + j.length ≤ sizeLine ∧ Q (.str (i ++ j)) H) gAddS := by
  intro B m μ env st σ H d d' x y z Q R r1 r2 e k
  cases d with
  | str i =>
    cases d' with
    | str j =>
      simp only [gAddS] at e
      split at e
      · rename_i hh
        cases e; cases r1; cases r2
        exact ⟨i, j, rfl, rfl, hh, k _ m μ H Up.refl R rfl⟩
      · cases e
    | _ => cases e
  | _ => cases e
def gAddL : D → D → Option D
  | .lst a, .lst b => if a.length + b.length ≤ sizeLine then some (.lst (a ++ b)) else none
  | _, _ => none
theorem sub_lst {m H : Hp} (s : Sub m H) {a : Addr} {vs : List V} (h : m a = some (.lst vs)) : H a = some (.lst vs) := s a _ h
theorem sub_ins {m H : Hp} (s : Sub m H) {a C dx : Addr} {vs : List (Str × V)} (h : m a = some (.ins C dx vs)) : H a = some (.ins C dx vs) := s a _ h
theorem od_addL {K : Fg} : OpD K rCat gAddL := by
  intro B m μ env st σ H d d' x y z Q R r1 r2 e k
  cases d with
  | lst xs =>
    cases d' with
    | lst ys =>
      simp only [gAddL] at e
      split at e
      · rename_i hh
        cases e
        obtain ⟨a, vs, rfl, ha, ra⟩ := r1
        obtain ⟨b, ws, rfl, hb, rb⟩ := r2
        refine ⟨a, b, vs, ws, rfl, rfl, sub_lst R.sub ha, sub_lst R.sub hb, by rw [← ra.length, ← rb.length]; exact hh, fun p hp => ?_⟩
        obtain ⟨R2, u2⟩ := R.newFix (o := .lst (vs ++ ws)) hp
        exact k _ _ _ _ u2 R2 ⟨p, _, rfl, upd_same, (Reps.up u2 _ ra).append (Reps.up u2 _ rb)⟩
      · cases e
    | _ => cases e
  | _ => cases e
def gAddT : D → D → Option D
  | .tup a, .tup b => if a.length + b.length ≤ sizeLine then some (.tup (a ++ b)) else none
  | _, _ => none
theorem od_addT {K : Fg} : OpD K (rCatA K) gAddT := by
  intro B m μ env st σ H d d' x y z Q R r1 r2 e k
  cases d with
  | tup xs =>
    cases d' with
    | tup ys =>
      simp only [gAddT] at e
      split at e
      · rename_i hh
        cases e
        obtain ⟨a, vs, rfl, ha, ra⟩ := r1
        obtain ⟨b, ws, rfl, hb, rb⟩ := r2
        refine ⟨a, b, vs, ws, rfl, rfl, R.sub.sqT ha, R.sub.sqT hb, by rw [← ra.length, ← rb.length]; exact hh, fun e0 => ?_, fun n0 e0 => ?_, fun n0 n1 p hp => ?_⟩
        · subst e0
          have : xs = [] := List.length_eq_zero_iff.mp (by rw [ra.length]; rfl)
          subst this
          exact k _ m μ H Up.refl R ⟨b, ws, rfl, hb, rb⟩
        · subst e0
          have : ys = [] := List.length_eq_zero_iff.mp (by rw [rb.length]; rfl)
          subst this
          rw [List.append_nil] at k
          exact k _ m μ H Up.refl R ⟨a, vs, rfl, ha, ra⟩
        · obtain ⟨R2, u2⟩ := R.newFix (o := .tup (vs ++ ws)) hp
          exact k _ _ _ _ u2 R2 ⟨p, _, rfl, .of upd_same, (Reps.up u2 _ ra).append (Reps.up u2 _ rb)⟩
      · cases e
    | _ => cases e
  | _ => cases e
def gRepL : D → D → Option D
  | .lst a, .int k => if k < 1000 ∧ a.length ≤ 1000 ∧ -1000 ≤ k then some (.lst (List.replicate k.toNat a).flatten) else none
  | _, _ => none
end SK
end
section
set_option Elab.async false
set_option linter.all false
set_option autoImplicit false
set_option maxRecDepth 100000
set_option maxHeartbeats 1000000
namespace SK
open PySem L2

theorem RC.or {X : Cx} {f : Value} {r r' : List V → Hp → VK → Prop} (h : CallR X f r) (h' : CallR X f r') : CallR X f (fun xs H Q => r xs H Q ∨ r' xs H Q) := by
  intro pins s σ H xs us Q I rs q
  rcases q with q | q
  · exact h pins s σ H xs us Q I rs q
  · exact h' pins s σ H xs us Q I rs q

/-! ### what a call of something known does to values -/
def CallD (K : Fg) (r : List V → Hp → VK → Prop) (g : List D → Option D) : Prop := ∀ B m μ env st σ H ds xs z Q, Rel K B m μ env st σ H → Reps K μ m ds xs → g ds = some z →
  (∀ v m' μ' H', Up μ μ' m m' → Rel K B m' μ' env st σ H' → Rep K μ' m' z v → Q v H') → r xs H Q
theorem CallD.or {K : Fg} {r r' : List V → Hp → VK → Prop} {g g' : List D → Option D} (h : CallD K r g) (h' : CallD K r' g') : CallD K (fun x H Q => r x H Q ∨ r' x H Q) (fun d => match g d with | some z => some z | none => g' d) := by
  intro B m μ env st σ H d x z Q R r1 e k
  dsimp only at e
  cases q : g d with
  | some w =>
    rw [q] at e
    have e' : w = z := Option.some.inj e
    subst e'
    exact .inl (h B m μ env st σ H d x w Q R r1 q k)
  | none => rw [q] at e; exact .inr (h' B m μ env st σ H d x z Q R r1 e k)
section
variable {X : Cx} {W : WX} {a b c e : Expr} {es : List Expr} {f f' f3 : M D} {fs : M (List D)} {pos p : Pos} {x : Str} {id T : String} {r : List V → Hp → VK → Prop} {g : List D → Option D}
theorem ie_callB (hc : CallR X (.builtin id) r) (hd : CallD X.K r g) (hg : Gl X x) (hm : X.mg x = none) (hv : bootBuiltins x = some (.builtin id)) (ha : IA X W (e :: es) fs) (hn : x ≠ "__name__" := by decide) (hdb : (x == ("__debug__" : Str)) = false := by decide)
    (he : starEach (e :: es) X.env = (false, eval e X.env) :: starEach es X.env := by rfl) (hpl : (backTo pos (starEach es X.env)).any (·.1) = false := by rfl) : IE X W (.Call (.Name x p) (e :: es) [] pos) (eA fs g) :=
  pe_imp (pe_callB hc hg hm hv ha hn hdb he hpl) fun σ H Q ⟨B, m, μ, env, st, R, k⟩ => by
    refine ⟨B, m, μ, env, st, R, k.split fun d st1 v m1 μ1 H1 u R1 r1 k1 => ?_⟩
    obtain ⟨z, e, k3⟩ := k1.of_eq
    exact hd B m1 μ1 env st1 σ H1 d v z Q R1 r1 e k3
theorem ie_callTy (hc : CallR X (.type T) r) (hd : CallD X.K r g) (hg : Gl X x) (hm : X.mg x = none) (hv : bootBuiltins x = some (.type T)) (ha : IA X W (e :: es) fs) (hn : x ≠ "__name__" := by decide) (hdb : (x == ("__debug__" : Str)) = false := by decide)
    (he : starEach (e :: es) X.env = (false, eval e X.env) :: starEach es X.env := by rfl) (hpl : (backTo pos (starEach es X.env)).any (·.1) = false := by rfl) : IE X W (.Call (.Name x p) (e :: es) [] pos) (eA fs g) :=
  pe_imp (pe_callTy hc hg hm hv ha hn hdb he hpl) fun σ H Q ⟨B, m, μ, env, st, R, k⟩ => by
    refine ⟨B, m, μ, env, st, R, k.split fun d st1 v m1 μ1 H1 u R1 r1 k1 => ?_⟩
    obtain ⟨z, e, k3⟩ := k1.of_eq
    exact hd B m1 μ1 env st1 σ H1 d v z Q R1 r1 e k3
/-- a[b] -/
theorem ie_ix {r : R2} {g : D → D → Option D} (hr : IxR X r) (hg : OpD X.K r g) (ha : IE X W a f) (hb : IE X W b f') (hs : PlainIx b) : IE X W (.Subscript a b pos) (e2 f f' g) :=
  pe_imp (pe_ix hr ha hb hs) fun σ H Q ⟨B, m, μ, env, st, R, k⟩ => by
    refine ⟨B, m, μ, env, st, R, k.split fun d st1 v m1 μ1 H1 u R1 r1 k1 => ⟨B, m1, μ1, env, st1, R1, k1.split fun d' st2 v' m2 μ2 H2 u2 R2 r2 k2 => ?_⟩⟩
    obtain ⟨z, e, k3⟩ := k2.of_eq
    exact hg B m2 μ2 env st2 σ H2 d d' v v' z Q R2 (Rep.up u2 _ r1) r2 e k3
end

/-! ### the functions -/
section
variable {K : Fg}
theorem od_eq : OpD K (rEqD K) gEq := by
  intro B m μ env st σ H d d' x y z Q R r1 r2 e k
  unfold gEq at e
  cases q1 : d.py with
  | none => rw [q1] at e; cases e
  | some p1 =>
    cases q2 : d'.py with
    | none => rw [q1, q2] at e; cases e
    | some p2 =>
      rw [q1, q2] at e
      dsimp only at e
      split at e
      · rename_i hh
        cases e
        obtain ⟨h1, h2⟩ := Bool.and_eq_true_iff.mp hh
        exact ⟨p1, p2, Rep.dp R.sub d r1 q1, Rep.dp R.sub d' r2 q2, h1, h2, k _ m μ H Up.refl R rfl⟩
      · cases e
theorem od_ne : OpD K (rNeD K) gNe := by
  intro B m μ env st σ H d d' x y z Q R r1 r2 e k
  unfold gNe at e
  cases q1 : d.py with
  | none => rw [q1] at e; cases e
  | some p1 =>
    cases q2 : d'.py with
    | none => rw [q1, q2] at e; cases e
    | some p2 =>
      rw [q1, q2] at e
      dsimp only at e
      split at e
      · rename_i hh
        cases e
        obtain ⟨h1, h2⟩ := Bool.and_eq_true_iff.mp hh
        exact ⟨p1, p2, Rep.dp R.sub d r1 q1, Rep.dp R.sub d' r2 q2, h1, h2, k _ m μ H Up.refl R rfl⟩
      · cases e
/-- is None -/
def D.isNon : D → Option Bool
  | .non => some true
  | .bl _ => some false | .int _ => some false | .str _ => some false | .tup _ => some false | .lst _ => some false | .dic _ => some false | .ins _ _ => some false | .ref _ => some false | .adr _ => some false | .ty _ => some false | .scr _ => some false
theorem rep_isNon {μ : List Addr} {m : Hp} {d : D} {v : V} {b : Bool} (h : Rep K μ m d v) (e : d.isNon = some b) : decide (v = .non) = b := by
  cases d with
  | non => cases h; cases e; rfl
  | bl => cases h; cases e; rfl
  | int => cases h; cases e; rfl
  | str => cases h; cases e; rfl
  | ty => cases h; cases e; rfl
  | adr => cases h; cases e; rfl
  | ref n => obtain ⟨a, rfl, _⟩ := h; cases e; rfl
  | tup => obtain ⟨a, vs, rfl, _⟩ := h; cases e; rfl
  | lst => obtain ⟨a, vs, rfl, _⟩ := h; cases e; rfl
  | scr => obtain ⟨a, vs, rfl, _⟩ := h; cases e; rfl
  | dic => obtain ⟨a, vs, rfl, _⟩ := h; cases e; rfl
  | ins => obtain ⟨a, dx, vs, rfl, _⟩ := h; cases e; rfl
def gIsN (d d' : D) : Option D := match d' with
  | .non => (d.isNon).map .bl
  | _ => none
def gNotN (d d' : D) : Option D := match d' with
  | .non => (d.isNon).map fun b => .bl (!b)
  | _ => none
theorem od_isN : OpD K (fun x y H Q => y = .non ∧ Q (.bl (decide (x = .non))) H) gIsN := by
  intro B m μ env st σ H d d' x y z Q R r1 r2 e k
  cases d' with
  | non =>
    cases r2
    unfold gIsN at e
    cases q : d.isNon with
    | none => rw [q] at e; cases e
    | some b =>
      rw [q] at e; cases e
      refine ⟨rfl, ?_⟩
      rw [rep_isNon r1 q]
      exact k _ m μ H Up.refl R rfl
  | _ => cases e
theorem od_notN : OpD K (fun x y H Q => y = .non ∧ Q (.bl (!decide (x = .non))) H) gNotN := by
  intro B m μ env st σ H d d' x y z Q R r1 r2 e k
  cases d' with
  | non =>
    cases r2
    unfold gNotN at e
    cases q : d.isNon with
    | none => rw [q] at e; cases e
    | some b =>
      rw [q] at e; cases e
      refine ⟨rfl, ?_⟩
      rw [rep_isNon r1 q]
      exact k _ m μ H Up.refl R rfl
  | _ => cases e
/-- in: a text in a text; data in a list; a flat thing in a tuple -/
def subS (i j : Str) : Bool := !(Builtin.Str.occurrences j i 0 j.length 1).isEmpty
def gInS (n : Bool) : D → D → Option D
  | .str i, .str j => some (.bl (n ^^ subS i j))
  | _, _ => none
def gInL (n : Bool) (d d' : D) : Option D := match d' with
  | .lst xs => (match d.py, D.pys xs with
    | some p, some ps => if SeqAt.shaped p && SeqAt.shaped (.list ps) then some (.bl (n ^^ ps.any fun z => PyData.eqv z p)) else none
    | _, _ => none)
  | _ => none
def gInT (n : Bool) (d d' : D) : Option D := match d' with
  | .tup xs => (match d.fv, D.fvs xs with
    | some p, some ps => some (.bl (n ^^ inV p ps))
    | _, _ => none)
  | _ => none
theorem od_inS : OpD K (fun x y H Q => ∃ i j, x = .str i ∧ y = .str j ∧ Q (.bl (!(Builtin.Str.occurrences j i 0 j.length 1).isEmpty)) H) (gInS false) := by
  intro B m μ env st σ H d d' x y z Q R r1 r2 e k
  cases d with
  | str i =>
    cases d' with
    | str j => cases e; cases r1; cases r2; exact ⟨i, j, rfl, rfl, k _ m μ H Up.refl R (by show _ = _; rw [Bool.false_xor]; rfl)⟩
    | _ => cases e
  | _ => cases e
theorem od_ninS : OpD K (fun x y H Q => ∃ i j, x = .str i ∧ y = .str j ∧ Q (.bl (!(!(Builtin.Str.occurrences j i 0 j.length 1).isEmpty))) H) (gInS true) := by
  intro B m μ env st σ H d d' x y z Q R r1 r2 e k
  cases d with
  | str i =>
    cases d' with
    | str j => cases e; cases r1; cases r2; exact ⟨i, j, rfl, rfl, k _ m μ H Up.refl R (by show _ = _; rw [Bool.true_xor]; rfl)⟩
    | _ => cases e
  | _ => cases e
theorem od_inL : OpD K (rInD K) (gInL false) := by
  intro B m μ env st σ H d d' x y z Q R r1 r2 e k
  cases d' with
  | lst xs =>
    simp only [gInL] at e
    cases q1 : d.py with
    | none => rw [q1] at e; cases e
    | some p =>
      cases q2 : D.pys xs with
      | none => rw [q1, q2] at e; cases e
      | some ps =>
        rw [q1, q2] at e
        dsimp only at e
        split at e
        · rename_i hh
          obtain ⟨h1, h2⟩ := Bool.and_eq_true_iff.mp hh
          cases e
          refine ⟨p, ps, Rep.dp R.sub d r1 q1, Rep.dp R.sub (.lst xs) r2 (by unfold D.py; rw [q2]; rfl), h1, h2, k _ m μ H Up.refl R (by show _ = _; rw [Bool.false_xor])⟩
        · cases e
  | _ => cases e
theorem od_inT (n : Bool) : OpD K (rIn K n) (gInT n) := by
  intro B m μ env st σ H d d' x y z Q R r1 r2 e k
  cases d' with
  | tup xs =>
    simp only [gInT] at e
    cases q1 : d.fv with
    | none => rw [q1] at e; cases e
    | some p =>
      cases q2 : D.fvs xs with
      | none => rw [q1, q2] at e; cases e
      | some ps =>
        rw [q1, q2] at e; cases e
        obtain ⟨a, vs, rfl, ha, ra⟩ := r2
        obtain ⟨e1, h1⟩ := rep_fv r1 q1
        obtain ⟨e2, h2⟩ := reps_fv ra q2
        subst e1; subst e2
        refine ⟨a, vs, rfl, .inr (R.sub.sqT ha), h1, h2, k _ m μ H Up.refl R ?_⟩
        show _ = _
        cases n <;> simp
  | _ => cases e
/-- a flat thing in a list (by the flat rule) -/
def gInF (n : Bool) (d d' : D) : Option D := match d' with
  | .lst xs => (match d.fv, D.fvs xs with
    | some p, some ps => some (.bl (n ^^ inV p ps))
    | _, _ => none)
  | _ => none
theorem od_inF (n : Bool) : OpD K (rIn K n) (gInF n) := by
  intro B m μ env st σ H d d' x y z Q R r1 r2 e k
  cases d' with
  | lst xs =>
    simp only [gInF] at e
    cases q1 : d.fv with
    | none => rw [q1] at e; cases e
    | some p =>
      cases q2 : D.fvs xs with
      | none => rw [q1, q2] at e; cases e
      | some ps =>
        rw [q1, q2] at e; cases e
        obtain ⟨a, vs, rfl, ha, ra⟩ := r2
        obtain ⟨e1, h1⟩ := rep_fv r1 q1
        obtain ⟨e2, h2⟩ := reps_fv ra q2
        subst e1; subst e2
        refine ⟨a, vs, rfl, .inl (.of (sub_lst R.sub ha)), h1, h2, k _ m μ H Up.refl R ?_⟩
        show _ = _
        cases n <;> simp
  | _ => cases e
/-! ### items, slices -/
def gIx (d d' : D) : Option D := match d' with
  | .int i => (match d with
    | .lst xs => atI xs i
    | .scr xs => atI xs i
    | .tup xs => atI xs i
    | .str z => if z.length ≤ sizeLine then (atI z.cps.toList i).map fun c => .str ⟨#[c]⟩ else none
    | _ => none)
  | _ => none
theorem reps_atI {μ : List Addr} {m : Hp} {xs : List D} {vs : List V} {i : Int} {d : D} (r : Reps K μ m xs vs) (h : atI xs i = some d) : ∃ v, atI vs i = some v ∧ Rep K μ m d v := by
  unfold atI at h ⊢
  rw [← r.length]
  cases q : ixN xs.length i with
  | none => rw [q] at h; cases h
  | some j =>
    rw [q] at h
    exact r.get h
theorem od_ix : OpD K (rIx K) gIx := by
  intro B m μ env st σ H d d' x y z Q R r1 r2 e k
  cases d' with
  | int i =>
    cases r2
    cases d with
    | lst xs =>
      obtain ⟨a, vs, rfl, ha, ra⟩ := r1
      obtain ⟨v, h1, h2⟩ := reps_atI ra e
      exact .inl ⟨a, vs, i, v, rfl, rfl, .of (sub_lst R.sub ha), h1, k v m μ H Up.refl R h2⟩
    | scr xs =>
      obtain ⟨a, vs, rfl, ha, ra⟩ := r1
      obtain ⟨v, h1, h2⟩ := reps_atI ra e
      exact .inl ⟨a, vs, i, v, rfl, rfl, R.sub.sqL ha, h1, k v m μ H Up.refl R h2⟩
    | tup xs =>
      obtain ⟨a, vs, rfl, ha, ra⟩ := r1
      obtain ⟨v, h1, h2⟩ := reps_atI ra e
      exact .inr (.inl ⟨a, vs, i, v, rfl, rfl, R.sub.sqT ha, h1, k v m μ H Up.refl R h2⟩)
    | str s =>
      cases r1
      simp only [gIx] at e
      split at e
      · rename_i hz
        cases q : atI s.cps.toList i with
        | none => rw [q] at e; cases e
        | some c => rw [q] at e; cases e; exact .inr (.inr ⟨s, i, c, rfl, rfl, hz, q, k _ m μ H Up.refl R rfl⟩)
      · cases e
    | _ => cases e
  | _ => cases e
def cutL {α : Type} (xs : List α) (lo hi : Option Int) : List α := (xs.drop (HT.sIx xs.length 0 lo)).take (HT.sIx xs.length xs.length hi - HT.sIx xs.length 0 lo)
theorem cutL_all {α : Type} {xs : List α} {lo hi : Option Int} (h : HT.sIx xs.length 0 lo = 0 ∧ HT.sIx xs.length xs.length hi = xs.length) : cutL xs lo hi = xs := by
  unfold cutL
  rw [h.1, h.2]
  simp
def gSl (d : D) (lo hi : Option Int) : Option D := match d with
  | .lst xs => some (.lst (cutL xs lo hi))
  | .tup xs => some (.tup (cutL xs lo hi))
  | .str z => if z.length ≤ sizeLine then some (.str (cutS z lo hi)) else none
  | _ => none
theorem reps_cut {μ : List Addr} {m : Hp} {xs : List D} {vs : List V} {lo hi : Option Int} (r : Reps K μ m xs vs) : Reps K μ m (cutL xs lo hi) (cutV vs lo hi) := by
  unfold cutL cutV
  rw [r.length]
  exact (r.drop _).take _
/-- a bound of a slice -/
abbrev MO_ := M (Option Int)
def oNone : M (Option Int) := fun _ st => .ok none st
def oSome (f : M D) : M (Option Int) := fun env st => (f env st).bind fun d st => match d with
  | .int i => .ok (some i) st
  | _ => .bad
def eSl (f : M D) (lo hi : M (Option Int)) : M D := fun env st => (f env st).bind fun d st => (lo env st).bind fun l st => (hi env st).bind fun h st => Out.of (gSl d l h) st
abbrev pO : Option Int → Option Int → List Addr → Hp → Hp → Prop := fun b c _ _ _ => c = b
def tIO (K : Fg) (W : WX) (f : M (Option Int)) : TO := fun σ H Q => ∃ B m μ env st, Rel K B m μ env st σ H ∧ Post K B W σ env m μ pO Q (f env st)
end
section
variable {X : Cx} {W : WX} {a : Expr} {o lo hi : Option Expr} {f : M D} {l h : M (Option Int)} {pos p2 : Pos}
theorem po_imp {e : Option Expr} {t t' : TO} (h : PO X e t) (k : ∀ σ H Q, t' σ H Q → t σ H Q) : PO X e t' := ⟨fun pins s σ H Q I q => h.run pins s σ H Q I (k σ H Q q)⟩
theorem io_none : PO X none (tIO X.K W oNone) := po_imp po_none fun σ H Q ⟨B, m, μ, env, st, R, k⟩ => k.now R rfl
theorem io_some (he : IE X W a f) : PO X (some a) (tIO X.K W (oSome f)) := po_imp (po_some he) fun σ H Q ⟨B, m, μ, env, st, R, k⟩ => by
  refine ⟨B, m, μ, env, st, R, k.split fun d st1 v m1 μ1 H1 u R1 r k1 => ?_⟩
  cases d with
  | int i => exact ⟨i, r, k1.now R1 rfl⟩
  | _ => exact k1.elim
def rSl (K : Fg) : V → Option Int → Option Int → Hp → VK → Prop := fun x lo hi H Q => rSlL K x lo hi H Q ∨ (rSlA K x lo hi H Q ∨ rSlS x lo hi H Q)
theorem sl_any : SlR X (rSl X.K) := sl_list.or (sl_tupA.or sl_str)
theorem ie_sl (ha : IE X W a f) (hl : PO X lo (tIO X.K W l)) (hh : PO X hi (tIO X.K W h)) : IE X W (.Subscript a (.Slice lo hi none p2) pos) (eSl f l h) :=
  pe_imp (pe_slice sl_any ha hl hh) fun σ H Q ⟨B, m, μ, env, st, R, k⟩ => by
    refine ⟨B, m, μ, env, st, R, k.split fun d st1 v m1 μ1 H1 u R1 r1 k1 => ⟨B, m1, μ1, env, st1, R1, k1.split fun lo st2 lo' m2 μ2 H2 u2 R2 r2 k2 => ⟨B, m2, μ2, env, st2, R2, k2.split fun hi st3 hi' m3 μ3 H3 u3 R3 r3 k3 => ?_⟩⟩⟩
    cases r2; cases r3
    obtain ⟨z, e, k4⟩ := k3.of_eq
    have r := Rep.up (u2.trans u3) _ r1
    cases d with
    | lst xs =>
      cases e
      obtain ⟨a, vs, rfl, ha, ra⟩ := r
      refine .inl ⟨a, vs, rfl, .of (sub_lst R3.sub ha), fun p hp => ?_⟩
      obtain ⟨R4, u4⟩ := R3.newFix (o := .lst (cutV vs lo hi)) hp
      exact k4 _ _ _ _ u4 R4 ⟨p, _, rfl, upd_same, Reps.up u4 _ (reps_cut ra)⟩
    | tup xs =>
      cases e
      obtain ⟨a, vs, rfl, ha, ra⟩ := r
      refine .inr (.inl ⟨a, vs, rfl, R3.sub.sqT ha, fun hw => ?_, fun hw p hp => ?_⟩)
      · rw [cutL_all (by rw [ra.length]; exact hw)] at k4
        exact k4 _ m3 μ3 H3 Up.refl R3 ⟨a, vs, rfl, ha, ra⟩
      · obtain ⟨R4, u4⟩ := R3.newFix (o := .tup (cutV vs lo hi)) hp
        exact k4 _ _ _ _ u4 R4 ⟨p, _, rfl, .of upd_same, Reps.up u4 _ (reps_cut ra)⟩
    | str s =>
      cases r
      simp only [gSl] at e
      split at e
      · rename_i hz
        cases e
        exact .inr (.inr ⟨s, rfl, hz, k4 _ m3 μ3 H3 Up.refl R3 rfl⟩)
      · cases e
    | _ => cases e
end
end SK
end
section
set_option Elab.async false
set_option linter.all false
set_option autoImplicit false
set_option maxRecDepth 100000
set_option maxHeartbeats 1000000
namespace SK
open PySem L2

/-! ### results that may be an object of their own -/
def pR (K : Fg) (B : Bs) (env : En) (σ : L2.St) : Rs → V → List Addr → Hp → Hp → Prop
  | .v d, v, μ, m, _ => Rep K μ m d v
  | .o q, v, μ, m, H => ∃ a, v = .ref a ∧ MRep K μ m H a q ∧ m a = none ∧ a ∉ μ ∧ B.H a = none ∧ ∀ i, ¬ OwnAt env σ i a
/-- .. behind a return -/
def pX (K : Fg) (B : Bs) : Rs → V → List Addr → Hp → Hp → Prop
  | .v d, v, μ, m, _ => Rep K μ m d v
  | .o q, v, μ, m, H => ∃ a, v = .ref a ∧ MRep K μ m H a q ∧ m a = none ∧ a ∉ μ ∧ B.H a = none
def tIR (K : Fg) (W : WX) (f : M Rs) : TE := fun σ H Q => ∃ B m μ env st, Rel K B m μ env st σ H ∧ Post K B W σ env m μ (pR K B env σ) Q (f env st)
abbrev IR (X : Cx) (W : WX) (e : Expr) (f : M Rs) : Prop := PE X e (tIR X.K W f)
def eFrz (f : M Rs) : M D := fun env st => (f env st).bind fun r st => .ok r.d st
theorem ie_frz {X : Cx} {W : WX} {e : Expr} {f : M Rs} (h : IR X W e f) : IE X W e (eFrz f) := pe_imp h fun σ H Q ⟨B, m, μ, env, st, R, k⟩ => by
  refine ⟨B, m, μ, env, st, R, k.split fun r st1 v m1 μ1 H1 u R1 r1 k1 => ?_⟩
  cases r with
  | v d => exact k1.now R1 r1
  | o q =>
    obtain ⟨a, rfl, q1, q2, q3, q4, q5⟩ := r1
    cases q with
    | lst xs =>
      obtain ⟨vs, h1, h2⟩ := q1
      have R2 := R1.fix h1 q2 q3 q5 q4
      have u2 : Up μ1 μ1 m1 (upd m1 a (.lst vs)) := ⟨fun _ _ e => e, fun b w e => by rw [upd_ne (fun z => by rw [z, q2] at e; cases e)]; exact e⟩
      exact k1 _ _ _ _ u2 R2 ⟨a, vs, rfl, upd_same, Reps.up u2 _ h2⟩
    | dic xs =>
      obtain ⟨vs, h1, h2⟩ := q1
      have R2 := R1.fix h1 q2 q3 q5 q4
      have u2 : Up μ1 μ1 m1 (upd m1 a (.dK vs)) := ⟨fun _ _ e => e, fun b w e => by rw [upd_ne (fun z => by rw [z, q2] at e; cases e)]; exact e⟩
      exact k1 _ _ _ _ u2 R2 ⟨a, vs, rfl, upd_same, RepK.up u2 _ h2⟩
    | ins C xs =>
      obtain ⟨dx, vs, h1, h2⟩ := q1
      have R2 := R1.fix h1 q2 q3 q5 q4
      have u2 : Up μ1 μ1 m1 (upd m1 a (.ins C dx vs)) := ⟨fun _ _ e => e, fun b w e => by rw [upd_ne (fun z => by rw [z, q2] at e; cases e)]; exact e⟩
      exact k1 _ _ _ _ u2 R2 ⟨a, dx, vs, rfl, upd_same, RepF.up u2 _ h2⟩
def eRet (f : M D) : M Rs := fun env st => (f env st).bind fun d st => .ok (.v d) st
theorem ir_of {X : Cx} {W : WX} {e : Expr} {f : M D} (h : IE X W e f) : IR X W e (eRet f) := pe_imp h fun σ H Q ⟨B, m, μ, env, st, R, k⟩ =>
  ⟨B, m, μ, env, st, R, k.split fun d st1 v m1 μ1 H1 u R1 r1 k1 => k1.now R1 r1⟩
/-- a list display, kept apart -/
def gLstO (ds : List D) : Option Rs := if ds.length ≤ sizeLine then some (.o (.lst ds)) else none
def eAR (f : M (List D)) (g : List D → Option Rs) : M Rs := fun env st => (f env st).bind fun d st => Out.of (g d) st
theorem ir_lst {X : Cx} {W : WX} {es : List Expr} {fs : M (List D)} {pos : Pos} (hs : IA X W es fs) : IR X W (.List es pos) (eAR fs gLstO) := pe_imp (pe_lst hs) fun σ H Q ⟨B, m, μ, env, st, R, k⟩ => by
  refine ⟨B, m, μ, env, st, R, k.split fun ds st1 vs m1 μ1 H1 u R1 r k1 => ?_⟩
  unfold gLstO at k1
  split at k1
  · rename_i hz
    refine ⟨by rw [← Reps.length r]; exact hz, fun p hp => ?_⟩
    obtain ⟨h1, h2, h3, h4⟩ := R1.fresh hp
    exact k1 _ _ _ _ Up.refl (R1.alloc hp) ⟨p, rfl, ⟨vs, upd_same, r⟩, h1, h2, h4, h3⟩
  · exact k1.elim

/-! ### functions -/
abbrev Fn := List D → List MO → Out Rs
/-- what a def promises: F of its arguments -/
def spI (K : Fg) (n : Nat) (F : Fn) : Sp := fun vs H Q E => vs.length = n ∧ ∃ m μ st ds, Rel K ⟨m, μ, H⟩ m μ [] st [] H ∧ Reps K μ m ds vs ∧
  Post K ⟨m, μ, H⟩ (fun c d _ H => E c d H) [] [] m μ (pR K ⟨m, μ, H⟩ [] []) Q (F ds st)
abbrev FnI (P : Program) (w : World) (K : Fg) (mg : Str → Option Value) (base : Heap) (k : Nat) (f : Addr) (fd : FuncData) (ps : List Str) (F : Fn) : Prop :=
  FnOk P w K mg base (L2.CX P w) k f fd ps (spI K ps.length F)
/-- the arguments are so many -/
def ALen (fs : M (List D)) (n : Nat) : Prop := ∀ env st ds st', fs env st = .ok ds st' → ds.length = n
theorem Out.bind_ok {α β : Type} {x : Out α} {f : α → List MO → Out β} {b : β} {st : List MO} (h : x.bind f = .ok b st) : ∃ a st1, x = .ok a st1 ∧ f a st1 = .ok b st := by
  cases x with
  | ok a st1 => exact ⟨a, st1, rfl, h⟩
  | exc => cases h
  | bad => cases h
theorem al_nil : ALen aNil 0 := fun _ _ _ _ h => by cases h; rfl
theorem al_cons {f : M D} {g : M (List D)} {n : Nat} (h : ALen g n) : ALen (aCons f g) (n + 1) := fun env st ds st' e => by
  obtain ⟨d, st1, e1, e2⟩ := Out.bind_ok e
  obtain ⟨ds1, st2, e3, e4⟩ := Out.bind_ok e2
  cases e4
  rw [List.length_cons, h _ _ _ _ e3]
def eCall (fs : M (List D)) (F : Fn) : M Rs := fun env st => (fs env st).bind F
/-- behind a call -/
theorem post_call {K : Fg} {B : Bs} {W : WX} {σ : L2.St} {env : En} {m : Hp} {μ : List Addr} {st : List MO} {H : Hp} {Q : VK} {o : Out Rs} (R : Rel K B m μ env st σ H)
    (h : Post K B W σ env m μ (pR K B env σ) Q o) : Post K ⟨m, μ, H⟩ (fun c d _ H => W c d σ H) [] [] m μ (pR K ⟨m, μ, H⟩ [] []) Q o := by
  cases o with
  | ok r st' =>
    intro v m' μ' H' u S p
    refine h v m' μ' H' u (R.call S) ?_
    cases r with
    | v d => exact p
    | o q =>
      obtain ⟨a, e, q1, q2, q3, q4, _⟩ := p
      have q4 : H a = none := q4
      exact ⟨a, e, q1, q2, q3, R.freshB q4, (R.fresh q4).2.2.1⟩
  | exc c fs st' =>
    intro dx m' μ' H' u S p
    exact h dx m' μ' H' u (R.call S) p
  | bad => exact h
section
variable {X : Cx} {W : WX} {e : Expr} {es : List Expr} {fs : M (List D)} {F : Fn} {k : Nat} {f : Addr} {fd : FuncData} {ps : List Str} {x : Str} {p pos : Pos}
theorem ir_call (G : FnI X.prog X.w X.K X.mg X.base k f fd ps F) (hr : Room k X.A) (hg : Gl X x) (hm : X.mg x = some (.ref f)) (hk : PySem.W.keepIn X.K (.ref f) = true) (hb : Binds X.K fd ps []) (tk : Takes X W) (ha : IA X W (e :: es) fs) (hl : ALen fs ps.length)
    (hdb : (x == ("__debug__" : Str)) = false := by decide) (he : starEach (e :: es) X.env = (false, eval e X.env) :: starEach es X.env := by rfl) (hpl : (backTo pos (starEach es X.env)).any (·.1) = false := by rfl) :
    IR X W (.Call (.Name x p) (e :: es) [] pos) (eCall fs F) :=
  pe_imp (pe_callS G hr hg hm hk hb (fun σ => passAt tk σ) ha hdb he hpl) fun σ H Q ⟨B, m, μ, env, st, R, k⟩ => by
    refine ⟨B, m, μ, env, st, R, ?_⟩
    unfold eCall at k
    cases q : fs env st with
    | bad => rw [q] at k; exact k.elim
    | exc c fs st1 => rw [q] at k; exact k
    | ok ds st1 =>
      rw [q] at k
      intro vs m1 μ1 H1 u R1 r
      exact ⟨by rw [← Reps.length r]; exact hl env st ds st1 q, m1, μ1, st1, ds, R1.enter, r, post_call R1 (Post.later u k)⟩
end

/-! ### statements -/
inductive SO where
  | nx (env : En) (st : List MO) | rt (r : Rs) (st : List MO) | bk (env : En) (st : List MO) | ct (env : En) (st : List MO) | exc (c : Value) (fs : List (Str × D)) (env : En) (st : List MO) | bad
abbrev S := En → List MO → SO
/-- an expression, then a statement's end -/
def Out.bindS {α : Type} : Out α → En → (α → List MO → SO) → SO
  | .ok a st, _, f => f a st
  | .exc c fs st, env, _ => .exc c fs env st
  | .bad, _, _ => .bad
def SO.seq : SO → S → SO
  | .nx env st, f => f env st
  | o, _ => o
def SPost (K : Fg) (B : Bs) (W : WX) (m : Hp) (μ : List Addr) (D : Ends) : SO → Prop
  | .nx env st => ∀ σ m' μ' H', Up μ μ' m m' → Rel K B m' μ' env st σ H' → D.nx σ H'
  | .bk env st => ∀ σ m' μ' H', Up μ μ' m m' → Rel K B m' μ' env st σ H' → D.bk σ H'
  | .ct env st => ∀ σ m' μ' H', Up μ μ' m m' → Rel K B m' μ' env st σ H' → D.ct σ H'
  | .rt r st => ∀ v m' μ' H', Up μ μ' m m' → Rel K B m' μ' [] st [] H' → pX K B r v μ' m' H' → D.rt v H'
  | .exc c fs env st => ∀ dx σ m' μ' H', Up μ μ' m m' → Rel K B m' μ' env st σ H' → XdAt K μ' m' H' fs dx → W c dx σ H'
  | .bad => False
section
variable {K : Fg} {B : Bs} {W : WX} {σ : L2.St} {env : En} {st : List MO} {m m1 : Hp} {μ μ1 : List Addr} {D : Ends} {H : Hp}
theorem SPost.later (u : Up μ μ1 m m1) : ∀ {o : SO}, SPost K B W m μ D o → SPost K B W m1 μ1 D o
  | .nx _ _, h => fun σ m' μ' H' u' => h σ m' μ' H' (u.trans u')
  | .bk _ _, h => fun σ m' μ' H' u' => h σ m' μ' H' (u.trans u')
  | .ct _ _, h => fun σ m' μ' H' u' => h σ m' μ' H' (u.trans u')
  | .rt _ _, h => fun v m' μ' H' u' => h v m' μ' H' (u.trans u')
  | .exc _ _ _ _, h => fun dx σ m' μ' H' u' => h dx σ m' μ' H' (u.trans u')
  | .bad, h => h
theorem SPost.now (h : SPost K B W m μ D (.nx env st)) (R : Rel K B m μ env st σ H) : D.nx σ H := h σ m μ H Up.refl R
variable {α ρ : Type} {P : α → ρ → List Addr → Hp → Hp → Prop} {N : ρ → Hp → Prop}
theorem SPost.split {x : Out α} {f : α → List MO → SO} (h : SPost K B W m μ D (x.bindS env f))
    (k : ∀ b st1 r1 m1 μ1 H1, Up μ μ1 m m1 → Rel K B m1 μ1 env st1 σ H1 → P b r1 μ1 m1 H1 → SPost K B W m1 μ1 D (f b st1) → N r1 H1) : Post K B W σ env m μ P N x := by
  cases x with
  | ok b st1 => exact fun r1 m1 μ1 H1 u R p => k b st1 r1 m1 μ1 H1 u R p (SPost.later u h)
  | exc c fs st1 => exact fun dx m1 μ1 H1 u R p => h dx σ m1 μ1 H1 u R p
  | bad => exact h
end
def tIS (K : Fg) (W : WX) (b : S) : TS := fun D σ H => ∃ B m μ env st, Rel K B m μ env st σ H ∧ SPost K B W m μ D (b env st)
abbrev IS (X : Cx) (W : WX) (s : Stmt) (b : S) : Prop := PS X s (tIS X.K W b)
abbrev ISs (X : Cx) (W : WX) (s : List Stmt) (b : S) : Prop := PSs X s (tIS X.K W b)
theorem ps_imp {X : Cx} {s : Stmt} {t t' : TS} (h : PS X s t) (k : ∀ D σ H, t' D σ H → t D σ H) : PS X s t' := ⟨fun pins s σ H D I q => h.run pins s σ H D I (k D σ H q)⟩
theorem pss_imp {X : Cx} {s : List Stmt} {t t' : TS} (h : PSs X s t) (k : ∀ D σ H, t' D σ H → t D σ H) : PSs X s t' := ⟨fun pins s σ H D I q => h.run pins s σ H D I (k D σ H q)⟩
def sNil : S := fun env st => .nx env st
def sSeq (a b : S) : S := fun env st => (a env st).seq b
def sSet (i : Nat) (f : M D) : S := fun env st => (f env st).bindS env fun d st => .nx (env.set i (.val d)) st
def sSetO (i : Nat) (f : M Rs) : S := fun env st => (f env st).bindS env fun r st => match r with
  | .o q => .nx (env.set i (.own q)) st
  | .v d => .nx (env.set i (.val d)) st
def sIf (c : M Bool) (a b : S) : S := fun env st => (c env st).bindS env fun t st => if t then a env st else b env st
def sRet (f : M Rs) : S := fun env st => (f env st).bindS env fun r st => .rt r st
def sRetN : S := fun _ st => .rt (.v .non) st
/-- return x, x an object of its own -/
def sRetO (i : Nat) : S := fun env st => match env[i]? with
  | some (.own q) => .rt (.o q) st
  | some (.val d) => .rt (.v d) st
  | _ => .bad
def sExpr (f : M D) : S := fun env st => (f env st).bindS env fun _ st => .nx env st
def sPass : S := fun env st => .nx env st
def sBrk : S := fun env st => .bk env st
def sCt : S := fun env st => .ct env st
section
variable {K : Fg} {B : Bs} {σ : L2.St} {env : En} {st : List MO} {m : Hp} {μ : List Addr} {H : Hp} {i : Nat} {v : V}
theorem ownAt_set {s : Sl} {j : Nat} {a : Addr} (h : OwnAt (env.set i s) (σ.set i (some v)) j a) (ln : env.length = σ.length) : (j = i ∧ v = .ref a ∧ ∃ o, s = .own o) ∨ (j ≠ i ∧ OwnAt env σ j a) := by
  obtain ⟨o, e1, e2⟩ := h
  by_cases hj : j = i
  · subst hj
    have hl : j < env.length := by
      by_cases z : j < env.length
      · exact z
      · rw [List.getElem?_eq_none (by rw [List.length_set]; omega)] at e1; cases e1
    rw [List.getElem?_set_self hl] at e1
    rw [List.getElem?_set_self (by rw [← ln]; exact hl)] at e2
    cases e1; cases e2
    exact .inl ⟨rfl, rfl, o, rfl⟩
  · rw [List.getElem?_set_ne (Ne.symm hj)] at e1 e2
    exact .inr ⟨hj, o, e1, e2⟩
theorem get_set {α : Type} {l : List α} {x y : α} {j : Nat} (h : (l.set i x)[j]? = some y) : (j = i ∧ y = x ∧ i < l.length) ∨ (j ≠ i ∧ l[j]? = some y) := by
  by_cases hj : j = i
  · subst hj
    by_cases z : j < l.length
    · rw [List.getElem?_set_self z] at h; cases h; exact .inl ⟨rfl, rfl, z⟩
    · rw [List.getElem?_eq_none (by rw [List.length_set]; omega)] at h; cases h
  · rw [List.getElem?_set_ne (Ne.symm hj)] at h; exact .inr ⟨hj, h⟩
theorem Rel.setVal {d : D} (R : Rel K B m μ env st σ H) (r : Rep K μ m d v) : Rel K B m μ (env.set i (.val d)) st (σ.set i (some v)) H := by
  refine ⟨R.sub, R.sto, R.len, R.nd, R.out, by rw [List.length_set, List.length_set, R.ln], fun j e h => ?_, fun j o h => ?_, fun j k a h1 h2 => ?_, R.up, R.fr, R.nw, R.mn⟩
  · rcases get_set h with ⟨rfl, e1, hl⟩ | ⟨hj, e1⟩
    · cases e1; exact ⟨v, List.getElem?_set_self (by rw [← R.ln]; exact hl), r⟩
    · obtain ⟨w, e2, r2⟩ := R.val j e e1
      exact ⟨w, by rw [List.getElem?_set_ne (Ne.symm hj)]; exact e2, r2⟩
  · rcases get_set h with ⟨rfl, e1, hl⟩ | ⟨hj, e1⟩
    · cases e1
    · obtain ⟨w, e2, r2⟩ := R.own j o e1
      exact ⟨w, by rw [List.getElem?_set_ne (Ne.symm hj)]; exact e2, r2⟩
  · rcases ownAt_set h1 R.ln with ⟨_, _, o, e⟩ | ⟨n1, q1⟩
    · cases e
    · rcases ownAt_set h2 R.ln with ⟨_, _, o, e⟩ | ⟨n2, q2⟩
      · cases e
      · exact R.ow j k a q1 q2
theorem Rel.setOwn {o : MO} {a : Addr} (R : Rel K B m μ env st σ H) (q : MRep K μ m H a o) (h1 : m a = none) (h2 : a ∉ μ) (h3 : B.H a = none) (h4 : ∀ j, j ≠ i → ¬ OwnAt env σ j a) : Rel K B m μ (env.set i (.own o)) st (σ.set i (some (.ref a))) H := by
  refine ⟨R.sub, R.sto, R.len, R.nd, R.out, by rw [List.length_set, List.length_set, R.ln], fun j e h => ?_, fun j o' h => ?_, fun j k b g1 g2 => ?_, R.up, R.fr, R.nw, R.mn⟩
  · rcases get_set h with ⟨rfl, e1, hl⟩ | ⟨hj, e1⟩
    · cases e1
    · obtain ⟨w, e2, r2⟩ := R.val j e e1
      exact ⟨w, by rw [List.getElem?_set_ne (Ne.symm hj)]; exact e2, r2⟩
  · rcases get_set h with ⟨rfl, e1, hl⟩ | ⟨hj, e1⟩
    · cases e1; exact ⟨a, List.getElem?_set_self (by rw [← R.ln]; exact hl), q, h1, h2, h3⟩
    · obtain ⟨w, e2, r2⟩ := R.own j o' e1
      exact ⟨w, by rw [List.getElem?_set_ne (Ne.symm hj)]; exact e2, r2⟩
  · rcases ownAt_set g1 R.ln with ⟨rfl, e, _⟩ | ⟨n1, q1⟩
    · rcases ownAt_set g2 R.ln with ⟨rfl, _, _⟩ | ⟨n2, q2⟩
      · rfl
      · cases e; exact (h4 k n2 q2).elim
    · rcases ownAt_set g2 R.ln with ⟨rfl, e, _⟩ | ⟨n2, q2⟩
      · cases e; exact (h4 j n1 q1).elim
      · exact R.ow j k b q1 q2
end
section
variable {X : Cx} {W : WX} {e c : Expr} {s : Stmt} {ss : List Stmt} {f : M D} {fr : M Rs} {p : M Bool} {a b : S} {pos pos' : Pos} {i : Nat} {x : Str}
theorem is_nil : ISs X W [] sNil := pss_imp pss_nil fun D σ H ⟨B, m, μ, env, st, R, k⟩ => k.now R
theorem is_cons (h1 : IS X W s a) (h2 : ISs X W ss b) : ISs X W (s :: ss) (sSeq a b) := pss_imp (pss_cons h1 h2) fun D σ H ⟨B, m, μ, env, st, R, k⟩ => by
  refine ⟨B, m, μ, env, st, R, ?_⟩
  unfold sSeq at k
  cases q : a env st with
  | nx env1 st1 => rw [q] at k; exact fun σ1 m1 μ1 H1 u R1 => ⟨B, m1, μ1, env1, st1, R1, SPost.later u k⟩
  | _ => rw [q] at k; exact k
theorem is_one (h1 : IS X W s a) : ISs X W [s] a := pss_one h1
theorem is_set (hN : X.N.Nodup) (hi : X.N[i]? = some x) (hx : Loc X.env.scope x) (he : IE X W e f) (hs : swapsWith e (some (.Name x pos')) pos.line X.env = pure false := by rfl) (hf : X.fn x = true ∨ X.env.scope.names.lookup x = some .local := by first | exact .inl rfl | exact .inr rfl | assumption) :
    IS X W (.Assign [.Name x pos'] e pos) (sSet i f) := ps_imp (ps_set hN hi hx he hs hf) fun D σ H ⟨B, m, μ, env, st, R, k⟩ =>
  ⟨B, m, μ, env, st, R, k.split fun d st1 v m1 μ1 H1 u R1 r k1 => k1.now (R1.setVal r)⟩
theorem is_setO (hN : X.N.Nodup) (hi : X.N[i]? = some x) (hx : Loc X.env.scope x) (he : IR X W e fr) (hs : swapsWith e (some (.Name x pos')) pos.line X.env = pure false := by rfl) (hf : X.fn x = true ∨ X.env.scope.names.lookup x = some .local := by first | exact .inl rfl | exact .inr rfl | assumption) :
    IS X W (.Assign [.Name x pos'] e pos) (sSetO i fr) := ps_imp (ps_set hN hi hx he hs hf) fun D σ H ⟨B, m, μ, env, st, R, k⟩ =>
  ⟨B, m, μ, env, st, R, k.split fun r st1 v m1 μ1 H1 u R1 p k1 => by
    cases r with
    | v d => exact k1.now (R1.setVal p)
    | o q =>
      obtain ⟨a, rfl, q1, q2, q3, q4, q5⟩ := p
      exact k1.now (R1.setOwn q1 q2 q3 q4 fun j _ => q5 j)⟩
theorem is_if (hc : IT X W c p) (ha : ISs X W ss a) {ss' : List Stmt} (hb : ISs X W ss' b) : IS X W (.If c ss ss' pos) (sIf p a b) := ps_imp (ps_if hc ha hb) fun D σ H ⟨B, m, μ, env, st, R, k⟩ =>
  ⟨B, m, μ, env, st, R, k.split fun t st1 v m1 μ1 H1 u R1 r k1 => by
    cases r
    cases t with
    | true => exact ⟨B, m1, μ1, env, st1, R1, k1⟩
    | false => exact ⟨B, m1, μ1, env, st1, R1, k1⟩⟩
theorem is_ret (he : IR X W e fr) : IS X W (.Return (some e) pos) (sRet fr) := ps_imp (ps_ret he) fun D σ H ⟨B, m, μ, env, st, R, k⟩ =>
  ⟨B, m, μ, env, st, R, k.split fun r st1 v m1 μ1 H1 u R1 p k1 => k1 v m1 μ1 H1 Up.refl R1.drop (by
    cases r with
    | v d => exact p
    | o q =>
      obtain ⟨a, e, q1, q2, q3, q4, q5⟩ := p
      exact ⟨a, e, q1, q2, q3, q4⟩)⟩
theorem is_retN : IS X W (.Return none pos) sRetN := ps_imp ps_retN fun D σ H ⟨B, m, μ, env, st, R, k⟩ => k _ m μ H Up.refl R.drop rfl
theorem is_retO (hv : PE X e (tVar i)) : IS X W (.Return (some e) pos) (sRetO i) := ps_imp (ps_ret hv) fun D σ H ⟨B, m, μ, env, st, R, k⟩ => by
  unfold sRetO at k
  split at k
  · rename_i o q
    obtain ⟨a, e1, q1, q2, q3, q4⟩ := R.own i o q
    exact ⟨.ref a, e1, k _ m μ H Up.refl R.drop ⟨a, rfl, q1, q2, q3, q4⟩⟩
  · rename_i d q
    obtain ⟨v, e1, r⟩ := R.val i d q
    exact ⟨v, e1, k v m μ H Up.refl R.drop r⟩
  · exact k.elim
theorem is_expr (he : IE X W e f) (hs : swapsWith e none pos.line X.env = pure false := by rfl) : IS X W (.Expr e pos) (sExpr f) := ps_imp (ps_expr he hs) fun D σ H ⟨B, m, μ, env, st, R, k⟩ =>
  ⟨B, m, μ, env, st, R, k.split fun d st1 v m1 μ1 H1 u R1 r k1 => k1.now R1⟩
theorem is_pass : IS X W (.Pass pos) sPass := ps_imp ps_pass fun D σ H ⟨B, m, μ, env, st, R, k⟩ => k.now R
theorem is_brk : IS X W (.Break pos) sBrk := ps_imp ps_break fun D σ H ⟨B, m, μ, env, st, R, k⟩ => k σ m μ H Up.refl R
theorem is_ct : IS X W (.Continue pos) sCt := ps_imp ps_continue fun D σ H ⟨B, m, μ, env, st, R, k⟩ => k σ m μ H Up.refl R
end
end SK
end
section
set_option Elab.async false
set_option linter.all false
set_option autoImplicit false
set_option maxRecDepth 100000
set_option maxHeartbeats 1000000
namespace SK
open PySem PySem.Spec PyProof.Rows L2

/-! ### a def's body -/
def runF (n : Nat) (b : S) : Fn := fun ds st => match b (ds.map Sl.val ++ List.replicate (n - ds.length) Sl.no) st with
  | .nx _ st => .ok (.v .non) st
  | .rt r st => .ok r st
  | .exc c fs _ st => .exc c fs st
  | _ => .bad
theorem get_app {α : Type} {l k : List α} {i : Nat} {x : α} (h : (l ++ k)[i]? = some x) : l[i]? = some x ∨ x ∈ k := by
  by_cases hi : i < l.length
  · rw [List.getElem?_append_left hi] at h; exact .inl h
  · rw [List.getElem?_append_right (Nat.le_of_not_lt hi)] at h; exact .inr (List.mem_of_getElem? h)
theorem Rel.start {K : Fg} {B : Bs} {m : Hp} {μ : List Addr} {st : List MO} {H : Hp} {ds : List D} {vs : List V} {N : List Str} (R : Rel K B m μ [] st [] H) (r : Reps K μ m ds vs) :
    Rel K B m μ (ds.map Sl.val ++ List.replicate (N.length - ds.length) Sl.no) st (start N vs) H := by
  have no : ∀ (i : Nat) o, (ds.map Sl.val ++ List.replicate (N.length - ds.length) Sl.no)[i]? ≠ some (.own o) := fun i o h => by
    rcases get_app h with h | h
    · rw [List.getElem?_map] at h
      cases q : ds[i]? with
      | none => rw [q] at h; cases h
      | some d => rw [q] at h; cases h
    · have := (List.mem_replicate.mp h).2; cases this
  refine ⟨R.sub, R.sto, R.len, R.nd, R.out, ?_, fun i d h => ?_, fun i o h => (no i o h).elim, fun i j a ⟨o, h, _⟩ => (no i o h).elim, R.up, R.fr, R.nw, R.mn⟩
  · unfold L2.start
    rw [List.length_append, List.length_append, List.length_map, List.length_map, List.length_replicate, List.length_replicate, r.length]
  · rcases get_app h with h | h
    · rw [List.getElem?_map] at h
      cases q : ds[i]? with
      | none => rw [q] at h; cases h
      | some d' =>
        rw [q] at h; cases h
        obtain ⟨v, h1, h2⟩ := r.get q
        refine ⟨v, ?_, h2⟩
        unfold L2.start
        rw [List.getElem?_append_left (by rw [List.length_map]; exact (List.getElem?_eq_some_iff.mp h1).1), List.getElem?_map, h1]
        rfl
    · have := (List.mem_replicate.mp h).2; cases this
theorem fn_I {P : Program} {w : World} {K : Fg} {mg : Str → Option Value} {base : Heap} {x qual : Str} {params : Arguments} {body : List Stmt} {scope : Scope} {dvs : List V} {kws : List (Str × V)} {f : Addr} {fd : FuncData} {N ps : List Str} {k : Nat}
    (F : FunD K x qual params body scope dvs kws f fd) (Sc : FnScope N ps scope) (b : S)
    (hb : ∀ (cdv : Value) (A : Around) (outer : List Env) (s : Shared) (H : Hp) (E : XK), Room k (A.deeper (envOfC qual scope s.heap.objs.size f cdv)) →
      ISs (cxOf (L2.CX P w) P w K mg base N qual scope f cdv A outer s H E) (fun c d _ H => E c d H) body b) : FnI P w K mg base (k + 1) f fd ps (runF N.length b) := by
  refine F.ok Sc (fun vs H Q E h => h.1) (fun cdv A outer s H vs Q E hr hsp => ⟨_, hb cdv A outer s H E hr, ?_⟩)
  obtain ⟨hl, m, μ, st, ds, R, r, post⟩ := hsp
  refine ⟨_, m, μ, _, st, R.start (N := N) r, ?_⟩
  unfold runF at post
  cases q : b (ds.map Sl.val ++ List.replicate (N.length - ds.length) Sl.no) st with
  | nx env1 st1 => rw [q] at post; exact fun σ m' μ' H' u R' => post _ m' μ' H' u R'.drop rfl
  | rt r1 st1 =>
    rw [q] at post
    intro v m' μ' H' u R' p
    refine post v m' μ' H' u R' ?_
    cases r1 with
    | v d => exact p
    | o o =>
      obtain ⟨a, e, q1, q2, q3, q4⟩ := p
      exact ⟨a, e, q1, q2, q3, q4, fun i ⟨o, z, _⟩ => by simp at z⟩
  | exc c fs env1 st1 => rw [q] at post; exact fun dx σ m' μ' H' u R' p => post dx m' μ' H' u R'.drop p
  | bk => rw [q] at post; exact post.elim
  | ct => rw [q] at post; exact post.elim
  | bad => rw [q] at post; exact post.elim

/-! ### targets -/
abbrev Tg := D → En → Option En
def tgN (i : Nat) : Tg := fun d env => some (env.set i (.val d))
def tgs : List Tg → List D → En → Option En
  | [], [], env => some env
  | t :: ts, d :: ds, env => (t d env).bind fun e => tgs ts ds e
  | _, _, _ => none
def tgT (n : Nat) (ts : List Tg) : Tg := fun d env => match d with
  | .tup ds => if ds.length = n then tgs ts ds env else none
  | _ => none
/-- slots of sl alone are written -/
def Only (sl : List Nat) (σ σ' : L2.St) : Prop := σ'.length = σ.length ∧ ∀ j, j ∉ sl → σ'[j]? = σ[j]?
theorem Only.refl {sl : List Nat} {σ : L2.St} : Only sl σ σ := ⟨rfl, fun _ _ => rfl⟩
theorem Only.set {i : Nat} {σ : L2.St} {v : Option V} : Only [i] σ (σ.set i v) := ⟨List.length_set, fun j h => List.getElem?_set_ne (fun e => h (by simp [e]))⟩
theorem Only.trans {a b : List Nat} {σ σ1 σ2 : L2.St} (h : Only a σ σ1) (k : Only b σ1 σ2) : Only (a ++ b) σ σ2 := ⟨k.1.trans h.1, fun j hj => (k.2 j fun z => hj (List.mem_append_right _ z)).trans (h.2 j fun z => hj (List.mem_append_left _ z))⟩
def tIG (K : Fg) (t : Tg) (sl : List Nat) : TG := fun v σ H Q => ∃ B m μ env st d env', Rel K B m μ env st σ H ∧ Rep K μ m d v ∧ t d env = some env' ∧ ∀ σ', Rel K B m μ env' st σ' H → Only sl σ σ' → Q σ' H
def tIGs (K : Fg) (t : List Tg) (sl : List Nat) : TGs := fun v σ H Q => ∃ B m μ env st d env', Rel K B m μ env st σ H ∧ Reps K μ m d v ∧ tgs t d env = some env' ∧ ∀ σ', Rel K B m μ env' st σ' H → Only sl σ σ' → Q σ' H
abbrev IG (X : Cx) (e : Expr) (t : Tg) (sl : List Nat) : Prop := PG X e (tIG X.K t sl)
abbrev IGs (X : Cx) (e : List Expr) (t : List Tg) (sl : List Nat) : Prop := PGs X e (tIGs X.K t sl)
section
variable {X : Cx} {e : Expr} {es : List Expr} {t : Tg} {ts : List Tg} {pos : Pos} {sl sl' : List Nat}
theorem pg_imp {t t' : TG} (h : PG X e t) (k : ∀ v σ H Q, t' v σ H Q → t v σ H Q) : PG X e t' := ⟨fun pins s σ H v u Q I r q => h.run pins s σ H v u Q I r (k v σ H Q q)⟩
theorem pgs_imp {t t' : TGs} (h : PGs X es t) (k : ∀ v σ H Q, t' v σ H Q → t v σ H Q) : PGs X es t' := ⟨fun pins s σ H v u Q I r q => h.run pins s σ H v u Q I r (k v σ H Q q)⟩
theorem ig_name {i : Nat} {x : Str} (hN : X.N.Nodup) (hi : X.N[i]? = some x) (hx : Loc X.env.scope x) (hf : X.fn x = true ∨ X.env.scope.names.lookup x = some .local := by first | exact .inl rfl | exact .inr rfl | assumption) : IG X (.Name x pos) (tgN i) [i] :=
  pg_imp (pg_name hN hi hx hf) fun v σ H Q ⟨B, m, μ, env, st, d, env', R, r, e, k⟩ => by cases e; exact k _ (R.setVal r) Only.set
theorem igs_nil : IGs X [] [] [] := pgs_imp pgs_nil fun v σ H Q ⟨B, m, μ, env, st, d, env', R, r, e, k⟩ => by
  cases d with
  | nil => rw [show v = [] from r]; cases e; exact ⟨rfl, k σ R Only.refl⟩
  | cons => cases e
theorem igs_cons (h1 : IG X e t sl) (h2 : IGs X es ts sl') (hs : (assignEach (e :: es) X.env).map (·.2) = assign e X.env :: (assignEach es X.env).map (·.2) := by rfl) : IGs X (e :: es) (t :: ts) (sl ++ sl') :=
  pgs_imp (pgs_cons h1 h2 hs) fun v σ H Q ⟨B, m, μ, env, st, d, env', R, r, e, k⟩ => by
    cases d with
    | nil => cases e
    | cons d ds =>
      obtain ⟨w, ws, rfl, r1, r2⟩ := r
      obtain ⟨env1, e1, e2⟩ := Option.bind_eq_some_iff.mp (show (t d env).bind (fun e => tgs ts ds e) = some env' from e)
      exact ⟨w, ws, rfl, B, m, μ, env, st, d, env1, R, r1, e1, fun σ1 R1 o1 => ⟨B, m, μ, env1, st, ds, env', R1, r2, e2, fun σ2 R2 o2 => k σ2 R2 (o1.trans o2)⟩⟩
theorem ig_tup {n j : Nat} (hc : X.calm = true) (h : IGs X es ts sl) (hn : (assignEach es X.env).length = n := by rfl) (hst : (assignEach es X.env).findIdx? (·.1) = none := by rfl) : IG X (.Tuple es j pos) (tgT n ts) sl :=
  pg_imp (pg_tup hc h hn hst) fun v σ H Q ⟨B, m, μ, env, st, d, env', R, r, e, k⟩ => by
    cases d with
    | tup ds =>
      simp only [tgT] at e
      split at e
      · rename_i hl
        obtain ⟨a, vs, rfl, ha, ra⟩ := r
        exact ⟨a, vs, rfl, R.sub.sqT ha, by rw [← ra.length]; exact hl, B, m, μ, env, st, ds, env', R, ra, e, k⟩
      · cases e
    | _ => cases e
def sAsg (f : M D) (t : Tg) : S := fun env st => (f env st).bindS env fun d st => match t d env with
  | some env' => .nx env' st
  | none => .bad
theorem is_asg {W : WX} {f : M D} {e2 : Expr} (he : IE X W e2 f) (hg : IG X e t sl) (hs : swapsWithSole [e] e2 pos.line X.env = pure false := by rfl) (hw : swappedStores [e] e2 X.env = pure none := by rfl)
    (h1 : (assignEach [e] X.env).map (·.2) = [assign e X.env] := by rfl) : IS X W (.Assign [e] e2 pos) (sAsg f t) := ps_imp (ps_asg he hg hs hw h1) fun D σ H ⟨B, m, μ, env, st, R, k⟩ =>
  ⟨B, m, μ, env, st, R, k.split fun d st1 v m1 μ1 H1 u R1 r k1 => by
    cases q : t d env with
    | none => rw [q] at k1; exact k1.elim
    | some env' => rw [q] at k1; exact ⟨B, m1, μ1, env, st1, d, env', R1, r, q, fun σ' R' _ => k1.now R'⟩⟩
end

/-! ### what is walked -/
structure Wk (K : Fg) (J : It) (ds : List D) (μ0 : List Addr) (m0 : Hp) : Prop where
  go : ∀ i, i < ds.length → ∀ B m μ env st σ H, Up μ0 μ m0 m → Rel K B m μ env st σ H → J.go i H
  yld : ∀ (i : Nat) d, ds[i]? = some d → ∀ B m μ env st σ H x H', Up μ0 μ m0 m → Rel K B m μ env st σ H → J.yld i H x H' → ∃ m', Up μ μ m m' ∧ Rel K B m' μ env st σ H' ∧ Rep K μ m' d x ∧ (∀ b o, H b = some o → H' b = some o) ∧ (∀ b o, m' b = some o → m b = some o ∨ H b = none)
  stop : ∀ B m μ env st σ H, Up μ0 μ m0 m → Rel K B m μ env st σ H → J.stop ds.length H
abbrev pW (K : Fg) : List D → It → List Addr → Hp → Hp → Prop := fun ds J μ m _ => Wk K J ds μ m
def tII (K : Fg) (W : WX) (f : M (List D)) : TI := fun σ H R => ∃ B m μ env st, Rel K B m μ env st σ H ∧ Post K B W σ env m μ (pW K) R (f env st)
abbrev II (X : Cx) (W : WX) (tg e : Expr) (f : M (List D)) : Prop := PI X tg e (tII X.K W f)
section
variable {X : Cx} {W : WX} {tg e : Expr} {f : M D} {fs : M (List D)} {pos p : Pos}
theorem pi_imp {t t' : TI} (h : PI X tg e t) (k : ∀ σ H Q, t' σ H Q → t σ H Q) : PI X tg e t' := ⟨fun pins s σ H R I q => h.run pins s σ H R I (k σ H R q)⟩
/-- the items of what is walked -/
def wLst (f : M D) : M (List D) := fun env st => (f env st).bind fun d st => match d with
  | .lst xs => .ok xs st
  | _ => .bad
def wTup (f : M D) : M (List D) := fun env st => (f env st).bind fun d st => match d with
  | .tup xs => .ok xs st
  | _ => .bad
def wStr (f : M D) : M (List D) := fun env st => (f env st).bind fun d st => match d with
  | .str x => .ok (x.cps.toList.map fun c => .str ⟨#[c]⟩) st
  | _ => .bad
theorem wk_lst {K : Fg} {μ : List Addr} {m : Hp} {a : Addr} {xs : List D} {vs : List V} (h : m a = some (.lst vs)) (r : Reps K μ m xs vs) : Wk K (Itl K a) xs μ m where
  go := fun i hi B m1 μ1 env st σ H u R => by
    obtain ⟨v, h1, _⟩ := r.get (List.getElem?_eq_getElem hi)
    exact ⟨vs, v, .of (sub_lst R.sub (u.hp _ _ h)), h1⟩
  yld := fun i d e B m1 μ1 env st σ H x H' u R ⟨e1, k⟩ => by
    subst e1
    obtain ⟨v, h1, h2⟩ := r.get e
    have := k vs (.of (sub_lst R.sub (u.hp _ _ h)))
    rw [h1] at this; cases this
    exact ⟨m1, Up.refl, R, Rep.up u _ h2, fun _ _ z => z, fun _ _ z => .inl z⟩
  stop := fun B m1 μ1 env st σ H u R => ⟨vs, .of (sub_lst R.sub (u.hp _ _ h)), by rw [r.length]; exact Nat.le_refl _⟩
theorem wk_tup {K : Fg} {μ : List Addr} {m : Hp} {a : Addr} {xs : List D} {vs : List V} (h : SqT K m a vs) (r : Reps K μ m xs vs) : Wk K (Itt K a) xs μ m where
  go := fun i hi B m1 μ1 env st σ H u R => by
    obtain ⟨v, h1, _⟩ := r.get (List.getElem?_eq_getElem hi)
    exact ⟨vs, v, R.sub.sqT (sqT_up u.hp h), h1⟩
  yld := fun i d e B m1 μ1 env st σ H x H' u R ⟨e1, k⟩ => by
    subst e1
    obtain ⟨v, h1, h2⟩ := r.get e
    have := k vs (R.sub.sqT (sqT_up u.hp h))
    rw [h1] at this; cases this
    exact ⟨m1, Up.refl, R, Rep.up u _ h2, fun _ _ z => z, fun _ _ z => .inl z⟩
  stop := fun B m1 μ1 env st σ H u R => ⟨vs, R.sub.sqT (sqT_up u.hp h), by rw [r.length]; exact Nat.le_refl _⟩
theorem wk_str {K : Fg} {μ : List Addr} {m : Hp} {x : Str} : Wk K (Its x) (x.cps.toList.map fun c => D.str ⟨#[c]⟩) μ m where
  go := fun i hi B m1 μ1 env st σ H u R => by
    rw [List.length_map, Array.length_toList] at hi
    exact hi
  yld := fun i d e B m1 μ1 env st σ H y H' u R ⟨e1, c, k1, k2⟩ => by
    subst e1; subst k2
    refine ⟨m1, Up.refl, R, ?_, fun _ _ z => z, fun _ _ z => .inl z⟩
    rw [List.getElem?_map, Array.getElem?_toList, k1] at e
    cases e; rfl
  stop := fun B m1 μ1 env st σ H u R => by
    show x.cps.size ≤ _
    rw [List.length_map, Array.length_toList]
    exact Nat.le_refl _
theorem ii_lst (he : IE X W e f) : II X W tg e (wLst f) := pi_imp (pi_list he) fun σ H Q ⟨B, m, μ, env, st, R, k⟩ =>
  ⟨B, m, μ, env, st, R, k.split fun d st1 v m1 μ1 H1 u R1 r k1 => by
    cases d with
    | lst xs =>
      obtain ⟨a, vs, rfl, ha, ra⟩ := r
      exact ⟨a, rfl, ⟨vs, .of (sub_lst R1.sub ha)⟩, k1.now R1 (wk_lst ha ra)⟩
    | _ => exact k1.elim⟩
theorem ii_tup (he : IE X W e f) : II X W tg e (wTup f) := pi_imp (pi_tup he) fun σ H Q ⟨B, m, μ, env, st, R, k⟩ =>
  ⟨B, m, μ, env, st, R, k.split fun d st1 v m1 μ1 H1 u R1 r k1 => by
    cases d with
    | tup xs =>
      obtain ⟨a, vs, rfl, ha, ra⟩ := r
      exact ⟨a, rfl, ⟨vs, R1.sub.sqT ha⟩, k1.now R1 (wk_tup ha ra)⟩
    | _ => exact k1.elim⟩
theorem ii_str (he : IE X W e f) : II X W tg e (wStr f) := pi_imp (pi_str he) fun σ H Q ⟨B, m, μ, env, st, R, k⟩ =>
  ⟨B, m, μ, env, st, R, k.split fun d st1 v m1 μ1 H1 u R1 r k1 => by
    cases d with
    | str x => cases r; exact ⟨x, rfl, k1.now R1 wk_str⟩
    | _ => exact k1.elim⟩
end

/-! ### for -/
def forL (t : Tg) (body : S) : List D → S
  | [], env, st => .nx env st
  | d :: ds, env, st => match t d env with
    | none => .bad
    | some env1 => match body env1 st with
      | .nx env2 st2 => forL t body ds env2 st2
      | .ct env2 st2 => forL t body ds env2 st2
      | .bk env2 st2 => .nx env2 st2
      | o => o
def sFor (f : M (List D)) (t : Tg) (body : S) : S := fun env st => (f env st).bindS env fun ds st => forL t body ds env st
theorem SPost.fl {K : Fg} {B : Bs} {W : WX} {m : Hp} {μ : List Addr} {D : Ends} {N : L2.St → Hp → Prop} {o : SO} {g : S} (h : SPost K B W m μ D (match o with
      | .nx env2 st2 => g env2 st2
      | .ct env2 st2 => g env2 st2
      | .bk env2 st2 => .nx env2 st2
      | o => o)) (k : ∀ env st σ m' μ' H', Up μ μ' m m' → Rel K B m' μ' env st σ H' → SPost K B W m' μ' D (g env st) → N σ H') : SPost K B W m μ { D with nx := N, ct := N, bk := D.nx } o := by
  cases o with
  | nx env st => exact fun σ m' μ' H' u R => k env st σ m' μ' H' u R (SPost.later u h)
  | ct env st => exact fun σ m' μ' H' u R => k env st σ m' μ' H' u R (SPost.later u h)
  | bk env st => exact h
  | rt r st => exact h
  | exc c fs env st => exact h
  | bad => exact h
theorem is_for {X : Cx} {W : WX} {tg iter : Expr} {body : List Stmt} {f : M (List D)} {t : Tg} {b : S} {pos : Pos} (hp : PassesOwn (model X.prog X.w) X.A X.env X.xe) (hc : X.calm = true) (hi : II X W tg iter f) {sl : List Nat} (hg : IG X tg t sl) (hb : ISs X W body b)
    (hs : ∀ x, foldedSetIterable iter X.env x = pure x := by intro _; rfl) : IS X W (.For tg iter body [] pos) (sFor f t b) := ps_imp (ps_for hp hc hi hg hb hs) fun D σ H ⟨B, m, μ, env, st, R, k⟩ => by
  refine ⟨B, m, μ, env, st, R, k.split fun ds st1 J m1 μ1 H1 u R1 wk k1 => ?_⟩
  refine ⟨fun i n σ H => n = ds.length - i ∧ i ≤ ds.length ∧ ∃ m2 μ2 env2 st2, Up μ1 μ2 m1 m2 ∧ Rel X.K B m2 μ2 env2 st2 σ H ∧ SPost X.K B W m2 μ2 D (forL t b (ds.drop i) env2 st2), ⟨ds.length, rfl, Nat.zero_le _, m1, μ1, env, st1, Up.refl, R1, by rw [List.drop_zero]; exact k1⟩, ?_⟩
  rintro i n σ2 H2 ⟨rfl, hi, m2, μ2, env2, st2, u2, R2, k2⟩
  by_cases hlt : i < ds.length
  · refine .inr ⟨wk.go i hlt B m2 μ2 env2 st2 σ2 H2 u2 R2, fun σ3 H3 => ∃ m3 μ3 env3 st3, Up μ1 μ3 m1 m3 ∧ Rel X.K B m3 μ3 env3 st3 σ3 H3 ∧ SPost X.K B W m3 μ3 D (forL t b (ds.drop (i + 1)) env3 st3), fun σ3 H3 ⟨m3, μ3, env3, st3, u3, R3, k3⟩ => ⟨ds.length - (i + 1), by omega, rfl, hlt, m3, μ3, env3, st3, u3, R3, k3⟩, fun x H3 y => ?_⟩
    obtain ⟨m3, u3, R3, r3, _, _⟩ := wk.yld i _ (List.getElem?_eq_getElem hlt) B m2 μ2 env2 st2 σ2 H2 x H3 u2 R2 y
    rw [List.drop_eq_getElem_cons hlt] at k2
    unfold forL at k2
    cases q : t ds[i] env2 with
    | none => rw [q] at k2; exact k2.elim
    | some env3 =>
      rw [q] at k2
      refine ⟨B, m3, μ2, env2, st2, ds[i], env3, R3, r3, q, fun σ4 R4 _ => ⟨B, m3, μ2, env3, st2, R4, ?_⟩⟩
      exact (SPost.later u3 k2).fl fun env5 st5 σ5 m5 μ5 H5 u5 R5 k5 => ⟨m5, μ5, env5, st5, u2.trans (u3.trans u5), R5, k5⟩
  · have e : i = ds.length := by omega
    subst e
    rw [List.drop_length] at k2
    exact .inl ⟨wk.stop B m2 μ2 env2 st2 σ2 H2 u2 R2, k2.now R2⟩
end SK
end
section
set_option Elab.async false
set_option linter.all false
set_option autoImplicit false
set_option maxRecDepth 100000
set_option maxHeartbeats 1000000
namespace SK
open PySem PySem.Spec PyProof.Rows L2

/-! ### comprehensions -/
def Sl.hid : Sl → Sl
  | .own _ => .no
  | s => s
def wipeE : En → List Nat → En
  | env, [] => env
  | env, v :: vs => (wipeE env vs).set v .no
abbrev W0 : WX := fun _ _ _ _ => False
theorem wipeE_length (env : En) : ∀ vs, (wipeE env vs).length = env.length
  | [] => rfl
  | v :: vs => by unfold wipeE; rw [List.length_set, wipeE_length env vs]
theorem wipeE_val {env : En} {i : Nat} {d : D} : ∀ {vs : List Nat}, (wipeE env vs)[i]? = some (.val d) → env[i]? = some (.val d) ∧ i ∉ vs
  | [], h => ⟨h, by simp⟩
  | v :: vs, h => by
    unfold wipeE at h
    rcases get_set h with ⟨_, e, _⟩ | ⟨hv, e⟩
    · cases e
    · obtain ⟨h1, h2⟩ := wipeE_val e
      exact ⟨h1, by simp only [List.mem_cons, not_or]; exact ⟨hv, h2⟩⟩
theorem wipeE_own {env : En} {i : Nat} {o : MO} : ∀ {vs : List Nat}, (wipeE env vs)[i]? = some (.own o) → env[i]? = some (.own o) ∧ i ∉ vs
  | [], h => ⟨h, by simp⟩
  | v :: vs, h => by
    unfold wipeE at h
    rcases get_set h with ⟨_, e, _⟩ | ⟨hv, e⟩
    · cases e
    · obtain ⟨h1, h2⟩ := wipeE_own e
      exact ⟨h1, by simp only [List.mem_cons, not_or]; exact ⟨hv, h2⟩⟩
theorem wipe_get {σ : L2.St} {i : Nat} : ∀ {vs : List Nat}, i ∉ vs → (wipe σ vs)[i]? = σ[i]?
  | [], _ => rfl
  | v :: vs, h => by
    unfold wipe
    rw [List.getElem?_set_ne (fun e => h (by simp [e])), wipe_get (fun z => h (List.mem_cons_of_mem _ z))]
theorem wipe_only {σ σ' : L2.St} {vs sl : List Nat} (o : Only sl (wipe σ vs) σ') (hs : ∀ j ∈ sl, j ∈ vs) : wipe σ' vs = wipe σ vs := by
  have no : ∀ (τ : L2.St) (ws : List Nat) (j : Nat), j ∈ ws → j < τ.length → (wipe τ ws)[j]? = some none := by
    intro τ ws
    induction ws with
    | nil => intro j h; simp at h
    | cons v ws ih =>
      intro j h hl
      unfold wipe
      by_cases hj : v = j
      · subst hj; exact List.getElem?_set_self (by rw [wipe_length]; exact hl)
      · rw [List.getElem?_set_ne hj]
        exact ih j ((List.mem_cons.mp h).resolve_left (fun z => hj z.symm)) hl
  have hl : σ'.length = σ.length := by rw [o.1, wipe_length]
  refine List.ext_getElem? fun j => ?_
  by_cases hj : j ∈ vs
  · by_cases hlt : j < σ.length
    · rw [no σ' vs j hj (by omega), no σ vs j hj hlt]
    · rw [List.getElem?_eq_none (by rw [wipe_length]; omega), List.getElem?_eq_none (by rw [wipe_length]; omega)]
  · rw [wipe_get hj, wipe_get hj, o.2 j (fun z => hj (hs j z)), wipe_get hj]
/-- the block's slots, out of the def's -/
def cEnv (env : En) (vs : List Nat) : En := wipeE (env.map Sl.hid) vs
theorem Rel.block {K : Fg} {B : Bs} {m : Hp} {μ : List Addr} {env : En} {st : List MO} {σ : L2.St} {H : Hp} (R : Rel K B m μ env st σ H) (vs : List Nat) :
    Rel K ⟨m, μ, H⟩ m μ (cEnv env vs) st (wipe σ vs) H := by
  have no : ∀ (i : Nat) o, (cEnv env vs)[i]? ≠ some (.own o) := fun i o h => by
    obtain ⟨h1, _⟩ := wipeE_own h
    rw [List.getElem?_map] at h1
    cases q : env[i]? with
    | none => rw [q] at h1; cases h1
    | some s => rw [q] at h1; cases s <;> cases h1
  refine ⟨R.sub, R.sto, R.len, R.nd, R.out, by unfold cEnv; rw [wipeE_length, List.length_map, wipe_length, R.ln], fun i d h => ?_, fun i o h => (no i o h).elim, fun i j a ⟨o, h, _⟩ => (no i o h).elim, Up.refl, fun _ _ e _ => e, R.enter.nw, fun _ _ e => .inl e⟩
  obtain ⟨h1, h2⟩ := wipeE_val h
  rw [List.getElem?_map] at h1
  cases q : env[i]? with
  | none => rw [q] at h1; cases h1
  | some s =>
    rw [q] at h1
    cases s with
    | val d2 =>
      cases h1
      obtain ⟨v, e1, r⟩ := R.val i d q
      exact ⟨v, by rw [wipe_get h2]; exact e1, r⟩
    | no => cases h1
    | own => cases h1
/-- in a comprehension nothing is raised out -/
def Out.nox {α : Type} : Out α → Out α
  | .exc _ _ _ => .bad
  | o => o
def compA (t : Tg) (c : M Bool) (e : M D) : List D → List D → M (List D)
  | [], acc, _, st => .ok acc st
  | d :: ds, acc, env, st => match t d env with
    | none => .bad
    | some env1 => (c env1 st).nox.bind fun b st => if b then (e env1 st).nox.bind fun y st => compA t c e ds (acc ++ [y]) env st else compA t c e ds acc env st
def eLcO (f : M (List D)) (vs : List Nat) (t : Tg) (c : M Bool) (e : M D) : M Rs := fun env st => (f env st).bind fun ds st => if ds.length ≤ 100000 then (compA t c e ds [] (cEnv env vs) st).bind fun ys st => .ok (.o (.lst ys)) st else .bad
def tYesI : M Bool := fun _ st => .ok true st
theorem its_nil {X : Cx} {W : WX} : PTs X [] (tIT X.K W tYesI) := by
  refine ⟨fun pins s σ H Q I ⟨B, m, μ, env, st, R, k⟩ => (pts_nil (X := X)).run pins s σ H Q I ?_⟩
  exact k.now R rfl
theorem its_one {X : Cx} {W : WX} {c : Expr} {p : M Bool} (h : IT X W c p) : PTs X [c] (tIT X.K W p) := pts_one h
section
variable {X : Cx} {W : WX} {tg iter elt : Expr} {ifs : List Expr} {scope : Scope} {own : List (Str × Nat)} {f : M (List D)} {t : Tg} {c : M Bool} {e : M D} {sl : List Nat} {pos : Pos}
theorem Out.bind_assoc {α β γ : Type} {x : Out α} {f : α → List MO → Out β} {g : β → List MO → Out γ} : (x.bind f).bind g = x.bind fun a st => (f a st).bind g := by
  cases x <;> rfl
theorem Rel.keepD {K : Fg} {m m' : Hp} {μ μ' : List Addr} {env : En} {st : List MO} {σ : L2.St} {H H' : Hp} {p : Addr} {u : HO} (S : Rel K ⟨m, μ, H⟩ m' μ' env st σ H') (h : H p = some u) (h1 : m p = none) (h2 : p ∉ μ) : H' p = some u ∧ m' p = none ∧ p ∉ μ' := by
  refine ⟨S.fr p u h h2, ?_, fun hm => ?_⟩
  · cases z : m' p with
    | none => rfl
    | some w =>
      rcases S.mn p w z with q | q
      · have q : m p = some w := q
        rw [h1] at q; cases q
      · have q : H p = none := q
        rw [h] at q; cases q
  · obtain ⟨n, hn, q⟩ := List.mem_iff_getElem.mp hm
    have q : μ'[n]? = some p := by rw [List.getElem?_eq_getElem hn, q]
    by_cases hl : n < μ.length
    · have g3 := S.up.st n _ (List.getElem?_eq_getElem hl)
      rw [q] at g3
      exact h2 (by rw [Option.some.inj g3]; exact List.getElem_mem hl)
    · have q1 : H p = none := S.nw n p (Nat.le_of_not_lt hl) q
      rw [h] at q1; cases q1
/-- an object that is no part of anything is written -/
theorem Rel.loose {K : Fg} {B : Bs} {m : Hp} {μ : List Addr} {env : En} {st : List MO} {σ : L2.St} {H : Hp} {p : Addr} {o : HO} (R : Rel K B m μ env st σ H) (h1 : m p = none) (h2 : p ∉ μ) (h3 : ∀ i, ¬ OwnAt env σ i p) (h4 : B.H p = none) : Rel K B m μ env st σ (upd H p o) := by
  refine ⟨fun a u e => ?_, fun n u e => ?_, R.len, R.nd, R.out, R.ln, R.val, fun i u e => ?_, R.ow, R.up, fun b u e hb => ?_, R.nw, R.mn⟩
  · rw [upd_ne (fun z => by rw [z, h1] at e; cases e)]; exact R.sub a u e
  · obtain ⟨a, e1, q⟩ := R.sto n u e
    exact ⟨a, e1, q.up Up.refl (upd_ne (fun z => h2 (by rw [← z]; exact List.mem_of_getElem? e1)))⟩
  · obtain ⟨a, e1, q, r⟩ := R.own i u e
    exact ⟨a, e1, q.up Up.refl (upd_ne (fun z => h3 i (by subst z; exact ⟨u, e, e1⟩))), r⟩
  · rw [upd_ne (fun z => by rw [z, h4] at e; cases e)]; exact R.fr b u e hb
theorem tlc_of {σ : L2.St} {H : Hp} {Q : VK} {vs : List Nat} (hsl : ∀ j ∈ sl, j ∈ vs) (hw : tIR X.K W (eLcO f vs t c e) σ H Q) : tLc (tII X.K W f) (tIG X.K t sl) (tIT X.K W0 c) (tI X.K W0 e) vs σ H Q := by
  obtain ⟨B, m, μ, env, st, R, k⟩ := hw
  refine ⟨B, m, μ, env, st, R, k.split fun ds st1 J m1 μ1 H1 u R1 wk k1 => fun D hD => ?_⟩
  obtain ⟨g1, g2, g3, g4⟩ := R1.fresh hD
  split at k1
  case isFalse => exact k1.elim
  rename_i hz
  -- at turn i: what is left to do
  refine ⟨fun i n H2 => n = ds.length - i ∧ i ≤ ds.length ∧ ∃ m2 μ2 st2 acc vacc, Up μ1 μ2 m1 m2 ∧ Rel X.K B m2 μ2 env st2 σ H2 ∧ H2 D = some (.lst vacc) ∧ Reps X.K μ2 m2 acc vacc ∧ acc.length ≤ i ∧ m2 D = none ∧ D ∉ μ2 ∧ (∀ j, ¬ OwnAt env σ j D) ∧
      Post X.K B W σ env m2 μ2 (pR X.K B env σ) Q ((compA t c e (ds.drop i) acc (cEnv env vs) st2).bind fun ys st => .ok (.o (.lst ys)) st),
    ⟨ds.length, rfl, Nat.zero_le _, m1, μ1, st1, [], [], Up.refl, R1.alloc hD, upd_same, rfl, Nat.le_refl _, g1, g2, g3, by rw [List.drop_zero]; exact k1⟩, ?_⟩
  rintro i n H2 ⟨rfl, hi, m2, μ2, st2, acc, vacc, u2, R2, hD2, racc, hacc, h1, h2, h3, k2⟩
  by_cases hlt : i < ds.length
  · refine .inr ⟨wk.go i hlt B m2 μ2 env st2 σ H2 u2 R2, fun H3 => ∃ m3 μ3 st3 acc3 vacc3, Up μ1 μ3 m1 m3 ∧ Rel X.K B m3 μ3 env st3 σ H3 ∧ H3 D = some (.lst vacc3) ∧ Reps X.K μ3 m3 acc3 vacc3 ∧ acc3.length ≤ i + 1 ∧ m3 D = none ∧ D ∉ μ3 ∧ (∀ j, ¬ OwnAt env σ j D) ∧
      Post X.K B W σ env m3 μ3 (pR X.K B env σ) Q ((compA t c e (ds.drop (i + 1)) acc3 (cEnv env vs) st3).bind fun ys st => .ok (.o (.lst ys)) st), ?_, fun x H3 y => ?_⟩
    · rintro H3 ⟨m3, μ3, st3, acc3, vacc3, z⟩
      exact ⟨ds.length - (i + 1), by omega, rfl, hlt, m3, μ3, st3, acc3, vacc3, z⟩
    obtain ⟨m3, u3, R3, r3, kp3, nm3⟩ := wk.yld i _ (List.getElem?_eq_getElem hlt) B m2 μ2 env st2 σ H2 x H3 u2 R2 y
    have hD3 : H3 D = some (.lst vacc) := kp3 _ _ hD2
    have h1' : m3 D = none := by
      cases z : m3 D with
      | none => rfl
      | some w =>
        rcases nm3 D w z with q | q
        · rw [h1] at q; cases q
        · rw [hD2] at q; cases q
    have Rb := R3.block vs
    have k2 := Post.later u3 k2
    rw [List.drop_eq_getElem_cons hlt] at k2
    unfold compA at k2
    cases q : t ds[i] (cEnv env vs) with
    | none => rw [q] at k2; exact k2.elim
    | some env1 =>
      rw [q] at k2
      refine ⟨_, m3, μ2, cEnv env vs, st2, ds[i], env1, Rb, r3, q, fun σ2 R4 on => ⟨wipe_only on hsl, _, m3, μ2, env1, st2, R4, ?_⟩⟩
      dsimp only at k2
      rw [Out.bind_assoc] at k2
      cases qc : c env1 st2 with
      | bad => rw [qc] at k2; exact k2.elim
      | exc => rw [qc] at k2; exact k2.elim
      | ok b st3 =>
        rw [qc] at k2
        intro b' m4 μ4 H4 u4 R5 eb
        cases eb
        obtain ⟨hD4, d1, d2⟩ := R5.keepD hD3 h1' h2
        have R6 : Rel X.K B m4 μ4 env st3 σ H4 := R3.call R5.drop
        have k3 := Post.later u4 k2
        change Post _ _ _ _ _ _ _ _ _ (Out.bind (if b = true then _ else _) _) at k3
        cases b with
        | false =>
          rw [if_neg Bool.false_ne_true] at k3 ⊢
          exact ⟨m4, μ4, st3, acc, vacc, u2.trans (u3.trans u4), R6, hD4, Reps.up (u3.trans u4) _ racc, Nat.le_succ_of_le hacc, d1, d2, h3, k3⟩
        | true =>
          rw [if_pos rfl] at k3 ⊢
          refine ⟨_, m4, μ4, env1, st3, R5, ?_⟩
          rw [Out.bind_assoc] at k3
          cases qe : e env1 st3 with
          | bad => rw [qe] at k3; exact k3.elim
          | exc => rw [qe] at k3; exact k3.elim
          | ok yd st4 =>
            rw [qe] at k3
            intro yv m5 μ5 H5 u5 R7 ry
            obtain ⟨hD5, d3, d4⟩ := R7.keepD hD3 h1' h2
            have R8 : Rel X.K B m5 μ5 env st4 σ H5 := R3.call R7.drop
            have k4 := Post.later u5 k3
            refine ⟨vacc, hD5, ?_, m5, μ5, st4, acc ++ [yd], vacc ++ [yv], u2.trans (u3.trans (u4.trans u5)), R8.loose d3 d4 h3 g4, upd_same, (Reps.up (u3.trans (u4.trans u5)) _ racc).append (Reps.one ry), by rw [List.length_append]; exact Nat.add_le_add_right hacc 1, d3, d4, h3, k4⟩
            rw [← racc.length]
            exact Nat.lt_of_le_of_lt hacc (Nat.lt_of_lt_of_le hlt (Nat.le_trans hz (by decide)))
  · have e : i = ds.length := by omega
    subst e
    rw [List.drop_length] at k2
    exact .inl ⟨wk.stop B m2 μ2 env st2 σ H2 u2 R2, k2 _ m2 μ2 H2 Up.refl R2 ⟨D, rfl, ⟨vacc, hD2, racc⟩, h1, h2, g4, h3⟩⟩
theorem ir_lc (hc : X.calm = true) (hN : X.N.Nodup) (hi : II X W tg iter f) (ok : BlkOk X.N X.env.scope scope own)
    (hg : ∀ (s : Shared) (H : Hp) (C : Addr) (cl : List (Str × Addr)) (fp : List Addr), IG (X.blk s H scope (compEnvC scope cl C X.env) fp) tg t sl) (ht : ∀ (s : Shared) (H : Hp) (C : Addr) (cl : List (Str × Addr)) (fp : List Addr), PTs (X.blk s H scope (compEnvC scope cl C X.env) fp) ifs (tIT X.K W0 c))
    (he : ∀ (s : Shared) (H : Hp) (C : Addr) (cl : List (Str × Addr)) (fp : List Addr), IE (X.blk s H scope (compEnvC scope cl C X.env) fp) W0 elt e) (hsl : ∀ j ∈ sl, j ∈ own.map (·.2)) (hs : ∀ x, foldedSetIterable iter X.env x = pure x := by intro _; rfl) :
    IR X W (.ListComp elt [⟨tg, iter, ifs, 0⟩] scope pos) (eLcO f (own.map (·.2)) t c e) := pe_imp (pe_lc hc hN hi ok hg ht he hs) fun σ H Q hw => tlc_of hsl hw
end
end SK
end
section
set_option Elab.async false
set_option linter.all false
set_option autoImplicit false
set_option maxRecDepth 100000
set_option maxHeartbeats 1000000
namespace SK
open PySem PySem.Spec PyProof.Rows L2

/-! ### a value at hand, or a mutable object -/
/-- what a name or a value stands for, read: own objects by slot, store objects by reference -/
def vw (st : List MO) : D → Option D
  | .ref n => (st[n]?).map MO.d
  | d => some d
section
variable {K : Fg} {B : Bs} {m : Hp} {μ : List Addr} {env : En} {st : List MO} {σ : L2.St} {H : Hp} {d : D} {v : V} {xs : List D}
/-- a list as it may be read -/
theorem rd_lst (R : Rel K B m μ env st σ H) (r : Rep K μ m d v) (h : vw st d = some (.lst xs)) : ∃ a vs, v = .ref a ∧ H a = some (.lst vs) ∧ Reps K μ m xs vs := by
  cases d with
  | ref n =>
    obtain ⟨a, e, hn⟩ := r
    obtain ⟨o, h1, h2⟩ := R.stAt hn
    simp only [vw, h1, Option.map_some, Option.some.injEq] at h
    cases o with
    | lst ys =>
      cases h
      obtain ⟨vs, q1, q2⟩ := h2
      exact ⟨a, vs, e, q1, q2⟩
    | dic => cases h
    | ins => cases h
  | lst ys =>
    simp only [vw, Option.some.injEq] at h
    cases h
    obtain ⟨a, vs, e, h1, h2⟩ := r
    exact ⟨a, vs, e, sub_lst R.sub h1, h2⟩
  | _ => cases h
end
def gLen (st : List MO) (d : D) : Option D := match vw st d with
  | some (.lst xs) => some (.int xs.length)
  | some (.tup xs) => some (.int xs.length)
  | some (.scr xs) => some (.int xs.length)
  | some (.dic xs) => some (.int xs.length)
  | some (.str x) => if x.length ≤ sizeLine then some (.int x.length) else none
  | _ => none
def e1s (f : M D) (g : List MO → D → Option D) : M D := fun env st => (f env st).bind fun d st => Out.of (g st d) st
def e2s (f f' : M D) (g : List MO → D → D → Option D) : M D := fun env st => (f env st).bind fun d st => (f' env st).bind fun d' st => Out.of (g st d d') st
def rLenAll (K : Fg) : List V → Hp → VK → Prop := fun xs H Q => (∃ x n, xs = [x] ∧ LenV K x H n ∧ Q (.int n) H) ∨ (∃ a kvs, xs = [V.ref a] ∧ H a = some (.dK kvs) ∧ Q (.int kvs.length) H)
theorem repK_length {K : Fg} {μ : List Addr} {m : Hp} : ∀ {ds : List (Key × D)} {vs : List (Key × V)}, RepK K μ m ds vs → ds.length = vs.length
  | [], vs, h => by rw [show vs = [] from h]; rfl
  | (k, x) :: xs, vs, ⟨w, ws, e, h, r⟩ => by rw [e, List.length_cons, List.length_cons, repK_length r]
theorem len_ok {K : Fg} {B : Bs} {m : Hp} {μ : List Addr} {env : En} {st : List MO} {σ : L2.St} {H : Hp} {d z : D} {v : V} {Q : VK} (R : Rel K B m μ env st σ H) (r : Rep K μ m d v) (h : gLen st d = some z)
    (k : ∀ w, Rep K μ m z w → Q w H) : rLenAll K [v] H Q := by
  cases q : vw st d with
  | none => rw [show gLen st d = none by unfold gLen; rw [q]] at h; cases h
  | some w =>
    cases w with
    | lst xs =>
      have e : some (.int xs.length) = some z := by rw [← h]; unfold gLen; rw [q]
      cases e
      obtain ⟨a, vs, rfl, h1, h2⟩ := rd_lst R r q
      exact .inl ⟨_, vs.length, rfl, .inl ⟨vs, .of h1, rfl⟩, k _ (by rw [← h2.length]; rfl)⟩
    | tup xs =>
      have e : some (.int xs.length) = some z := by rw [← h]; unfold gLen; rw [q]
      cases e
      cases d with
      | ref n =>
        exfalso
        simp only [vw] at q
        cases g : st[n]? with
        | none => rw [g] at q; cases q
        | some o => rw [g] at q; cases o <;> cases q
      | tup ys =>
        cases q
        obtain ⟨a, vs, rfl, h1, h2⟩ := r
        exact .inl ⟨_, vs.length, rfl, .inr ⟨vs, R.sub.sqT h1, rfl⟩, k _ (by rw [← h2.length]; rfl)⟩
      | _ => cases q
    | scr xs =>
      have e : some (.int xs.length) = some z := by rw [← h]; unfold gLen; rw [q]
      cases e
      cases d with
      | ref n =>
        exfalso
        simp only [vw] at q
        cases g : st[n]? with
        | none => rw [g] at q; cases q
        | some o => rw [g] at q; cases o <;> cases q
      | scr ys =>
        cases q
        obtain ⟨a, vs, rfl, h1, h2⟩ := r
        exact .inl ⟨_, vs.length, rfl, .inl ⟨vs, R.sub.sqL h1, rfl⟩, k _ (by rw [← h2.length]; rfl)⟩
      | _ => cases q
    | dic xs =>
      have e : some (.int xs.length) = some z := by rw [← h]; unfold gLen; rw [q]
      cases e
      cases d with
      | ref n =>
        obtain ⟨a, rfl, hn⟩ := r
        obtain ⟨o, g1, g2⟩ := R.stAt hn
        simp only [vw, g1, Option.map_some, Option.some.injEq] at q
        cases o with
        | dic ys =>
          cases q
          obtain ⟨vs, q1, q2⟩ := g2
          exact .inr ⟨a, vs, rfl, q1, k _ (by rw [← repK_length q2]; rfl)⟩
        | lst => cases q
        | ins => cases q
      | dic ys =>
        cases q
        obtain ⟨a, vs, rfl, h1, h2⟩ := r
        exact .inr ⟨a, vs, rfl, R.sub a _ h1, k _ (by rw [← repK_length h2]; rfl)⟩
      | _ => cases q
    | str x =>
      have e : (if x.length ≤ sizeLine then some (D.int x.length) else none) = some z := by rw [← h]; unfold gLen; rw [q]
      cases d with
      | ref n =>
        exfalso
        simp only [vw] at q
        cases g : st[n]? with
        | none => rw [g] at q; cases q
        | some o => rw [g] at q; cases o <;> cases q
      | str y =>
        cases q
        cases r
        split at e
        · rename_i hz
          cases e
          exact .inl ⟨_, _, rfl, ⟨hz, rfl⟩, k _ rfl⟩
        · cases e
      | _ => cases q
    | _ => rw [show gLen st d = none by unfold gLen; rw [q]] at h; cases h
end SK
end
section
set_option Elab.async false
set_option linter.all false
set_option autoImplicit false
set_option maxRecDepth 100000
set_option maxHeartbeats 1000000
namespace SK
open PySem PySem.Spec PyProof.Rows L2

section
variable {X : Cx} {W : WX} {a b c e : Expr} {es : List Expr} {f f' f3 : M D} {fs : M (List D)} {pos p : Pos} {x : Str}
/-! ### len, items: of values, of mutable objects, of own objects -/
theorem ie_len (hm : X.mg "len" = none) (hg : Gl X "len") (he : IE X W e f) (hs : starEach [e] X.env = (false, eval e X.env) :: starEach [] X.env := by rfl) (hpl : (backTo pos (starEach [] X.env)).any (·.1) = false := by rfl) :
    IE X W (.Call (.Name "len" p) [e] [] pos) (e1s f gLen) :=
  pe_imp (pe_callB (RC.or call_len call_lenD) hg hm boot_len (pa_cons he pa_nil hs) (by decide) (by decide) hs hpl) fun σ H Q ⟨B, m, μ, env, st, R, k⟩ => by
    refine ⟨B, m, μ, env, st, R, k.split fun d st1 v m1 μ1 H1 u R1 r k1 => ?_⟩
    obtain ⟨z, e1, k2⟩ := k1.of_eq
    exact len_ok R1 r e1 fun w rw' => k2 w m1 μ1 H1 Up.refl R1 rw'
def eLenO (i : Nat) : M D := fun env st => match env[i]? with
  | some (.own (.lst xs)) => .ok (.int xs.length) st
  | some (.own (.dic xs)) => .ok (.int xs.length) st
  | _ => .bad
theorem ie_lenO {i : Nat} (hm : X.mg "len" = none) (hg : Gl X "len") (he : PE X e (tVar i)) (hs : starEach [e] X.env = (false, eval e X.env) :: starEach [] X.env := by rfl) (hpl : (backTo pos (starEach [] X.env)).any (·.1) = false := by rfl) :
    IE X W (.Call (.Name "len" p) [e] [] pos) (eLenO i) :=
  pe_imp (pe_callB (RC.or call_len call_lenD) hg hm boot_len (pa_cons he pa_nil hs) (by decide) (by decide) hs hpl) fun σ H Q ⟨B, m, μ, env, st, R, k⟩ => by
    unfold eLenO at k
    split at k
    · rename_i xs q
      obtain ⟨a, e1, ⟨vs, h1, h2⟩, _⟩ := R.own i _ q
      exact ⟨_, e1, .inl ⟨_, vs.length, rfl, .inl ⟨vs, .of h1, rfl⟩, k.now R (by show _ = _; rw [h2.length])⟩⟩
    · rename_i xs q
      obtain ⟨a, e1, ⟨vs, h1, h2⟩, _⟩ := R.own i _ q
      exact ⟨_, e1, .inr ⟨_, vs, rfl, h1, k.now R (by show _ = _; rw [repK_length h2])⟩⟩
    · exact k.elim
def gIxS (st : List MO) (d d' : D) : Option D := match d with
  | .ref n => (match st[n]?, d' with
    | some (.lst xs), .int i => atI xs i
    | _, _ => none)
  | _ => gIx d d'
theorem ie_ixS (ha : IE X W a f) (hb : IE X W b f') (hs : PlainIx b) : IE X W (.Subscript a b pos) (e2s f f' gIxS) :=
  pe_imp (pe_ix ix_seq ha hb hs) fun σ H Q ⟨B, m, μ, env, st, R, k⟩ => by
    refine ⟨B, m, μ, env, st, R, k.split fun d st1 v m1 μ1 H1 u R1 r1 k1 => ⟨B, m1, μ1, env, st1, R1, k1.split fun d' st2 v' m2 μ2 H2 u2 R2 r2 k2 => ?_⟩⟩
    obtain ⟨z, e, k3⟩ := k2.of_eq
    have r1 := Rep.up u2 _ r1
    cases d with
    | ref n =>
      obtain ⟨a, rfl, hn⟩ := r1
      obtain ⟨o, g1, g2⟩ := R2.stAt hn
      simp only [gIxS, g1] at e
      cases o with
      | lst xs =>
        cases d' with
        | int i =>
          cases r2
          obtain ⟨vs, q1, q2⟩ := g2
          obtain ⟨w, h1, h2⟩ := reps_atI q2 e
          exact .inl ⟨a, vs, i, w, rfl, rfl, .of q1, h1, k3 w m2 μ2 H2 Up.refl R2 h2⟩
        | _ => cases e
      | dic => cases e
      | ins => cases e
    | _ => exact od_ix B m2 μ2 env st2 σ H2 _ d' v v' z Q R2 r1 r2 e k3
def eIxO (i : Nat) (f : M D) : M D := fun env st => match env[i]? with
  | some (.own (.lst xs)) => (f env st).bind fun d st => (match d with
    | .int j => Out.of (atI xs j) st
    | _ => .bad)
  | _ => .bad
theorem ie_ixO {i : Nat} (ha : PE X a (tVar i)) (hb : IE X W b f) (hs : PlainIx b) : IE X W (.Subscript a b pos) (eIxO i f) :=
  pe_imp (pe_ix ix_seq ha hb hs) fun σ H Q ⟨B, m, μ, env, st, R, k⟩ => by
    unfold eIxO at k
    split at k
    · rename_i xs q
      obtain ⟨a, e1, _⟩ := R.own i _ q
      refine ⟨_, e1, B, m, μ, env, st, R, k.split fun d st1 v m1 μ1 H1 u R1 r1 k1 => ?_⟩
      obtain ⟨a', e2, ⟨vs, h1, h2⟩, _⟩ := R1.own i _ q
      rw [e1] at e2; cases e2
      cases d with
      | int j =>
        cases r1
        obtain ⟨z, e3, k3⟩ := k1.of_eq
        obtain ⟨w, g1, g2⟩ := reps_atI h2 e3
        exact .inl ⟨a, vs, j, w, rfl, rfl, .of h1, g1, k3 w m1 μ1 H1 Up.refl R1 g2⟩
      | _ => exact k1.elim
    · exact k.elim
end

/-! ### writing -/
section
variable {K : Fg} {B : Bs} {m : Hp} {μ : List Addr} {env : En} {st : List MO} {σ : L2.St} {H : Hp} {a : Addr} {w : HO} {o o' : MO}
theorem Rel.putOwn {i : Nat} (R : Rel K B m μ env st σ H) (hi : env[i]? = some (.own o)) (ha : σ[i]? = some (some (.ref a))) (q : MRep K μ m (upd H a w) a o') : Rel K B m μ (env.set i (.own o')) st σ (upd H a w) := by
  obtain ⟨a', e1, q0, h1, h2, h3⟩ := R.own i o hi
  rw [ha] at e1; cases e1
  have hil : i < env.length := (List.getElem?_eq_some_iff.mp hi).1
  have oa : OwnAt env σ i a := ⟨o, hi, ha⟩
  have ne : ∀ {j b}, j ≠ i → OwnAt env σ j b → b ≠ a := fun {j b} hj h z => hj (R.ow j i b h (z ▸ oa))
  have old : ∀ {j b}, OwnAt (env.set i (.own o')) σ j b → OwnAt env σ j b := fun {j b} ⟨p, f1, f2⟩ => by
    rcases get_set f1 with ⟨rfl, _, _⟩ | ⟨_, e⟩
    · exact ⟨o, hi, f2⟩
    · exact ⟨p, e, f2⟩
  refine ⟨fun b u e => ?_, fun n u e => ?_, R.len, R.nd, R.out, by rw [List.length_set]; exact R.ln, fun j d e => ?_, fun j p e => ?_, fun j k b g1 g2 => R.ow j k b (old g1) (old g2), R.up, fun b u e hb => ?_, R.nw, R.mn⟩
  · rw [upd_ne (fun z => by rw [z, h1] at e; cases e)]; exact R.sub b u e
  · obtain ⟨b, e1, g⟩ := R.sto n u e
    exact ⟨b, e1, g.up Up.refl (upd_ne (fun z => h2 (by rw [← z]; exact List.mem_of_getElem? e1)))⟩
  · rcases get_set e with ⟨_, z, _⟩ | ⟨_, e⟩
    · cases z
    · exact R.val j d e
  · rcases get_set e with ⟨rfl, z, _⟩ | ⟨hj, e⟩
    · cases z; exact ⟨a, ha, q, h1, h2, h3⟩
    · obtain ⟨b, f1, f2, f3⟩ := R.own j p e
      exact ⟨b, f1, f2.up Up.refl (upd_ne (ne hj ⟨p, e, f1⟩)), f3⟩
  · rw [upd_ne (fun z => by rw [z, h3] at e; cases e)]
    exact R.fr b u e hb
theorem Rel.putSt {n : Nat} (R : Rel K B m μ env st σ H) (hn : μ[n]? = some a) (q : MRep K μ m (upd H a w) a o') : Rel K B m μ env (st.set n o') σ (upd H a w) := by
  have am : a ∈ μ := List.mem_of_getElem? hn
  have h1 := R.out a am
  refine ⟨fun b u e => ?_, fun j u e => ?_, by rw [List.length_set]; exact R.len, R.nd, R.out, R.ln, R.val, fun j p e => ?_, R.ow, R.up, fun b u e hb => ?_, R.nw, R.mn⟩
  · rw [upd_ne (fun z => by rw [z, h1] at e; cases e)]; exact R.sub b u e
  · rcases get_set e with ⟨rfl, z, _⟩ | ⟨hj, e⟩
    · cases z; exact ⟨a, hn, q⟩
    · obtain ⟨b, e1, g⟩ := R.sto j u e
      refine ⟨b, e1, g.up Up.refl (upd_ne fun z => ?_)⟩
      subst z
      have hn' := (List.getElem?_eq_some_iff.mp hn).1
      have hj' := (List.getElem?_eq_some_iff.mp e1).1
      have g1 : μ[n] = b := Option.some.inj ((List.getElem?_eq_getElem hn').symm.trans hn)
      have g2 : μ[j] = b := Option.some.inj ((List.getElem?_eq_getElem hj').symm.trans e1)
      exact hj ((List.getElem_inj (h₀ := hj') (h₁ := hn') R.nd).mp (g2.trans g1.symm))
  · obtain ⟨b, f1, f2, f3, f4, f5⟩ := R.own j p e
    exact ⟨b, f1, f2.up Up.refl (upd_ne (fun (z : b = a) => f4 (by rw [z]; exact am))), f3, f4, f5⟩
  · rw [upd_ne (fun z => ?_)]
    · exact R.fr b u e hb
    · subst z
      by_cases hl : n < B.μ.length
      · have g := R.up.st n _ (List.getElem?_eq_getElem hl)
        rw [hn] at g
        exact hb (by rw [Option.some.inj g]; exact List.getElem_mem hl)
      · rw [R.nw n b (Nat.le_of_not_lt hl) hn] at e; cases e
/-- a loose object is taken into the store -/
theorem Rel.keep (R : Rel K B m μ env st σ H) (q : MRep K μ m H a o) (h1 : m a = none) (h2 : a ∉ μ) (h3 : ∀ i, ¬ OwnAt env σ i a) (h4 : B.H a = none) :
    Rel K B m (μ ++ [a]) env (st ++ [o]) σ H ∧ Up μ (μ ++ [a]) m m := by
  have u : Up μ (μ ++ [a]) m m := ⟨fun n b e => by rw [List.getElem?_append_left (List.getElem?_eq_some_iff.mp e).1]; exact e, fun _ _ e => e⟩
  refine ⟨⟨R.sub, fun n p e => ?_, by rw [List.length_append, List.length_append, R.len]; rfl, ?_, fun b hb => ?_, R.ln, fun i d e => ?_, fun i p e => ?_, R.ow, R.up.trans u, R.fr, fun n b hn e => ?_, R.mn⟩, u⟩
  · by_cases hl : n < st.length
    · rw [List.getElem?_append_left hl] at e
      obtain ⟨b, e1, g⟩ := R.sto n p e
      exact ⟨b, u.st n b e1, g.up u rfl⟩
    · rw [List.getElem?_append_right (Nat.le_of_not_lt hl)] at e
      obtain ⟨e1, e2⟩ := List.getElem?_eq_some_iff.mp e
      have hn : n = st.length := by simp at e1; omega
      subst hn
      have : p = o := by rw [← e2]; simp
      subst this
      exact ⟨a, by rw [← R.len, List.getElem?_append_right (Nat.le_refl _)]; simp, q.up u rfl⟩
  · exact List.nodup_append.mpr ⟨R.nd, by simp, fun x hx y hy z => by
      have : y = a := by simpa using hy
      subst this
      exact h2 (z ▸ hx)⟩
  · rcases List.mem_append.mp hb with h | h
    · exact R.out b h
    · have : b = a := by simpa using h
      subst this; exact h1
  · obtain ⟨v, e1, r⟩ := R.val i d e
    exact ⟨v, e1, Rep.up u _ r⟩
  · obtain ⟨b, e1, g, g1, g2, g3⟩ := R.own i p e
    refine ⟨b, e1, g.up u rfl, g1, fun hb => ?_, g3⟩
    rcases List.mem_append.mp hb with h | h
    · exact g2 h
    · have : b = a := by simpa using h
      subst this
      exact h3 i ⟨p, e, e1⟩
  · by_cases hl : n < μ.length
    · rw [List.getElem?_append_left hl] at e
      exact R.nw n b hn e
    · rw [List.getElem?_append_right (Nat.le_of_not_lt hl)] at e
      have : b = a := by
        obtain ⟨e1, e2⟩ := List.getElem?_eq_some_iff.mp e
        rw [← e2]; simp
      subst this
      exact h4
end
section
variable {X : Cx} {W : WX} {a e : Expr} {es : List Expr} {f fj fe : M D} {fr : M Rs} {pos pos' p : Pos} {i : Nat} {x : Str}
/-- x = e, the new object goes to the store -/
def sSetS (i : Nat) (f : M Rs) : S := fun env st => (f env st).bindS env fun r st => match r with
  | .o q => .nx (env.set i (.val (.ref st.length))) (st ++ [q])
  | .v d => .nx (env.set i (.val d)) st
theorem is_setS (hN : X.N.Nodup) (hi : X.N[i]? = some x) (hx : Loc X.env.scope x) (he : IR X W e fr) (hs : swapsWith e (some (.Name x pos')) pos.line X.env = pure false := by rfl) (hf : X.fn x = true ∨ X.env.scope.names.lookup x = some .local := by first | exact .inl rfl | exact .inr rfl | assumption) :
    IS X W (.Assign [.Name x pos'] e pos) (sSetS i fr) := ps_imp (ps_set hN hi hx he hs hf) fun D σ H ⟨B, m, μ, env, st, R, k⟩ =>
  ⟨B, m, μ, env, st, R, k.split fun r st1 v m1 μ1 H1 u R1 p k1 => by
    cases r with
    | v d => exact k1.now (R1.setVal p)
    | o q =>
      obtain ⟨a, rfl, q1, q2, q3, q4, q5⟩ := p
      obtain ⟨R2, u2⟩ := R1.keep q1 q2 q3 q5 q4
      refine k1 _ m1 (μ1 ++ [a]) H1 u2 (R2.setVal ⟨a, rfl, ?_⟩)
      rw [← R1.len, List.getElem?_append_right (Nat.le_refl _)]
      simp⟩
/-- x[j] = e, x an object of its own -/
def sSubO (i : Nat) (fj fe : M D) : S := fun env st => match env[i]? with
  | some (.own (.lst xs)) => (fe env st).bindS env fun v st => (fj env st).bindS env fun j st => (match j with
    | .int k => (match ixN xs.length k with
      | some n => .nx (env.set i (.own (.lst (xs.set n v)))) st
      | none => .bad)
    | _ => .bad)
  | _ => .bad
theorem ha_sub : ∀ {o i : Expr} {env : Env} {tp : Pos}, (∀ v, assign (.Subscript o i tp) env v = (do
      let ov ← holding [v] (eval o env)
      let iv ← holding [v, ov] (eval i env)
      standAt tp
      holding [v, ov, iv] (setItem ov iv v)
      release [v, ov, iv] [])) → True := fun _ => trivial
theorem is_subO {j : Expr} {tp : Pos} (ho : PE X a (tVar i)) (hj : IE X W j fj) (he : IE X W e fe)
    (ha : ∀ v, assign (.Subscript a j tp) X.env v = (do
      let ov ← holding [v] (eval a X.env)
      let iv ← holding [v, ov] (eval j X.env)
      standAt tp
      holding [v, ov, iv] (setItem ov iv v)
      release [v, ov, iv] []) := by intro _; rfl)
    (hs : swapsWithSole [.Subscript a j tp] e pos.line X.env = pure false := by rfl) (hw : swappedStores [.Subscript a j tp] e X.env = pure none := by rfl)
    (h1 : (assignEach [.Subscript a j tp] X.env).map (·.2) = [assign (.Subscript a j tp) X.env] := by rfl) : IS X W (.Assign [.Subscript a j tp] e pos) (sSubO i fj fe) :=
  ps_imp (ps_asg he (pg_sub ho hj set_list ha) hs hw h1) fun D σ H ⟨B, m, μ, env, st, R, k⟩ => by
    unfold sSubO at k
    split at k
    · rename_i xs q
      refine ⟨B, m, μ, env, st, R, k.split fun v st1 vv m1 μ1 H1 u R1 r1 k1 => ?_⟩
      obtain ⟨a, e1, _⟩ := R1.own i _ q
      refine ⟨_, e1, B, m1, μ1, env, st1, R1, k1.split fun jd st2 jv m2 μ2 H2 u2 R2 r2 k2 => ?_⟩
      obtain ⟨a', e2, ⟨vs, g1, g2⟩, _⟩ := R2.own i _ q
      rw [e1] at e2; cases e2
      cases jd with
      | int kk =>
        cases r2
        dsimp only at k2
        split at k2
        · rename_i n hn
          refine ⟨a, vs, kk, n, rfl, rfl, g1, by rw [← g2.length]; exact hn, ?_⟩
          exact k2.now (R2.putOwn q e1 ⟨_, upd_same, g2.set n (Rep.up u2 _ r1)⟩)
        · exact k2.elim
      | _ => exact k2.elim
    · exact k.elim
/-- x[j] = e, x a store object -/
def sSubS (fo fj fe : M D) : S := fun env st => (fe env st).bindS env fun v st => (fo env st).bindS env fun o st => (fj env st).bindS env fun j st => match o, j with
  | .ref r, .int k => (match st[r]? with
    | some (.lst xs) => (match ixN xs.length k with
      | some n => .nx env (st.set r (.lst (xs.set n v)))
      | none => .bad)
    | _ => .bad)
  | _, _ => .bad
theorem is_subS {j : Expr} {tp : Pos} (ho : IE X W a f) (hj : IE X W j fj) (he : IE X W e fe)
    (ha : ∀ v, assign (.Subscript a j tp) X.env v = (do
      let ov ← holding [v] (eval a X.env)
      let iv ← holding [v, ov] (eval j X.env)
      standAt tp
      holding [v, ov, iv] (setItem ov iv v)
      release [v, ov, iv] []) := by intro _; rfl)
    (hs : swapsWithSole [.Subscript a j tp] e pos.line X.env = pure false := by rfl) (hw : swappedStores [.Subscript a j tp] e X.env = pure none := by rfl)
    (h1 : (assignEach [.Subscript a j tp] X.env).map (·.2) = [assign (.Subscript a j tp) X.env] := by rfl) : IS X W (.Assign [.Subscript a j tp] e pos) (sSubS f fj fe) :=
  ps_imp (ps_asg he (pg_sub ho hj set_list ha) hs hw h1) fun D σ H ⟨B, m, μ, env, st, R, k⟩ => by
    refine ⟨B, m, μ, env, st, R, k.split fun v st1 vv m1 μ1 H1 u R1 r1 k1 => ⟨B, m1, μ1, env, st1, R1, k1.split fun od st2 ov m2 μ2 H2 u2 R2 r2 k2 => ⟨B, m2, μ2, env, st2, R2, k2.split fun jd st3 jv m3 μ3 H3 u3 R3 r3 k3 => ?_⟩⟩⟩
    cases od with
    | ref r =>
      obtain ⟨a, rfl, hr⟩ := Rep.up u3 _ r2
      cases jd with
      | int kk =>
        cases r3
        dsimp only at k3
        split at k3
        · rename_i xs hx
          split at k3
          · rename_i n hn
            obtain ⟨o, g1, g2⟩ := R3.stAt hr
            rw [hx] at g1; cases g1
            obtain ⟨vs, g3, g4⟩ := g2
            refine ⟨a, vs, kk, n, rfl, rfl, g3, by rw [← g4.length]; exact hn, ?_⟩
            exact k3.now (R3.putSt hr ⟨_, upd_same, g4.set n (Rep.up (u2.trans u3) _ r1)⟩)
          · exact k3.elim
        · exact k3.elim
      | _ => exact k3.elim
    | _ => exact k3.elim
/-- x.append(e), x an object of its own | of the store -/
def sAppO (i : Nat) (fe : M D) : S := fun env st => match env[i]? with
  | some (.own (.lst xs)) => (fe env st).bindS env fun v st => if xs.length < 100000 then .nx (env.set i (.own (.lst (xs ++ [v])))) st else .bad
  | _ => .bad
theorem is_appO {apos cpos : Pos} (ho : PE X a (tVar i)) (he : IE X W e fe)
    (hbase : attributeBase a "append" X.env (eval a X.env) = eval a X.env := by rfl)
    (hfew : ((backTo cpos (starEach [e] X.env)).all (fun x => !x.1) && (backToKw cpos (keywordEach [] X.env)).all (fun x => x.1.isSome)
      && decide ([e].length + ([] : List Keyword).length + (if ([] : List Keyword).isEmpty then 0 else 1) < 30)) = true := by rfl)
    (hline : (apos.endLine == cpos.line) = true := by rfl) (hs : starEach [e] X.env = (false, eval e X.env) :: starEach [] X.env := by rfl) (hplain : (backTo cpos (starEach [] X.env)).any (·.1) = false := by rfl) :
    IS X W (.Expr (.Call (.Attribute a "append" apos) [e] [] cpos) pos) (sAppO i fe) :=
  ps_imp (ps_expr (pe_bm PySem.F.plainAttrs_list PySem.F.slot_list_append PySem.F.type_list_append mt_append ho (pa_cons he pa_nil hs) hbase hfew hline hs hplain) (by rfl)) fun D σ H ⟨B, m, μ, env, st, R, k⟩ => by
    unfold sAppO at k
    split at k
    · rename_i xs q
      obtain ⟨a, e1, ⟨vs0, g0, _⟩, _⟩ := R.own i _ q
      refine ⟨_, e1, .inl ⟨rfl, _, SqL.of g0⟩, B, m, μ, env, st, R, k.split fun v st1 vv m1 μ1 H1 u R1 r1 k1 => ?_⟩
      obtain ⟨a', e2, ⟨vs, g1, g2⟩, _⟩ := R1.own i _ q
      rw [e1] at e2; cases e2
      split at k1
      · rename_i hz
        refine ⟨a, vs, vv, rfl, rfl, g1, by rw [← g2.length]; exact Nat.lt_of_lt_of_le hz (by decide), ?_⟩
        exact k1.now (R1.putOwn q e1 ⟨_, upd_same, g2.append (Reps.one r1)⟩)
      · exact k1.elim
    · exact k.elim
/-- ahead of a statement an own object is let go: a value from now on -/
def frzE (env : En) (i : Nat) : En := match env[i]? with
  | some (.own o) => env.set i (.val o.d)
  | _ => env
theorem Rel.frz {K : Fg} {B : Bs} {m : Hp} {μ : List Addr} {env : En} {st : List MO} {σ : L2.St} {H : Hp} (R : Rel K B m μ env st σ H) (i : Nat) : ∃ m', Up μ μ m m' ∧ Rel K B m' μ (frzE env i) st σ H := by
  unfold frzE
  split
  · rename_i o q
    obtain ⟨a, e1, q1, q2, q3, q4⟩ := R.own i o q
    -- the slot first forgotten, then the object fixed
    have hil : i < env.length := (List.getElem?_eq_some_iff.mp q).1
    have R1 : Rel K B m μ (env.set i .no) st σ H := by
      have old : ∀ {j b}, OwnAt (env.set i .no) σ j b → OwnAt env σ j b := fun {j b} ⟨p, f1, f2⟩ => by
        rcases get_set f1 with ⟨_, z, _⟩ | ⟨_, e⟩
        · cases z
        · exact ⟨p, e, f2⟩
      refine ⟨R.sub, R.sto, R.len, R.nd, R.out, by rw [List.length_set]; exact R.ln, fun j d e => ?_, fun j p e => ?_, fun j k b g1 g2 => R.ow j k b (old g1) (old g2), R.up, R.fr, R.nw, R.mn⟩
      · rcases get_set e with ⟨_, z, _⟩ | ⟨_, e⟩
        · cases z
        · exact R.val j d e
      · rcases get_set e with ⟨_, z, _⟩ | ⟨_, e⟩
        · cases z
        · exact R.own j p e
    have no : ∀ j, ¬ OwnAt (env.set i .no) σ j a := fun j ⟨p, f1, f2⟩ => by
      rcases get_set f1 with ⟨_, z, _⟩ | ⟨hj, e⟩
      · cases z
      · exact hj (R.ow j i a ⟨p, e, f2⟩ ⟨o, q, e1⟩)
    have h4 : B.H a = none := q4
    have fin : ∀ (w : HO), H a = some w → Rep K μ (upd m a w) o.d (.ref a) → ∃ m', Up μ μ m m' ∧ Rel K B m' μ (env.set i (.val o.d)) st σ H := fun w hw hr => by
      have R2 := R1.fix hw q2 q3 no h4
      have u2 : Up μ μ m (upd m a w) := ⟨fun _ _ e => e, fun b w' e => by rw [upd_ne (fun z => by rw [z, q2] at e; cases e)]; exact e⟩
      refine ⟨_, u2, ?_⟩
      have R3 := R2.setVal (i := i) hr
      have e2 : σ.set i (some (.ref a)) = σ := List.ext_getElem? fun j => by
        by_cases hj : j = i
        · subst hj; rw [List.getElem?_set_self (by rw [← R.ln]; exact hil), e1]
        · rw [List.getElem?_set_ne (Ne.symm hj)]
      have e3 : (env.set i .no).set i (.val o.d) = env.set i (.val o.d) := List.set_set ..
      rw [e2, e3] at R3
      exact R3
    have u0 : ∀ w, Up μ μ m (upd m a w) := fun w => ⟨fun _ _ e => e, fun b w' e => by rw [upd_ne (fun z => by rw [z, q2] at e; cases e)]; exact e⟩
    cases o with
    | lst xs =>
      obtain ⟨vs, g1, g2⟩ := q1
      exact fin _ g1 ⟨a, vs, rfl, upd_same, Reps.up (u0 _) _ g2⟩
    | dic xs =>
      obtain ⟨vs, g1, g2⟩ := q1
      exact fin _ g1 ⟨a, vs, rfl, upd_same, RepK.up (u0 _) _ g2⟩
    | ins C xs =>
      obtain ⟨dx, vs, g1, g2⟩ := q1
      exact fin _ g1 ⟨a, dx, vs, rfl, upd_same, RepF.up (u0 _) _ g2⟩
  · exact ⟨m, Up.refl, R⟩
end
end SK
end
section
set_option Elab.async false
set_option linter.all false
set_option autoImplicit false
set_option maxRecDepth 100000
set_option maxHeartbeats 1000000
namespace SK
open PySem PySem.Spec PyProof.Rows L2

section
variable {X : Cx} {W : WX} {a b c e : Expr} {es : List Expr} {s : Stmt} {f g f' f3 : M D} {fs : M (List D)} {pos p : Pos} {x : Str} {bd : S}
/-- ahead of a statement an own object is let go -/
def sFrz (i : Nat) (b : S) : S := fun env st => b (frzE env i) st
theorem is_frz (i : Nat) (h : IS X W s bd) : IS X W s (sFrz i bd) := ps_imp h fun D σ H ⟨B, m, μ, env, st, R, k⟩ => by
  obtain ⟨m', u, R'⟩ := R.frz i
  exact ⟨B, m', μ, _, st, R', SPost.later u k⟩

/-! ### and, or, not as values; comparisons one behind another; -a -/
def eAnd (f g : M D) : M D := fun env st => (f env st).bind fun d st => match d with
  | .bl true => g env st
  | .bl false => .ok (.bl false) st
  | _ => .bad
def eOr (f g : M D) : M D := fun env st => (f env st).bind fun d st => match d with
  | .bl true => .ok (.bl true) st
  | .bl false => g env st
  | _ => .bad
def gNot : D → Option D
  | .bl b => some (.bl (!b))
  | _ => none
theorem ie_one {op : BoolOp} (h : IE X W a f) : IE X W (.BoolOp op [a] pos) f := pe_one h
theorem ie_and (ha : IE X W a f) (hb : IE X W (.BoolOp .And (b :: es) pos) g) : IE X W (.BoolOp .And (a :: b :: es) pos) (eAnd f g) := pe_imp (pe_and ha hb) fun σ H Q ⟨B, m, μ, env, st, R, k⟩ =>
  ⟨B, m, μ, env, st, R, k.split fun d st1 v m1 μ1 H1 u R1 r k1 => by
    cases d with
    | bl t =>
      cases r
      refine ⟨t, rfl, ?_⟩
      cases t with
      | true => exact ⟨B, m1, μ1, env, st1, R1, k1⟩
      | false => exact k1.now R1 rfl
    | _ => exact k1.elim⟩
theorem ie_or (ha : IE X W a f) (hb : IE X W (.BoolOp .Or (b :: es) pos) g) : IE X W (.BoolOp .Or (a :: b :: es) pos) (eOr f g) := pe_imp (pe_or ha hb) fun σ H Q ⟨B, m, μ, env, st, R, k⟩ =>
  ⟨B, m, μ, env, st, R, k.split fun d st1 v m1 μ1 H1 u R1 r k1 => by
    cases d with
    | bl t =>
      cases r
      refine ⟨t, rfl, ?_⟩
      cases t with
      | true => exact k1.now R1 rfl
      | false => exact ⟨B, m1, μ1, env, st1, R1, k1⟩
    | _ => exact k1.elim⟩
theorem ie_not (ha : IE X W a f) : IE X W (.UnaryOp .Not a pos) (e1 f gNot) := pe_imp (pe_not ha) fun σ H Q ⟨B, m, μ, env, st, R, k⟩ =>
  ⟨B, m, μ, env, st, R, k.split fun d st1 v m1 μ1 H1 u R1 r k1 => by
    cases d with
    | bl t => cases r; exact ⟨t, rfl, k1.now R1 rfl⟩
    | _ => exact k1.elim⟩
def gNeg : D → Option D
  | .int i => some (.int (-i))
  | _ => none
theorem ie_neg (ha : IE X W a f) : IE X W (.UnaryOp .USub a pos) (e1 f gNeg) := pe_imp (pe_un un_neg ha) fun σ H Q ⟨B, m, μ, env, st, R, k⟩ =>
  ⟨B, m, μ, env, st, R, k.split fun d st1 v m1 μ1 H1 u R1 r k1 => by
    cases d with
    | int t => cases r; exact ⟨t, rfl, k1.now R1 rfl⟩
    | _ => exact k1.elim⟩
/-- a op b op' c -/
def eChain (f f' f3 : M D) (g g' : D → D → Option D) : M D := fun env st => (f env st).bind fun d st => (f' env st).bind fun d' st => match g d d' with
  | some (.bl true) => (f3 env st).bind fun d3 st => Out.of (g' d' d3) st
  | some (.bl false) => .ok (.bl false) st
  | _ => .bad
theorem tchain_of {K : Fg} {r r' : R2} {g g' : D → D → Option D} (hg : OpD K r g) (hg' : OpD K r' g') {σ : L2.St} {H : Hp} {Q : VK} (hw : tI K W (eChain f f' f3 g g') σ H Q) : tChain r r' (tI K W f) (tI K W f') (tI K W f3) σ H Q := by
  obtain ⟨B, m, μ, env, st, R, k⟩ := hw
  refine ⟨B, m, μ, env, st, R, k.split fun d st1 v m1 μ1 H1 u R1 r1 k1 => ⟨B, m1, μ1, env, st1, R1, k1.split fun d' st2 v' m2 μ2 H2 u2 R2 r2 k2 => ?_⟩⟩
  cases q : g d d' with
  | none => rw [q] at k2; exact k2.elim
  | some z =>
    rw [q] at k2
    cases z with
    | bl t =>
      refine hg B m2 μ2 env st2 σ H2 d d' v v' _ _ R2 (Rep.up u2 _ r1) r2 q fun w m3 μ3 H3 u3 R3 r3 => ?_
      cases r3
      refine ⟨t, rfl, ?_⟩
      have k2 := Post.later u3 k2
      cases t with
      | false => exact k2.now R3 rfl
      | true =>
        refine ⟨B, m3, μ3, env, st2, R3, k2.split fun d3 st3 v3 m4 μ4 H4 u4 R4 r4 k3 => ?_⟩
        obtain ⟨z, e, k4⟩ := k3.of_eq
        exact hg' B m4 μ4 env st3 σ H4 d' d3 v' v3 z Q R4 (Rep.up (u3.trans u4) _ r2) r4 e k4
    | _ => exact k2.elim
theorem ie_chain {op op' : CmpOp} {r r' : R2} {g g' : D → D → Option D} (ho : OpR X (compareOp op) r) (hg : OpD X.K r g) (ho' : OpR X (compareOp op') r') (hg' : OpD X.K r' g') (ha : IE X W a f) (hb : IE X W b f') (hc : IE X W c f3)
    (hm : lastMarks [op, op'] [b, c] = false := by with_unfolding_all rfl) : IE X W (.Compare a [op, op'] [b, c] pos) (eChain f f' f3 g g') := pe_imp (pe_chain ho ho' ha hb hc hm) fun σ H Q hw => tchain_of hg hg' hw
theorem tTest_of {t : TE} {K : Fg} {f : M D} (h : ∀ σ H Q, tI K W f σ H Q → t σ H Q) {σ : L2.St} {H : Hp} {Q : Bool → Hp → Prop} (hw : tIT K W (eTest f) σ H Q) : tTest t σ H Q := by
  obtain ⟨B, m, μ, env, st, R, k⟩ := hw
  refine h σ H _ ⟨B, m, μ, env, st, R, k.split fun d st1 v m1 μ1 H1 u R1 r1 k1 => ?_⟩
  cases d with
  | bl t => exact ⟨t, r1, k1.now R1 rfl⟩
  | _ => exact k1.elim
theorem it_chain {op op' : CmpOp} {r r' : R2} {g g' : D → D → Option D} (ho : OpR X (compareOp op) r) (hg : OpD X.K r g) (ho' : OpR X (compareOp op') r') (hg' : OpD X.K r' g') (ha : IE X W a f) (hb : IE X W b f') (hc : IE X W c f3)
    (hm : lastMarks [op, op'] [b, c] = false := by with_unfolding_all rfl) : IT X W (.Compare a [op, op'] [b, c] pos) (eTest (eChain f f' f3 g g')) := pt_imp (pt_chain ho ho' ha hb hc hm) fun σ H Q hw => tTest_of (fun σ H Q => tchain_of hg hg') hw
end

/-! ### built-in functions by values -/
section
variable {K : Fg}
def gAbs : List D → Option D
  | [.int i] => some (.int (if i < 0 then -i else i))
  | _ => none
theorem reps1 {μ : List Addr} {m : Hp} {d : D} {xs : List V} (h : Reps K μ m [d] xs) : ∃ v, xs = [v] ∧ Rep K μ m d v := by
  obtain ⟨v, ws, rfl, h1, h2⟩ := h
  rw [show ws = [] from h2]; exact ⟨v, rfl, h1⟩
theorem reps2 {μ : List Addr} {m : Hp} {d d' : D} {xs : List V} (h : Reps K μ m [d, d'] xs) : ∃ v w, xs = [v, w] ∧ Rep K μ m d v ∧ Rep K μ m d' w := by
  obtain ⟨v, ws, rfl, h1, h2⟩ := h
  obtain ⟨w, rfl, h3⟩ := reps1 h2
  exact ⟨v, w, rfl, h1, h3⟩
theorem cd_abs : CallD K (fun xs H Q => ∃ i, xs = [.int i] ∧ Q (.int (if i < 0 then -i else i)) H) gAbs := by
  intro B m μ env st σ H ds xs z Q R r e k
  unfold gAbs at e
  split at e
  · rename_i i
    cases e
    obtain ⟨v, rfl, h⟩ := reps1 r
    cases h
    exact ⟨i, rfl, k _ m μ H Up.refl R rfl⟩
  · cases e
def gMax2 : List D → Option D
  | [.int i, .int j] => some (.int (if j > i then j else i))
  | _ => none
def gMin2 : List D → Option D
  | [.int i, .int j] => some (.int (if j < i then j else i))
  | _ => none
theorem cd_max2 : CallD K (fun xs H Q => ∃ i j, xs = [.int i, .int j] ∧ Q (.int (if j > i then j else i)) H) gMax2 := by
  intro B m μ env st σ H ds xs z Q R r e k
  unfold gMax2 at e
  split at e
  · rename_i i j
    cases e
    obtain ⟨v, w, rfl, h, h'⟩ := reps2 r
    cases h; cases h'
    exact ⟨i, j, rfl, k _ m μ H Up.refl R rfl⟩
  · cases e
theorem cd_min2 : CallD K (fun xs H Q => ∃ i j, xs = [.int i, .int j] ∧ Q (.int (if j < i then j else i)) H) gMin2 := by
  intro B m μ env st σ H ds xs z Q R r e k
  unfold gMin2 at e
  split at e
  · rename_i i j
    cases e
    obtain ⟨v, w, rfl, h, h'⟩ := reps2 r
    cases h; cases h'
    exact ⟨i, j, rfl, k _ m μ H Up.refl R rfl⟩
  · cases e
/-- int of an int, a bool | a text -/
def gInt : List D → Option D
  | [.int i] => some (.int i)
  | [.bl b] => some (.int (if b then 1 else 0))
  | _ => none
theorem cd_int : CallD K (fun xs H Q => (∃ i, xs = [.int i] ∧ Q (.int i) H) ∨ ∃ k, xs = [.bl k] ∧ Q (.int (if k then 1 else 0)) H) gInt := by
  intro B m μ env st σ H ds xs z Q R r e k
  unfold gInt at e
  split at e
  · rename_i i
    cases e
    obtain ⟨v, rfl, h⟩ := reps1 r
    cases h
    exact .inl ⟨i, rfl, k _ m μ H Up.refl R rfl⟩
  · rename_i i
    cases e
    obtain ⟨v, rfl, h⟩ := reps1 r
    cases h
    exact .inr ⟨i, rfl, k _ m μ H Up.refl R rfl⟩
  · cases e
def gIntS : List D → Option D
  | [.str x] => if x.length ≤ 640 then (PySem.intText? x).map .int else none
  | _ => none
theorem cd_intS : CallD K (fun xs H Q => ∃ a n, xs = [.str a] ∧ PySem.intText? a = some n ∧ a.length ≤ 640 ∧ Q (.int n) H) gIntS := by
  intro B m μ env st σ H ds xs z Q R r e k
  unfold gIntS at e
  split at e
  · rename_i i
    split at e
    · rename_i hz
      obtain ⟨v, rfl, h⟩ := reps1 r
      cases h
      cases q : PySem.intText? i with
      | none => rw [q] at e; cases e
      | some n => rw [q] at e; cases e; exact ⟨i, n, rfl, q, hz, k _ m μ H Up.refl R rfl⟩
    · cases e
  · cases e
def gStr : List D → Option D
  | [.int i] => if i.natAbs.log2 < 1920 then some (.str (toString i)) else none
  | [.str x] => some (.str x)
  | _ => none
theorem cd_str : CallD K (fun xs H Q => (∃ i, xs = [.int i] ∧ i.natAbs.log2 < 1920 ∧ Q (.str (toString i)) H) ∨ (∃ a, xs = [.str a] ∧ Q (.str a) H)) gStr := by
  intro B m μ env st σ H ds xs z Q R r e k
  unfold gStr at e
  split at e
  · rename_i i
    split at e
    · rename_i hz
      cases e
      obtain ⟨v, rfl, h⟩ := reps1 r
      cases h
      exact .inl ⟨i, rfl, hz, k _ m μ H Up.refl R rfl⟩
    · cases e
  · rename_i x
    cases e
    obtain ⟨v, rfl, h⟩ := reps1 r
    cases h
    exact .inr ⟨x, rfl, k _ m μ H Up.refl R rfl⟩
  · cases e
/-- a list of truth values -/
def D.bls : List D → Option (List Bool)
  | [] => some []
  | .bl b :: r => (D.bls r).map (b :: ·)
  | _ => none
theorem reps_bls {μ : List Addr} {m : Hp} : ∀ {ds : List D} {vs : List V} {bs : List Bool}, Reps K μ m ds vs → D.bls ds = some bs → vs = bs.map V.bl
  | [], vs, bs, h, e => by cases e; exact h
  | d :: ds, _, bs, ⟨w, ws, rfl, h, r⟩, e => by
    cases d with
    | bl b =>
      simp only [D.bls] at e
      cases q : D.bls ds with
      | none => rw [q] at e; cases e
      | some cs =>
        rw [q] at e; cases e
        cases h
        rw [reps_bls r q]; rfl
    | _ => cases e
def gAll : List D → Option D
  | [.lst xs] => (D.bls xs).map fun bs => .bl (bs.all id)
  | _ => none
def gAny : List D → Option D
  | [.lst xs] => (D.bls xs).map fun bs => .bl (bs.any id)
  | _ => none
theorem cd_all : CallD K (rAll K) gAll := by
  intro B m μ env st σ H ds xs z Q R r e k
  unfold gAll at e
  split at e
  · rename_i l
    obtain ⟨v, rfl, h⟩ := reps1 r
    cases q : D.bls l with
    | none => rw [q] at e; cases e
    | some bs =>
      rw [q] at e; cases e
      obtain ⟨a, vs, rfl, h1, h2⟩ := h
      exact ⟨a, bs, rfl, .of (by rw [← reps_bls h2 q]; exact sub_lst R.sub h1), k _ m μ H Up.refl R rfl⟩
  · cases e
theorem cd_any : CallD K (rAny K) gAny := by
  intro B m μ env st σ H ds xs z Q R r e k
  unfold gAny at e
  split at e
  · rename_i l
    obtain ⟨v, rfl, h⟩ := reps1 r
    cases q : D.bls l with
    | none => rw [q] at e; cases e
    | some bs =>
      rw [q] at e; cases e
      obtain ⟨a, vs, rfl, h1, h2⟩ := h
      exact ⟨a, bs, rfl, .of (by rw [← reps_bls h2 q]; exact sub_lst R.sub h1), k _ m μ H Up.refl R rfl⟩
  · cases e
/-- tuple of a list, a tuple; list of a list, a tuple -/
def gTupOf : List D → Option D
  | [.lst xs] => some (.tup xs)
  | [.tup xs] => some (.tup xs)
  | _ => none
theorem cd_tup : CallD K (fun xs H Q => ∃ p ys, xs = [.ref p] ∧ ((SqL K H p ys ∧ ∀ l, H l = none → Q (.ref l) (upd H l (.tup ys))) ∨ (SqT K H p ys ∧ Q (.ref p) H))) gTupOf := by
  intro B m μ env st σ H ds xs z Q R r e k
  unfold gTupOf at e
  split at e
  · rename_i l
    cases e
    obtain ⟨v, rfl, h⟩ := reps1 r
    obtain ⟨a, vs, rfl, h1, h2⟩ := h
    refine ⟨a, vs, rfl, .inl ⟨.of (sub_lst R.sub h1), fun p hp => ?_⟩⟩
    obtain ⟨R2, u2⟩ := R.newFix (o := .tup vs) hp
    exact k _ _ _ _ u2 R2 ⟨p, vs, rfl, .of upd_same, Reps.up u2 _ h2⟩
  · rename_i l
    cases e
    obtain ⟨v, rfl, h⟩ := reps1 r
    obtain ⟨a, vs, rfl, h1, h2⟩ := h
    exact ⟨a, vs, rfl, .inr ⟨R.sub.sqT h1, k _ m μ H Up.refl R ⟨a, vs, rfl, h1, h2⟩⟩⟩
  · cases e
end
section
variable {X : Cx} {W : WX} {a b c e : Expr} {es : List Expr} {f g f' f3 : M D} {fs : M (List D)} {pos p : Pos}
/-- list(x): a new list, kept apart -/
def eListO (f : M D) : M Rs := fun env st => (f env st).bind fun d st => match vw st d with
  | some (.lst xs) => .ok (.o (.lst xs)) st
  | some (.tup xs) => .ok (.o (.lst xs)) st
  | _ => .bad
theorem ir_list (hm : X.mg "list" = none) (hg : Gl X "list") (he : IE X W e f) (hs : starEach [e] X.env = (false, eval e X.env) :: starEach [] X.env := by rfl) (hpl : (backTo pos (starEach [] X.env)).any (·.1) = false := by rfl) :
    IR X W (.Call (.Name "list" p) [e] [] pos) (eListO f) :=
  pe_imp (pe_callTy call_list_of hg hm (by decide +kernel) (pa_cons he pa_nil hs) (by decide) (by decide) hs hpl) fun σ H Q ⟨B, m, μ, env, st, R, k⟩ => by
    refine ⟨B, m, μ, env, st, R, k.split fun d st1 v m1 μ1 H1 u R1 r k1 => ?_⟩
    cases q : vw st1 d with
    | none => rw [q] at k1; exact k1.elim
    | some w =>
      rw [q] at k1
      cases w with
      | lst xs =>
        obtain ⟨a, vs, rfl, h1, h2⟩ := rd_lst R1 r q
        refine ⟨a, vs, rfl, .inl (.of h1), fun l hl => ?_⟩
        obtain ⟨g1, g2, g3, g4⟩ := R1.fresh hl
        exact k1 _ _ _ _ Up.refl (R1.alloc hl) ⟨l, rfl, ⟨vs, upd_same, h2⟩, g1, g2, g4, g3⟩
      | tup xs =>
        cases d with
        | tup ys =>
          cases q
          obtain ⟨a, vs, rfl, h1, h2⟩ := r
          refine ⟨a, vs, rfl, .inr (R1.sub.sqT h1), fun l hl => ?_⟩
          obtain ⟨g1, g2, g3, g4⟩ := R1.fresh hl
          exact k1 _ _ _ _ Up.refl (R1.alloc hl) ⟨l, rfl, ⟨vs, upd_same, h2⟩, g1, g2, g4, g3⟩
        | ref n =>
          exfalso
          simp only [vw] at q
          cases z : st1[n]? with
          | none => rw [z] at q; cases q
          | some o => rw [z] at q; cases o <;> cases q
        | _ => cases q
      | _ => exact k1.elim
/-! ### methods of texts -/
def eM1 (f f' : M D) (g : Str → D → Option D) : M D := fun env st => (f env st).bind fun d st => match d with
  | .str a => (f' env st).bind fun d' st => Out.of (g a d') st
  | _ => .bad
def MthD (K : Fg) (r : V → List V → Hp → VK → Prop) (g : Str → D → Option D) : Prop := ∀ B m μ env st σ H a d y z Q, Rel K B m μ env st σ H → Rep K μ m d y → g a d = some z →
  (∀ v m' μ' H', Up μ μ' m m' → Rel K B m' μ' env st σ H' → Rep K μ' m' z v → Q v H') → r (.str a) [y] H Q
theorem ie_m1 {id : String} {name : Str} {apos : Pos} {r : V → List V → Hp → VK → Prop} {g : Str → D → Option D} (slot : Slot "str" name id) (ty : typeOf (.builtin id) = pure (.type "method_descriptor")) (rule : MtR X id r) (hg : MthD X.K r g) (ho : IE X W a f) (he : IE X W e f')
    (hs : starEach [e] X.env = [(false, eval e X.env)] := by rfl) (hbase : attributeBase a name X.env (eval a X.env) = eval a X.env := by rfl) (hline : (apos.endLine == pos.line) = true := by rfl) :
    IE X W (.Call (.Attribute a name apos) [e] [] pos) (eM1 f f' g) := pe_imp (pe_m1 slot ty rule ho he hs hbase hline) fun σ H Q ⟨B, m, μ, env, st, R, k⟩ => by
    refine ⟨B, m, μ, env, st, R, k.split fun d st1 v m1 μ1 H1 u R1 r1 k1 => ?_⟩
    cases d with
    | str a =>
      cases r1
      refine ⟨⟨a, rfl⟩, B, m1, μ1, env, st1, R1, k1.split fun d' st2 y m2 μ2 H2 u2 R2 r2 k2 => ?_⟩
      obtain ⟨z, e, k3⟩ := k2.of_eq
      exact hg B m2 μ2 env st2 σ H2 a d' y z Q R2 r2 e k3
    | _ => exact k1.elim
end
theorem reps_strs {K : Fg} {μ : List Addr} {m : Hp} : ∀ (xs : List Str), Reps K μ m (xs.map D.str) (xs.map V.str)
  | [] => rfl
  | x :: xs => ⟨.str x, _, rfl, rfl, reps_strs xs⟩
def gSplit (a : Str) : D → Option D
  | .str b => if (b.length == 0) = false ∧ a.length + 2 ≤ sizeLine then some (.lst ((Txt.split a b).map .str)) else none
  | _ => none
theorem md_split {K : Fg} : MthD K (fun x xs H Q => ∃ a b, x = .str a ∧ xs = [.str b] ∧ (b.length == 0) = false ∧ a.length + 2 ≤ sizeLine ∧ rNewStrs (Txt.split a b) H Q) gSplit := by
  intro B m μ env st σ H a d y z Q R r e k
  cases d with
  | str b =>
    cases r
    simp only [gSplit] at e
    split at e
    · rename_i hz
      cases e
      refine ⟨a, b, rfl, rfl, hz.1, hz.2, fun p hp => ?_⟩
      obtain ⟨R2, u2⟩ := R.newFix (o := .lst ((Txt.split a b).map V.str)) hp
      exact k _ _ _ _ u2 R2 ⟨p, _, rfl, upd_same, reps_strs _⟩
    · cases e
  | _ => cases e
/-- a list of texts -/
def D.strs : List D → Option (List Str)
  | [] => some []
  | .str b :: r => (D.strs r).map (b :: ·)
  | _ => none
theorem reps_strs' {K : Fg} {μ : List Addr} {m : Hp} : ∀ {ds : List D} {vs : List V} {bs : List Str}, Reps K μ m ds vs → D.strs ds = some bs → vs = bs.map V.str
  | [], vs, bs, h, e => by cases e; exact h
  | d :: ds, _, bs, ⟨w, ws, rfl, h, r⟩, e => by
    cases d with
    | str b =>
      simp only [D.strs] at e
      cases q : D.strs ds with
      | none => rw [q] at e; cases e
      | some cs =>
        rw [q] at e; cases e
        cases h
        rw [reps_strs' r q]; rfl
    | _ => cases e
def gJoin (a : Str) : D → Option D
  | .lst xs => (match D.strs xs with
    | some ys => if (ys.map (·.length)).sum + ys.length * a.length ≤ 16777216 then some (.str (Txt.join a ys)) else none
    | none => none)
  | .tup xs => (match D.strs xs with
    | some ys => if (ys.map (·.length)).sum + ys.length * a.length ≤ 16777216 then some (.str (Txt.join a ys)) else none
    | none => none)
  | _ => none
theorem md_join {K : Fg} : MthD K (fun x xs H Q => ∃ a p, ∃ ys : List Str, x = .str a ∧ xs = [.ref p] ∧ (SqL K H p (ys.map V.str) ∨ SqT K H p (ys.map V.str)) ∧
    (ys.map (·.length)).sum + ys.length * a.length ≤ 16777216 ∧ Q (.str (Txt.join a ys)) H) gJoin := by
  intro B m μ env st σ H a d y z Q R r e k
  cases d with
  | lst xs =>
    simp only [gJoin] at e
    split at e
    · rename_i ys q
      split at e
      · rename_i hz
        cases e
        obtain ⟨p, vs, rfl, h1, h2⟩ := r
        exact ⟨a, p, ys, rfl, rfl, .inl (.of (by rw [← reps_strs' h2 q]; exact sub_lst R.sub h1)), hz, k _ m μ H Up.refl R rfl⟩
      · cases e
    · cases e
  | tup xs =>
    simp only [gJoin] at e
    split at e
    · rename_i ys q
      split at e
      · rename_i hz
        cases e
        obtain ⟨p, vs, rfl, h1, h2⟩ := r
        exact ⟨a, p, ys, rfl, rfl, .inr (by rw [← reps_strs' h2 q]; exact R.sub.sqT h1), hz, k _ m μ H Up.refl R rfl⟩
      · cases e
    · cases e
  | _ => cases e

/-! ### several names at once -/
section
variable {X : Cx} {W : WX} {a b c e : Expr} {es : List Expr} {f g f' f3 : M D} {fs : M (List D)} {pos p : Pos} {i j l : Nat} {x y z : Str}
def sPar (i j : Nat) (fs : M (List D)) : S := fun env st => (fs env st).bindS env fun ds st => match ds with
  | [d, d'] => .nx ((env.set i (.val d)).set j (.val d')) st
  | _ => .bad
def sPar3 (i j l : Nat) (fs : M (List D)) : S := fun env st => (fs env st).bindS env fun ds st => match ds with
  | [d, d', d''] => .nx (((env.set i (.val d)).set j (.val d')).set l (.val d'')) st
  | _ => .bad
theorem is_par {px py pt : Pos} {kt k2 pt2} (hc : X.calm = true) (hN : X.N.Nodup) (hi : X.N[i]? = some x) (hj : X.N[j]? = some y) (hij : i ≠ j)
    (hx : X.env.scope.names.lookup x = some .local) (hy : X.env.scope.names.lookup y = some .local) (ha : IA X W [a, b] fs)
    (hw : swappedStores [.Tuple [.Name x px, .Name y py] kt pt] (.Tuple [a, b] k2 pt2) X.env = pure (some [x, y]))
    (hs : swapsWithSole [.Tuple [.Name x px, .Name y py] kt pt] (.Tuple [a, b] k2 pt2) pos.line X.env = pure false := by rfl) :
    IS X W (.Assign [.Tuple [.Name x px, .Name y py] kt pt] (.Tuple [a, b] k2 pt2) pos) (sPar i j fs) := ps_imp (ps_par hc hN hi hj hij hx hy ha hw hs) fun D σ H ⟨B, m, μ, env, st, R, k⟩ =>
  ⟨B, m, μ, env, st, R, k.split fun ds st1 vs m1 μ1 H1 u R1 r k1 => by
    match ds, k1, r with
    | [d, d'], k1, r =>
      obtain ⟨v, w, rfl, h1, h2⟩ := reps2 r
      exact ⟨v, w, rfl, k1.now ((R1.setVal h1).setVal h2)⟩
    | [], k1, _ => exact k1.elim
    | [_], k1, _ => exact k1.elim
    | _ :: _ :: _ :: _, k1, _ => exact k1.elim⟩
/-- a = list(..), b = ..: the first one an object of its own -/
def sParO (i j : Nat) (fr : M Rs) (f : M D) : S := fun env st => (fr env st).bindS env fun r st => match r with
  | .o q => (f (cEnv env []) st).bindS env fun d st => .nx ((env.set i (.own q)).set j (.val d)) st
  | .v _ => .bad
theorem is_parO {px py pt : Pos} {kt k2 pt2} {fr : M Rs} (hc : X.calm = true) (hN : X.N.Nodup) (hi : X.N[i]? = some x) (hj : X.N[j]? = some y) (hij : i ≠ j)
    (hx : X.env.scope.names.lookup x = some .local) (hy : X.env.scope.names.lookup y = some .local) (ha : IR X W a fr) (hb : IE X W b f)
    (hw : swappedStores [.Tuple [.Name x px, .Name y py] kt pt] (.Tuple [a, b] k2 pt2) X.env = pure (some [x, y]))
    (hs : swapsWithSole [.Tuple [.Name x px, .Name y py] kt pt] (.Tuple [a, b] k2 pt2) pos.line X.env = pure false := by rfl)
    (h1 : starEach [a, b] X.env = (false, eval a X.env) :: starEach [b] X.env := by rfl) (h2 : starEach [b] X.env = (false, eval b X.env) :: starEach [] X.env := by rfl) :
    IS X W (.Assign [.Tuple [.Name x px, .Name y py] kt pt] (.Tuple [a, b] k2 pt2) pos) (sParO i j fr f) := ps_imp (ps_par hc hN hi hj hij hx hy (pa_cons ha (pa_cons hb pa_nil h2) h1) hw hs) fun D σ H ⟨B, m, μ, env, st, R, k⟩ =>
  ⟨B, m, μ, env, st, R, k.split fun r st1 v m1 μ1 H1 u R1 p k1 => by
    cases r with
    | v d => exact k1.elim
    | o q =>
      obtain ⟨a, rfl, q1, q2, q3, q4, q5⟩ := p
      have Rb := R1.block []
      refine ⟨_, m1, μ1, cEnv env [], st1, Rb, ?_⟩
      dsimp only at k1
      cases z : f (cEnv env []) st1 with
      | bad => rw [z] at k1; exact k1.elim
      | exc c fs st2 => rw [z] at k1; exact fun dx m2 μ2 H2 u2 R2 xd => k1 dx σ m2 μ2 H2 u2 (R1.call R2.drop) xd
      | ok d st2 =>
        rw [z] at k1
        intro w m2 μ2 H2 u2 R2 rw'
        obtain ⟨ob, hob⟩ := q1.there
        obtain ⟨h1, h2, h3⟩ := R2.keepD hob q2 q3
        have R3 : Rel X.K B m2 μ2 env st2 σ H2 := R1.call R2.drop
        refine ⟨.ref a, w, rfl, ?_⟩
        have R4 := R3.setOwn (i := i) (q1.up u2 (h1.trans hob.symm)) h2 h3 q4 fun j _ => q5 j
        exact k1 _ m2 μ2 H2 u2 (R4.setVal rw')⟩
/-- x op= e -/
def sAug (i : Nat) (f : M D) (g : D → D → Option D) : S := fun env st => match env[i]? with
  | some (.val d) => (f env st).bindS env fun d' st => (match g d d' with
    | some z => .nx (env.set i (.val z)) st
    | none => .bad)
  | _ => .bad
theorem is_aug {op : Operator} {r : R2} {g : D → D → Option D} {pos' : Pos} (ho : OpR X (inplaceOp op) r) (hg : OpD X.K r g) (hN : X.N.Nodup) (hi : X.N[i]? = some x) (hx : Loc X.env.scope x) (he : IE X W e f) (hf : X.fn x = true ∨ X.env.scope.names.lookup x = some .local := by first | exact .inl rfl | exact .inr rfl | assumption) :
    IS X W (.AugAssign (.Name x pos') op e pos) (sAug i f g) := ps_imp (ps_aug hN hi hx he (ti := fun x y H Q => r x y H Q) (fun pins s σ H x y v u Q I r1 r2 q => ho pins s σ H x y v u Q I r1 r2 q) hf) fun D σ H ⟨B, m, μ, env, st, R, k⟩ => by
    unfold sAug at k
    split at k
    · rename_i d q
      obtain ⟨v, e1, r1⟩ := R.val i d q
      refine ⟨v, e1, B, m, μ, env, st, R, k.split fun d' st1 w m1 μ1 H1 u R1 r2 k1 => ?_⟩
      split at k1
      · rename_i z hz
        exact hg B m1 μ1 env st1 σ H1 d d' v w z _ R1 (Rep.up u _ r1) r2 hz fun z' m2 μ2 H2 u2 R2 r3 => k1 _ m2 μ2 H2 u2 (R2.setVal r3)
      · exact k1.elim
    · exact k.elim
end
end SK
end
section
set_option Elab.async false
set_option linter.all false
set_option autoImplicit false
set_option maxRecDepth 100000
set_option maxHeartbeats 1000000
namespace SK
open PySem PySem.Spec PyProof.Rows L2

/-! ### the operators as they are used -/
def rAddA (K : Fg) : R2 := fun x y H Q => rI0 (fun i j => V.int (i + j)) x y H Q ∨ ((∃ i j, x = .str i ∧ y = .str j ∧ i.length + j.length ≤ sizeLine ∧ Q (.str (i ++ j)) H) ∨ (rCat x y H Q ∨ rCatA K x y H Q))
theorem op_addA {X : Cx} : OpR X (binaryOp .Add) (rAddA X.K) := op_add.or (op_add_str.or (op_cat.or op_catA))
def gAdd : D → D → Option D
  | .int i, .int j => some (.int (i + j))
  | .str a, .str b => if a.length + b.length ≤ sizeLine then some (.str (a ++ b)) else none
  | .lst a, .lst b => if a.length + b.length ≤ sizeLine then some (.lst (a ++ b)) else none
  | .tup a, .tup b => if a.length + b.length ≤ sizeLine then some (.tup (a ++ b)) else none
  | _, _ => none
theorem OpD.or2 {K : Fg} {r r' : R2} {g : D → D → Option D} (h : ∀ d d' z, g d d' = some z → (∃ g1, OpD K r g1 ∧ g1 d d' = some z) ∨ (∃ g1, OpD K r' g1 ∧ g1 d d' = some z)) : OpD K (fun x y H Q => r x y H Q ∨ r' x y H Q) g :=
  fun B m μ env st σ H d d' x y z Q R r1 r2 e k => by
    rcases h d d' z e with ⟨g1, o, e1⟩ | ⟨g1, o, e1⟩
    · exact .inl (o B m μ env st σ H d d' x y z Q R r1 r2 e1 k)
    · exact .inr (o B m μ env st σ H d d' x y z Q R r1 r2 e1 k)
theorem OpD.or4 {K : Fg} {r1 r2 r3 r4 : R2} {g g1 g2 g3 g4 : D → D → Option D} (o1 : OpD K r1 g1) (o2 : OpD K r2 g2) (o3 : OpD K r3 g3) (o4 : OpD K r4 g4)
    (h : ∀ d d' z, g d d' = some z → g1 d d' = some z ∨ g2 d d' = some z ∨ g3 d d' = some z ∨ g4 d d' = some z) : OpD K (fun x y H Q => r1 x y H Q ∨ (r2 x y H Q ∨ (r3 x y H Q ∨ r4 x y H Q))) g :=
  fun B m μ env st σ H d d' x y z Q R q1 q2 e k => by
    rcases h d d' z e with e | e | e | e
    · exact .inl (o1 B m μ env st σ H d d' x y z Q R q1 q2 e k)
    · exact .inr (.inl (o2 B m μ env st σ H d d' x y z Q R q1 q2 e k))
    · exact .inr (.inr (.inl (o3 B m μ env st σ H d d' x y z Q R q1 q2 e k)))
    · exact .inr (.inr (.inr (o4 B m μ env st σ H d d' x y z Q R q1 q2 e k)))
theorem OpD.or3 {K : Fg} {r1 r2 r3 : R2} {g g1 g2 g3 : D → D → Option D} (o1 : OpD K r1 g1) (o2 : OpD K r2 g2) (o3 : OpD K r3 g3)
    (h : ∀ d d' z, g d d' = some z → g1 d d' = some z ∨ g2 d d' = some z ∨ g3 d d' = some z) : OpD K (fun x y H Q => r1 x y H Q ∨ (r2 x y H Q ∨ r3 x y H Q)) g :=
  fun B m μ env st σ H d d' x y z Q R q1 q2 e k => by
    rcases h d d' z e with e | e | e
    · exact .inl (o1 B m μ env st σ H d d' x y z Q R q1 q2 e k)
    · exact .inr (.inl (o2 B m μ env st σ H d d' x y z Q R q1 q2 e k))
    · exact .inr (.inr (o3 B m μ env st σ H d d' x y z Q R q1 q2 e k))
theorem od_addA {K : Fg} : OpD K (rAddA K) gAdd := OpD.or4 od_I0 od_addS od_addL od_addT fun d d' z h => by
  unfold gAdd at h
  split at h
  · exact .inl h
  · exact .inr (.inl h)
  · exact .inr (.inr (.inl h))
  · exact .inr (.inr (.inr h))
  · cases h
def cMulB (i j : Int) : Bool := (decide (-(2 ^ 64) < i) && decide (i < 2 ^ 64)) || (decide (-(2 ^ 64) < j) && decide (j < 2 ^ 64))
def gMul : D → D → Option D
  | .int i, .int j => if cMulB i j then some (.int (i * j)) else none
  | .lst a, .int k => if a.length ≤ 1000 ∧ -1000 ≤ k ∧ k ≤ 1000 then some (.lst (List.replicate k.toNat a).flatten) else none
  | _, _ => none
theorem Reps.rep {K : Fg} {μ : List Addr} {m : Hp} {ds : List D} {vs : List V} (r : Reps K μ m ds vs) : ∀ n : Nat, Reps K μ m (List.replicate n ds).flatten (List.replicate n vs).flatten
  | 0 => rfl
  | n + 1 => by rw [List.replicate_succ, List.replicate_succ, List.flatten_cons, List.flatten_cons]; exact r.append (Reps.rep r n)
theorem od_mulA {K : Fg} : OpD K (fun x y H Q => rI CMul (fun i j => .int (i * j)) x y H Q ∨ rRep x y H Q) gMul := by
  intro B m μ env st σ H d d' x y z Q R r1 r2 e k
  cases d with
  | int i =>
    cases d' with
    | int j =>
      simp only [gMul] at e
      split at e
      · rename_i hh
        cases e; cases r1; cases r2
        refine .inl ⟨i, j, rfl, rfl, ?_, k _ m μ H Up.refl R rfl⟩
        rcases Bool.or_eq_true_iff.mp hh with h | h
        · exact .inl ⟨of_decide_eq_true (Bool.and_eq_true_iff.mp h).1, of_decide_eq_true (Bool.and_eq_true_iff.mp h).2⟩
        · exact .inr ⟨of_decide_eq_true (Bool.and_eq_true_iff.mp h).1, of_decide_eq_true (Bool.and_eq_true_iff.mp h).2⟩
      · cases e
    | _ => cases e
  | lst xs =>
    cases d' with
    | int j =>
      simp only [gMul] at e
      split at e
      · rename_i hh
        cases e; cases r2
        obtain ⟨a, vs, rfl, h1, h2⟩ := r1
        have hl : vs.length * j.toNat ≤ 1000 * 1000 := Nat.mul_le_mul (by rw [← h2.length]; exact hh.1) (by omega)
        refine .inr ⟨a, j, vs, rfl, rfl, sub_lst R.sub h1, by omega, by omega, Nat.le_trans hl (by decide), fun p hp => ?_⟩
        obtain ⟨R2, u2⟩ := R.newFix (o := .lst (List.replicate j.toNat vs).flatten) hp
        exact k _ _ _ _ u2 R2 ⟨p, _, rfl, upd_same, (Reps.up u2 _ h2).rep _⟩
      · cases e
    | _ => cases e
  | _ => cases e
theorem op_mulA {X : Cx} : OpR X (binaryOp .Mult) (fun x y H Q => rI CMul (fun i j => .int (i * j)) x y H Q ∨ rRep x y H Q) := op_mul.or op_rep
abbrev gSub : D → D → Option D := gI0 fun i j => i - j
abbrev gDiv : D → D → Option D := gI (fun _ j => decide (0 < j) && decide (j.natAbs.log2 < 9000)) fun i j => i / j
abbrev gMod : D → D → Option D := gI (fun _ j => decide (0 < j)) fun i j => i % j
abbrev gPow : D → D → Option D := gI (fun i j => decide (0 ≤ j) && decide (j ≤ 1000000) && decide (i.natAbs < 2 ^ 64)) fun i j => i ^ j.toNat
theorem od_sub {K : Fg} : OpD K (rI0 fun i j => .int (i - j)) gSub := od_I0
theorem od_div {K : Fg} : OpD K (rI CDivW fun i j => .int (i / j)) gDiv := od_I fun i j h => ⟨of_decide_eq_true (Bool.and_eq_true_iff.mp h).1, of_decide_eq_true (Bool.and_eq_true_iff.mp h).2⟩
theorem od_mod {K : Fg} : OpD K (rI (fun _ j => 0 < j) fun i j => .int (i % j)) gMod := od_I fun i j h => of_decide_eq_true h
theorem od_pow {K : Fg} : OpD K (rI CPow fun i j => .int (i ^ j.toNat)) gPow := od_I fun i j h => by
  obtain ⟨h1, h2⟩ := Bool.and_eq_true_iff.mp h
  obtain ⟨h3, h4⟩ := Bool.and_eq_true_iff.mp h1
  exact ⟨of_decide_eq_true h3, of_decide_eq_true h4, of_decide_eq_true h2⟩
abbrev gLt : D → D → Option D := gB fun i j => decide (i < j)
abbrev gLe : D → D → Option D := gB fun i j => decide (i ≤ j)
abbrev gGt : D → D → Option D := gB fun i j => decide (j < i)
abbrev gGe : D → D → Option D := gB fun i j => decide (j ≤ i)
theorem od_lt {K : Fg} : OpD K (rI0 fun i j => .bl (decide (i < j))) gLt := od_B
theorem od_le {K : Fg} : OpD K (rI0 fun i j => .bl (decide (i ≤ j))) gLe := od_B
theorem od_gt {K : Fg} : OpD K (rI0 fun i j => .bl (decide (j < i))) gGt := od_B
theorem od_ge {K : Fg} : OpD K (rI0 fun i j => .bl (decide (j ≤ i))) gGe := od_B
/-- in, not in -/
def gIn (n : Bool) (d d' : D) : Option D := match d' with
  | .str _ => gInS n d d'
  | .tup _ => gInT n d d'
  | .lst _ => gInL n d d'
  | _ => none
def rInA (K : Fg) : R2 := fun x y H Q => (∃ i j, x = .str i ∧ y = .str j ∧ Q (.bl (!(Builtin.Str.occurrences j i 0 j.length 1).isEmpty)) H) ∨ (rInD K x y H Q ∨ rIn K false x y H Q)
theorem op_inA {X : Cx} (hu : X.A.units + 65 < cLine) : OpR X (compareOp .In) (rInA X.K) := op_in_str.or ((op_inD hu).or op_in_seq)
theorem od_inA {K : Fg} : OpD K (rInA K) (gIn false) := OpD.or3 od_inS od_inL (od_inT false) fun d d' z h => by
  unfold gIn at h
  split at h
  · exact .inl h
  · exact .inr (.inr h)
  · exact .inr (.inl h)
  · cases h
end SK
end
section
set_option Elab.async false
set_option linter.all false
set_option autoImplicit false
set_option maxRecDepth 100000
set_option maxHeartbeats 1000000
/-! a def that closes over __class__ and begins with super().__init__(text) -/
namespace SK
open PySem PySem.Spec PyProof.Rows L2
open PySem.W (ksEnv ksFn kxs_mw)

structure SupScope (N P : List Str) (sc : Scope) : Prop where
  kind : sc.kind = .function
  co : sc.isCoroutine = false
  gen : sc.isGenerator = false
  nd : N.Nodup
  pre : N.take P.length = P
  par : ∀ x ∈ P, sc.names.lookup x = some .local
  nocell : ∀ y ∈ sc.names, y.2 ≠ .cell
  free : ∀ y ∈ sc.names, y.2 = .free → y.1 = "__class__"
  sup : sc.names.lookup ("super" : Str) = some .globalImplicit
  cls : sc.names.lookup ("__class__" : Str) = some .free
structure SupD (P : Program) (K : PySem.W.Frag) (mg : Str → Option Value) (x qual : Str) (params : Arguments) (body : List Stmt) (scope : Scope) (D f : Addr) (fd : FuncData) : Prop where
  ex : ∃ (oc : Value) (od : Option Addr) (dV kV doc pm : Value) (an : Option Addr) (cda : Addr) (ct : Value) (osl : Array (Option Value)) (cc : Addr) (vs : Array Value) (file : Str) (tf : Tok) (ccl cl : Value) (cdd cld : Option Addr) (ccs csl : Array (Option Value)),
    fd = ksFn x qual params body scope dV kV doc pm an (.ref cda) ct cc ∧ K.lookup f = some ⟨oc, od, .func fd, osl⟩ ∧ PySem.W.codeIn K (.ref cda) qual = true ∧
    K.lookup cda = some ⟨ccl, cdd, .fields vs, ccs⟩ ∧ vs[2]? = some (.str file tf) ∧ ((P.main.file : Str) == file) = true ∧ K.lookup cc = some ⟨cl, cld, .cell (some (.ref D)), csl⟩
  top : (P.main.scope.names.lookup ("super" : Str)).isSome = false
  sup : mg "super" = none
  any : PySem.W.nsIn K cStatics "thirdparty.any" = some none
/-- the context of such a def's body -/
def cxOfS (P : Program) (w : World) (K : PySem.W.Frag) (mg : Str → Option Value) (base : Heap) (N : List Str) (qual : Str) (scope : Scope) (f cc : Addr) (cd : Value) (A : Around) (outer : List Env) (s : Shared) (H : Hp) (E : XK) : Cx where
  prog := P
  w := w
  K := K
  mg := mg
  base := base
  A := A.deeper (ksEnv qual scope s.heap.objs.size f cd cc)
  N := N
  s_0 := s
  H_0 := H
  env := ksEnv qual scope s.heap.objs.size f cd cc
  outer := outer
  stack := ksEnv qual scope s.heap.objs.size f cd cc :: outer
  ex := []
  calm := true
  fn := fun x => x != ("__class__" : Str)
  pn := []
  xe := fun e s' => wpAny (model P w) (A.deeper (ksEnv qual scope s.heap.objs.size f cd cc)) (leaving (ksEnv qual scope s.heap.objs.size f cd cc) e) (fun _ s'' => L2.CX P w outer H s E e s'') (fun e' s'' => L2.CX P w outer H s E e' s'') s'

theorem zip_rev {ps : List Str} {us : List Value} {i : Nat} {x : Str} {u : Value} (nd : ps.Nodup) (hl : ps.length ≤ us.length) (h1 : ps[i]? = some x) (h2 : us[i]? = some u) : (ps.zip us).reverse.lookup x = some u := by
  have key : ∀ (ps : List Str) (us : List Value) (i : Nat), ps.Nodup → ps[i]? = some x → us[i]? = some u → (ps.zip us).lookup x = some u := by
    intro ps
    induction ps with
    | nil => intro us i _ h; simp at h
    | cons p ps ih =>
      intro us i nd h1 h2
      have nd' := List.nodup_cons.mp nd
      cases us with
      | nil => simp at h2
      | cons w us =>
        cases i with
        | zero =>
          simp at h1 h2
          subst h1; subst h2
          simp
        | succ i =>
          have h1' : ps[i]? = some x := by simpa using h1
          have ne : (x == p) = false := by
            apply beq_eq_false_iff_ne.mpr
            intro e
            subst e
            exact nd'.1 (List.mem_of_getElem? h1')
          show List.lookup x ((p, w) :: ps.zip us) = _
          rw [List.lookup_cons, ne]
          exact ih us i nd'.2 h1' (by simpa using h2)
  rw [lookup_reverse_of_nodup _ (by rw [show (ps.zip us).map (·.1) = ps from List.map_fst_zip hl]; exact nd)]
  exact key ps us i nd h1 h2

theorem inv_startS {P : Program} {w : World} {K : PySem.W.Frag} {mg : Str → Option Value} {base : Heap} {N ps : List Str} {qual : Str} {scope : Scope} {f cc D : Addr} {cd cl : Value} {cld : Option Addr} {csl : Array (Option Value)} {A : Around} {outer : List Env} {s s1 : Shared} {H : Hp} {E : XK} {us : List Value} {vs : List V}
    (S : SupScope N ps scope) (hd : A.handled = none) (e0 : Env0 P w K mg base A outer s H) (hl : vs.length = ps.length) (r : Vals vs us) (hc : K.lookup cc = some ⟨cl, cld, .cell (some (.ref D)), csl⟩)
    (h0 : Heap) (tk : Nat) (hs1 : s1 = { s with heap := h0, toks := tk }) (hns : h0.Ns s.heap.objs.size (fun y => (ps.zip us).reverse.lookup y)) (hk : ∀ b o, s.heap.get? b = some o → h0.get? b = some o) :
    Inv (cxOfS P w K mg base N qual scope f cc cd A outer s H E) [] (L2.start N vs) H s1 := by
  subst hs1
  have hpl : ps.length ≤ N.length := by have := congrArg List.length S.pre; rw [List.length_take] at this; omega
  have noA : ∀ b : Addr, b ∉ (cxOfS P w K mg base N qual scope f cc cd A outer s H E).ex := fun b z => absurd (show b ∈ ([] : List Addr) from z) (by simp)
  have hcb : base.get? cc = some ⟨cl, cld, .cell (some (.ref D)), csl⟩ := e0.mod.kin _ _ hc
  have one : ∀ (x : Str) (c : Addr), List.lookup x [(("__class__" : Str), cc)] = some c → x = "__class__" ∧ c = cc := fun x c h => by
    rw [List.lookup_cons] at h
    by_cases hx : x = "__class__"
    · subst hx; simp at h; exact ⟨rfl, h.symm⟩
    · rw [beq_eq_false_iff_ne.mpr hx] at h; cases h
  refine ⟨⟨e0.mod, S.kind, rfl, rfl, Nat.le_refl _, fun x y c h1 h2 => ?_, fun y hy => ?_, fun y c hf h => ?_, fun _ => hd, Around.frames_deeper e0.frames, .inr ⟨rfl, rfl⟩, fun b z => absurd z (noA b), e0.bs, e0.bsz, fun b _ _ => noA b, fun b z => absurd z (noA b), e0.funs, e0.frf⟩,
    rfl, e0.bare, Un.kept hk, ⟨_, hns, fun i y v h1 h2 h3 => ?_⟩, fun y c h => ?_, e0.hok.fresh (Nat.le_refl _), fun y c h => ?_, fun p hp => absurd (show p ∈ ([] : List (Addr × Obj)) from hp) (by simp), e0.hok.kept hk, ?_⟩
  · exact (one _ _ h1).1.trans (one _ _ h2).1.symm
  · have hy : scope.names.lookup y = some .cell ∨ scope.names.lookup y = some .free := hy
    rcases hy with hy | hy
    · exact absurd rfl (S.nocell _ (PySem.mem_of_lookup hy))
    · have := S.free _ (PySem.mem_of_lookup hy) rfl
      have this : y = "__class__" := this
      subst this
      exact ⟨cc, by show List.lookup _ [(_, cc)] = _; simp⟩
  · have := (one _ _ h).1
    subst this
    simp [cxOfS] at hf
  · have hi : i < vs.length := by
      unfold L2.start at h2
      by_cases hi : i < vs.length
      · exact hi
      · rw [List.getElem?_append_right (by simpa using hi)] at h2
        rw [List.getElem?_replicate] at h2
        split at h2 <;> cases h2
    have ha : vs[i]? = some v := by
      unfold L2.start at h2
      rw [List.getElem?_append_left (by simpa using hi), List.getElem?_map] at h2
      cases e : vs[i]? with
      | none => rw [e] at h2; cases h2
      | some a => rw [e] at h2; cases h2; rfl
    obtain ⟨u, hu, rv⟩ := r.get ha
    have hp : ps[i]? = some y := by
      rw [← S.pre, List.getElem?_take_of_lt (by omega)]; exact h1
    have ndP : ps.Nodup := by rw [← S.pre]; exact S.nd.sublist (List.take_sublist _ _)
    exact ⟨u, rv, .inl ⟨S.par y (List.mem_of_getElem? hp), zip_rev ndP (by rw [← r.length, hl]; exact Nat.le_refl _) hp hu⟩⟩
  · have := (one _ _ h).2
    subst this
    exact ⟨some (.ref D), _, hk _ _ (e0.bs _ _ hcb).1, rfl⟩
  · have := (one _ _ h).2
    subst this
    exact (e0.bs _ _ hcb).2
  · unfold L2.start
    show _ = N.length
    rw [List.length_append, List.length_map, List.length_replicate]
    omega
/-- THE RULE of a def that begins with super().__init__(text), over ValueError -/
theorem fn_super {P : Program} {w : World} {K : PySem.W.Frag} {mg : Str → Option Value} {base : Heap} {x qual : Str} {params : Arguments} {rest : List Stmt} {scope : Scope} {D f : Addr} {fd : FuncData} {N ps : List Str} {k : Nat} {sp : Sp}
    {p0 p1 p2 p3 p4 p5 : Pos} {msg : Str} {j : Nat} {self : Arg} {pst : List Str}
    (F : SupD P K mg x qual params (.Expr (.Call (.Attribute (.Call (.Name "super" p0) [] [] p1) "__init__" p2) [.Constant (.str msg) j p3] [] p4) p5 :: rest) scope D f fd) (S : SupScope N ps scope)
    (hps : ps = self.arg :: pst) (hself : (params.posonlyargs ++ params.args).head? = some self) (T : OexC K D) (cdD : ClassData) (hD : PySem.W.clsIn K D = some cdD) (hsub : PySem.W.mroIn K D (.ref D) = some true)
    (hV : PySem.W.subIn K (.ref D) (.type "ValueError") = some true) (hm : PySem.W.ks_superIn K D D "__init__" = some (some (.builtin "ValueError.__init__")))
    (pl : Env → Sem Bool) (hcall : ∀ (L cc cda : Addr), eval (.Call (.Attribute (.Call (.Name "super" p0) [] [] p1) "__init__" p2) [.Constant (.str msg) j p3] [] p4) (ksEnv qual scope L f (.ref cda) cc) = (do
      let ov ← attributeBase (.Call (.Name "super" p0) [] [] p1) "__init__" (ksEnv qual scope L f (.ref cda) cc) (eval (.Call (.Name "super" p0) [] [] p1) (ksEnv qual scope L f (.ref cda) cc))
      standAt p2.atName
      let (f1, first) ← holding [ov] (getMethod ov "__init__" (pl (ksEnv qual scope L f (.ref cda) cc)))
      callWith p4 f1 first (backTo p4 (starEach [.Constant (.str msg) j p3] (ksEnv qual scope L f (.ref cda) cc))) []))
    (hi : ∀ (L cc cda : Addr), interactive (ksEnv qual scope L f (.ref cda) cc) = false)
    (hsw : ∀ (L cc cda : Addr), swapsWith (.Call (.Attribute (.Call (.Name "super" p0) [] [] p1) "__init__" p2) [.Constant (.str msg) j p3] [] p4) none p5.line (ksEnv qual scope L f (.ref cda) cc) = pure false)
    (len : ∀ vs H Q E, sp vs H Q E → vs.length = ps.length)
    (hbody : ∀ (cda cc : Addr) (A : Around) (outer : List Env) (s : Shared) (H : Hp) (vs : List V) (Q : VK) (E : XK), Room k (A.deeper (ksEnv qual scope s.heap.objs.size f (.ref cda) cc)) → sp vs H Q E →
      (∃ a ws, vs = .ref a :: ws ∧ H a = some (exo a D none)) ∧
      ∃ t, PSs (cxOfS P w K mg base N qual scope f cc (.ref cda) A outer s H E) rest t ∧ t { nx := fun _ H' => Q .non H', rt := Q } (L2.start N vs) H) :
    FnOk P w K mg base (L2.CX P w) (k + 1) f fd ps sp := by
  obtain ⟨oc, od, dV, kV, doc, pm, an, cda, ct, osl, cc, vsc, file, tf, ccl, cl, cdd, cld, ccs, csl, rfl, lk, hcd, lcd, hv2, hfile, lcc⟩ := F.ex
  refine ⟨len, fun A outer s H args us vs Q E hr e0 hbi r hsp => ?_⟩
  have hl := len _ _ _ _ hsp
  have KX : K.In s.heap := e0.mod.kin.keeps fun b o e => (e0.bs b o e).1
  have lim : s.heap.NoLimit := e0.mod.nolimit.keeps fun b o e => (e0.bs b o e).1
  refine PySem.ks_codeAny_call_defAt (binds := ps.zip us) hr.depth (KX _ _ lk) rfl lim (PySem.W.codeRec_of KX hcd) rfl hbi S.nocell (fun y hy => S.par _ (List.of_mem_zip hy).1) (fun h0 hns hk => ?_) S.co S.gen S.kind
  obtain ⟨⟨a, ws, rfl, ea⟩, t, ht, hq⟩ := hbody cda cc A outer s H _ Q E (hr.deeper _) hsp
  have I0 := inv_startS (qual := qual) (f := f) (cd := .ref cda) (A := A) (E := E) S hr.hd e0 hl r lcc h0 (s.toks + (ps.zip us).length) rfl hns hk
  show _root_.PySem.wpAt (model P w) (A.deeper (ksEnv qual scope s.heap.objs.size f (.ref cda) cc)) (.func _ (ksEnv qual scope s.heap.objs.size f (.ref cda) cc)) (execs _ (ksEnv qual scope s.heap.objs.size f (.ref cda) cc)) _ _ _
  refine PySem.ks_wpAt_execs_cons (PySem.ks_wpAt_Expr_any (PySem.ks_wpAt_MethodCall (PySem.ks_wpAt_super_base (env := ksEnv qual scope s.heap.objs.size f (.ref cda) cc) S.sup S.cls (by decide) rfl (I0.kIn _ _ lk) rfl hself rfl (I0.kIn _ _ lcd) rfl hv2 hfile F.top ?_) (hcall _ _ _)) (hi _ _ _) (hsw _ _ _))
  obtain ⟨mb, hb1, hb2⟩ := I0.mod.blt
  refine PySem.W.ks_loadName_global S.kind S.sup (Calls.loadGlobal_builtin (env := ksEnv qual scope s.heap.objs.size f (.ref cda) cc) (I0.mod.glob.keeps I0.bk) F.sup (hb1.keeps I0.bk) ((hb2 _ (by decide +kernel)).trans (by decide +kernel)) ⟨rfl, ?_⟩)
  refine wpAny_loadName_free S.kind S.cls (by rfl) ⟨_, I0.kIn _ _ lcc, rfl⟩ ?_
  have u0 : ∃ us', us = .ref a :: us' := by
    cases r with
    | @cons _ u1 _ ur r1 r2 => obtain rfl : u1 = Value.ref a := r1; exact ⟨ur, rfl⟩
  obtain ⟨us', rfl⟩ := u0
  have ndP : ps.Nodup := by rw [← S.pre]; exact S.nd.sublist (List.take_sublist _ _)
  have hpl : (Value.ref a :: us').length = ps.length := by rw [← r.length, hl]
  refine wpAny_loadName_local (v := .ref a) S.kind (S.par _ (by rw [hps]; exact List.mem_cons_self)) hns (zip_rev (i := 0) ndP (by rw [hpl]; exact Nat.le_refl _) (by rw [hps]; rfl) rfl) ?_
  obtain ⟨oD, hD1, hD2⟩ : ∃ oD, h0.get? D = some oD ∧ oD.data = .cls cdD := by
    unfold PySem.W.clsIn at hD
    split at hD
    · rename_i c d cd' sl ho
      cases hD
      exact ⟨_, I0.kIn _ _ ho, rfl⟩
    · cases hD
  obtain ⟨t1, ho⟩ := exo_at I0.hok ea
  have ho : h0.get? a = some ({ cls := .ref D, dict := none, data := .fields #[.ref t1, .none, .none, .none, .bool false, .none] } : Obj) := ho
  refine PySem.ks_wpAny_isType_cls hD1 hD2 ⟨rfl, ?_⟩
  refine PySem.ks_wpAny_call_super hD1 hD2 ho rfl (fun c e => by cases e) (PySem.W.looks_mroIn I0.kIn hsub) (fun h1 e1 k1 => ?_)
  -- super() stands; its __init__
  have I1 := I0.kept (t' := s.toks + (ps.zip (Value.ref a :: us')).length) (h' := h1) k1
  obtain ⟨t2, ho1⟩ := exo_at I1.hok ea
  have hI : PySem.W.Looks (model P w) h1 (isInstance (.ref a) (.type "ValueError")) true := (PySem.W.InstAt.type (od := none) ⟨ho1, rfl, rfl, trivial⟩).andThen (PySem.W.looks_subIn I1.kIn hV)
  have IA : PySem.W.InstAt h1 a ({ cls := .ref D, dict := none, data := .fields #[.ref t2, .none, .none, .none, .bool false, .none] } : Obj) D none := ⟨ho1, rfl, rfl, trivial⟩
  have hm' := hm
  unfold PySem.W.ks_superIn at hm'
  rw [hD] at hm'
  refine PySem.W.kxs_getMethod PySem.W.kxs_ValueError e1 (PySem.W.looks_opaque I1.kIn F.any) (l₀ := cdD.mro) ?_ rfl I1.kIn hm' hI (PySem.W.ks_ne I1.kIn IA hD) (by decide) ?_
  · exact fun A Q E s k q => wpAny_bind ((PySem.W.looks_clsIn I1.kIn hD) A _ E s k (wpAny_pure q))
  have kw : ∀ b o, h1.get? b = some o → (h1.push (kxs_mw "ValueError.__init__" a)).get? b = some o := fun b o e => Heap.get?_push_of_some _ e
  have hw : (h1.push (kxs_mw "ValueError.__init__" a)).get? h1.objs.size = some (kxs_mw "ValueError.__init__" a) := Heap.get?_push_at rfl rfl
  have I2 := I1.kept (t' := s.toks + (ps.zip (Value.ref a :: us')).length + 1) (h' := h1.push (kxs_mw "ValueError.__init__" a)) kw
  have hfr : H h1.objs.size = none := I1.hok.fresh (Nat.le_refl _)
  have I3 := I2.pins_of (pins' := [(h1.objs.size, kxs_mw "ValueError.__init__" a)]) fun p hp => by
    have : p = (h1.objs.size, kxs_mw "ValueError.__init__" a) := by simpa using hp
    subst this
    exact ⟨hw, hfr, Nat.ne_of_gt I1.lt, I1.nofs (Nat.le_refl _), fun v z => by cases z⟩
  refine PySem.W.kxs_callWith (i := "ValueError.__init__") (x := a) (by rfl) ?_
  refine PySem.Calls.evalArgs_plain (thn ((pa_cons (pe_str (X := cxOfS P w K mg base N qual scope f cc (.ref cda) A outer s H E)) pa_nil).run p4 _ _ _ H (fun vs H1 => vs = [V.str msg] ∧ H1 = H) I3 ⟨rfl, rfl⟩) fun us2 s4 ⟨vs2, H2, I4, r2, e2, e3⟩ => ?_)
  subst e2; subst e3
  have hu := (I4.pin (h1.objs.size, kxs_mw "ValueError.__init__" a) (List.mem_append_right _ (List.mem_singleton.mpr rfl))).1
  refine ⟨hu, ?_⟩
  obtain ⟨hh, g, dd, tk, os⟩ := s4
  obtain ⟨t5, ho5⟩ := exo_at I4.hok ea
  obtain ⟨nm, q, N', bs, bm, sn, sub, ab, col, ddc, k0, k1', k2, k3, k5, hC, hbm⟩ := T.cls
  refine wpAny_call (codeAny_of_tree ?_)
  show wpAny _ _ (callAny (.ref h1.objs.size) ⟨_, []⟩) _ _ _
  simp only [callAny]
  refine wpAny_bind (wpAny_load hu ?_)
  simp only [kxs_mw, show (Value.type "method-wrapper" == Value.type "method" || Value.type "method-wrapper" == Value.type "builtin_function_or_method" || Value.type "method-wrapper" == Value.type "method-wrapper") = true by decide, if_true]
  refine PySem.W.KFB.if_so (by decide) ?_
  refine wpAny_bind (PySem.W.check_bound_init PySem.F.excBase_ValueError.toExcCallFacts (I4.kIn _ _ hC) ho5 rfl ?_)
  refine wpAny_bind (wpAny_pure (wpAny_pure ?_))
  refine ⟨plainId_quiet PySem.F.excBase_ValueError.init.plain _, codeAny_builtin PySem.F.excBase_ValueError.initEntry ?_⟩
  refine PySem.W.exc_init_tree (cls := .ref D) (t0 := t5) (dv := none) (c2 := .none) (c3 := .none) (b4 := .bool false) ho5 (by rw [List.nil_append, ← r2.length, sizeLine_eq]; show 1 ≤ 16777216; decide) fun h' kh' hx' ht' => ?_
  have J := I4.write (t' := tk) (x := a) (e := a) (o := exo a D none) (by rw [ea]; exact True.intro) (.inl rfl) kh' ⟨_, hx'⟩ (exo_ok hx')
  have eu : upd H2 a (exo a D none) = H2 := by
    funext b
    by_cases hb : b = a
    · rw [hb, upd_same, ea]
    · rw [upd_ne hb]
  rw [eu] at J
  refine wpAt_of_wpAny (wpAny_mono (ht.run [] _ _ H2 _ (J.pins_of fun p hp => absurd hp (by simp)) hq) (fun fl s' hs => ?_) fun e s' hs => hs)
  have fin : ∀ {σ' : L2.St} {H' : Hp} {v : V} {u : Value}, Inv (cxOfS P w K mg base N qual scope f cc (.ref cda) A outer s H2 E) [] σ' H' s' → RelV v u → Q v H' → CE outer P w H2 s Q u s' :=
    fun {σ' H' v u} J rv q => ⟨v, H', J.os, J.bare, J.base, J.hok, rv, q⟩
  cases fl with
  | ret u =>
    obtain ⟨v, σ', H', J, rv, q⟩ := hs
    exact fin J rv q
  | next =>
    obtain ⟨σ', H', J, q⟩ := hs
    exact fin (v := V.non) (u := Value.none) J rfl q
  | brk =>
    obtain ⟨_, _, _, q⟩ := hs
    exact False.elim q
  | cont =>
    obtain ⟨_, _, _, q⟩ := hs
    exact False.elim q
end SK
end
section
set_option Elab.async false
set_option linter.all false
set_option autoImplicit false
set_option maxRecDepth 100000
set_option maxHeartbeats 1000000
/-! own exceptions of one field: made, raised -/
namespace SK
open PySem PySem.Spec PyProof.Rows L2
open PySem.W (ksEnv ksFn kxs_mw)

/-- what __init__(self, v) of an exception promises: self.f = v -/
def sp1 (D : Addr) (f : Str) : Sp := fun vs H Q _ => ∃ a v, vs = [.ref a, v] ∧ H a = some (exo a D none) ∧ ∀ dx, H dx = none → dx ≠ a → Q .non (upd (upd H dx (exd dx [(f, v)])) a (exo a D (some dx)))
/-- .. of one without fields -/
theorem fn_init1 {P : Program} {w : World} {K : PySem.W.Frag} {mg : Str → Option Value} {base : Heap} {x qual : Str} {params : Arguments} {scope : Scope} {D f : Addr} {fd : FuncData} {k : Nat}
    {p0 p1 p2 p3 p4 p5 p6 p7 p8 p9 : Pos} {msg fld : Str} {j : Nat} {self at_ : Arg}
    (F : SupD P K mg x qual params [.Expr (.Call (.Attribute (.Call (.Name "super" p0) [] [] p1) "__init__" p2) [.Constant (.str msg) j p3] [] p4) p5, .Assign [.Attribute (.Name self.arg p6) fld p7] (.Name at_.arg p8) p9] scope D f fd) (S : SupScope [self.arg, at_.arg] [self.arg, at_.arg] scope)
    (hself : (params.posonlyargs ++ params.args).head? = some self) (T : OexC K D) (cdD : ClassData) (hD : PySem.W.clsIn K D = some cdD) (hsub : PySem.W.mroIn K D (.ref D) = some true)
    (hV : PySem.W.subIn K (.ref D) (.type "ValueError") = some true) (hm : PySem.W.ks_superIn K D D "__init__" = some (some (.builtin "ValueError.__init__"))) (hno : PySem.W.findIn K (.ref D) fld = some none)
    (pl : Env → Sem Bool) (hcall : ∀ (L cc cda : Addr), eval (.Call (.Attribute (.Call (.Name "super" p0) [] [] p1) "__init__" p2) [.Constant (.str msg) j p3] [] p4) (ksEnv qual scope L f (.ref cda) cc) = (do
      let ov ← attributeBase (.Call (.Name "super" p0) [] [] p1) "__init__" (ksEnv qual scope L f (.ref cda) cc) (eval (.Call (.Name "super" p0) [] [] p1) (ksEnv qual scope L f (.ref cda) cc))
      standAt p2.atName
      let (f1, first) ← holding [ov] (getMethod ov "__init__" (pl (ksEnv qual scope L f (.ref cda) cc)))
      callWith p4 f1 first (backTo p4 (starEach [.Constant (.str msg) j p3] (ksEnv qual scope L f (.ref cda) cc))) []))
    (hi : ∀ (L cc cda : Addr), interactive (ksEnv qual scope L f (.ref cda) cc) = false)
    (hsw : ∀ (L cc cda : Addr), swapsWith (.Call (.Attribute (.Call (.Name "super" p0) [] [] p1) "__init__" p2) [.Constant (.str msg) j p3] [] p4) none p5.line (ksEnv qual scope L f (.ref cda) cc) = pure false)
    (hsw2 : ∀ (L cc cda : Addr), swapsWith (.Name at_.arg p8) (some (.Attribute (.Name self.arg p6) fld p7)) p9.line (ksEnv qual scope L f (.ref cda) cc) = pure false)
    (hdb : (self.arg == ("__debug__" : Str)) = false := by decide) (hcd : (self.arg == ("__classdict__" : Str)) = false := by decide) (hdb2 : (at_.arg == ("__debug__" : Str)) = false := by decide) (hcd2 : (at_.arg == ("__classdict__" : Str)) = false := by decide) :
    FnOk P w K mg base (L2.CX P w) (k + 1) f fd [self.arg, at_.arg] (sp1 D fld) := by
  refine fn_super F S rfl hself T cdD hD hsub hV hm pl hcall hi hsw (fun vs H Q E h => ?_) fun cda cc A outer s H vs Q E hr hsp => ?_
  · obtain ⟨a, v, rfl, _⟩ := h; rfl
  · obtain ⟨a, v, rfl, ea, q⟩ := hsp
    refine ⟨⟨a, [v], rfl, ea⟩, _, pss_one (ps_ost (pe_var (i := 0) rfl (.inl (S.par _ (by simp))) hdb hcd) (pe_var (i := 1) rfl (.inl (S.par _ (by simp))) hdb2 hcd2) (hsw2 _ _ _)), ?_⟩
    exact ⟨v, rfl, .ref a, rfl, a, D, rfl, T, hno, .inl ⟨ea, fun dx h1 h2 => q dx h1 h2⟩⟩
/-- raise x(e), x's own __init__ setting the field f -/
def sRaise1 (c : Addr) (f : Str) (fe : M D) : S := fun env st => (fe env st).bindS env fun v st => .exc (.ref c) [(f, v)] env st
theorem is_raise1 {X : Cx} {W : WX} {x f self at_ : Str} {C fI : Addr} {k : Nat} {fd : FuncData} {e : Expr} {fe : M D} {p pos pos' : Pos} (hc : X.calm = true) (tk : Takes X W) (T : OexC X.K C) (iC : PySem.W.findIn X.K (.ref C) "__init__" = some (some (.ref fI)))
    (tI : PySem.W.typeIn X.K (.ref fI) = some (.type "function")) (F1 : FnOk X.prog X.w X.K X.mg X.base (L2.CX X.prog X.w) k fI fd [self, at_] (sp1 C f)) (hr : Room (k + 1) X.A) (hb : Binds X.K fd [self, at_] []) (hg : Gl X x) (hm : X.mg x = some (.ref C)) (he : IE X W e fe)
    (hdb : (x == ("__debug__" : Str)) = false := by decide) (hs : starEach [e] X.env = (false, eval e X.env) :: starEach [] X.env := by rfl) (hpl : (backTo pos' (starEach [] X.env)).any (·.1) = false := by rfl) :
    IS X W (.Raise (some (.Call (.Name x p) [e] [] pos')) none pos) (sRaise1 C f fe) := by
  refine ps_imp (ps_raise hc tk (pmk_oex T iC tI F1 hr hb .nil (passes_call tk fun _ _ _ _ h => h.elim) hg hm (pa_cons he pa_nil hs) hdb hs hpl)) fun D σ H ⟨B, m, μ, env, st, R, k⟩ => ?_
  refine ⟨B, m, μ, env, st, R, k.split fun v st1 vv m1 μ1 H1 u R1 r1 k1 => ⟨by show 1 ≤ 1000; decide, fun a ha => ?_⟩⟩
  refine ⟨a, vv, rfl, upd_same, fun dx h1 h2 => ⟨rfl, dx, [(f, vv)], upd_same, ?_, ?_, ?_⟩⟩
  · rw [upd_ne h2, upd_same]
  · rw [← h1, upd_ne h2]
  · have hd : H1 dx = none := by rw [← h1, upd_ne h2]
    have e : upd (del (upd (upd (upd H1 a (exo a C none)) dx (exd dx [(f, vv)])) a (exo a C (some dx))) a) dx (.xd [(f, vv)]) = upd H1 dx (.xd [(f, vv)]) := by
      funext b
      by_cases hb1 : b = dx
      · rw [hb1, upd_same, upd_same]
      · rw [upd_ne hb1, upd_ne hb1]
        by_cases hb2 : b = a
        · rw [hb2, del_same, ha]
        · rw [del_ne hb2, upd_ne hb2, upd_ne hb1, upd_ne hb2]
    rw [e]
    exact k1 _ σ m1 μ1 _ Up.refl (R1.alloc hd) (.inr ⟨dx, [(f, vv)], rfl, upd_same, ⟨vv, [], rfl, r1, rfl⟩⟩)
end SK
end
section
set_option Elab.async false
set_option linter.all false
set_option autoImplicit false
set_option maxRecDepth 100000
set_option maxHeartbeats 1000000
/-! zip(list, text), strict or not -/
namespace SK
open PySem PySem.Spec PyProof.Rows L2
open PySem.Sem (wp)
abbrev ZB (b : Bool) (h : Heap) (z TI TO : Addr) (f0 : Value) : Prop := h.get? z = some { cls := .type "zip", dict := none, data := .fields #[f0, .bool false, .bool b, .ref TI, .ref TO], slots := #[] }
section
variable {prog : Program} {w : World} {A : Around} {E : Value → Shared → Prop} {s : Shared} {z TI TO i1 i2 : Addr} {fp1 fp2 fp : List Addr} {n n1 n2 i : Nat} {P P1 P2 : Nat → Value → Prop} {St St1 St2 : Nat → Heap → Prop} {a1 a2 : Value} {it : Addr}
theorem nend_item {Q : Option Value → Shared → Prop} (D : Draws prog w A it fp n P St) (hi : i < n) (st : St i s.heap) (hQ : ∀ x h' tk, P i x → St (i + 1) h' → Heap.SameBut it s.heap h' → Q (some x) { s with heap := h', toks := tk }) :
    wpAny (model prog w) A (Builtin.SmallTypes.nextOrEnd (.ref it)) Q E s := by
  unfold Builtin.SmallTypes.nextOrEnd
  exact wpAny_bind (wpAny_attempt (D.item i s _ _ hi st fun x h' tk p st' sb => wpAny_pure (hQ x h' tk p st' sb)))
theorem nend_done {Q : Option Value → Shared → Prop} (D : Draws prog w A it fp n P St) (st : St n s.heap) (hQ : ∀ h', Heap.ExtBut it s.heap h' → Q none { s with heap := h' }) :
    wpAny (model prog w) A (Builtin.SmallTypes.nextOrEnd (.ref it)) Q E s := by
  unfold Builtin.SmallTypes.nextOrEnd
  refine wpAny_bind (wpAny_attempt (D.done s _ _ st fun h' e eb ⟨o, ho, hc⟩ => ?_))
  exact wpAny_bind (wpAny_isInstance (T := "StopIteration") (b := true) ⟨o, ho, hc⟩ isSubtype_stop (wpAny_pure (hQ h' eb)))
theorem zipS_item {Q : Value → Shared → Prop} (S : ZipSep2 z TI TO i1 i2 fp1 fp2) (D1 : Draws prog w A i1 fp1 n1 P1 St1) (D2 : Draws prog w A i2 fp2 n2 P2 St2)
    (hz : ZB true s.heap z TI TO .none) (hTI : IsTupOf2 s.heap TI (.ref i1) (.ref i2)) (hTO : IsTupOf2 s.heap TO a1 a2) (st1 : St1 i s.heap) (st2 : St2 i s.heap) (hlt1 : i < n1) (hlt2 : i < n2)
    (hQ : ∀ x1 x2 h' tk, P1 i x1 → P2 i x2 → ZB true h' z TI TO (rawInt s.heap.objs.size) → IsTupOf2 h' TO x1 x2 → St1 (i + 1) h' → St2 (i + 1) h' → IsTupOf2 h' s.heap.objs.size x1 x2 → h'.objs.size = s.heap.objs.size + 1 →
      (∀ c o, c ≠ z → c ≠ TO → c ≠ i1 → c ≠ i2 → s.heap.get? c = some o → h'.get? c = some o) → Q (.ref s.heap.objs.size) { s with heap := h', toks := tk }) :
    wpAny (model prog w) A (Builtin.«zip.__next__» ⟨[.ref z], []⟩) (fun fin s' => ∃ v, fin = .done (.ret v) ∧ Q v s') E s := by
  obtain ⟨hp, gg, dd, tk0, oo⟩ := s
  show wpAny _ _ (field (.ref z) 2 >>= _) _ _ _; refine wpAny_bind (wpAny_field hz rfl (x := .bool true) rfl ?_)
  show wpAny _ _ (field (.ref z) 3 >>= _) _ _ _; refine wpAny_bind (wpAny_field hz rfl (x := .ref TI) rfl (wpAny_bind (wpAny_seqItems hTI rfl ?_)))
  show wpAny _ _ (Builtin.SmallTypes.ownedTupleIsFree (.ref z) >>= _) _ _ _; refine wpAny_bind ?_; unfold Builtin.SmallTypes.ownedTupleIsFree
  refine wpAny_bind (wpAny_field hz rfl (x := .none) rfl (wpAny_pure ?_)); simp only [if_true]
  refine wpAny_bind (wpAny_rule (wpAny_bind (wpAny_field hz rfl (x := .ref TO) rfl (wpAny_bind (wpAny_setField_rec hz (by simp) fun g0 hz0 hs0 => ?_)))))
  replace hz0 : ZB true g0 z TI TO .ellipsis := hz0; replace hs0 : Heap.SameBut z hp g0 := hs0
  refine wpAny_bind ?_; simp only [List.zipIdx_cons, List.zipIdx_nil, List.forIn_cons, List.forIn_nil]
  refine wpAny_bind (wpAny_bind (wpAny_onRaise ?_)); show wpAny _ _ (Builtin.SmallTypes.nextOrEnd (.ref i1)) _ _ ⟨g0, gg, dd, tk0, oo⟩
  refine nend_item D1 hlt1 (D1.over st1 hs0 S.zf1) fun x1 p1 tk1 hx1 sn1 hp1 => ?_
  replace hp1 : Heap.SameBut i1 g0 p1 := hp1
  have hU1 : IsTupOf2 p1 TO a1 a2 := hp1.extBut _ _ S.Ti1 (hs0.extBut _ _ S.TOz hTO)
  refine wpAny_bind (wpAny_seqItems (s := ⟨p1, gg, dd, tk1, oo⟩) hU1 rfl (wpAny_bind (updateSeq_IsTupOf2 (s := ⟨p1, gg, dd, tk1, oo⟩) hU1 fun g1 hT1 hs1 => wpAny_bind (wpAny_letGo (wpAny_pure ?_)))))
  replace hT1 : IsTupOf2 g1 TO x1 a2 := hT1; replace hs1 : Heap.SameBut TO p1 g1 := hs1
  refine wpAny_bind (wpAny_bind (wpAny_onRaise ?_)); show wpAny _ _ (Builtin.SmallTypes.nextOrEnd (.ref i2)) _ _ ⟨g1, gg, dd, tk1, oo⟩
  refine nend_item D2 hlt2 (D2.over (D2.over (D2.over st2 hs0 S.zf2) hp1 S.sep1_2) hs1 S.Tf2) fun x2 p2 tk2 hx2 sn2 hp2 => ?_
  replace hp2 : Heap.SameBut i2 g1 p2 := hp2
  have hU2 : IsTupOf2 p2 TO x1 a2 := hp2.extBut _ _ S.Ti2 hT1
  refine wpAny_bind (wpAny_seqItems (s := ⟨p2, gg, dd, tk2, oo⟩) hU2 rfl (wpAny_bind (updateSeq_IsTupOf2 (s := ⟨p2, gg, dd, tk2, oo⟩) hU2 fun g2 hT2 hs2 => wpAny_bind (wpAny_letGo (wpAny_pure (wpAny_pure ?_))))))
  replace hT2 : IsTupOf2 g2 TO x1 x2 := hT2; replace hs2 : Heap.SameBut TO p2 g2 := hs2
  refine wpAny_bind (wpAny_seqItems (s := ⟨g2, gg, dd, tk2, oo⟩) hT2 rfl (wpAny_bind (wpAny_newTuple ?_)))
  have hsz : g2.objs.size = hp.objs.size := by rw [hs2.1, hp2.1, hs1.1, hp1.1, hs0.1]
  have hzz : ZB true g2 z TI TO .ellipsis := hs2.extBut _ _ S.TOz.symm (hp2.extBut _ _ S.zi2 (hs1.extBut _ _ S.TOz.symm (hp1.extBut _ _ S.zi1 hz0)))
  have hkk : ∀ c o, c ≠ z → c ≠ TO → c ≠ i1 → c ≠ i2 → hp.get? c = some o → g2.get? c = some o := fun c o cz cT c1 c2 e => hs2.extBut _ _ cT (hp2.extBut _ _ c2 (hs1.extBut _ _ cT (hp1.extBut _ _ c1 (hs0.extBut _ _ cz e))))
  have hj1 : St1 (i + 1) g2 := D1.over (D1.over (D1.over sn1 hs1 S.Tf1) hp2 S.sep2_1) hs2 S.Tf1
  have hj2 : St2 (i + 1) g2 := D2.over sn2 hs2 S.Tf2
  have hzl : z < g2.objs.size := Heap.lt_size hzz
  show wpAny _ _ (Builtin.SmallTypes.ownedTupleHandOut (.ref z) (.ref g2.objs.size) >>= _) _ _ ⟨g2.push { cls := .type "tuple", data := .seq #[x1, x2] }, gg, dd, tk2, oo⟩; refine wpAny_bind ?_; unfold Builtin.SmallTypes.ownedTupleHandOut
  have hz6 : ZB true (g2.push { cls := .type "tuple", data := .seq #[x1, x2] }) z TI TO .ellipsis := Heap.get?_push_of_some _ hzz
  refine wpAny_bind (wpAny_setField_rec hz6 (by simp) fun h7 hz7 hs7 => ?_)
  replace hz7 : ZB true h7 z TI TO (rawInt g2.objs.size) := hz7
  refine wpAny_setField_rec hz7 (by simp) fun h8 hz8 hs8 => ?_
  replace hz8 : ZB true h8 z TI TO (rawInt g2.objs.size) := hz8
  replace hs7 : Heap.SameBut z (g2.push { cls := .type "tuple", data := .seq #[x1, x2] }) h7 := hs7; replace hs8 : Heap.SameBut z h7 h8 := hs8
  have up : ∀ c o, c ≠ z → g2.get? c = some o → h8.get? c = some o := fun c o c1 e => hs8.extBut _ _ c1 (hs7.extBut _ _ c1 (Heap.get?_push_of_some _ e))
  have hT8 : IsTupOf2 h8 g2.objs.size x1 x2 := hs8.extBut _ _ (Nat.ne_of_gt hzl) (hs7.extBut _ _ (Nat.ne_of_gt hzl) (Heap.get?_push_size _ rfl))
  have hsz8 : h8.objs.size = g2.objs.size + 1 := by rw [hs8.1, hs7.1, Heap.size_push]
  rw [hsz] at hz8 hT8 hsz8
  refine wpAny_pure ⟨_, rfl, ?_⟩
  show Q (.ref g2.objs.size) ⟨h8, gg, dd, tk2, oo⟩
  rw [hsz]
  exact hQ x1 x2 h8 tk2 hx1 hx2 hz8 (up _ _ S.TOz hT2) (D1.frame _ _ _ hj1 fun b hb o e => up b o (fun q => S.zf1 (q ▸ hb)) e) (D2.frame _ _ _ hj2 fun b hb o e => up b o (fun q => S.zf2 (q ▸ hb)) e) hT8 hsz8 fun c o cz cT c1 c2 e => up c o cz (hkk c o cz cT c1 c2 e)
theorem stop_it {α : Type} {Q : α → Shared → Prop} (hh : A.handled = none) (hE : ∀ h' e, (∀ b o, s.heap.get? b = some o → h'.get? b = some o) → (∃ o, h'.get? e = some o ∧ o.cls = .type "StopIteration") → E (.ref e) { s with heap := h' }) :
    wpAny (model prog w) A (Builtin.SmallTypes.stopIteration : Sem α) Q E s := by
  unfold Builtin.SmallTypes.stopIteration
  refine wpAny_bind ?_
  simp only [newExc, newTuple]
  refine wpAny_bind (wpAny_newObj_type ?_ (by size_fits))
  refine wpAny_bind (m := firstArgMember _ _) (wpAny_of_eq (a := Value.none) (by first | rfl | (simp only [firstArgMember]; rfl)) (wpAny_newObj_type ?_ (by size_fits)))
  simp only [raiseNew]; refine wpAny_bind (wpAny_handled ?_)
  rw [hh]; refine wpAny_bind (wpAny_pure (wpAny_throw ?_))
  exact hE _ _ (fun b o e => Heap.get?_push_of_some _ (Heap.get?_push_of_some _ e)) ⟨_, Heap.get?_push_size _ rfl, rfl⟩
def zseB (k : Nat) : String := if k == 1 then "argument 1" else s!"arguments 1-{k}"
def zse (its : List Value) (k : Nat) : Sem Fin := do
  if k > 0 then
    rule "zip.__next__.shorter"; raiseError "ValueError" s!"zip() argument {k + 1} is shorter than {zseB k}"
  for (it, j) in (its.drop 1).zipIdx 1 do
    if (← Builtin.SmallTypes.nextOrEnd it).isSome then
      rule "zip.__next__.longer"; raiseError "ValueError" s!"zip() argument {j + 1} is longer than {zseB j}"
  rule "zip.__next__.all-ended"; Builtin.SmallTypes.stopIteration
theorem zipS_end {Q : Fin → Shared → Prop} (hh : A.handled = none) (S : ZipSep2 z TI TO i1 i2 fp1 fp2) (D1 : Draws prog w A i1 fp1 n P1 St1) (D2 : Draws prog w A i2 fp2 n P2 St2)
    (hz : ZB true s.heap z TI TO .none) (hTI : IsTupOf2 s.heap TI (.ref i1) (.ref i2)) (hTO : IsTupOf2 s.heap TO a1 a2) (st1 : St1 n s.heap) (st2 : St2 n s.heap)
    (hE : ∀ h' e, (∀ c o, c ≠ z → c ≠ TO → c ≠ i1 → c ≠ i2 → s.heap.get? c = some o → h'.get? c = some o) → (∃ o, h'.get? e = some o ∧ o.cls = .type "StopIteration") → E (.ref e) { s with heap := h' }) :
    wpAny (model prog w) A (Builtin.«zip.__next__» ⟨[.ref z], []⟩) Q E s := by
  obtain ⟨hp, gg, dd, tk0, oo⟩ := s
  show wpAny _ _ (field (.ref z) 2 >>= _) _ _ _; refine wpAny_bind (wpAny_field hz rfl (x := .bool true) rfl ?_)
  show wpAny _ _ (field (.ref z) 3 >>= _) _ _ _; refine wpAny_bind (wpAny_field hz rfl (x := .ref TI) rfl (wpAny_bind (wpAny_seqItems hTI rfl ?_)))
  show wpAny _ _ (Builtin.SmallTypes.ownedTupleIsFree (.ref z) >>= _) _ _ _; refine wpAny_bind ?_; unfold Builtin.SmallTypes.ownedTupleIsFree
  refine wpAny_bind (wpAny_field hz rfl (x := .none) rfl (wpAny_pure ?_)); simp only [if_true]
  refine wpAny_bind (wpAny_rule (wpAny_bind (wpAny_field hz rfl (x := .ref TO) rfl (wpAny_bind (wpAny_setField_rec hz (by simp) fun g0 hz0 hs0 => ?_)))))
  replace hz0 : ZB true g0 z TI TO .ellipsis := hz0; replace hs0 : Heap.SameBut z hp g0 := hs0
  refine wpAny_bind ?_; simp only [List.zipIdx_cons, List.zipIdx_nil, List.forIn_cons, List.forIn_nil]
  refine wpAny_bind (wpAny_bind (wpAny_onRaise ?_)); show wpAny _ _ (Builtin.SmallTypes.nextOrEnd (.ref i1)) _ _ ⟨g0, gg, dd, tk0, oo⟩
  refine nend_done D1 (D1.over st1 hs0 S.zf1) fun q hq => ?_
  replace hq : Heap.ExtBut i1 g0 q := hq
  have hzq : ZB true q z TI TO .ellipsis := hq _ _ S.zi1 hz0
  refine wpAny_bind (wpAny_setField_rec (s := ⟨q, gg, dd, tk0, oo⟩) hzq (by simp) fun q2 _ hs2 => ?_)
  replace hs2 : Heap.SameBut z q q2 := hs2
  show wpAny _ _ (zse [Value.ref i1, Value.ref i2] 0 >>= _) _ _ _; unfold zse
  refine wpAny_bind ?_
  simp only [gt_iff_lt, Nat.lt_irrefl, if_false, List.drop_succ_cons, List.drop_zero, List.zipIdx_cons, List.zipIdx_nil, List.forIn_cons, List.forIn_nil]
  have st2' : St2 n q2 := D2.frame _ _ _ st2 fun b hb o e => hs2.extBut b o (fun x => S.zf2 (x ▸ hb)) (hq b o (fun x => S.sep1_2 (x ▸ hb)) (hs0.extBut b o (fun x => S.zf2 (x ▸ hb)) e))
  refine wpAny_bind (wpAny_bind (wpAny_bind (nend_done (s := ⟨q2, gg, dd, tk0, oo⟩) D2 st2' fun q3 hq3 => ?_)))
  replace hq3 : Heap.ExtBut i2 q2 q3 := hq3
  simp only [Option.isSome_none, Bool.false_eq_true, if_false]
  refine wpAny_pure (wpAny_pure (wpAny_bind (wpAny_rule (stop_it hh fun h' e hk he => hE h' e (fun c o cz cT c1 c2 x => hk c o (hq3 c o c2 (hs2.extBut c o cz (hq c o c1 (hs0.extBut c o cz x))))) he))))
end

theorem tcz_kw (a b c : Value) : checkTypeCall "zip" ⟨[a, b], [(Str.ofString "strict", c)]⟩ = pure () := by kernel_rfl
theorem ncz_kw (a b c : Value) : checkBuiltinCall "zip.__new__" ⟨[.type "zip", a, b], [(Str.ofString "strict", c)]⟩ = pure () := by kernel_rfl
theorem ai_kw (obj a b c : Value) : argsOk "object.__init__" ⟨[obj, a, b], [(Str.ofString "strict", c)]⟩ := by unfold argsOk; kernel_rfl
abbrev zsZ (h : Heap) (o1 o2 : Obj) : Heap := (gzO2 h o1 o2).push { cls := .type "zip", data := .fields #[.none, .bool false, .bool true, .ref ((h.push o1).push o2).objs.size, .ref (gzT2 h o1 o2).objs.size] }
theorem meets_zs {v1 v2 : Value} {o1 o2 : Obj} {H1 H2 : Heap → Prop} (B1 : Begins v1 o1 H1) (B2 : Begins v2 o2 H2) :
    Meets (Builtin.«zip.__new__» ⟨[.type "zip", v1, v2], [(Str.ofString "strict", .bool true)]⟩) (fun _ R s => (H1 s.heap ∧ H2 s.heap) ∧ R (.ok (.ret (.ref (gzO2 s.heap o1 o2).objs.size))) { s with heap := zsZ s.heap o1 o2 }) :=
  .of_wp fun prog w A R s h => by
    obtain ⟨hp, gg, dd, tk, oo⟩ := s; obtain ⟨⟨h1, h2⟩, h⟩ := h
    have hsub := sub_zip
    have e1 : (Str.ofString "strict" != ("strict" : Str)) = false := by decide +kernel
    have q1 : ∀ {A' : Around} {E : Value → Shared → Prop} {Q : Value → Shared → Prop}, Q (.ref hp.objs.size) ⟨(hp.push o1), gg, dd, tk, oo⟩ → wpAny (model prog w) A' (pyIter v1) Q E ⟨hp, gg, dd, tk, oo⟩ := fun q => B1.iter prog w _ _ ⟨hp, gg, dd, tk, oo⟩ _ h1 q
    have q2 : ∀ {A' : Around} {E : Value → Shared → Prop} {Q : Value → Shared → Prop}, Q (.ref (hp.push o1).objs.size) ⟨((hp.push o1).push o2), gg, dd, tk, oo⟩ → wpAny (model prog w) A' (pyIter v2) Q E ⟨(hp.push o1), gg, dd, tk, oo⟩ :=
      fun q => B2.iter prog w _ _ ⟨(hp.push o1), gg, dd, tk, oo⟩ _ (B2.keeps _ _ h2 fun b o' e => (Heap.get?_push_of_some _ e)) q
    wp_walk using q1, q2
    exact ⟨_, rfl, h⟩
section
variable {prog : Program} {w : World} {A : Around} {E : Value → Shared → Prop} {s : Shared}
theorem zs_begins {v1 v2 : Value} {o1 o2 : Obj} {H1 H2 : Heap → Prop} {Q : Value → Shared → Prop} (B1 : Begins v1 o1 H1) (B2 : Begins v2 o2 H2) (h1 : H1 s.heap) (h2 : H2 s.heap)
    (h : ∀ h', ZB true h' (s.heap.objs.size + 4) (s.heap.objs.size + 2) (s.heap.objs.size + 3) .none → IsTupOf2 h' (s.heap.objs.size + 2) (.ref s.heap.objs.size) (.ref (s.heap.objs.size + 1)) →
      IsTupOf2 h' (s.heap.objs.size + 3) .none .none → h'.get? s.heap.objs.size = some o1 → h'.get? (s.heap.objs.size + 1) = some o2 → h'.objs.size = s.heap.objs.size + 5 →
      (∀ c o, s.heap.get? c = some o → h'.get? c = some o) → Q (.ref (s.heap.objs.size + 4)) { s with heap := h' }) :
    wpAny (model prog w) A (call (.type "zip") [v1, v2] [(Str.ofString "strict", .bool true)]) Q E s := by
  refine callType_newKw F.called_zip (by decide) (tcz_kw _ _ _) (ncz_kw _ _ _) (fun obj => ai_kw obj _ _ _) F.entry_zip_new (meets_zs B1 B2) ⟨⟨h1, h2⟩, ?_⟩
  have n1 : (s.heap.push o1).objs.size = s.heap.objs.size + 1 := by rw [Heap.size_push]
  have n2 : ((s.heap.push o1).push o2).objs.size = s.heap.objs.size + 2 := by rw [Heap.size_push, n1]
  have n3 : (gzT2 s.heap o1 o2).objs.size = s.heap.objs.size + 3 := by rw [Heap.size_push, n2]
  have n4 : (gzO2 s.heap o1 o2).objs.size = s.heap.objs.size + 4 := by rw [Heap.size_push, n3]
  have n5 : (zsZ s.heap o1 o2).objs.size = s.heap.objs.size + 5 := by rw [Heap.size_push, n4]
  have k5 : (zsZ s.heap o1 o2).get? (gzO2 s.heap o1 o2).objs.size = some { cls := .type "zip", data := .fields #[.none, .bool false, .bool true, .ref ((s.heap.push o1).push o2).objs.size, .ref (gzT2 s.heap o1 o2).objs.size] } := Heap.get?_push_size _ rfl
  have k4 : (zsZ s.heap o1 o2).get? (gzT2 s.heap o1 o2).objs.size = some { cls := .type "tuple", data := .seq #[.none, .none] } := Heap.get?_push_of_some _ (Heap.get?_push_size _ rfl)
  have k3 : (zsZ s.heap o1 o2).get? ((s.heap.push o1).push o2).objs.size = some { cls := .type "tuple", data := .seq #[.ref s.heap.objs.size, .ref (s.heap.push o1).objs.size] } := Heap.get?_push_of_some _ (Heap.get?_push_of_some _ (Heap.get?_push_size _ rfl))
  have k1 : (zsZ s.heap o1 o2).get? s.heap.objs.size = some o1 := Heap.get?_push_of_some _ (Heap.get?_push_of_some _ (Heap.get?_push_of_some _ (Heap.get?_push_of_some _ (Heap.get?_push_size _ B1.free))))
  have k2 : (zsZ s.heap o1 o2).get? (s.heap.push o1).objs.size = some o2 := Heap.get?_push_of_some _ (Heap.get?_push_of_some _ (Heap.get?_push_of_some _ (Heap.get?_push_size _ B2.free)))
  rw [n4, n3, n2] at k5; rw [n3] at k4; rw [n2, n1] at k3; rw [n1] at k2
  show _ ∧ _
  rw [n4]
  exact ⟨⟨_, k5, rfl⟩, h _ k5 k3 k4 k1 k2 n5 fun c o e => Heap.get?_push_of_some _ (Heap.get?_push_of_some _ (Heap.get?_push_of_some _ (Heap.get?_push_of_some _ (Heap.get?_push_of_some _ e))))⟩
variable {z TI TO i1 i2 T : Addr} {b : Bool}
theorem zb_go {elts : List Expr} {x1 : Nat} {pos : Pos} {Q : Unit → Shared → Prop} (hz : ZB b s.heap z TI TO (rawInt T)) (hQ : ∀ h', ZB b h' z TI TO .none → Heap.SameBut z s.heap h' → Q () { s with heap := h' }) :
    wpAny (model prog w) A (letOwnedTupleGo (.Tuple elts x1 pos) (.ref z) (.ref T)) Q E s := by
  unfold letOwnedTupleGo
  refine wpAny_bind (wpAny_load hz ?_)
  show wpAny _ _ (if (["enumerate", "zip", "dict_itemiterator", "dict_reverseitemiterator", "odict_iterator", "itertools.zip_longest", "itertools.pairwise"].contains "zip" && (#[rawInt T, .bool false, .bool b, .ref TI, .ref TO] : Array Value)[0]? == some (rawInt T)) = true then _ else _) Q E s
  rw [if_pos (by simp)]
  refine wpAny_bind (wpAny_rule ?_)
  exact wpAny_setField_rec hz (by simp) fun h' hz' hs' => hQ h' hz' hs'
theorem zb_iter {f0 : Value} {Q : Value → Shared → Prop} (hz : ZB b s.heap z TI TO f0) (h : Q (.ref z) s) : wpAny (model prog w) A (pyIter (.ref z)) Q E s := by
  have hT : s.TypeIs (.ref z) "zip" := ⟨_, hz, rfl⟩
  refine wpAny_pyIter_slot hT F.slot_zip_iter (wpAny_call_entry F.slot_zip_iter hT F.entry_zip_iter ?_ (F.args_zip_iter_1 _))
  exact wpAny_pure ⟨_, rfl, "zip", _, hT, F.slot_zip_next.lookup, h⟩
variable {fp1 fp2 : List Addr} {n n1 n2 i : Nat} {P1 P2 : Nat → Value → Prop} {St1 St2 : Nat → Heap → Prop} {a1 a2 : Value}
theorem zb_next {Q : Option Value → Shared → Prop} (S : ZipSep2 z TI TO i1 i2 fp1 fp2) (D1 : Draws prog w A.in1 i1 fp1 n1 P1 St1) (D2 : Draws prog w A.in1 i2 fp2 n2 P2 St2)
    (hz : ZB b s.heap z TI TO .none) (hTI : IsTupOf2 s.heap TI (.ref i1) (.ref i2)) (hTO : IsTupOf2 s.heap TO a1 a2) (st1 : St1 i s.heap) (st2 : St2 i s.heap) (hlt1 : i < n1) (hlt2 : i < n2)
    (hQ : ∀ x1 x2 h' tk, P1 i x1 → P2 i x2 → ZB b h' z TI TO (rawInt s.heap.objs.size) → IsTupOf2 h' TO x1 x2 → St1 (i + 1) h' → St2 (i + 1) h' → IsTupOf2 h' s.heap.objs.size x1 x2 → h'.objs.size = s.heap.objs.size + 1 →
      (∀ c o, c ≠ z → c ≠ TO → c ≠ i1 → c ≠ i2 → s.heap.get? c = some o → h'.get? c = some o) → Q (some (.ref s.heap.objs.size)) { s with heap := h', toks := tk }) :
    wpAny (model prog w) A (pyNext (.ref z)) Q E s := by
  cases b with
  | false => exact wpAny_pyNext_zipD2_item S D1 D2 hz hTI hTO st1 st2 hlt1 hlt2 hQ
  | true =>
    have hT : s.TypeIs (.ref z) "zip" := ⟨_, hz, rfl⟩
    unfold pyNext
    exact wpAny_bind (wpAny_attempt (wpAny_callSpecial?_slot (name := Str.ofString "__next__") hT F.slot_zip_next (wpAny_call_entry F.slot_zip_next hT F.entry_zip_next
      (zipS_item S D1 D2 hz hTI hTO st1 st2 hlt1 hlt2 fun x1 x2 h' tk y1 y2 b1 b2 d1 d2 b5 b6 b7 => wpAny_pure (hQ x1 x2 h' tk y1 y2 b1 b2 d1 d2 b5 b6 b7)) (F.args_zip_next_1 _))))
theorem zb_end {Q : Option Value → Shared → Prop} (hh : A.handled = none) (S : ZipSep2 z TI TO i1 i2 fp1 fp2) (D1 : Draws prog w A.in1 i1 fp1 n1 P1 St1) (D2 : Draws prog w A.in1 i2 fp2 n2 P2 St2)
    (hz : ZB b s.heap z TI TO .none) (hTI : IsTupOf2 s.heap TI (.ref i1) (.ref i2)) (hTO : IsTupOf2 s.heap TO a1 a2) (st1 : St1 i s.heap) (st2 : St2 i s.heap) (hle1 : i ≤ n1) (hle2 : i ≤ n2) (hend : i = n1 ∨ i = n2) (hb : b = true → n1 = n2)
    (hQ : ∀ h' tk, (∀ c o, c ≠ z → c ≠ TO → c ≠ i1 → c ≠ i2 → s.heap.get? c = some o → h'.get? c = some o) → Q none { s with heap := h', toks := tk }) : wpAny (model prog w) A (pyNext (.ref z)) Q E s := by
  cases b with
  | false => exact wpAny_pyNext_zipD2_end S D1 D2 hz hTI hTO st1 st2 hle1 hle2 hend hQ
  | true =>
    have hT : s.TypeIs (.ref z) "zip" := ⟨_, hz, rfl⟩
    obtain rfl := hb rfl
    obtain rfl : i = n1 := by omega
    unfold pyNext
    refine wpAny_bind (wpAny_attempt (wpAny_callSpecial?_slot (name := Str.ofString "__next__") hT F.slot_zip_next (wpAny_call_entry F.slot_zip_next hT F.entry_zip_next (zipS_end (show A.in1.handled = none from hh) S D1 D2 hz hTI hTO st1 st2 fun h' e hk he => ?_) (F.args_zip_next_1 _))))
    obtain ⟨o, ho, hc⟩ := he
    exact wpAny_bind (wpAny_isInstance (T := "StopIteration") (b := true) ⟨o, ho, hc⟩ isSubtype_stop (wpAny_pure (hQ _ _ hk)))
end
end SK
end
section
set_option Elab.async false
set_option linter.all false
set_option autoImplicit false
set_option maxRecDepth 100000
set_option maxHeartbeats 1000000
namespace SK
open PySem PySem.Spec PyProof.Rows L2
/-- the list at a and the text x, in new pairs; b: strict -/
def ItZ (K : Fg) (b : Bool) (a : Addr) (x : Str) : It :=
  ⟨fun i H => ∃ xs v c, SqL K H a xs ∧ xs[i]? = some v ∧ x.cps[i]? = some c,
    fun i H y H' => ∃ T v c, y = .ref T ∧ H T = none ∧ H' = upd H T (.tup [v, .str ⟨#[c]⟩]) ∧ (∀ xs, SqL K H a xs → xs[i]? = some v) ∧ x.cps[i]? = some c,
    fun i H => ∃ xs, SqL K H a xs ∧ (xs.length = i ∨ x.cps.size = i) ∧ i ≤ xs.length ∧ i ≤ x.cps.size ∧ (b = true → xs.length = x.cps.size)⟩
structure Sep5 (z TI TO i1 i2 a : Addr) : Prop where
  d : [z, TI, TO, i1, i2, a].Nodup
theorem Sep5.sep {z TI TO i1 i2 a : Addr} (S : Sep5 z TI TO i1 i2 a) : ZipSep2 z TI TO i1 i2 [i1, a] [i2] := by
  have h := S.d
  simp only [List.nodup_cons, List.mem_cons, List.not_mem_nil, or_false, not_or] at h
  obtain ⟨⟨a1, a2, a3, a4, a5⟩, ⟨b1, b2, b3, b4⟩, ⟨c1, c2, c3⟩, ⟨d1, d2⟩, e1, _⟩ := h
  exact ⟨Ne.symm a1, Ne.symm a2, b1, b2, by simp, by simp [a3, a5], by simp [c1, c3], b3, by simp, by simp [a4], by simp [c2], by simp [d1], by simp [Ne.symm d1, e1]⟩
theorem turn_Z {P : Program} {w : World} {K : Fg} {elts : List Expr} {kk : Nat} {tpos : Pos} {b : Bool} {a z TI TO i1 i2 : Addr} {x : Str} {t : Tok} (S : Sep5 z TI TO i1 i2 a) :
    Turn P w K (.Tuple elts kk tpos) (ItZ K b a x) [z, TI, TO, i1, i2] z (fun i h => ZB b h z TI TO .none ∧ IsTupOf2 h TI (.ref i1) (.ref i2) ∧ (∃ u v, IsTupOf2 h TO u v) ∧ h.IsListIter i1 a i ∧ h.IsStrIter i2 (strIterType x) x t i) where
  mem := by simp
  obj := fun i h st c hc => by
    obtain ⟨hz, hTI, ⟨u, v, hTO⟩, ⟨o1, e1, _, d1⟩, ⟨o2, e2, _, d2⟩⟩ := st
    have e' : c = z ∨ c = TI ∨ c = TO ∨ c = i1 ∨ c = i2 := by simpa using hc
    rcases e' with q | q | q | q | q <;> subst q
    · exact ⟨_, hz, fun v q => nomatch q⟩
    · exact ⟨_, hTI, fun v q => nomatch q⟩
    · exact ⟨_, hTO, fun v q => nomatch q⟩
    · exact ⟨o1, e1, fun v q => by rw [d1] at q; cases q⟩
    · exact ⟨o2, e2, fun v q => by rw [d2] at q; cases q⟩
  keep := fun i h h' st k => by
    obtain ⟨hz, hTI, ⟨u, v, hTO⟩, h1, o2, e2, r2⟩ := st
    exact ⟨k z (by simp) _ hz, k TI (by simp) _ hTI, ⟨u, v, k TO (by simp) _ hTO⟩, h1.at fun o q => k i1 (by simp) o q, o2, k i2 (by simp) o2 e2, r2⟩
  item := by
    intro X hP hw hK hc i pins s σ H E I hf st hg
    subst hP hw hK
    obtain ⟨hz, hTI, ⟨u0, v0, hTO⟩, h1, h2⟩ := st
    obtain ⟨xs, v, c, hq, hx, hy⟩ := hg
    obtain ⟨its, rv, p, _⟩ := I.list hq
    obtain ⟨u, hu, ru⟩ := rv.get hx
    have hzl : z < s.heap.objs.size := Heap.lt_size hz
    have hd := S.d
    simp only [List.nodup_cons, List.mem_cons, List.not_mem_nil, or_false, not_or] at hd
    obtain ⟨⟨a1, a2, a3, a4, a5⟩, ⟨b1, b2, b3, b4⟩, ⟨c1, c2, c3⟩, ⟨d1, d2⟩, e1, _⟩ := hd
    have il : i < its.toArray.size := by
      have := (List.getElem?_eq_some_iff.mp hu).1
      simpa using this
    have ic : i < x.cps.size := (Array.getElem?_eq_some_iff.mp hy).1
    refine zb_next S.sep (Draws.list (A := X.A.in1) (I.ok.hd hc) i1 a (Ne.symm d2) its.toArray) (Draws.text (A := X.A.in1) (I.ok.hd hc) i2 x t) hz hTI hTO ⟨h1, p.isList⟩ h2 il ic fun x1 x2 h' tk y1 y2 z' TO' s1' s2' hT hsz hk => ?_
    obtain rfl : x1 = u := by
      have y1 : its.toArray[i]? = some x1 := y1
      rw [List.getElem?_toArray, hu] at y1; exact (Option.some.inj y1).symm
    obtain ⟨c', t', hc', rfl⟩ := y2
    obtain rfl : c' = c := by rw [hy] at hc'; exact (Option.some.inj hc').symm
    refine ⟨_, rfl, zb_go (s := { s with heap := h', toks := tk }) z' fun h'' z'' sb => ?_⟩
    have hT2 : h''.get? s.heap.objs.size = some { cls := .type "tuple", data := .seq #[x1, .str ⟨#[c']⟩ t'] } := (sb.2 _ (Nat.ne_of_gt hzl)).trans hT
    have new : ObjOk X.prog X.w (upd H s.heap.objs.size (.tup [v, .str ⟨#[c']⟩])) h'' s.heap.objs.size (.tup [v, .str ⟨#[c']⟩]) := ⟨by show 2 ≤ sizeLine; decide, [x1, .str ⟨#[c']⟩ t'], .cons ru (.cons ⟨t', rfl⟩ .nil), ⟨_, hT2, rfl, _, rfl⟩⟩
    have I1 : Inv X pins σ (upd H s.heap.objs.size (.tup [v, .str ⟨#[c']⟩])) { s with heap := h'', toks := tk } :=
      I.turnedNew (t' := tk) (ch := [z, TI, TO, i1, i2]) (fun c o hb q => (sb.2 c (fun q' => hb (by simp [q']))).trans (hk c o (fun q' => hb (by simp [q'])) (fun q' => hb (by simp [q'])) (fun q' => hb (by simp [q'])) (fun q' => hb (by simp [q'])) q)) hf (Nat.le_refl _) new
    refine ⟨.ref s.heap.objs.size, _, I1, rfl, ⟨_, v, c', rfl, I.hok.fresh (Nat.le_refl _), rfl, fun l hl => by rw [I.list_inj hl hq]; exact hx, hy⟩, ⟨z'', ?_, ⟨x1, .str ⟨#[c']⟩ t', ?_⟩, ?_, ?_⟩, fun c hcm => ?_⟩
    · exact (sb.2 _ (Ne.symm a1)).trans (hk _ _ (Ne.symm a1) b1 b2 b3 hTI)
    · exact (sb.2 _ (Ne.symm a2)).trans TO'
    · exact s1'.1.at fun o q => (sb.2 _ (Ne.symm a3)).trans q
    · obtain ⟨o2, q2, r2⟩ := s2'
      exact ⟨o2, (sb.2 _ (Ne.symm a4)).trans q2, r2⟩
    · have hlt : c < s.heap.objs.size := by
        have e' : c = z ∨ c = TI ∨ c = TO ∨ c = i1 ∨ c = i2 := by simpa using hcm
        rcases e' with q | q | q | q | q <;> subst q
        · exact hzl
        · exact Heap.lt_size hTI
        · exact Heap.lt_size hTO
        · obtain ⟨_, e1, _⟩ := h1; exact Heap.lt_size e1
        · obtain ⟨_, e2, _⟩ := h2; exact Heap.lt_size e2
      rw [upd_ne (Nat.ne_of_lt hlt)]
      exact (hf c hcm).1
  done := by
    intro X hP hw hK hc i pins s σ H E I hf st hg
    subst hP hw hK
    obtain ⟨hz, hTI, ⟨u0, v0, hTO⟩, h1, h2⟩ := st
    obtain ⟨xs, hq, hend, le1, le2, hb⟩ := hg
    obtain ⟨its, rv, p, _⟩ := I.list hq
    have hd := S.d
    simp only [List.nodup_cons, List.mem_cons, List.not_mem_nil, or_false, not_or] at hd
    obtain ⟨⟨a1, a2, a3, a4, a5⟩, ⟨b1, b2, b3, b4⟩, ⟨c1, c2, c3⟩, ⟨d1, d2⟩, e1, _⟩ := hd
    have l1 : its.toArray.size = xs.length := by simp [rv.length]
    exact zb_end (I.ok.hd hc) S.sep (Draws.list (A := X.A.in1) (I.ok.hd hc) i1 a (Ne.symm d2) its.toArray) (Draws.text (A := X.A.in1) (I.ok.hd hc) i2 x t) hz hTI hTO ⟨h1, p.isList⟩ h2 (by omega) (by omega) (by omega) (fun e => by rw [l1]; exact hb e)
      fun h' tk hk => ⟨rfl, I.turnedL (t' := tk) (ch := [z, TI, TO, i1, i2]) (fun c o hb q => hk c o (fun q' => hb (by simp [q'])) (fun q' => hb (by simp [q'])) (fun q' => hb (by simp [q'])) (fun q' => hb (by simp [q'])) q) hf⟩
  self := fun A i s Q E st h => zb_iter st.1 h

def iZL (K : Fg) (b : Bool) (ta : TA) : TI := fun σ H R => ta σ H fun vs H1 => ∃ a x xs, vs = [.ref a, .str x] ∧ SqL K H1 a xs ∧ R (ItZ K b a x) H1
theorem sep5_new {n a : Nat} (h : a < n) : Sep5 (n + 4) (n + 2) (n + 3) n (n + 1) a := ⟨by
  have : ([n + 4, n + 2, n + 3, n, n + 1, a] : List Nat).Nodup := by
    simp only [List.nodup_cons, List.mem_cons, List.not_mem_nil, or_false, not_or, List.nodup_nil, and_true, not_false_eq_true]
    omega
  exact this⟩
theorem callWith_tyK {M : Model} {A : Around} {E : Value → Shared → Prop} {s : Shared} {env : Env} {pos : Pos} {T : String} {e : Expr} {rest : List Expr} {kws : List Keyword} {Q : Value → Shared → Prop}
    (h : wpAny M A (spliced (backTo pos (starEach (e :: rest) env))) (fun vs s₁ => wpAny M A (evalAll ((backToKw pos (keywordEach kws env)).map (·.2))) (fun kvs s₂ => wpAny M A (call (.type T) vs (((backToKw pos (keywordEach kws env)).filterMap (·.1)).zip kvs)) Q E s₂) E s₁) E s)
    (he : backTo pos (starEach (e :: rest) env) = (false, eval e env) :: backTo pos (starEach rest env) := by rfl) (hp : (backTo pos (starEach (e :: rest) env)).any (·.1) = false := by rfl)
    (hall : (backToKw pos (keywordEach kws env)).all (·.1.isSome) = true := by rfl) (hkw : (backToKw pos (keywordEach kws env)).any (·.1.isNone) = false := by rfl) :
    wpAny M A (callWith pos (.type T) [] (backTo pos (starEach (e :: rest) env)) (backToKw pos (keywordEach kws env))) Q E s := by
  unfold callWith
  refine wpAny_bind (wpAny_holding (wpAny_mono (Q := fun a s₁ => wpAny M A (call (.type T) ([] ++ a.pos) a.kw) Q E s₁) ?_ (fun a s₁ h₁ => wpAny_bind (wpAny_standAt ?_)) fun _ _ x => x))
  · rw [he] at h ⊢
    exact evalArgs_kwB hall h
  · simp only [hp, hkw, Bool.or_false]
    exact wpAny_bind (wpAny_pure (wpAny_bind (wpAny_mono h₁ (fun r s₂ hr => wpAny_bind (wpAny_holding (wpAny_point (wpAny_pure hr)))) fun _ _ x => x)))
section
variable {X : Cx} {e e2 : Expr} {ta : TA} {p pos tpos : Pos} {elts : List Expr} {kk : Nat}
theorem zl_end {pins : List (Addr × Obj)} {σ : L2.St} {H1 : Hp} {s1 : Shared} {R : It → Hp → Prop} {b : Bool} {a : Addr} {x : Str} {xs : List V} {t : Tok} (I1 : Inv X pins σ H1 s1) (hq : SqL X.K H1 a xs) (q : R (ItZ X.K b a x) H1) (hl : a < s1.heap.objs.size)
    {h' : Heap} (hz : ZB b h' (s1.heap.objs.size + 4) (s1.heap.objs.size + 2) (s1.heap.objs.size + 3) .none) (hTI : IsTupOf2 h' (s1.heap.objs.size + 2) (.ref s1.heap.objs.size) (.ref (s1.heap.objs.size + 1))) (hTO : IsTupOf2 h' (s1.heap.objs.size + 3) .none .none)
    (g1 : h'.get? s1.heap.objs.size = some { cls := .type "list_iterator", data := .fields #[.ref a, .int 0 0] }) (g2 : h'.get? (s1.heap.objs.size + 1) = some { cls := .type (strIterType x), data := .fields #[.str x t, .int 0 0] })
    (hk : ∀ c o, s1.heap.get? c = some o → h'.get? c = some o) : PIE X pins σ (.Tuple elts kk tpos) R (.ref (s1.heap.objs.size + 4)) { s1 with heap := h' } := by
  have fr : ∀ c, c ∈ [s1.heap.objs.size + 4, s1.heap.objs.size + 2, s1.heap.objs.size + 3, s1.heap.objs.size, s1.heap.objs.size + 1] → FpOk X pins H1 c := fun c hcm => by
    have hle : s1.heap.objs.size ≤ c := by
      simp only [List.mem_cons, List.not_mem_nil, or_false] at hcm
      omega
    exact I1.fpOk hle (I1.hok.fresh hle)
  exact ⟨_, _, _, _, H1, rfl, I1.kept (t' := s1.toks) hk, turn_Z (t := t) (sep5_new hl), ⟨hz, hTI, ⟨_, _, hTO⟩, ⟨_, g1, rfl, rfl⟩, ⟨_, g2, rfl, rfl⟩⟩, fr, q⟩
theorem pi_zl (hg : Gl X "zip") (hm : X.mg "zip" = none) (ha : PA X [e, e2] ta) (hs : starEach [e, e2] X.env = (false, eval e X.env) :: starEach [e2] X.env := by rfl) (hpl : (backTo pos (starEach [e2] X.env)).any (·.1) = false := by rfl) :
    PI X (.Tuple elts kk tpos) (.Call (.Name "zip" p) [e, e2] [] pos) (iZL X.K false ta) := by
  refine ⟨fun pins s σ H R I h => ?_⟩
  refine Call_ (ld_blt I hg hm PyProof.Rows.boot_zip (PyProof.Rows.callWith_type1 (thn (ha.run pos pins s σ H _ I h) fun us s1 ⟨vs, H1, I1, r1, a, x, xs, ex, hq, q⟩ => ?_) hs hpl))
  subst ex
  obtain ⟨u1, u2, rfl, r1, r2⟩ := vals2 r1
  obtain rfl : u1 = Value.ref a := r1
  obtain ⟨t, rfl⟩ := r2
  obtain ⟨its, rv, p1, _⟩ := I1.list hq
  exact zip_begins2 (begins_list a its.toArray) (begins_text x t) p1.isList trivial fun h' hz hTI hTO g1 g2 hsz hk => zb_iter hz (zl_end I1 hq q p1.lt hz hTI hTO g1 g2 hk)
/-- zip(e, e2, strict=True) -/
theorem pi_zlS {kp kp2 : Pos} {kj : Nat} (hg : Gl X "zip") (hm : X.mg "zip" = none) (ha : PA X [e, e2] ta)
    (hs : starEach [e, e2] X.env = (false, eval e X.env) :: starEach [e2] X.env := by rfl) (hpl : backTo pos (starEach [e, e2] X.env) = (false, eval e X.env) :: backTo pos (starEach [e2] X.env) := by rfl)
    (hp : (backTo pos (starEach [e, e2] X.env)).any (·.1) = false := by rfl) (hks : (backToKw pos (keywordEach [⟨some "strict", .Constant (.bool true) kj kp2, kp⟩] X.env)).filterMap (·.1) = [(Str.ofString "strict")] := by rfl)
    (hall : (backToKw pos (keywordEach [⟨some "strict", .Constant (.bool true) kj kp2, kp⟩] X.env)).all (·.1.isSome) = true := by rfl) (hkw : (backToKw pos (keywordEach [⟨some "strict", .Constant (.bool true) kj kp2, kp⟩] X.env)).any (·.1.isNone) = false := by rfl) :
    PI X (.Tuple elts kk tpos) (.Call (.Name "zip" p) [e, e2] [⟨some "strict", .Constant (.bool true) kj kp2, kp⟩] pos) (iZL X.K true ta) := by
  refine ⟨fun pins s σ H R I h => ?_⟩
  refine wpAny_Call_Name_kw (ld_blt I hg hm PyProof.Rows.boot_zip (callWith_tyK (thn (ha.run pos pins s σ H _ I h) fun us s1 ⟨vs, H1, I1, r1, a, x, xs, ex, hq, q⟩ => ?_) hpl hp hall hkw))
  subst ex
  obtain ⟨u1, u2, rfl, r1, r2⟩ := vals2 r1
  obtain rfl : u1 = Value.ref a := r1
  obtain ⟨t, rfl⟩ := r2
  refine thn ((pk_cons (nm := some "strict") (kpos := kp) (pe_bl (X := X) (b := true) (j := kj) (pos := kp2)) pk_nil).run pos pins s1 σ H1 (fun zs H2 => zs = [V.bl true] ∧ H2 = H1) I1 ⟨rfl, rfl⟩) fun ws s2 ⟨zs, H2, I2, r3, e3, e4⟩ => ?_
  subst e3; subst e4
  obtain ⟨u3, rfl, r4⟩ := vals1 r3
  obtain rfl : u3 = Value.bool true := r4
  rw [hks]
  obtain ⟨its, rv, p1, _⟩ := I2.list hq
  exact zs_begins (begins_list a its.toArray) (begins_text x t) p1.isList trivial fun h' hz hTI hTO g1 g2 hsz hk => zb_iter hz (zl_end I2 hq q p1.lt hz hTI hTO g1 g2 hk)
end
end SK
end
section
set_option Elab.async false
set_option linter.all false
set_option autoImplicit false
set_option maxRecDepth 100000
set_option maxHeartbeats 1000000
namespace SK
open PySem PySem.Spec PyProof.Rows L2

/-! ### a, *b = a list -/
section
variable {prog : Program} {w : World} {A : Around} {E : Value → Shared → Prop} {s : Shared}
theorem star_list {l : Addr} {its : Array Value} {Q : List Value → Shared → Prop} (hl : s.heap.IsList l its) (hh : A.handled = none) (h1 : 1 ≤ its.size) (hz : its.size ≤ 16384)
    (hQ : ∀ h2 tk, (∀ b o, s.heap.get? b = some o → h2.get? b = some o) → wpAny (model prog w) A (newList (its.toList.drop 1)) (fun d s' => Q (its.toList.take 1 ++ [d]) s') E { s with heap := h2, toks := tk }) :
    wpAny (model prog w) A (unpackItems (.ref l) 2 (some 1)) Q E s := by
  obtain ⟨ox, hox, _⟩ := id hl
  have ne0 : l ≠ s.heap.objs.size := Nat.ne_of_lt (Heap.lt_size hox)
  unfold unpackItems notIterableAtAll
  refine wpAny_bind (wpAny_bind (wpAny_specialOf hl.typeIs slot_list_iter.lookup (wpAny_pure ?_)))
  simp only [Bool.false_eq_true, if_false]
  refine wpAny_bind (wpAny_holding (wpAny_pyIter_list hl (wpAny_bind (wpAny_holding (PySem.W.kun_draw ne0 1 0 _ _ ⟨_, Heap.get?_push_size _ rfl, rfl, rfl⟩ (hl.push _) (by omega) fun ha iter hsame => ?_)))))
  rw [Nat.zero_add] at iter
  have lst2 : ha.IsList l its := (hl.push _).extBut hsame.extBut ne0
  obtain ⟨oy, hoy, _⟩ := id iter
  obtain ⟨oz, hoz, _⟩ := id lst2
  have one : (its.toList.take 1).length = 1 := by rw [List.length_take, Array.length_toList]; omega
  rw [List.drop_zero, if_neg (show ¬ ((its.toList.take 1).length < 1) by rw [one]; omega)]
  refine wpAny_bind (wpAny_holding (PySem.W.kun_collect (s := { s with heap := ha }) (T := "list_iterator") (.inr (.inr (.inl rfl))) (Walks.list (A := A.in1) hh s.heap.objs.size l ne0 its) (fun j u st => st.1.typeIs) (k := 1) (by omega) ⟨iter, lst2⟩ (Heap.lt_size hoy) (Heap.lt_size hoz) (fun hb tk kb => ?_) (by rw [sizeLine_eq]; omega)))
  show wpAny _ _ (if (its.toList.drop 1).length < 2 - 1 - 1 then _ else _) _ _ _
  rw [if_neg (by omega)]
  show wpAny _ _ (newList ((its.toList.drop 1).take ((its.toList.drop 1).length - (2 - 1 - 1))) >>= fun d => pure (its.toList.take 1 ++ [d] ++ (its.toList.drop 1).drop ((its.toList.drop 1).length - (2 - 1 - 1)))) _ _ _
  rw [Nat.sub_self, Nat.sub_zero, List.take_length, List.drop_length]
  refine wpAny_bind (wpAny_mono (hQ hb tk fun b o e => kb b o (Nat.ne_of_lt (Heap.lt_size e)) (hsame.extBut b o (Nat.ne_of_lt (Heap.lt_size e)) (Heap.get?_push_of_some _ e))) (fun d s' q => wpAny_pure ?_) fun _ _ z => z)
  rw [List.append_nil]; exact q
end
/-- a, *b = e : names -/
def sStar (i j : Nat) (f : M D) : S := fun env st => (f env st).bindS env fun d st => match d with
  | .lst (x :: xs) => if xs.length ≤ 16000 then .nx ((env.set i (.val x)).set j (.val (.lst xs))) st else .bad
  | _ => .bad
theorem is_star {X : Cx} {W : WX} {x y : Str} {e : Expr} {f : M D} {i j k : Nat} {px py ps pt pos : Pos} (hc : X.calm = true) (hN : X.N.Nodup) (hi : X.N[i]? = some x) (hj : X.N[j]? = some y) (hx : Loc X.env.scope x) (hy : Loc X.env.scope y) (he : IE X W e f)
    (hs : swapsWithSole [.Tuple [.Name x px, .Starred (.Name y py) ps] k pt] e pos.line X.env = pure false := by rfl) (hw : swappedStores [.Tuple [.Name x px, .Starred (.Name y py) ps] k pt] e X.env = pure none := by rfl)
    (h1 : (assignEach [.Tuple [.Name x px, .Starred (.Name y py) ps] k pt] X.env).map (·.2) = [assign (.Tuple [.Name x px, .Starred (.Name y py) ps] k pt) X.env] := by rfl)
    (fx : X.fn x = true ∨ X.env.scope.names.lookup x = some .local := by first | exact .inl rfl | exact .inr rfl | assumption) (fy : X.fn y = true ∨ X.env.scope.names.lookup y = some .local := by first | exact .inl rfl | exact .inr rfl | assumption) :
    IS X W (.Assign [.Tuple [.Name x px, .Starred (.Name y py) ps] k pt] e pos) (sStar i j f) := by
  refine ⟨fun pins s σ H D I h => ?_⟩
  obtain ⟨B, m, μ, env, st, R, post⟩ := h
  refine wpAny_Assign_stores (thn (he.run pins s σ H (fun v H1 => ∃ a v0 vs0 m1 μ1 st1 x0 xs0, v = .ref a ∧ H1 a = some (.lst (v0 :: vs0)) ∧ Rel X.K B m1 μ1 env st1 σ H1 ∧ Rep X.K μ1 m1 x0 v0 ∧ Reps X.K μ1 m1 xs0 vs0 ∧ xs0.length ≤ 16000 ∧
      SPost X.K B W m1 μ1 D (.nx ((env.set i (.val x0)).set j (.val (.lst xs0))) st1)) I ⟨B, m, μ, env, st, R, post.split fun d st1 v m1 μ1 H1 u R1 r k1 => ?_⟩) fun v s1 ⟨xv, H1, I1, rx, a, v0, vs0, m1, μ1, st1, x0, xs0, ex, ea, R1, r0, rs, hz, k1⟩ => ?_) hs hw
  · cases d with
    | lst zs =>
      cases zs with
      | nil => exact k1.elim
      | cons x0 xs0 =>
        dsimp only at k1
        split at k1
        · rename_i hz
          obtain ⟨a, vs, rfl, ha, v0, vs0, rfl, r0, rs⟩ := r
          exact ⟨a, v0, vs0, m1, μ1, st1, x0, xs0, rfl, R1.sub _ _ ha, R1, r0, rs, hz, k1⟩
        · exact k1.elim
    | _ => exact k1.elim
  · subst ex
    obtain rfl : v = Value.ref a := rx
    rw [h1]
    obtain ⟨its, rv, ⟨o, n, ho, hcl, hdn, hdt⟩, hlen⟩ := I1.list (X := X) (.inl (.inl ea))
    cases rv with
    | @cons _ u0 _ us0 ru rus =>
    have hls : us0.length = xs0.length := by rw [← rus.length, rs.length]
    have IL : s1.heap.IsList a (u0 :: us0).toArray := ⟨o, ho, hcl, n, hdt⟩
    show wpAny _ _ (assign (.Tuple _ k pt) X.env (.ref a)) _ _ _
    rw [assign_Tuple]
    refine wpAny_bind (wpAny_standAt ?_)
    unfold unpack
    rw [show (assignEach [Expr.Name x px, Expr.Starred (.Name y py) ps] X.env).length = 2 from rfl, show (assignEach [Expr.Name x px, Expr.Starred (.Name y py) ps] X.env).findIdx? (·.1) = some 1 from rfl]
    refine wpAny_bind (wpAny_holding (star_list IL (I1.ok.hd hc) (by simp) (by simp; omega) fun h2 tk k2 => wpAny_newList ?_ (by rw [sizeLine_eq]; simp; omega)))
    have I2 := I1.kept (t' := tk) k2
    have hf : H1 h2.objs.size = none := I2.hok.fresh (Nat.le_refl _)
    obtain ⟨R2, u2⟩ := R1.newFix (o := .lst vs0) hf
    have I3 : Inv X pins σ (upd H1 h2.objs.size (.lst vs0)) { s1 with heap := h2.push { cls := .type "list", data := .seq us0.toArray }, toks := tk } :=
      I2.laid (t' := tk) (fun b u e => Heap.get?_push_of_some _ e) (Nat.le_refl _) ⟨by rw [sizeLine_eq, rus.length, hls]; omega, us0, 0, rus, Heap.get?_push_size _ rfl⟩
    have g := igs_cons (X := X) (ig_name (pos := px) hN hi hx fx) (igs_cons (ig_name (pos := py) hN hj hy fy) igs_nil) |>.run pins _ σ _ [v0, .ref h2.objs.size] [u0, .ref h2.objs.size] D.nx I3 (.cons ru (.cons rfl .nil))
      ⟨B, _, _, env, st1, [x0, .lst xs0], (env.set i (.val x0)).set j (.val (.lst xs0)), R2, ⟨v0, _, rfl, Rep.up u2 _ r0, .ref h2.objs.size, [], rfl, ⟨_, vs0, rfl, upd_same, Reps.up u2 _ rs⟩, rfl⟩, rfl, fun σ' R3 _ => SPost.now (SPost.later u2 k1) R3⟩
    simp only [List.drop_succ_cons, List.drop_zero, List.take_succ_cons, List.take_zero]
    exact thn g fun _ s3 q => q

/-! ### try: .. except C as e: return (a value of the exception's fields) -/
/-- in the suite: E's value is what g says of the fields -/
def tXR (K : Fg) (i : Nat) (a : Addr) (d : Option Addr) (g : List (Str × D) → Option D) : TE := fun σ H Q => σ[i]? = some (some (.ref a)) ∧ ∃ dd μ m fs vs z, d = some dd ∧ H dd = some (.xd vs) ∧ RepF K μ m fs vs ∧ g fs = some z ∧ ∀ v, Rep K μ m z v → Q v H
abbrev IXR (X : Cx) (i : Nat) (a : Addr) (d : Option Addr) (e : Expr) (g : List (Str × D) → Option D) : Prop := PE X e (tXR X.K i a d g)
theorem repF_lookup {K : Fg} {μ : List Addr} {m : Hp} {f : Str} {z : D} : ∀ {fs : List (Str × D)} {vs : List (Str × V)}, RepF K μ m fs vs → fs.lookup f = some z → ∃ v, vs.lookup f = some v ∧ Rep K μ m z v
  | [], _, _, e => by simp at e
  | (k, x) :: fs, _, ⟨v, ws, rfl, h, r⟩, e => by
    by_cases hk : f = k
    · subst hk
      simp at e; subst e
      exact ⟨v, by simp, h⟩
    · have hb : (f == k) = false := beq_eq_false_iff_ne.mpr hk
      rw [List.lookup_cons, hb] at e
      obtain ⟨w, h1, h2⟩ := repF_lookup r e
      exact ⟨w, by rw [List.lookup_cons, hb]; exact h1, h2⟩
section
variable {X : Cx} {i : Nat} {a C : Addr} {d : Option Addr} {e e' c : Expr} {g g' : List (Str × D) → Option D} {pos : Pos}
theorem xr_c {v : V} {z : D} (h : PE X e (tC v)) (r : ∀ μ m, Rep X.K μ m z v) : IXR X i a d e (fun _ => some z) := pe_imp h fun σ H Q ⟨_, dd, μ, m, fs, vs, z', _, _, _, e1, k⟩ => by cases e1; exact k _ (r μ m)
theorem xr_fld {oe : Obj} {n : Str} {pn : List (Addr × Obj)} (T : XfC X.K C) (hno : PySem.W.findIn X.K (.ref C) n = some none) (hz : Zc (.ref C) d oe) (hf : ∃ vs, oe.data = .fields vs) (hv : PE (X.suite a ((a, oe) :: pn)) e (tVar i))
    (hb : attributeBase e n X.env (eval e X.env) = eval e X.env := by rfl) : IXR (X.suite a ((a, oe) :: pn)) i a d (.Attribute e n pos) (fun fs => fs.lookup n) :=
  pe_imp (pe_xf T hno hz hf hv hb) fun σ H Q ⟨h1, dd, μ, m, fs, vs, z, h2, h3, h4, h5, k⟩ => by
    obtain ⟨v, g1, g2⟩ := repF_lookup h4 h5
    exact ⟨.ref a, h1, rfl, rfl, dd, vs, v, h2, h3, g1, k v g2⟩
/-- a test on the class alone -/
def tXT (K : Fg) (i : Nat) (a : Addr) (d : Option Addr) (b : Bool) : TT := fun σ H Q => σ[i]? = some (some (.ref a)) ∧ (∃ dd vs, d = some dd ∧ H dd = some (.xd vs)) ∧ Q b H
abbrev IXT (X : Cx) (i : Nat) (a : Addr) (d : Option Addr) (e : Expr) (b : Bool) : Prop := PT X e (tXT X.K i a d b)
theorem xr_if {b : Bool} (hc : IXT X i a d c b) (h1 : IXR X i a d e g) (h2 : IXR X i a d e' g') : IXR X i a d (.IfExp c e e' pos) (fun fs => if b then g fs else g' fs) :=
  pe_imp (pe_ifExp hc h1 h2) fun σ H Q ⟨h1, dd, μ, m, fs, vs, z, h2, h3, h4, h5, k⟩ => by
    refine ⟨h1, ⟨dd, vs, h2, h3⟩, ?_⟩
    cases b with
    | true => exact ⟨h1, dd, μ, m, fs, vs, z, h2, h3, h4, h5, k⟩
    | false => exact ⟨h1, dd, μ, m, fs, vs, z, h2, h3, h4, h5, k⟩
theorem xt_not {b : Bool} (h : IXT X i a d e b) : IXT X i a d (.UnaryOp .Not e pos) (!b) := pt_imp (pt_not h) fun σ H Q ⟨h1, h2, q⟩ => ⟨h1, h2, q⟩
end

/-! ### isinstance(e, C) of a caught exception that has a dict -/
section
open PySem.W PySem.Calls
variable {prog : Program} {w : World} {A : Around} {E : Value → Shared → Prop} {s : Shared} {K : Frag} {x D : Addr} {ox od : Obj}
theorem exc_class {Q : Option Value → Shared → Prop} (T : L2.ExcC K D) (X : K.In s.heap) (J : InstAt s.heap x ox D (some od)) (h : Q (some (.ref D)) { s with toks := s.toks + 1 }) : wpAny (model prog w) A (getAttr? (.ref x) "__class__") Q E s := by
  have found : findObj K D (some od) "__class__" = some (.bind (.builtin "getset_descriptor.__get__") (.builtin "object.__class__")) := findObj_data (by obtain ⟨cd, hc, _⟩ := any_some T.hd; rw [hc]; rfl) T.ha T.hn T.ht
  obtain ⟨hp, g, d, t, os⟩ := s
  have La := J.type (M := model prog w); have Lb := looks_findIn (M := model prog w) X T.hg; have Lc := looks_findIn (M := model prog w) X T.hk; have Ld := looks_find (M := model prog w) X J found
  have isB : Looks (model prog w) hp (isInstance (.ref x) (.type "BaseException")) true := La.andThen (looks_subIn X T.hs)
  have eqF : (onTheHeap (Value.ref D) && Value.builtin "BaseException.__getattribute__" == Value.builtin "object.__getattribute__") = false := by rw [show (Value.builtin "BaseException.__getattribute__" == Value.builtin "object.__getattribute__") = false from by decide +kernel, Bool.and_false]
  unfold getAttr?; unfold getAttrBy?; unfold getAttrBy
  refine wpAny_bind (wpAny_mkText (wpAny_bind (wpAny_attempt (wpAny_holding (wpAny_bind (La.at (wpAny_bind (Lb.at (?_ : wpAny _ _ (if (onTheHeap (Value.ref D) && Value.builtin "BaseException.__getattribute__" == Value.builtin "object.__getattribute__") = true then _ else _) _ _ _)))))))))
  rw [eqF, if_neg Bool.false_ne_true]; unfold getAttrByItsOwn hookBefore
  refine wpAny_bind (?_ : wpAny _ _ (if onTheHeap (Value.ref D) = true then _ else _) _ _ _); rw [if_pos (show onTheHeap (Value.ref D) = true from rfl)]
  refine Lc.at (wpAny_bind (wpAny_attempt (wpAny_holding ?_))); unfold callGetattribute
  rw [show (false && onTheHeap (Value.builtin "BaseException.__getattribute__")) = false from rfl, if_neg Bool.false_ne_true]; unfold boundAndCalled
  rw [PySem.F.excAttr_ValueError.ga.bind (.ref x)]; refine wpAny_bind (wpAny_pure (?_ : wpAny _ _ (call (.builtin "BaseException.__getattribute__") [.ref x, .str "__class__" t]) _ _ _))
  refine wpAny_call (codeAny_call_builtin PySem.F.excAttr_ValueError.ga.plain PySem.F.entry_bexc_ga (@check_slot (model prog w) _ _ ⟨hp, g, d, t + 1, os⟩ "BaseException.__getattribute__" "BaseException" "__getattribute__" (.ref x) [.str "__class__" t] [] _ (by decide +kernel) (by decide +kernel) isB (PySem.F.args_bexc_ga (.ref x) (.str "__class__" t)) ?_))
  unfold Builtin.«object.__getattribute__»; refine wpAny_bind (wpAny_of_eq (a := ((Value.ref x : Value), [Value.str "__class__" t])) (by first | rfl | (simp only [slotArgs]; rfl)) ?_)
  refine wpAny_bind (wpAny_pure (wpAny_bind (La.at (wpAny_bind (Ld.at (?_ : wpAny _ _ (holding [Value.builtin "object.__class__"] (call (.builtin "getset_descriptor.__get__") [.builtin "object.__class__", .ref x, .ref D]) >>= ret) _ _ _))))))
  refine wpAny_bind (wpAny_holding (wpAny_call (class_get (s := ⟨hp, g, d, t + 1, os⟩) (ox := ox) (od := some od) X J T.hm (wpAny_pure (?_ : wpAny _ _ (handedOut (.ref D)) _ _ _)))))
  rw [handedOut_of (v := .ref D) rfl]; first | exact wpAny_pure (wpAny_pure h) | exact wpAny_pure h | exact wpAny_pure (wpAny_bind (wpAny_pure (wpAny_pure h)))
theorem kitx_excD (T : L2.ExcC K D) : KitX K (.ref x) (.ref D) (fun h => InstAt h x ox D (some od)) where
  ty := fun _ _ _ J => J.type
  it := fun _ _ X _ => by
    obtain ⟨cdD, hcD, _⟩ := any_some T.hd
    unfold clsIn at hcD
    split at hcD
    · rename_i ho; intro A' Q' E' s' k q; unfold isType loadHead; exact wpAny_bind (wpAny_loadPart (k _ _ (X _ _ ho)) (wpAny_pure q))
    · cases hcD
  ne := fun h tp dd its n sl X htp => by
    obtain ⟨cdD, hcD, _⟩ := any_some T.hd
    refine Bool.eq_false_iff.mpr fun q => ?_
    have e : D = tp := Value.ref.inj (beq_iff_eq.mp q)
    subst e; unfold clsIn at hcD
    split at hcD
    · rename_i ho; have z := (X _ _ ho).symm.trans htp; cases z
    · cases hcD
  ca := fun X J k => exc_class T X J k
end
/-- isinstance(e, c), e the exception that the suite holds, of the class at D, with a dict -/
theorem call_isE1 {X : Cx} {a D : Addr} {oe : Obj} {d : Option Addr} {pn : List (Addr × Obj)} (T : ExcC X.K D) (hz : Zc (.ref D) d oe) (hf : ∃ vs, oe.data = .fields vs) :
    CallR (X.suite a ((a, oe) :: pn)) (.builtin "isinstance") (fun xs H Q => ∃ (c : V) (cv : Value) (b : Bool), xs = [.ref a, c] ∧ (∀ u, RelV c u → u = cv) ∧ PySem.W.kitOne X.K (.ref D) cv = some b ∧ (∃ dd vs, d = some dd ∧ H dd = some (.xd vs)) ∧ Q (.bl b) H) := by
  intro pins s σ H xs us Q I r h
  obtain ⟨c, cv, b, rfl, hcv, e, ⟨dd, fs, ed, eH⟩, q⟩ := h
  subst ed
  obtain ⟨u1, u2, rfl, r1, r2⟩ := vals2 r
  obtain rfl : u1 = Value.ref a := r1
  obtain rfl := hcv _ r2
  obtain ⟨hget, _⟩ := I.pin (a, oe) (List.mem_append_left _ List.mem_cons_self)
  obtain ⟨vs, hd⟩ := hf
  obtain ⟨mA, hns, hr⟩ := (show ObjOk X.prog X.w H s.heap dd (.xd fs) from I.hok dd _ eH)
  obtain ⟨od, ho, hl⟩ := lookIn_ns hns
  have J : PySem.W.InstAt s.heap a oe D (some od) := ⟨hget, hz.1, by unfold PySem.W.notCls; rw [hd] <;> rfl, by rw [hz.2]; exact ho⟩
  exact PySem.W.kia_one (kitx_excD T) I.kIn J e (fun z => nomatch z) fun tk => ⟨.bl b, H, I.kept (t' := tk) fun _ _ z => z, rfl, q⟩
section
variable {X : Cx} {i : Nat} {a C : Addr} {d : Option Addr} {e c : Expr} {pos p : Pos}
/-- .. as a test -/
theorem xt_isi {oe : Obj} {pn : List (Addr × Obj)} {cv : Value} {v : V} {b : Bool} (T : ExcC X.K C) (hz : Zc (.ref C) d oe) (hf : ∃ vs, oe.data = .fields vs) (hv : PE (X.suite a ((a, oe) :: pn)) e (tVar i)) (hc : PE (X.suite a ((a, oe) :: pn)) c (tC v)) (hr : ∀ u, RelV v u → u = cv) (hk : PySem.W.kitOne X.K (.ref C) cv = some b)
    (hg : Gl X "isinstance") (hm : X.mg "isinstance" = none) (h1 : starEach [e, c] X.env = (false, eval e X.env) :: starEach [c] X.env := by rfl) (h2 : starEach [c] X.env = (false, eval c X.env) :: starEach [] X.env := by rfl) (hpl : (backTo pos (starEach [c] X.env)).any (·.1) = false := by rfl)
    (hh : ∀ whole, isTrue (.Call (.Name "isinstance" p) [e, c] [] pos) X.env whole = (do let v ← whole; standAt pos; holding [v] (truthy v)) := by intro _; rfl) :
    IXT (X.suite a ((a, oe) :: pn)) i a d (.Call (.Name "isinstance" p) [e, c] [] pos) b :=
  pt_imp (pt_val (pe_callB (X := X.suite a ((a, oe) :: pn)) (call_isE1 T hz hf) hg hm (by decide +kernel) (pa_cons hv (pa_cons hc pa_nil h2) h1) (by decide) (by decide) h1 hpl) hh) fun σ H Q ⟨g1, g2, q⟩ =>
    ⟨.ref a, g1, v, cv, b, rfl, hr, hk, g2, b, rfl, q⟩
theorem xt_and1 {b : Bool} (h : IXT X i a d e b) : PW X (.BoolOp .And [e] pos) (tXT X.K i a d b) := pw_and1 h
theorem xt_and {b b' : Bool} {rest : List Expr} (h1 : IXT X i a d e b) (h2 : PW X (.BoolOp .And (c :: rest) pos) (tXT X.K i a d b')) : PW X (.BoolOp .And (e :: c :: rest) pos) (tXT X.K i a d (b && b')) :=
  pw_imp (pw_and h1 h2) fun σ H Q ⟨g1, g2, q⟩ => ⟨g1, g2, by
    cases b with
    | true => exact ⟨g1, g2, q⟩
    | false => exact q⟩
end
/-- the statement: xm says which classes the clause takes, g what is returned -/
def sTry (i : Nat) (b : S) (xm : Value → Option Bool) (g : Value → List (Str × D) → Option D) : S := fun env st => match b env st with
  | .exc c fs env1 st1 => (match xm c with
    | some true => if i < env1.length then (match g c fs with
      | some z => .rt (.v z) st1
      | none => .bad) else .bad
    | some false => .exc c fs env1 st1
    | none => .bad)
  | o => o
theorem is_try {X : Cx} {Wout : WX} {x n : Str} {c : Value} {i : Nat} {body : List Stmt} {E : Expr} {np pos pos' p : Pos} {b : S} {xm : Value → Option Bool} {g : Value → List (Str × D) → Option D}
    (hs : X.stack = X.env :: X.outer) (hf : X.env.frame = some X.env.locals) (hN : X.N.Nodup) (hi : X.N[i]? = some n) (hln : X.env.kindOf n = some .local) (hc : Names X x c) (tk : Takes X Wout)
    (hxm : ∀ cls b, xm cls = some b → PySem.W.exmOne X.K cls c = some b)
    (hb : ∀ (W : WX) (pn : List (Addr × Obj)) (xe : Value → Shared → Prop), Takes (X.tr pn xe) W → PassesOwn (model X.prog X.w) X.A X.env xe → ISs (X.tr pn xe) W body b)
    (hE : ∀ (a : Addr) (oe : Obj) (cls : Value) (d : Option Addr) (pn : List (Addr × Obj)), xm cls = some true → Zc cls d oe → (∃ vs, oe.data = .fields vs) → IXR (X.suite a ((a, oe) :: pn)) i a d E (g cls)) (hnx : ∀ c fs z, g c fs = some z → fs ≠ []) :
    IS X Wout (.Try body [.ExceptHandler (some (.Name x np)) (some n) [.Return (some E) p] pos'] [] [] pos) (sTry i b xm g) := by
  refine ps_imp (ps_try_as (suite := []) (tb := fun W => tIS X.K W b) (ts := fun a cls d D σ H => xm cls = some true ∧ tXR X.K i a d (g cls) σ H D.rt) hs hf hN hi hln hc tk hb fun a oe cls d pn hz hf => ?_) fun D σ H ⟨B, m, μ, env, st, R, k⟩ => ?_
  · refine ⟨fun pins s σ H D I h => ?_⟩
    exact (pss_one (ps_ret (hE a oe cls d pn h.1 hz hf))).run pins s σ H D I h.2
  · refine ⟨B, m, μ, env, st, R, ?_⟩
    unfold sTry at k
    cases q : b env st with
    | exc cc fs env1 st1 =>
      rw [q] at k
      intro dx σ1 m1 μ1 H1 u1 R1 xd
      dsimp only at k
      cases q2 : xm cc with
      | none => rw [q2] at k; exact k.elim
      | some bb =>
        rw [q2] at k
        refine ⟨bb, hxm _ _ q2, fun hb' a ha => ?_, fun hb' => ?_⟩
        · subst hb'
          refine ⟨q2, ?_⟩
          dsimp only at k
          split at k
          case isFalse => exact k.elim
          rename_i hil0
          have hil : i < σ1.length := by rw [← R1.ln]; exact hil0
          cases q3 : g cc fs with
          | none => rw [q3] at k; exact k.elim
          | some z =>
            rw [q3] at k
            rcases xd with ⟨rfl, _⟩ | ⟨dd, vs, ed, hd, rf⟩
            · exact absurd rfl (hnx _ _ _ q3)
            · exact ⟨List.getElem?_set_self hil, dd, μ1, m1, fs, vs, z, ed, hd, rf, q3, fun v rv => k v m1 μ1 H1 u1 R1.drop rv⟩
        · subst hb'
          exact k dx σ1 m1 μ1 H1 u1 R1 xd
    | nx => rw [q] at k; exact k
    | rt => rw [q] at k; exact k
    | bk => rw [q] at k; exact k
    | ct => rw [q] at k; exact k
    | bad => rw [q] at k; exact k

/-! ### repr of data, where no repr is under way -/
def rReprG (K : Fg) : List V → Hp → VK → Prop := fun xs H Q => ∃ a d, xs = [.ref a] ∧ Dp K H (.ref a) d ∧ SeqAt.shaped d = true ∧ d.showable = true ∧ d.shown.length ≤ sizeLine ∧ Q (.str d.shown) H
end SK
end
section
set_option Elab.async false
set_option linter.all false
set_option autoImplicit false
set_option maxRecDepth 100000
set_option maxHeartbeats 1000000
namespace SK
open PySem PySem.Spec PyProof.Rows L2

/-! ### walks: ranges, enumerate, zip -/
section
variable {K : Fg} {μ : List Addr} {m : Hp}
def rngD (lo : Int) (n : Nat) : List D := (List.range n).map fun (i : Nat) => D.int (lo + (i : Int))
theorem wk_rng {lo : Int} {n : Nat} : Wk K (Itr lo n) (rngD lo n) μ m where
  go := fun i hi B m1 μ1 env st σ H u R => by
    unfold rngD at hi; rw [List.length_map, List.length_range] at hi; exact hi
  yld := fun i d e B m1 μ1 env st σ H x H' u R ⟨e1, e2⟩ => by
    subst e1; subst e2
    refine ⟨m1, Up.refl, R, ?_, fun _ _ z => z, fun _ _ z => .inl z⟩
    unfold rngD at e
    rw [List.getElem?_map] at e
    cases q : (List.range n)[i]? with
    | none => rw [q] at e; cases e
    | some j =>
      rw [q] at e; cases e
      obtain ⟨h1, h2⟩ := List.getElem?_eq_some_iff.mp q
      rw [List.getElem_range] at h2
      subst h2
      rfl
  stop := fun B m1 μ1 env st σ H u R => by
    unfold rngD; rw [List.length_map, List.length_range]; exact Nat.le_refl _
def enumD (ds : List D) : List D := ds.zipIdx.map fun p => D.tup [.int (p.2 : Nat), p.1]
theorem enumD_length (ds : List D) : (enumD ds).length = ds.length := by unfold enumD; rw [List.length_map, List.length_zipIdx]
theorem enumD_get {ds : List D} {i : Nat} {d : D} (h : (enumD ds)[i]? = some d) : ∃ x, ds[i]? = some x ∧ d = .tup [.int (i : Nat), x] := by
  unfold enumD at h
  rw [List.getElem?_map, List.getElem?_zipIdx] at h
  cases q : ds[i]? with
  | none => rw [q] at h; cases h
  | some x => rw [q] at h; cases h; exact ⟨x, rfl, by simp⟩
theorem rep_pair {B : Bs} {env : En} {st : List MO} {σ : L2.St} {H : Hp} {T : Addr} {x y : D} {v w : V} (R : Rel K B m μ env st σ H) (hT : H T = none) (r1 : Rep K μ m x v) (r2 : Rep K μ m y w) :
    ∃ m', Up μ μ m m' ∧ Rel K B m' μ env st σ (upd H T (.tup [v, w])) ∧ Rep K μ m' (.tup [x, y]) (.ref T) ∧ (∀ b o, H b = some o → upd H T (.tup [v, w]) b = some o) ∧ ∀ b o, m' b = some o → m b = some o ∨ H b = none := by
  obtain ⟨R2, u2⟩ := R.newFix (o := .tup [v, w]) hT
  refine ⟨_, u2, R2, ⟨T, _, rfl, .of upd_same, v, [w], rfl, Rep.up u2 _ r1, w, [], rfl, Rep.up u2 _ r2, rfl⟩, fun b o e => ?_, fun b o e => ?_⟩
  · rw [upd_ne (fun z => by rw [z, hT] at e; cases e)]; exact e
  · by_cases hb : b = T
    · subst hb; exact .inr hT
    · rw [upd_ne hb] at e; exact .inl e
theorem wk_enum {a : Addr} {xs : List D} {vs : List V} (h : m a = some (.lst vs)) (r : Reps K μ m xs vs) : Wk K (Ite K a) (enumD xs) μ m where
  go := fun i hi B m1 μ1 env st σ H u R => by
    rw [enumD_length] at hi
    obtain ⟨v, h1, _⟩ := r.get (List.getElem?_eq_getElem hi)
    exact ⟨vs, v, .of (sub_lst R.sub (u.hp _ _ h)), h1⟩
  yld := fun i d e B m1 μ1 env st σ H x H' u R ⟨T, y, e1, e2, e3, k⟩ => by
    subst e1; subst e3
    obtain ⟨z, h0, rfl⟩ := enumD_get e
    obtain ⟨v, h1, h2⟩ := r.get h0
    have := k vs (.of (sub_lst R.sub (u.hp _ _ h)))
    rw [h1] at this; cases this
    exact rep_pair R e2 rfl (Rep.up u _ h2)
  stop := fun B m1 μ1 env st σ H u R => ⟨vs, .of (sub_lst R.sub (u.hp _ _ h)), by rw [enumD_length, r.length]; exact Nat.le_refl _⟩
def zipD (xs : List D) (x : Str) : List D := List.zipWith (fun d c => D.tup [d, .str ⟨#[c]⟩]) xs x.cps.toList
theorem zipD_length (xs : List D) (x : Str) : (zipD xs x).length = min xs.length x.cps.size := by
  unfold zipD
  rw [List.length_zipWith, show x.cps.toList.length = x.cps.size from Array.length_toList]
theorem wk_zl {a : Addr} {b : Bool} {xs : List D} {vs : List V} {x : Str} (h : m a = some (.lst vs)) (r : Reps K μ m xs vs) (hb : b = true → xs.length = x.cps.size) : Wk K (ItZ K b a x) (zipD xs x) μ m where
  go := fun i hi B m1 μ1 env st σ H u R => by
    rw [zipD_length] at hi
    obtain ⟨v, h1, _⟩ := r.get (List.getElem?_eq_getElem (show i < xs.length by omega))
    exact ⟨vs, v, _, .of (sub_lst R.sub (u.hp _ _ h)), h1, Array.getElem?_eq_getElem (show i < x.cps.size by omega)⟩
  yld := fun i d e B m1 μ1 env st σ H y H' u R ⟨T, v, c, e1, e2, e3, k, k2⟩ => by
    subst e1; subst e3
    unfold zipD at e
    rw [List.getElem?_zipWith] at e
    cases q1 : xs[i]? with
    | none => rw [q1] at e; cases e
    | some z =>
      rw [q1, Array.getElem?_toList, k2] at e
      cases e
      obtain ⟨v2, h1, h2⟩ := r.get q1
      have := k vs (.of (sub_lst R.sub (u.hp _ _ h)))
      rw [h1] at this; cases this
      exact rep_pair R e2 (Rep.up u _ h2) rfl
  stop := fun B m1 μ1 env st σ H u R => by
    have hl := r.length
    rw [zipD_length]
    exact ⟨vs, .of (sub_lst R.sub (u.hp _ _ h)), by omega, by omega, by omega, fun z => by rw [← hl]; exact hb z⟩
end
section
variable {X : Cx} {W : WX} {tg e e2 : Expr} {f f' : M D} {pos p tpos : Pos} {elts : List Expr} {kk : Nat}
def rngOk (i : Int) : Bool := decide (-(2 ^ 62) ≤ i) && decide (i < 2 ^ 62)
theorem rngOk_iff {i : Int} (h : rngOk i = true) : -(2 ^ 62) ≤ i ∧ i < 2 ^ 62 := ⟨of_decide_eq_true (Bool.and_eq_true_iff.mp h).1, of_decide_eq_true (Bool.and_eq_true_iff.mp h).2⟩
def wRng1 (f : M D) : M (List D) := fun env st => (f env st).bind fun d st => match d with
  | .int j => if rngOk j then .ok (rngD 0 j.toNat) st else .bad
  | _ => .bad
def wRng2 (f f' : M D) : M (List D) := fun env st => (f env st).bind fun d st => (f' env st).bind fun d' st => match d, d' with
  | .int i, .int j => if rngOk i && rngOk j then .ok (rngD i (j - i).toNat) st else .bad
  | _, _ => .bad
def wEnum (f : M D) : M (List D) := fun env st => (f env st).bind fun d st => match d with
  | .lst xs => .ok (enumD xs) st
  | _ => .bad
def zipO (b : Bool) (d d' : D) (st : List MO) : Out (List D) := match d, d' with
  | .lst xs, .str x => if b && xs.length != x.cps.size then .bad else .ok (zipD xs x) st
  | _, _ => .bad
def wZip (b : Bool) (f f' : M D) : M (List D) := fun env st => (f env st).bind fun d st => (f' env st).bind fun d' st => zipO b d d' st
theorem ii_rng1 (hm : X.mg "range" = none) (hg : Gl X "range") (he : IE X W e f) (hs : starEach [e] X.env = [(false, eval e X.env)] := by rfl) : II X W tg (.Call (.Name "range" p) [e] [] pos) (wRng1 f) :=
  pi_imp (pi_range1 hg hm (pa_cons he pa_nil hs) hs) fun σ H Q ⟨B, m, μ, env, st, R, k⟩ => by
    refine ⟨B, m, μ, env, st, R, k.split fun d st1 v m1 μ1 H1 u R1 r k1 => ?_⟩
    cases d with
    | int j =>
      cases r
      dsimp only at k1
      split at k1
      · rename_i hz
        exact ⟨j, rfl, (rngOk_iff hz).1, (rngOk_iff hz).2, k1.now R1 wk_rng⟩
      · exact k1.elim
    | _ => exact k1.elim
theorem ii_rng2 (hm : X.mg "range" = none) (hg : Gl X "range") (he : IE X W e f) (he2 : IE X W e2 f') (hs : starEach [e, e2] X.env = [(false, eval e X.env), (false, eval e2 X.env)] := by rfl) (hs2 : starEach [e2] X.env = [(false, eval e2 X.env)] := by rfl) :
    II X W tg (.Call (.Name "range" p) [e, e2] [] pos) (wRng2 f f') :=
  pi_imp (pi_range2 hg hm (pa_cons he (pa_cons he2 pa_nil hs2) (by rw [hs, hs2])) hs hs2) fun σ H Q ⟨B, m, μ, env, st, R, k⟩ => by
    refine ⟨B, m, μ, env, st, R, k.split fun d st1 v m1 μ1 H1 u R1 r k1 => ⟨B, m1, μ1, env, st1, R1, k1.split fun d' st2 v' m2 μ2 H2 u2 R2 r2 k2 => ?_⟩⟩
    cases d with
    | int i =>
      cases d' with
      | int j =>
        cases r; cases r2
        dsimp only at k2
        split at k2
        · rename_i hz
          obtain ⟨z1, z2⟩ := Bool.and_eq_true_iff.mp hz
          exact ⟨i, j, rfl, ⟨(rngOk_iff z1).1, (rngOk_iff z1).2, (rngOk_iff z2).1, (rngOk_iff z2).2⟩, k2.now R2 wk_rng⟩
        · exact k2.elim
      | _ => exact k2.elim
    | _ => exact k2.elim
theorem ii_enum (hm : X.mg "enumerate" = none) (hg : Gl X "enumerate") (he : IE X W e f) (hs : starEach [e] X.env = [(false, eval e X.env)] := by rfl) : II X W (.Tuple elts kk tpos) (.Call (.Name "enumerate" p) [e] [] pos) (wEnum f) :=
  pi_imp (pi_enum hg hm (pa_cons he pa_nil hs) hs) fun σ H Q ⟨B, m, μ, env, st, R, k⟩ => by
    refine ⟨B, m, μ, env, st, R, k.split fun d st1 v m1 μ1 H1 u R1 r k1 => ?_⟩
    cases d with
    | lst xs =>
      obtain ⟨a, vs, rfl, ha, ra⟩ := r
      exact ⟨a, vs, rfl, .of (sub_lst R1.sub ha), k1.now R1 (wk_enum ha ra)⟩
    | _ => exact k1.elim
theorem zip_ok {b : Bool} {d d' : D} {st : List MO} {B : Bs} {m : Hp} {μ : List Addr} {env : En} {σ : L2.St} {H : Hp} {v v' : V} {Q : It → Hp → Prop} (R : Rel X.K B m μ env st σ H) (r : Rep X.K μ m d v) (r2 : Rep X.K μ m d' v')
    (k : Post X.K B W σ env m μ (pW X.K) Q (zipO b d d' st)) : ∃ a x xs, [v, v'] = [.ref a, .str x] ∧ SqL X.K H a xs ∧ Q (ItZ X.K b a x) H := by
  cases d with
  | lst xs =>
    cases d' with
    | str x =>
      obtain ⟨a, vs, rfl, ha, ra⟩ := r
      cases r2
      simp only [zipO] at k
      split at k
      · exact k.elim
      · rename_i hz
        refine ⟨a, x, vs, rfl, .of (sub_lst R.sub ha), k.now R (wk_zl ha ra fun hb => ?_)⟩
        rw [hb, Bool.true_and, bne_iff_ne, ne_eq, Classical.not_not] at hz
        exact hz
    | _ => exact k.elim
  | _ => exact k.elim
theorem ii_zip (hm : X.mg "zip" = none) (hg : Gl X "zip") (he : IE X W e f) (he2 : IE X W e2 f') (hs : starEach [e, e2] X.env = (false, eval e X.env) :: starEach [e2] X.env := by rfl) (hpl : (backTo pos (starEach [e2] X.env)).any (·.1) = false := by rfl) (hs2 : starEach [e2] X.env = (false, eval e2 X.env) :: starEach [] X.env := by rfl) :
    II X W (.Tuple elts kk tpos) (.Call (.Name "zip" p) [e, e2] [] pos) (wZip false f f') :=
  pi_imp (pi_zl hg hm (pa_cons he (pa_cons he2 pa_nil hs2) hs) hs hpl) fun σ H Q ⟨B, m, μ, env, st, R, k⟩ =>
    ⟨B, m, μ, env, st, R, k.split fun d st1 v m1 μ1 H1 u R1 r k1 => ⟨B, m1, μ1, env, st1, R1, k1.split fun d' st2 v' m2 μ2 H2 u2 R2 r2 k2 => zip_ok R2 (Rep.up u2 _ r) r2 k2⟩⟩
theorem ii_zipS {kp kp2 : Pos} {kj : Nat} (hm : X.mg "zip" = none) (hg : Gl X "zip") (he : IE X W e f) (he2 : IE X W e2 f') (hs : starEach [e, e2] X.env = (false, eval e X.env) :: starEach [e2] X.env := by rfl) (hs2 : starEach [e2] X.env = (false, eval e2 X.env) :: starEach [] X.env := by rfl)
    (hpl : backTo pos (starEach [e, e2] X.env) = (false, eval e X.env) :: backTo pos (starEach [e2] X.env) := by rfl)
    (hp : (backTo pos (starEach [e, e2] X.env)).any (·.1) = false := by rfl) (hks : (backToKw pos (keywordEach [⟨some "strict", .Constant (.bool true) kj kp2, kp⟩] X.env)).filterMap (·.1) = [(Str.ofString "strict")] := by rfl)
    (hall : (backToKw pos (keywordEach [⟨some "strict", .Constant (.bool true) kj kp2, kp⟩] X.env)).all (·.1.isSome) = true := by rfl) (hkw : (backToKw pos (keywordEach [⟨some "strict", .Constant (.bool true) kj kp2, kp⟩] X.env)).any (·.1.isNone) = false := by rfl) :
    II X W (.Tuple elts kk tpos) (.Call (.Name "zip" p) [e, e2] [⟨some "strict", .Constant (.bool true) kj kp2, kp⟩] pos) (wZip true f f') :=
  pi_imp (pi_zlS hg hm (pa_cons he (pa_cons he2 pa_nil hs2) hs) hs hpl hp hks hall hkw) fun σ H Q ⟨B, m, μ, env, st, R, k⟩ =>
    ⟨B, m, μ, env, st, R, k.split fun d st1 v m1 μ1 H1 u R1 r k1 => ⟨B, m1, μ1, env, st1, R1, k1.split fun d' st2 v' m2 μ2 H2 u2 R2 r2 k2 => zip_ok R2 (Rep.up u2 _ r) r2 k2⟩⟩
end

/-! ### for i, x in enumerate(a list of the store) -/
def forE (n : Nat) (t : Tg) (b : S) : List D → Nat → S
  | [], i, env, st => match st[n]? with
    | some (.lst ys) => if ys.length ≤ i then .nx env st else .bad
    | _ => .bad
  | _ :: rest, i, env, st => match st[n]? with
    | some (.lst ys) => (match ys[i]? with
      | none => .bad
      | some d => (match t (.tup [.int (i : Nat), d]) env with
        | none => .bad
        | some env1 => match b env1 st with
          | .nx env2 st2 => forE n t b rest (i + 1) env2 st2
          | .ct env2 st2 => forE n t b rest (i + 1) env2 st2
          | .bk env2 st2 => .nx env2 st2
          | o => o))
    | _ => .bad
def sForE (f : M D) (t : Tg) (b : S) : S := fun env st => (f env st).bindS env fun d st => match d with
  | .ref n => (match st[n]? with
    | some (.lst ys) => forE n t b ys 0 env st
    | _ => .bad)
  | _ => .bad
theorem is_forE {X : Cx} {W : WX} {e : Expr} {elts : List Expr} {kk : Nat} {tpos p pos' : Pos} {body : List Stmt} {f : M D} {t : Tg} {b : S} {pos : Pos} (hp : PassesOwn (model X.prog X.w) X.A X.env X.xe) (hc : X.calm = true) (hm : X.mg "enumerate" = none) (hgl : Gl X "enumerate") (he : IE X W e f)
    {sl : List Nat} (hg : IG X (.Tuple elts kk tpos) t sl) (hb : ISs X W body b) (hs : starEach [e] X.env = [(false, eval e X.env)] := by rfl) (hf : ∀ x, foldedSetIterable (.Call (.Name "enumerate" p) [e] [] pos') X.env x = pure x := by intro _; rfl) :
    IS X W (.For (.Tuple elts kk tpos) (.Call (.Name "enumerate" p) [e] [] pos') body [] pos) (sForE f t b) := ps_imp (ps_for hp hc (pi_enum hgl hm (pa_cons he pa_nil hs) hs) hg hb hf) fun D σ H ⟨B, m, μ, env, st, R, k⟩ => by
  refine ⟨B, m, μ, env, st, R, k.split fun d st1 v m1 μ1 H1 u R1 r k1 => ?_⟩
  cases d with
  | ref n =>
    obtain ⟨a, rfl, hn⟩ := r
    obtain ⟨o, g1, g2⟩ := R1.stAt hn
    dsimp only at k1
    rw [g1] at k1
    cases o with
    | lst ys =>
      dsimp only at k1
      obtain ⟨vs, h1, h2⟩ := g2
      refine ⟨a, vs, rfl, .of h1, fun i k σ H => k = ys.length - i ∧ i ≤ ys.length ∧ ∃ m2 μ2 env2 st2, Up μ1 μ2 m1 m2 ∧ Rel X.K B m2 μ2 env2 st2 σ H ∧ SPost X.K B W m2 μ2 D (forE n t b (ys.drop i) i env2 st2),
        ⟨ys.length, rfl, Nat.zero_le _, m1, μ1, env, st1, Up.refl, R1, by rw [List.drop_zero]; exact k1⟩, ?_⟩
      rintro i k σ2 H2 ⟨rfl, hi, m2, μ2, env2, st2, u2, R2, k2⟩
      have hn2 := u2.st _ _ hn
      obtain ⟨o2, q1, q2⟩ := R2.stAt hn2
      by_cases hlt : i < ys.length
      · rw [List.drop_eq_getElem_cons hlt] at k2
        unfold forE at k2
        rw [q1] at k2
        cases o2 with
        | lst zs =>
          dsimp only at k2
          obtain ⟨ws, q3, q4⟩ := q2
          cases q5 : zs[i]? with
          | none => rw [q5] at k2; exact k2.elim
          | some d0 =>
            rw [q5] at k2
            obtain ⟨w0, q6, q7⟩ := q4.get q5
            dsimp only at k2
            refine .inr ⟨⟨ws, w0, .of q3, q6⟩, fun σ3 H3 => ∃ m3 μ3 env3 st3, Up μ1 μ3 m1 m3 ∧ Rel X.K B m3 μ3 env3 st3 σ3 H3 ∧ SPost X.K B W m3 μ3 D (forE n t b (ys.drop (i + 1)) (i + 1) env3 st3), fun σ3 H3 ⟨m3, μ3, env3, st3, u3, R3, k3⟩ => ⟨ys.length - (i + 1), by omega, rfl, hlt, m3, μ3, env3, st3, u3, R3, k3⟩, fun x H3 ⟨T, y, e1, e2, e3, k0⟩ => ?_⟩
            subst e1; subst e3
            have := k0 ws (.of q3)
            rw [q6] at this; cases this
            obtain ⟨m3, u3, R3, r3, _, _⟩ := rep_pair R2 e2 (x := .int (i : Nat)) rfl q7
            cases q : t (.tup [.int (i : Nat), d0]) env2 with
            | none => rw [q] at k2; exact k2.elim
            | some env3 =>
              rw [q] at k2
              refine ⟨B, m3, μ2, env2, st2, _, env3, R3, r3, q, fun σ4 R4 _ => ⟨B, m3, μ2, env3, st2, R4, ?_⟩⟩
              exact (SPost.later u3 k2).fl fun env5 st5 σ5 m5 μ5 H5 u5 R5 k5 => ⟨m5, μ5, env5, st5, u2.trans (u3.trans u5), R5, k5⟩
        | dic => exact k2.elim
        | ins => exact k2.elim
      · have e : i = ys.length := by omega
        subst e
        rw [List.drop_length] at k2
        unfold forE at k2
        rw [q1] at k2
        cases o2 with
        | lst zs =>
          obtain ⟨ws, q3, q4⟩ := q2
          dsimp only at k2
          split at k2
          · rename_i hz
            exact .inl ⟨⟨ws, .of q3, by rw [← q4.length]; exact hz⟩, k2.now R2⟩
          · exact k2.elim
        | dic => exact k2.elim
        | ins => exact k2.elim
    | dic => exact k1.elim
    | ins => exact k1.elim
  | _ => exact k1.elim
end SK
end
section
set_option Elab.async false
set_option linter.all false
set_option autoImplicit false
set_option maxRecDepth 100000
set_option maxHeartbeats 1000000
namespace SK
open PySem PySem.Spec PyProof.Rows L2

/-! ### names of the module, constants of classes -/
section
variable {X : Cx} {W : WX} {a b c e e2 : Expr} {es : List Expr} {f g f' f3 : M D} {fr gr : M Rs} {fs gs : M (List D)} {q : M Bool} {pos p : Pos} {x : Str}
theorem ie_glob {v : V} {u : Value} {d : D} (hm : X.mg x = some u) (hg : Gl X x) (r : RelV v u) (rd : ∀ μ m, Rep X.K μ m d v) (hd : (x == ("__debug__" : Str)) = false := by decide) : IE X W (.Name x pos) (eC d) := ie_c (pe_glob hg hm r hd) rd
theorem ie_bltn {v : V} {u : Value} {d : D} (hm : X.mg x = none) (hg : Gl X x) (hv : bootBuiltins x = some u) (r : RelV v u) (rd : ∀ μ m, Rep X.K μ m d v) (hn : x ≠ "__name__" := by decide) (hd : (x == ("__debug__" : Str)) = false := by decide) : IE X W (.Name x pos) (eC d) := ie_c (pe_bltn hg hm hv r hn hd) rd
/-- a tuple of the module -/
theorem rep_ktup {K : Fg} {t : Addr} {ds : List D} {vs : List V} (h : SqT K (fun _ => none) t vs) (r : ∀ μ m, Reps K μ m ds vs) (μ : List Addr) (m : Hp) : Rep K μ m (.tup ds) (.ref t) :=
  ⟨t, vs, rfl, sqT_up (fun _ _ z => by cases z) h, r μ m⟩
/-- C.f -/
def gCVal (C : Addr) (z : D) : D → Option D
  | .adr a => if a = C then some z else none
  | _ => none
theorem ie_cval {C : Addr} {mc : Value} {v : V} {u : Value} {z : D} {n : Str} (he : IE X W e f) (rd : ClX.CRead X.K C mc) (k : ClX.CVal X.K C mc n v u) (rz : ∀ μ m, Rep X.K μ m z v) (hb : attributeBase e n X.env (eval e X.env) = eval e X.env := by rfl) : IE X W (.Attribute e n pos) (e1 f (gCVal C z)) :=
  pe_imp (ClX.pe_cval he hb) fun σ H Q ⟨B, m, μ, env, st, R, k'⟩ => ⟨B, m, μ, env, st, R, k'.split fun d st1 vv m1 μ1 H1 u1 R1 r1 k1 => by
    obtain ⟨z', e1, k2⟩ := k1.of_eq
    cases d with
    | adr a =>
      simp only [gCVal] at e1
      split at e1
      · rename_i hz
        subst hz
        cases e1; cases r1
        exact ⟨_, mc, v, u, rfl, rd, k, k2 v m1 μ1 H1 Up.refl R1 (rz _ _)⟩
      · cases e1
    | _ => cases e1⟩
/-! ### e if c else e', of results that may be new objects -/
def rIf (c : M Bool) (f g : M Rs) : M Rs := fun env st => (c env st).bind fun b st => if b then f env st else g env st
theorem ir_if (hc : IT X W c q) (ha : IR X W a fr) (hb : IR X W b gr) : IR X W (.IfExp c a b pos) (rIf q fr gr) := pe_imp (pe_ifExp hc ha hb) fun σ H Q ⟨B, m, μ, env, st, R, k⟩ =>
  ⟨B, m, μ, env, st, R, k.split fun d st1 v m1 μ1 H1 u R1 r k1 => by
    cases r
    cases d with
    | true => exact ⟨B, m1, μ1, env, st1, R1, k1⟩
    | false => exact ⟨B, m1, μ1, env, st1, R1, k1⟩⟩
/-! ### *xs in a display -/
def aStar (f : M D) (g : M (List D)) : M (List D) := fun env st => (f env st).bind fun d st => match d with
  | .lst xs => (g env st).bind fun ds st => .ok (xs ++ ds) st
  | .tup xs => (g env st).bind fun ds st => .ok (xs ++ ds) st
  | _ => .bad
theorem ia_star (he : IE X W e f) (hr : IA X W es gs) (hs : starEach (.Starred e p :: es) X.env = (true, eval e X.env) :: starEach es X.env := by rfl) : IA X W (.Starred e p :: es) (aStar f gs) :=
  pa_imp (StX.pa_star he hr hs) fun σ H Q ⟨B, m, μ, env, st, R, k⟩ => by
    refine ⟨B, m, μ, env, st, R, k.split fun d st1 v m1 μ1 H1 u R1 r k1 => ?_⟩
    cases d with
    | lst xs =>
      obtain ⟨a, vs, rfl, ha, ra⟩ := r
      exact ⟨a, vs, rfl, .inr (.of (sub_lst R1.sub ha)), B, m1, μ1, env, st1, R1, k1.split fun ds st2 ws m2 μ2 H2 u2 R2 r2 k2 => k2.now R2 ((Reps.up u2 _ ra).append r2)⟩
    | tup xs =>
      obtain ⟨a, vs, rfl, ha, ra⟩ := r
      exact ⟨a, vs, rfl, .inl (R1.sub.sqT ha), B, m1, μ1, env, st1, R1, k1.split fun ds st2 ws m2 μ2 H2 u2 R2 r2 k2 => k2.now R2 ((Reps.up u2 _ ra).append r2)⟩
    | _ => exact k1.elim
end

/-! ### repr of data, where no repr is under way -/
section
variable {X : Cx} {W : WX} {e : Expr} {f : M D} {pos p : Pos}
theorem call_reprG (hg : X.A.guards = some []) (hu : X.A.units + 66 < cLine) : CallR X (.builtin "repr") (rReprG X.K) := by
  intro pins s σ H xs us Q I r h
  obtain ⟨a, d, rfl, hd, sd, sh, sz, q⟩ := h
  obtain ⟨u, rfl, rx⟩ := vals1 r
  obtain rfl : u = Value.ref a := rx
  obtain ⟨as, rd⟩ := Dp.reads I d (.ref a) (.ref a) hd rfl
  have dep := SeqAt.depth_of_shaped sd
  refine repr_of_reads' rd sh (fun hz => by rw [PyData.hasDict_of_canLay d (SeqAt.canLay_of_shaped sd)] at hz; cases hz) hg (by omega) (fun _ _ z => z) (fun h' u tk hk => ?_) sz
  exact ⟨.str d.shown, H, I.kept (t' := tk) hk, ⟨u, rfl⟩, q⟩
/-- data read, the store's lists too -/
def vpy (st : List MO) (d : D) : Option PyData := match vw st d with
  | some w => w.py
  | none => none
def gRepr (st : List MO) (d : D) : Option D := match d with
  | .int i => if i.natAbs.log2 < 1920 then some (.str (toString i)) else none
  | _ => (match vpy st d with
    | some (.list xs) => if SeqAt.shaped (.list xs) && (PyData.showable (.list xs) && decide ((PyData.shown (.list xs)).length ≤ sizeLine)) then some (.str (PyData.shown (.list xs))) else none
    | _ => none)
theorem vpy_lst {K : Fg} {B : Bs} {m : Hp} {μ : List Addr} {env : En} {st : List MO} {σ : L2.St} {H : Hp} {d : D} {v : V} {ps : List PyData} (R : Rel K B m μ env st σ H) (r : Rep K μ m d v) (h : vpy st d = some (.list ps)) : ∃ a, v = .ref a ∧ Dp K H (.ref a) (.list ps) := by
  unfold vpy at h
  cases q : vw st d with
  | none => rw [q] at h; cases h
  | some w =>
    rw [q] at h
    cases w with
    | lst xs =>
      obtain ⟨a, vs, rfl, h1, h2⟩ := rd_lst R r q
      refine ⟨a, rfl, ?_⟩
      dsimp only at h
      unfold D.py at h
      cases q2 : D.pys xs with
      | none => rw [q2] at h; cases h
      | some ps' => rw [q2] at h; cases h; exact .lst (.of h1) (Reps.dp R.sub xs h2 q2)
    | tup xs =>
      dsimp only at h
      unfold D.py at h
      cases q2 : D.pys xs with
      | none => rw [q2] at h; cases h
      | some ps' => rw [q2] at h; cases h
    | non => cases h
    | bl => cases h
    | int => cases h
    | str => cases h
    | dic => cases h
    | ins => cases h
    | ref => cases h
    | adr => cases h
    | ty => cases h
    | scr => cases h
theorem ie_repr (hgd : X.A.guards = some []) (hu : X.A.units + 66 < cLine) (hm : X.mg "repr" = none) (hg : Gl X "repr") (he : IE X W e f) (hs : starEach [e] X.env = (false, eval e X.env) :: starEach [] X.env := by rfl) (hpl : (backTo pos (starEach [] X.env)).any (·.1) = false := by rfl) :
    IE X W (.Call (.Name "repr" p) [e] [] pos) (e1s f gRepr) :=
  pe_imp (pe_callB (RC.or SkE.call_repr_int (call_reprG hgd hu)) hg hm (by decide +kernel) (pa_cons he pa_nil hs) (by decide) (by decide) hs hpl) fun σ H Q ⟨B, m, μ, env, st, R, k⟩ => by
    refine ⟨B, m, μ, env, st, R, k.split fun d st1 v m1 μ1 H1 u R1 r k1 => ?_⟩
    obtain ⟨z, e, k2⟩ := k1.of_eq
    unfold gRepr at e
    split at e
    · rename_i i
      split at e
      · rename_i hz
        cases e; cases r
        exact .inl ⟨i, rfl, hz, k2 _ m1 μ1 H1 Up.refl R1 rfl⟩
      · cases e
    · split at e
      · rename_i xs q
        split at e
        · rename_i hz
          cases e
          obtain ⟨h1, h2⟩ := Bool.and_eq_true_iff.mp hz
          obtain ⟨h3, h4⟩ := Bool.and_eq_true_iff.mp h2
          obtain ⟨a, rfl, hd⟩ := vpy_lst R1 r q
          exact .inr ⟨a, _, rfl, hd, h1, h3, of_decide_eq_true h4, k2 _ m1 μ1 H1 Up.refl R1 rfl⟩
        · cases e
      · cases e
/-! ### list(a text) -/
theorem call_listS (hc : X.calm = true) : CallR X (.type "list") (fun xs H Q => ∃ z : Str, xs = [.str z] ∧ z.length ≤ 100000 ∧ ∀ l, H l = none → Q (.ref l) (upd H l (.lst (z.cps.toList.map fun c => V.str ⟨#[c]⟩)))) := by
  intro pins s σ H xs us Q I r h
  obtain ⟨z, rfl, hz, q⟩ := h
  obtain ⟨u, rfl, t, rfl⟩ := vals1 r
  have hz' : z.cps.size ≤ 100000 := hz
  refine call_list_str (I.ok.hd hc) z t (fun h' tk acc c' hk hS hi => ?_) (by rw [sizeLine_eq]; omega)
  have hl : (z.cps.toList.map fun c => V.str ⟨#[c]⟩).length = z.cps.size := by rw [List.length_map, Array.length_toList]
  refine ⟨.ref s.heap.objs.size, upd H s.heap.objs.size (.lst (z.cps.toList.map fun c => V.str ⟨#[c]⟩)), I.laid (t' := tk) hk (Nat.le_refl _) ⟨by rw [hl, sizeLine_eq]; omega, acc.toList, c', vals_of_at (by rw [hl, Array.length_toList, hi.1]) fun j x w h1 h2 => ?_, by rw [Array.toArray_toList]; exact hS⟩, rfl, q _ (I.hok.fresh (Nat.le_refl _))⟩
  rw [Array.getElem?_toList] at h2
  obtain ⟨c, tk2, h3, h4⟩ := hi.2 j w h2
  rw [List.getElem?_map, Array.getElem?_toList, h3] at h1
  cases h1
  exact ⟨_, h4⟩
/-- list(x), x a text too -/
def eListA (f : M D) : M Rs := fun env st => (f env st).bind fun d st => match d with
  | .str z => if z.length ≤ 100000 then .ok (.o (.lst (z.cps.toList.map fun c => D.str ⟨#[c]⟩))) st else .bad
  | _ => (match vw st d with
    | some (.lst xs) => .ok (.o (.lst xs)) st
    | some (.tup xs) => .ok (.o (.lst xs)) st
    | _ => .bad)
theorem reps_signs {K : Fg} {μ : List Addr} {m : Hp} : ∀ (l : List Nat), Reps K μ m (l.map fun c => D.str ⟨#[c]⟩) (l.map fun c => V.str ⟨#[c]⟩)
  | [] => rfl
  | x :: xs => ⟨_, _, rfl, rfl, reps_signs xs⟩
theorem ir_listA (hc : X.calm = true) (hm : X.mg "list" = none) (hg : Gl X "list") (he : IE X W e f) (hs : starEach [e] X.env = (false, eval e X.env) :: starEach [] X.env := by rfl) (hpl : (backTo pos (starEach [] X.env)).any (·.1) = false := by rfl) :
    IR X W (.Call (.Name "list" p) [e] [] pos) (eListA f) :=
  pe_imp (pe_callTy (RC.or call_list_of (call_listS hc)) hg hm (by decide +kernel) (pa_cons he pa_nil hs) (by decide) (by decide) hs hpl) fun σ H Q ⟨B, m, μ, env, st, R, k⟩ => by
    refine ⟨B, m, μ, env, st, R, k.split fun d st1 v m1 μ1 H1 u R1 r k1 => ?_⟩
    have lay : ∀ (xs : List D) (vs : List V) l, H1 l = none → Reps X.K μ1 m1 xs vs → Post X.K B W σ env m1 μ1 (pR X.K B env σ) Q (.ok (.o (.lst xs)) st1) → Q (.ref l) (upd H1 l (.lst vs)) := fun xs vs l hl h2 kk => by
      obtain ⟨g1, g2, g3, g4⟩ := R1.fresh hl
      exact kk _ _ _ _ Up.refl (R1.alloc hl) ⟨l, rfl, ⟨vs, upd_same, h2⟩, g1, g2, g4, g3⟩
    split at k1
    · rename_i z
      cases r
      split at k1
      · rename_i hz
        exact .inr ⟨z, rfl, hz, fun l hl => lay _ _ l hl (reps_signs _) k1⟩
      · exact k1.elim
    · split at k1
      · rename_i xs q
        obtain ⟨a, vs, rfl, h1, h2⟩ := rd_lst R1 r q
        exact .inl ⟨a, vs, rfl, .inl (.of h1), fun l hl => lay _ _ l hl h2 k1⟩
      · rename_i xs q
        cases d with
        | tup ys =>
          cases q
          obtain ⟨a, vs, rfl, h1, h2⟩ := r
          exact .inl ⟨a, vs, rfl, .inr (R1.sub.sqT h1), fun l hl => lay _ _ l hl h2 k1⟩
        | ref n =>
          exfalso
          simp only [vw] at q
          cases g : st1[n]? with
          | none => rw [g] at q; cases q
          | some o => rw [g] at q; cases o <;> cases q
        | _ => cases q
      · exact k1.elim
end
end SK
end
section
set_option Elab.async false
set_option linter.all false
set_option autoImplicit false
set_option maxRecDepth 100000
set_option maxHeartbeats 1000000
namespace SK
open PySem PySem.Spec PyProof.Rows L2

/-! ### isinstance(x, T), T built-in -/
def D.tyN (st : List MO) : D → Option String
  | .non => some "NoneType"
  | .bl _ => some "bool"
  | .int _ => some "int"
  | .str _ => some "str"
  | .tup _ => some "tuple"
  | .lst _ => some "list"
  | .scr _ => some "list"
  | .dic _ => some "dict"
  | .ref n => (match st[n]? with
    | some (.lst _) => some "list"
    | some (.dic _) => some "dict"
    | _ => none)
  | _ => none
theorem tyx_T {K : Fg} {H : Hp} {a : Addr} {vs : List V} (h : SqT K H a vs) : TyX K H (.ref a) (.type "tuple") := by
  rcases h with (h | ⟨o, h⟩) | ⟨o, its, n, h1, h2, _⟩
  · exact .base (.tup h)
  · exact .fTuple h
  · exact .kTuple h1 h2
theorem tyx_L {K : Fg} {H : Hp} {a : Addr} {vs : List V} (h : SqL K H a vs) : TyX K H (.ref a) (.type "list") := by
  rcases h with (h | ⟨o, h⟩) | ⟨o, its, n, h1, h2, _⟩
  · exact .base (.lst h)
  · exact .base (.frz h)
  · exact .kList h1 h2
theorem tyN_ok {K : Fg} {B : Bs} {m : Hp} {μ : List Addr} {env : En} {st : List MO} {σ : L2.St} {H : Hp} {d : D} {v : V} {s : String} (R : Rel K B m μ env st σ H) (r : Rep K μ m d v) (h : d.tyN st = some s) : TyX K H v (.type s) := by
  cases d with
  | non => cases h; cases r; exact .base .non
  | bl b => cases h; cases r; exact .base (.bl b)
  | int b => cases h; cases r; exact .base (.int b)
  | str b => cases h; cases r; exact .base (.str b)
  | tup xs => cases h; obtain ⟨a, vs, rfl, h1, _⟩ := r; exact tyx_T (R.sub.sqT h1)
  | lst xs => cases h; obtain ⟨a, vs, rfl, h1, _⟩ := r; exact .base (.lst (R.sub _ _ h1))
  | scr xs => cases h; obtain ⟨a, vs, rfl, h1, _⟩ := r; exact tyx_L (R.sub.sqL h1)
  | dic xs => cases h; obtain ⟨a, vs, rfl, h1, _⟩ := r; exact .base (.dK (R.sub _ _ h1))
  | ref n =>
    obtain ⟨a, rfl, hn⟩ := r
    obtain ⟨o, g1, g2⟩ := R.stAt hn
    simp only [D.tyN, g1] at h
    cases o with
    | lst xs => cases h; obtain ⟨vs, q, _⟩ := g2; exact .base (.lst q)
    | dic xs => cases h; obtain ⟨vs, q, _⟩ := g2; exact .base (.dK q)
    | ins => cases h
  | adr => cases h
  | ty => cases h
  | ins => cases h
/-- the table of T: which types are below it -/
def gIsi (tbl : String → Option Bool) (st : List MO) (d : D) : Option D := match d.tyN st with
  | some s => (tbl s).map .bl
  | none => none
section
variable {X : Cx} {W : WX} {a b c e e2 : Expr} {es : List Expr} {f g f' f3 : M D} {fr gr : M Rs} {fs gs : M (List D)} {q : M Bool} {pos p p2 : Pos} {x : Str}
theorem ie_isi {T : Str} {n : String} {tbl : String → Option Bool} (ht : ∀ s b, tbl s = some b → kitB s n = some b) (hm : X.mg "isinstance" = none) (hg : Gl X "isinstance") (hT : X.mg T = none) (hgT : Gl X T) (hv : bootBuiltins T = some (.type n)) (he : IE X W e f)
    (hs : starEach [e, .Name T p2] X.env = (false, eval e X.env) :: starEach [.Name T p2] X.env := by rfl) (hs2 : starEach [.Name T p2] X.env = (false, eval (.Name T p2) X.env) :: starEach [] X.env := by rfl) (hpl : (backTo pos (starEach [.Name T p2] X.env)).any (·.1) = false := by rfl)
    (hn : T ≠ "__name__" := by decide) (hd : (T == ("__debug__" : Str)) = false := by decide) : IE X W (.Call (.Name "isinstance" p) [e, .Name T p2] [] pos) (e1s f (gIsi tbl)) :=
  pe_imp (pe_callB call_isi hg hm (by decide +kernel) (pa_cons he (pa_cons (pe_bltn (v := .ty n) hgT hT hv rfl hn hd) pa_nil hs2) hs) (by decide) (by decide) hs hpl) fun σ H Q ⟨B, m, μ, env, st, R, k⟩ => by
    refine ⟨B, m, μ, env, st, R, k.split fun d st1 v m1 μ1 H1 u R1 r k1 => ?_⟩
    obtain ⟨z, e1, k2⟩ := k1.of_eq
    unfold gIsi at e1
    cases q1 : d.tyN st1 with
    | none => rw [q1] at e1; cases e1
    | some s =>
      rw [q1] at e1
      cases q2 : tbl s with
      | none => simp only [q2] at e1; cases e1
      | some b =>
        simp only [q2, Option.map_some, Option.some.injEq] at e1
        subst e1
        exact ⟨v, .ty n, .type s, .type n, b, rfl, .ty n, tyN_ok R1 r q1, kit_ty (ht _ _ q2), k2 _ m1 μ1 H1 Up.refl R1 rfl⟩

/-! ### x = [.. for ..] on one line -/
theorem is_setLc {i : Nat} {y : Str} {py : Pos} {elt tg iter : Expr} {ifs : List Expr} {scope : Scope} {own : List (Str × Nat)} {spos : Pos} {fl : M (List D)} {t : Tg} {cc : M Bool} {ee : M D} {sl : List Nat} (hc : X.calm = true) (hN : X.N.Nodup) (hy : X.N[i]? = some y) (hyl : X.env.scope.names.lookup y = some .local)
    (hsw : swapsWith (.ListComp elt [⟨tg, iter, ifs, 0⟩] scope pos) (some (.Name y py)) spos.line X.env = pure true) (hi : II X W tg iter fl) (ok : BlkOk X.N X.env.scope scope own)
    (hg : ∀ (s : Shared) (H : Hp) (C : Addr) (cl : List (Str × Addr)) (fp : List Addr), IG (X.blk s H scope (compEnvC scope cl C X.env) fp) tg t sl) (ht : ∀ (s : Shared) (H : Hp) (C : Addr) (cl : List (Str × Addr)) (fp : List Addr), PTs (X.blk s H scope (compEnvC scope cl C X.env) fp) ifs (tIT X.K W0 cc))
    (he : ∀ (s : Shared) (H : Hp) (C : Addr) (cl : List (Str × Addr)) (fp : List Addr), IE (X.blk s H scope (compEnvC scope cl C X.env) fp) W0 elt ee) (hsl : ∀ j ∈ sl, j ∈ own.map (·.2)) (hs : ∀ x, foldedSetIterable iter X.env x = pure x := by intro _; rfl) :
    IS X W (.Assign [.Name y py] (.ListComp elt [⟨tg, iter, ifs, 0⟩] scope pos) spos) (sSetO i (eLcO fl (own.map (·.2)) t cc ee)) :=
  ps_imp (ps_setLc hc hN hy hyl hsw hi ok hg ht he hs) fun D σ H ⟨B, m, μ, env, st, R, k⟩ => tlc_of hsl ⟨B, m, μ, env, st, R, k.split fun r st1 v m1 μ1 H1 u R1 p k1 => by
    cases r with
    | v d => exact k1.now (R1.setVal p)
    | o q =>
      obtain ⟨a, rfl, q1, q2, q3, q4, q5⟩ := p
      exact k1.now (R1.setOwn q1 q2 q3 q4 fun j _ => q5 j)⟩
/-- .. frozen at once | kept in the store -/
def oneO (f : M D) : M Rs := fun env st => (f env st).bind fun d st => .ok (.v d) st
theorem is_setLcF {i : Nat} {y : Str} {py : Pos} {elt tg iter : Expr} {ifs : List Expr} {scope : Scope} {own : List (Str × Nat)} {spos : Pos} {fl : M (List D)} {t : Tg} {cc : M Bool} {ee : M D} {sl : List Nat} (hc : X.calm = true) (hN : X.N.Nodup) (hy : X.N[i]? = some y) (hyl : X.env.scope.names.lookup y = some .local)
    (hsw : swapsWith (.ListComp elt [⟨tg, iter, ifs, 0⟩] scope pos) (some (.Name y py)) spos.line X.env = pure true) (hi : II X W tg iter fl) (ok : BlkOk X.N X.env.scope scope own)
    (hg : ∀ (s : Shared) (H : Hp) (C : Addr) (cl : List (Str × Addr)) (fp : List Addr), IG (X.blk s H scope (compEnvC scope cl C X.env) fp) tg t sl) (ht : ∀ (s : Shared) (H : Hp) (C : Addr) (cl : List (Str × Addr)) (fp : List Addr), PTs (X.blk s H scope (compEnvC scope cl C X.env) fp) ifs (tIT X.K W0 cc))
    (he : ∀ (s : Shared) (H : Hp) (C : Addr) (cl : List (Str × Addr)) (fp : List Addr), IE (X.blk s H scope (compEnvC scope cl C X.env) fp) W0 elt ee) (hsl : ∀ j ∈ sl, j ∈ own.map (·.2)) (hs : ∀ x, foldedSetIterable iter X.env x = pure x := by intro _; rfl) :
    IS X W (.Assign [.Name y py] (.ListComp elt [⟨tg, iter, ifs, 0⟩] scope pos) spos) (sSet i (eFrz (eLcO fl (own.map (·.2)) t cc ee))) :=
  ps_imp (ps_setLc hc hN hy hyl hsw hi ok hg ht he hs) fun D σ H ⟨B, m, μ, env, st, R, k⟩ => by
    refine tlc_of (t := t) (e := ee) (c := cc) (W := W) hsl ⟨B, m, μ, env, st, R, ?_⟩
    unfold sSet eFrz at k
    cases qq : eLcO fl (own.map (·.2)) t cc ee env st with
    | bad => rw [qq] at k; exact k.elim
    | exc c fs st1 => rw [qq] at k; exact fun dx m1 μ1 H1 u R1 p => k dx σ m1 μ1 H1 u R1 p
    | ok r st1 =>
      rw [qq] at k
      intro v m1 μ1 H1 u R1 p
      have k1 : SPost X.K B W m1 μ1 D (.nx (env.set i (.val r.d)) st1) := SPost.later u k
      cases r with
      | v d => exact k1.now (R1.setVal p)
      | o q =>
        obtain ⟨a, rfl, q1, q2, q3, q4, q5⟩ := p
        have R2 := R1.setOwn (i := i) q1 q2 q3 q4 fun j _ => q5 j
        obtain ⟨m', u', R3⟩ := R2.frz i
        unfold frzE at R3
        by_cases hil : i < env.length
        · rw [List.getElem?_set_self hil] at R3
          have R3 : Rel X.K B m' μ1 ((env.set i (.own q)).set i (.val q.d)) st1 _ H1 := R3
          rw [List.set_set] at R3
          exact SPost.now (SPost.later u' k1) R3
        · rw [List.set_eq_of_length_le (by omega)] at R3 k1
          rw [List.getElem?_eq_none (by omega)] at R3
          exact SPost.now (SPost.later u' k1) R3

/-! ### a call with keywords, nothing raised -/
structure PKI (X : Cx) (kws : List Keyword) (W : WX) (fs : M (List D)) : Prop where
  k : PK X kws (tIA X.K W fs)
theorem pk_imp {kws : List Keyword} {t t' : TA} (h : PK X kws t) (k : ∀ σ H Q, t' σ H Q → t σ H Q) : PK X kws t' := ⟨fun pos pins s σ H Q I q => h.run pos pins s σ H Q I (k σ H Q q)⟩
theorem ik_nil : PKI X [] W aNil := ⟨pk_imp pk_nil fun σ H Q ⟨B, m, μ, env, st, R, k⟩ => k.now R rfl⟩
theorem ik_cons {nm : Option Str} {kp : Pos} {kws : List Keyword} (he : IE X W e f) (hr : PKI X kws W fs) : PKI X (⟨nm, e, kp⟩ :: kws) W (aCons f fs) :=
  ⟨pk_imp (pk_cons he hr.k) fun σ H Q ⟨B, m, μ, env, st, R, k⟩ => by
    refine ⟨B, m, μ, env, st, R, k.split fun d st1 v m1 μ1 H1 u R1 r k1 => ⟨B, m1, μ1, env, st1, R1, k1.split fun ds st2 vs m2 μ2 H2 u2 R2 r2 k2 => ?_⟩⟩
    exact k2.now R2 ⟨v, vs, rfl, Rep.up u2 _ r, r2⟩⟩
def eCallK (fs gs : M (List D)) (F : Fn) : M Rs := fun env st => (fs env st).bind fun ds st => (gs env st).bind fun es st => (F (ds ++ es) st).nox
theorem ir_callK {F : Fn} {k n : Nat} {fa : Addr} {fd : FuncData} {ps ks : List Str} {kws : List Keyword} {gg : List Value → List Value → List Value} (G : FnI X.prog X.w X.K X.mg X.base k fa fd ps F) (hr : Room k X.A) (hg : Gl X x) (hm : X.mg x = some (.ref fa)) (hk : PySem.W.keepIn X.K (.ref fa) = true) (hb : KBn X.K fd ps n ks gg (fun vs zs => vs ++ zs))
    (tk : Takes X W) (ha : IA X W (e :: es) fs) (hkw : PKI X kws W gs) (hl : ALen fs n) (hl2 : ALen gs ks.length) (hn : n + ks.length = ps.length) (hall : (backToKw pos (keywordEach kws X.env)).all (·.1.isSome) = true := by rfl) (hks : (backToKw pos (keywordEach kws X.env)).filterMap (·.1) = ks := by rfl)
    (hdb : (x == ("__debug__" : Str)) = false := by decide) (he : starEach (e :: es) X.env = (false, eval e X.env) :: starEach es X.env := by rfl)
    (hpl : ((backTo pos (starEach (e :: es) X.env)).any (·.1) || (backToKw pos (keywordEach kws X.env)).any (·.1.isNone)) = false := by rfl) :
    IR X W (.Call (.Name x p) (e :: es) kws pos) (eCallK fs gs F) :=
  pe_imp (pe_callN (E := fun _ _ _ => False) G hr hg hm hk hb (passes_call tk fun _ _ _ _ h => h.elim) ha hkw.k hall hks hdb he hpl) fun σ H Q ⟨B, m, μ, env, st, R, k⟩ => by
    refine ⟨B, m, μ, env, st, R, ?_⟩
    unfold eCallK at k
    cases q1 : fs env st with
    | bad => rw [q1] at k; exact k.elim
    | exc c fs st1 => rw [q1] at k; exact k
    | ok ds st1 =>
      rw [q1] at k
      intro vs m1 μ1 H1 u R1 r
      have k1 := Post.later u k
      refine ⟨B, m1, μ1, env, st1, R1, ?_⟩
      simp only [Out.bind] at k1
      cases q2 : gs env st1 with
      | bad => rw [q2] at k1; exact k1.elim
      | exc c fs st2 => rw [q2] at k1; exact k1
      | ok es2 st2 =>
        rw [q2] at k1
        intro ws m2 μ2 H2 u2 R2 r2
        have k2 := Post.later u2 k1
        simp only [Out.bind] at k2
        have l1 := hl env st ds st1 q1
        have l2 := hl2 env st1 es2 st2 q2
        refine ⟨by rw [← Reps.length r]; exact l1, by rw [← Reps.length r2]; exact l2, ?_⟩
        refine ⟨by rw [List.length_append, ← Reps.length r, ← Reps.length r2, l1, l2]; exact hn, m2, μ2, st2, ds ++ es2, R2.enter, (Reps.up u2 _ r).append r2, ?_⟩
        cases q3 : F (ds ++ es2) st2 with
        | bad => rw [q3] at k2; exact k2.elim
        | exc => rw [q3] at k2; exact k2.elim
        | ok rr st3 => rw [q3] at k2; exact post_call (W := fun _ _ _ _ => False) R2 k2
theorem kbn_all {K : Fg} {qual : Str} {params : Arguments} {body : List Stmt} {scope : Scope} {kws : List (Str × V)} {fa : Addr} {fd : FuncData} {n : Nat} {ps ks : List Str} (F : FunD K x qual params body scope [] kws fa fd)
    (h : ∀ (kV doc pm : Value) (an : Option Addr) (cdv ct : Value) (us ws : List Value), us.length = n → ws.length = ks.length → bindArgs (PySem.W.fnOf x qual params body scope .none kV doc pm an cdv ct) ⟨us, ks.zip ws⟩ = pure (ps.zip (us ++ ws))) :
    KBn K fd ps n ks (fun us ws => us ++ ws) (fun vs zs => vs ++ zs) := by
  obtain ⟨oc, od, dV, kV, doc, pm, an, cdv, ct, osl, rfl, lk, hcd, hD, hK⟩ := F.ex
  rcases hD with ⟨_, rfl⟩ | ⟨e, _⟩
  · exact ⟨fun s us ws X l1 l2 => .of_eq (h kV doc pm an cdv ct us ws l1 l2), fun r1 r2 => r1.append r2⟩
  · exact absurd rfl e
end
end SK
end
section
set_option Elab.async false
set_option linter.all false
set_option autoImplicit false
set_option maxRecDepth 100000
set_option maxHeartbeats 1000000
namespace SK
open PySem PySem.Spec PyProof.Rows L2

/-! ### dicts: a display of constants, x in d, d[x] -/
def D.key : D → Option Key
  | .int i => some (.inl i)
  | .str x => some (.inr x)
  | _ => none
theorem rep_key {K : Fg} {μ : List Addr} {m : Hp} {d : D} {v : V} {k : Key} (r : Rep K μ m d v) (h : d.key = some k) : v = kV k := by
  cases d with
  | int i => cases h; exact r
  | str i => cases h; exact r
  | _ => cases h
def lookD (ks : List (Key × D)) (k : Key) : Option D := (ks.find? fun kv => decide (kv.1 = k)).map (·.2)
theorem repK_look {K : Fg} {μ : List Addr} {m : Hp} {k : Key} : ∀ {ds : List (Key × D)} {vs : List (Key × V)}, RepK K μ m ds vs → (lookD ds k = none ∧ valV vs k = none) ∨ ∃ d v, lookD ds k = some d ∧ valV vs k = some v ∧ Rep K μ m d v
  | [], vs, h => by rw [show vs = [] from h]; exact .inl ⟨rfl, rfl⟩
  | (k', x) :: ds, _, ⟨v, ws, rfl, h, r⟩ => by
    by_cases hk : k' = k
    · subst hk
      exact .inr ⟨x, v, by simp [lookD], by simp [valV], h⟩
    · have := repK_look (k := k) r
      have e1 : lookD ((k', x) :: ds) k = lookD ds k := by simp [lookD, hk]
      have e2 : valV ((k', v) :: ws) k = valV ws k := by simp [valV, hk]
      rw [e1, e2]; exact this
/-- the dict as it may be read -/
theorem rd_dic {K : Fg} {B : Bs} {m : Hp} {μ : List Addr} {env : En} {st : List MO} {σ : L2.St} {H : Hp} {d : D} {v : V} {ks : List (Key × D)} (R : Rel K B m μ env st σ H) (r : Rep K μ m d v) (h : vw st d = some (.dic ks)) : ∃ a vs, v = .ref a ∧ H a = some (.dK vs) ∧ RepK K μ m ks vs := by
  cases d with
  | ref n =>
    obtain ⟨a, e, hn⟩ := r
    obtain ⟨o, h1, h2⟩ := R.stAt hn
    simp only [vw, h1, Option.map_some, Option.some.injEq] at h
    cases o with
    | dic ys => cases h; obtain ⟨vs, q1, q2⟩ := h2; exact ⟨a, vs, e, q1, q2⟩
    | lst => cases h
    | ins => cases h
  | dic ys =>
    cases h
    obtain ⟨a, vs, e, h1, h2⟩ := r
    exact ⟨a, vs, e, R.sub _ _ h1, h2⟩
  | _ => cases h
def gInD (n : Bool) (st : List MO) (d d' : D) : Option D := match d.key, vw st d' with
  | some k, some (.dic ks) => some (.bl (n ^^ (lookD ks k).isSome))
  | _, _ => none
def gIxD (st : List MO) (d d' : D) : Option D := match vw st d, d'.key with
  | some (.dic ks), some k => lookD ks k
  | _, _ => none
section
variable {X : Cx} {W : WX} {a b c e e2 : Expr} {es : List Expr} {f g f' f3 : M D} {fr gr : M Rs} {fs gs : M (List D)} {q : M Bool} {pos p p2 : Pos} {x y z : Str} {i j l : Nat}
theorem inD_ok {n : Bool} {d d' : D} {st : List MO} {B : Bs} {m : Hp} {μ : List Addr} {env : En} {σ : L2.St} {H : Hp} {v v' : V} {r : D} (R : Rel X.K B m μ env st σ H) (r1 : Rep X.K μ m d v) (r2 : Rep X.K μ m d' v') (h : gInD n st d d' = some r) : ∃ a o, v' = .ref a ∧ DGet H a v o ∧ r = .bl (n ^^ o.isSome) := by
  unfold gInD at h
  cases q1 : d.key with
  | none => rw [q1] at h; cases h
  | some k =>
    cases q2 : vw st d' with
    | none => rw [q1, q2] at h; cases h
    | some w =>
      rw [q1, q2] at h
      cases w with
      | dic ks =>
        cases h
        obtain ⟨a, vs, rfl, h1, h2⟩ := rd_dic R r2 q2
        rw [rep_key r1 q1]
        refine ⟨a, _, rfl, DGet.k h1, ?_⟩
        rcases repK_look (k := k) h2 with ⟨g1, g2⟩ | ⟨d0, v0, g1, g2, _⟩
        · rw [g1, g2]; rfl
        · rw [g1, g2]; rfl
      | _ => cases h
theorem pe_pc_in {n : Bool} {op : CmpOp} {te te' : TE} (hop : (op = .In ∧ n = false) ∨ (op = .NotIn ∧ n = true)) (hu : X.A.units + 1 < cLine) (ha : IE X W a f) (hb : IE X W b f') : ∃ t, PC X op a b t ∧ ∀ σ H Q, tI X.K W (e2s f f' (gInD n)) σ H Q → t σ H Q := by
  have key : ∀ σ H Q, tI X.K W (e2s f f' (gInD n)) σ H Q → (tI X.K W f) σ H fun y H1 => (tI X.K W f') σ H1 fun x H2 => ∃ a o, x = .ref a ∧ DGet H2 a y o ∧ Q (.bl (n ^^ o.isSome)) H2 := fun σ H Q ⟨B, m, μ, env, st, R, k⟩ => by
    refine ⟨B, m, μ, env, st, R, k.split fun d st1 v m1 μ1 H1 u R1 r k1 => ⟨B, m1, μ1, env, st1, R1, k1.split fun d' st2 v' m2 μ2 H2 u2 R2 r2 k2 => ?_⟩⟩
    obtain ⟨z, e, k3⟩ := k2.of_eq
    obtain ⟨a, o, h1, h2, h3⟩ := inD_ok R2 (Rep.up u2 _ r) r2 e
    subst h3
    exact ⟨a, o, h1, h2, k3 _ m2 μ2 H2 Up.refl R2 rfl⟩
  rcases hop with ⟨rfl, rfl⟩ | ⟨rfl, rfl⟩
  · refine ⟨_, pc_din hu ha hb, fun σ H Q hw => ?_⟩
    have := key σ H Q hw
    simp only [Bool.false_xor] at this
    exact this
  · refine ⟨_, pc_dnotin hu ha hb, fun σ H Q hw => ?_⟩
    have := key σ H Q hw
    simp only [Bool.true_xor] at this
    exact this
theorem ie_inD (hu : X.A.units + 1 < cLine) (ha : IE X W a f) (hb : IE X W b f') (hm : behindInMarks .In b = false) : IE X W (.Compare a [.In] [b] pos) (e2s f f' (gInD false)) := by
  obtain ⟨t, h1, h2⟩ := pe_pc_in (te := fun _ _ _ => False) (te' := fun _ _ _ => False) (.inl ⟨rfl, rfl⟩) hu ha hb
  exact pe_imp (pe_cmp h1 hm) h2
theorem ie_ninD (hu : X.A.units + 1 < cLine) (ha : IE X W a f) (hb : IE X W b f') (hm : behindInMarks .NotIn b = false) : IE X W (.Compare a [.NotIn] [b] pos) (e2s f f' (gInD true)) := by
  obtain ⟨t, h1, h2⟩ := pe_pc_in (te := fun _ _ _ => False) (te' := fun _ _ _ => False) (.inr ⟨rfl, rfl⟩) hu ha hb
  exact pe_imp (pe_cmp h1 hm) h2
theorem ie_ixD (hu : X.A.units + 1 < cLine) (ha : IE X W a f) (hb : IE X W b f') (hs : NoSl b) : IE X W (.Subscript a b pos) (e2s f f' gIxD) := pe_imp (pe_dget hu ha hb hs) fun σ H Q ⟨B, m, μ, env, st, R, k⟩ => by
  refine ⟨B, m, μ, env, st, R, k.split fun d st1 v m1 μ1 H1 u R1 r k1 => ⟨B, m1, μ1, env, st1, R1, k1.split fun d' st2 v' m2 μ2 H2 u2 R2 r2 k2 => ?_⟩⟩
  obtain ⟨z, e, k3⟩ := k2.of_eq
  unfold gIxD at e
  cases q2 : vw st2 d with
  | none => rw [q2] at e; cases e
  | some w =>
    cases q1 : d'.key with
    | none => rw [q1, q2] at e; cases w <;> cases e
    | some kk =>
      rw [q1, q2] at e
      cases w with
      | dic ks =>
        dsimp only at e
        obtain ⟨a, vs, rfl, h1, h2⟩ := rd_dic R2 (Rep.up u2 _ r) q2
        rw [rep_key r2 q1]
        rcases repK_look (k := kk) h2 with ⟨g1, g2⟩ | ⟨d0, v0, g1, g2, g3⟩
        · rw [g1] at e; cases e
        · rw [g1] at e; cases e
          exact ⟨a, v0, rfl, by rw [← g2]; exact DGet.k h1, k3 v0 m2 μ2 H2 Up.refl R2 g3⟩
      | _ => cases e
/-! ### a dict of the module -/
structure KDic (K : Fg) (w : World) (d : Addr) (rows : List (Str × D)) : Prop where
  ex : ∃ es n, KDict K w d es n
  get : ∀ z, ∃ r, PySem.W.nsIn K d z = some r ∧ ((rows.lookup z = none ∧ r = none) ∨ ∃ u v z', rows.lookup z = some z' ∧ r = some u ∧ RelV v u ∧ ∀ μ m, Rep K μ m z' v)
def gInG (n : Bool) (d0 : Addr) (rows : List (Str × D)) : D → D → Option D
  | .str x, .adr a => if a = d0 then some (.bl (n ^^ (rows.lookup x).isSome)) else none
  | _, _ => none
def gIxG (d0 : Addr) (rows : List (Str × D)) : D → D → Option D
  | .adr a, .str x => if a = d0 then rows.lookup x else none
  | _, _ => none
def rInG (K : Fg) (n : Bool) (d0 : Addr) : R2 := fun x y H Q => ∃ (z : Str) (r : Option Value), x = .str z ∧ y = .ref d0 ∧ PySem.W.nsIn K d0 z = some r ∧ Q (.bl (n ^^ r.isSome)) H
theorem op_inG {d0 : Addr} {rows : List (Str × D)} (T : KDic X.K X.w d0 rows) : OpR X (compareOp .In) (rInG X.K false d0) := by
  obtain ⟨es, n, h⟩ := T.ex
  exact fun pins s σ H x y v u Q I rx ry ⟨z, r, e1, e2, e3, q⟩ => op_in_kd h pins s σ H x y v u Q I rx ry ⟨z, r, e1, e2, e3, by rw [Bool.false_xor] at q; exact q⟩
theorem op_ninG {d0 : Addr} {rows : List (Str × D)} (T : KDic X.K X.w d0 rows) : OpR X (compareOp .NotIn) (rInG X.K true d0) := by
  obtain ⟨es, n, h⟩ := T.ex
  exact fun pins s σ H x y v u Q I rx ry ⟨z, r, e1, e2, e3, q⟩ => op_notIn_kd h pins s σ H x y v u Q I rx ry ⟨z, r, e1, e2, e3, by rw [Bool.true_xor] at q; exact q⟩
theorem od_inG {K : Fg} {w : World} {n : Bool} {d0 : Addr} {rows : List (Str × D)} (T : KDic K w d0 rows) : OpD K (rInG K n d0) (gInG n d0 rows) := by
  intro B m μ env st σ H d d' x y z Q R r1 r2 e k
  unfold gInG at e
  split at e
  · rename_i s a
    split at e
    · rename_i ha
      subst ha
      cases e; cases r1; cases r2
      obtain ⟨r, e1, h⟩ := T.get s
      refine ⟨s, r, rfl, rfl, e1, k _ m μ H Up.refl R ?_⟩
      rcases h with ⟨h1, h2⟩ | ⟨u, v, z', h1, h2, _⟩
      · rw [h1, h2]; rfl
      · rw [h1, h2]; rfl
    · cases e
  · cases e
def rIxG (K : Fg) (w : World) (d0 : Addr) : R2 := fun x y H Q => ∃ p z v, x = .ref p ∧ y = .str z ∧ KDct K w p z v ∧ Q v H
theorem ie_ixG {d0 : Addr} {rows : List (Str × D)} (T : KDic X.K X.w d0 rows) (ha : IE X W a f) (hb : IE X W b f') (hs : PlainIx b) : IE X W (.Subscript a b pos) (SK.e2 f f' (gIxG d0 rows)) :=
  pe_imp (pe_ix ix_kdict ha hb hs) fun σ H Q ⟨B, m, μ, env, st, R, k⟩ => by
    refine ⟨B, m, μ, env, st, R, k.split fun d st1 v m1 μ1 H1 u R1 r1 k1 => ⟨B, m1, μ1, env, st1, R1, k1.split fun d' st2 v' m2 μ2 H2 u2 R2 r2 k2 => ?_⟩⟩
    obtain ⟨z, e, k3⟩ := k2.of_eq
    have r1 := Rep.up u2 _ r1
    cases d with
    | adr aa =>
      cases d' with
      | str zz =>
        simp only [gIxG] at e
        split at e
        · rename_i ha
          subst ha
          cases r1; cases r2
          obtain ⟨r, e1, h⟩ := T.get zz
          obtain ⟨es, n, hk⟩ := T.ex
          rcases h with ⟨h1, h2⟩ | ⟨u, v, z', h1, h2, h3, h4⟩
          · rw [h1] at e; cases e
          · rw [h1] at e; cases e
            subst h2
            exact ⟨aa, zz, v, rfl, rfl, ⟨es, n, u, hk.at_, hk.lit, e1, h3⟩, k3 v m2 μ2 H2 Up.refl R2 (h4 _ _)⟩
        · cases e
      | _ => cases e
    | _ => cases e

/-! ### a display of constants -/
theorem ie_disp {keys : List (Option Expr)} {values : List Expr} {kvs : List (Key × V)} {ds : List (Key × D)} (h : PPs X pos keys values (kvs.map fun kv => (tC (kV kv.1), tC kv.2))) (hr : ∀ μ m, RepK X.K μ m ds kvs) (hm : mergeK [] kvs = kvs) (hl : kvs.length ≤ 15)
    (hall : keys.all (·.isSome) = true) (hkl : keys.length = values.length) (h0 : keys ≠ []) (h15 : keys.length ≤ 15) : IE X W (.Dict keys values pos) (eC (.dic ds)) :=
  pe_imp (pe_disp h hall hkl h0 h15) fun σ H Q ⟨B, m, μ, env, st, R, k⟩ => by
    intro p hp
    obtain ⟨R2, u2⟩ := R.newFix (o := .dK kvs) hp
    have key : ∀ (l : List (Key × V)) (Q' : List (V × V) → Hp → Prop), Q' (l.map fun kv => (kV kv.1, kv.2)) (upd H p (.dK [])) → tPairs (l.map fun kv => (tC (kV kv.1), tC kv.2)) σ (upd H p (.dK [])) Q' := by
      intro l
      induction l with
      | nil => intro Q' q; exact q
      | cons kv l ih => intro Q' q; exact ih _ q
    refine key kvs _ ⟨upd_same, kvs, rfl, hl, ?_⟩
    have e : upd (upd H p (.dK [])) p (.dK (mergeK [] kvs)) = upd H p (.dK kvs) := by
      rw [hm]; funext b
      by_cases hb : b = p
      · rw [hb, upd_same, upd_same]
      · rw [upd_ne hb, upd_ne hb, upd_ne hb]
    rw [e]
    exact k _ _ _ _ u2 R2 ⟨p, kvs, rfl, upd_same, hr _ _⟩

/-! ### three names at once; two items exchanged -/
theorem reps3 {K : Fg} {μ : List Addr} {m : Hp} {d d' d'' : D} {xs : List V} (h : Reps K μ m [d, d', d''] xs) : ∃ v w u, xs = [v, w, u] ∧ Rep K μ m d v ∧ Rep K μ m d' w ∧ Rep K μ m d'' u := by
  obtain ⟨v, ws, rfl, h1, h2⟩ := h
  obtain ⟨w, u, rfl, h3, h4⟩ := reps2 h2
  exact ⟨v, w, u, rfl, h1, h3, h4⟩
theorem is_par3 {px py pz pt : Pos} {kt k2 pt2} (hc : X.calm = true) (hN : X.N.Nodup) (hi : X.N[i]? = some x) (hj : X.N[j]? = some y) (hl : X.N[l]? = some z) (hij : i ≠ j) (hil : i ≠ l) (hjl : j ≠ l)
    (hx : X.env.scope.names.lookup x = some .local) (hy : X.env.scope.names.lookup y = some .local) (hz : X.env.scope.names.lookup z = some .local) (ha : IA X W [a, b, c] fs)
    (hw : swappedStores [.Tuple [.Name x px, .Name y py, .Name z pz] kt pt] (.Tuple [a, b, c] k2 pt2) X.env = pure (some [x, y, z]))
    (hs : swapsWithSole [.Tuple [.Name x px, .Name y py, .Name z pz] kt pt] (.Tuple [a, b, c] k2 pt2) pos.line X.env = pure false := by rfl) :
    IS X W (.Assign [.Tuple [.Name x px, .Name y py, .Name z pz] kt pt] (.Tuple [a, b, c] k2 pt2) pos) (sPar3 i j l fs) := ps_imp (ps_par3 hc hN hi hj hl hij hil hjl hx hy hz ha hw hs) fun D σ H ⟨B, m, μ, env, st, R, k⟩ =>
  ⟨B, m, μ, env, st, R, k.split fun ds st1 vs m1 μ1 H1 u R1 r k1 => by
    match ds, k1, r with
    | [d, d', d''], k1, r =>
      obtain ⟨v, w, t, rfl, h1, h2, h3⟩ := reps3 r
      exact ⟨v, w, t, rfl, k1.now (((R1.setVal h1).setVal h2).setVal h3)⟩
    | [], k1, _ => exact k1.elim
    | [_], k1, _ => exact k1.elim
    | [_, _], k1, _ => exact k1.elim
    | _ :: _ :: _ :: _ :: _, k1, _ => exact k1.elim⟩
end
/-- x[j] = v, then x[k] = w; x an object of its own -/
def setO (i : Nat) (fj : M D) (v : D) : S := fun env st => match env[i]? with
  | some (.own (.lst xs)) => (fj env st).bindS env fun j st => (match j with
    | .int k => (match ixN xs.length k with
      | some n => .nx (env.set i (.own (.lst (xs.set n v)))) st
      | none => .bad)
    | _ => .bad)
  | _ => .bad
def sSwp (i : Nat) (f : M D) (fj fk : M D) : S := fun env st => (f env st).bindS env fun d st => match d with
  | .tup [x, y] => (setO i fj x env st).seq (setO i fk y)
  | _ => .bad
section
variable {X : Cx} {W : WX} {a b c e : Expr} {f fj fk : M D} {pos p p2 : Pos} {i : Nat}
theorem gsub_of {B : Bs} {m : Hp} {μ : List Addr} {env : En} {st : List MO} {σ : L2.St} {H : Hp} {v : SK.D} {vv : V} {Dn : Ends} {N : L2.St → Hp → Prop} {g : S} (R : Rel X.K B m μ env st σ H) (rv : Rep X.K μ m v vv)
    (k : SPost X.K B W m μ Dn ((setO i fj v env st).seq g)) (hN : ∀ env1 st1 m1 μ1 H1, Up μ μ1 m m1 → Rel X.K B m1 μ1 env1 st1 σ H1 → SPost X.K B W m1 μ1 Dn (g env1 st1) → N σ H1) :
    L2.gSub (tVar i) (tI X.K W fj) rSetL vv σ H N := by
  unfold setO at k
  split at k
  · rename_i xs q
    obtain ⟨a, e1, _⟩ := R.own i _ q
    refine ⟨_, e1, B, m, μ, env, st, R, ?_⟩
    cases qf : fj env st with
    | bad => rw [qf] at k; exact k.elim
    | exc c fs st1 => rw [qf] at k; exact fun dx m1 μ1 H1 u R1 p => k dx σ m1 μ1 H1 u R1 p
    | ok jd st1 =>
      rw [qf] at k
      intro jv m1 μ1 H1 u R1 r1
      obtain ⟨a', e2, ⟨vs, g1, g2⟩, _⟩ := R1.own i _ q
      rw [e1] at e2; cases e2
      cases jd with
      | int kk =>
        cases r1
        simp only [Out.bindS] at k
        split at k
        · rename_i n hn
          refine ⟨a, vs, kk, n, rfl, rfl, g1, by rw [← g2.length]; exact hn, ?_⟩
          exact hN (env.set i (.own (.lst (xs.set n v)))) st1 m1 μ1 _ u (R1.putOwn q e1 ⟨_, upd_same, g2.set n (Rep.up u _ rv)⟩) (SPost.later u k)
        · exact k.elim
      | _ => exact k.elim
  · exact k.elim
theorem is_swp {j j' : Expr} {tp tp' tt : Pos} {kt : Nat} (hc : X.calm = true) (ho : PE X a (tVar i)) (hj : IE X W j fj) (ho' : PE X b (tVar i)) (hk : IE X W j' fk) (he : IE X W e f)
    (ha : ∀ v, assign (.Subscript a j tp) X.env v = (do
      let ov ← holding [v] (eval a X.env)
      let iv ← holding [v, ov] (eval j X.env)
      standAt tp
      holding [v, ov, iv] (setItem ov iv v)
      release [v, ov, iv] []) := by intro _; rfl)
    (ha' : ∀ v, assign (.Subscript b j' tp') X.env v = (do
      let ov ← holding [v] (eval b X.env)
      let iv ← holding [v, ov] (eval j' X.env)
      standAt tp'
      holding [v, ov, iv] (setItem ov iv v)
      release [v, ov, iv] []) := by intro _; rfl)
    (hn : (assignEach [.Subscript a j tp, .Subscript b j' tp'] X.env).length = 2 := by rfl) (hst : (assignEach [.Subscript a j tp, .Subscript b j' tp'] X.env).findIdx? (·.1) = none := by rfl)
    (hs1 : (assignEach [.Subscript a j tp, .Subscript b j' tp'] X.env).map (·.2) = assign (.Subscript a j tp) X.env :: (assignEach [.Subscript b j' tp'] X.env).map (·.2) := by rfl)
    (hs2 : (assignEach [.Subscript b j' tp'] X.env).map (·.2) = assign (.Subscript b j' tp') X.env :: (assignEach [] X.env).map (·.2) := by rfl)
    (hs : swapsWithSole [.Tuple [.Subscript a j tp, .Subscript b j' tp'] kt tt] e pos.line X.env = pure false := by rfl) (hw : swappedStores [.Tuple [.Subscript a j tp, .Subscript b j' tp'] kt tt] e X.env = pure none := by rfl)
    (h1 : (assignEach [.Tuple [.Subscript a j tp, .Subscript b j' tp'] kt tt] X.env).map (·.2) = [assign (.Tuple [.Subscript a j tp, .Subscript b j' tp'] kt tt) X.env] := by rfl) :
    IS X W (.Assign [.Tuple [.Subscript a j tp, .Subscript b j' tp'] kt tt] e pos) (sSwp i f fj fk) :=
  ps_imp (ps_asg he (pg_tup hc (pgs_cons (pg_sub ho hj set_list ha) (pgs_cons (pg_sub ho' hk set_list ha') pgs_nil hs2) hs1) hn hst) hs hw h1) fun Dn σ H ⟨B, m, μ, env, st, R, k⟩ => by
    refine ⟨B, m, μ, env, st, R, k.split fun d st1 v m1 μ1 H1 u R1 r k1 => ?_⟩
    split at k1
    · rename_i x y
      obtain ⟨t, vs, rfl, ht, rt⟩ := r
      obtain ⟨vx, vy, rfl, rx, ry⟩ := reps2 rt
      refine ⟨t, _, rfl, R1.sub.sqT ht, rfl, vx, [vy], rfl, gsub_of R1 rx k1 fun env1 st2 m2 μ2 H2 u2 R2 k2 => ⟨vy, [], rfl, ?_⟩⟩
      refine gsub_of (g := sNil) R2 (Rep.up u2 _ ry) ?_ fun env3 st3 m3 μ3 H3 u3 R3 k3 => ⟨rfl, k3.now R3⟩
      cases qq : setO i fk y env1 st2 with
      | nx => rw [qq] at k2; exact k2
      | _ => rw [qq] at k2; exact k2
    · exact k1.elim
end
end SK
end
section
set_option Elab.async false
set_option linter.all false
set_option autoImplicit false
set_option maxRecDepth 100000
set_option maxHeartbeats 1000000
namespace SK
open PySem PySem.Spec PyProof.Rows L2
section
variable {X : Cx} {W : WX} {a b c e : Expr} {es : List Expr} {f g f' f3 : M D} {pos p p2 : Pos}
theorem opEq (hu : X.A.units + 66 < cLine) : OpR X (compareOp .Eq) (rEqD X.K) := op_eqD (by omega)
theorem opNe (hu : X.A.units + 66 < cLine) : OpR X (compareOp .NotEq) (rNeD X.K) := op_neD (by omega)
theorem opIn (hu : X.A.units + 66 < cLine) : OpR X (compareOp .In) (rInA X.K) := op_inA (by omega)
theorem it_e2s {gg : List MO → D → D → Option D} {op : CmpOp} {t : TE} (h1 : PC X op a b t) (h2 : ∀ σ H Q, tI X.K W (e2s f f' gg) σ H Q → t σ H Q) (hm : behindInMarks op b = false) : IT X W (.Compare a [op] [b] pos) (eTest (e2s f f' gg)) :=
  pt_imp (pt_cmp h1 hm) fun σ H Q ⟨B, m, μ, env, st, R, k⟩ => by
    refine h2 σ H _ ⟨B, m, μ, env, st, R, ?_⟩
    unfold eTest at k
    refine k.split fun d st1 v m1 μ1 H1 u R1 r k1 => ?_
    cases d with
    | bl t => exact ⟨t, r, k1.now R1 rfl⟩
    | _ => exact k1.elim
theorem it_inD (hu : X.A.units + 66 < cLine) (ha : IE X W a f) (hb : IE X W b f') (hm : behindInMarks .In b = false) : IT X W (.Compare a [.In] [b] pos) (eTest (e2s f f' (gInD false))) := by
  obtain ⟨t, h1, h2⟩ := pe_pc_in (te := fun _ _ _ => False) (te' := fun _ _ _ => False) (.inl ⟨rfl, rfl⟩) (by omega) ha hb
  exact it_e2s h1 h2 hm
theorem it_ninD (hu : X.A.units + 66 < cLine) (ha : IE X W a f) (hb : IE X W b f') (hm : behindInMarks .NotIn b = false) : IT X W (.Compare a [.NotIn] [b] pos) (eTest (e2s f f' (gInD true))) := by
  obtain ⟨t, h1, h2⟩ := pe_pc_in (te := fun _ _ _ => False) (te' := fun _ _ _ => False) (.inr ⟨rfl, rfl⟩) (by omega) ha hb
  exact it_e2s h1 h2 hm
end
/-! ### blocks, by computing -/
def blkB (N : List Str) (sc scope : Scope) (own : List (Str × Nat)) : Bool :=
  (match scope.kind with | .function => true | _ => false) && (scope.names.all (fun y => decide (scope.names.lookup y.1 = some y.2)) && (own.all (fun p => decide (N[p.2]? = some p.1)) &&
    (scope.names.all (fun y => !decide (y.2 = .free) || (decide (sc.names.lookup y.1 = some .cell) || decide (sc.names.lookup y.1 = some .free))) && scope.names.all (fun y => !(decide (y.2 = .local) || decide (y.2 = .cell)) || (decide (y.1 ∈ own.map (·.1)) || !decide (y.1 ∈ N))))))
theorem blkB_ok {N : List Str} {sc scope : Scope} {own : List (Str × Nat)} (h : blkB N sc scope own = true) : BlkOk N sc scope own := by
  unfold blkB at h
  obtain ⟨h1, h⟩ := Bool.and_eq_true_iff.mp h
  obtain ⟨h2, h⟩ := Bool.and_eq_true_iff.mp h
  obtain ⟨h3, h⟩ := Bool.and_eq_true_iff.mp h
  obtain ⟨h4, h5⟩ := Bool.and_eq_true_iff.mp h
  refine ⟨?_, fun y hy => of_decide_eq_true (List.all_eq_true.mp h2 y hy), fun q hq => of_decide_eq_true (List.all_eq_true.mp h3 q hq), fun y hy e => ?_, fun y hy e => ?_⟩
  · cases q : scope.kind with
    | function => rfl
    | _ => rw [q] at h1; cases h1
  · have := List.all_eq_true.mp h4 y hy
    simp only [Bool.or_eq_true, Bool.not_eq_true', decide_eq_false_iff_not, decide_eq_true_eq] at this
    rcases this with z | z
    · exact absurd e z
    · exact z
  · have := List.all_eq_true.mp h5 y hy
    simp only [Bool.or_eq_true, Bool.not_eq_true', Bool.or_eq_false_iff, decide_eq_false_iff_not, decide_eq_true_eq] at this
    rcases this with ⟨z1, z2⟩ | z
    · rcases e with e | e
      · exact absurd e z1
      · exact absurd e z2
    · exact z
/-- scopes, by computing -/
def scB (N P : List Str) (sc : Scope) : Bool := (match sc.kind with | .function => true | _ => false) && (!sc.isCoroutine && (!sc.isGenerator && (decide N.Nodup && (decide (N.take P.length = P) && (P.all (fun x => decide (sc.names.lookup x = some .local) || decide (sc.names.lookup x = some .cell)) && sc.names.all fun y => !decide (y.2 = .free))))))
theorem scB_ok {N P : List Str} {sc : Scope} (h : scB N P sc = true) : FnScope N P sc := by
  unfold scB at h
  obtain ⟨h1, h⟩ := Bool.and_eq_true_iff.mp h
  obtain ⟨h2, h⟩ := Bool.and_eq_true_iff.mp h
  obtain ⟨h3, h⟩ := Bool.and_eq_true_iff.mp h
  obtain ⟨h4, h⟩ := Bool.and_eq_true_iff.mp h
  obtain ⟨h5, h⟩ := Bool.and_eq_true_iff.mp h
  obtain ⟨h6, h7⟩ := Bool.and_eq_true_iff.mp h
  refine ⟨?_, by simpa using h2, by simpa using h3, of_decide_eq_true h4, of_decide_eq_true h5, fun x hx => ?_, fun y hy => ?_⟩
  · cases q : sc.kind with
    | function => rfl
    | _ => rw [q] at h1; cases h1
  · have := List.all_eq_true.mp h6 x hx
    simpa using this
  · have := List.all_eq_true.mp h7 y hy
    simpa using this

/-! ### a def at a given place -/
def FnAt (P : Program) (w : World) (K : Fg) (mg : Str → Option Value) (base : Heap) (A : Around) (f : Addr) (fd : FuncData) (ps : List Str) (sp : Sp) : Prop :=
  ∀ (outer : List Env) (s : Shared) (H : Hp) (args : Args) (us : List Value) (vs : List V) (Q : VK) (E : XK), Env0 P w K mg base A outer s H → BindsTo s fd args (ps.zip us) → Vals vs us → sp vs H Q E → codeAny (model P w) A (.call (.ref f) args) (CR (L2.CX P w) outer P w H s Q E) s
theorem fn_at {P : Program} {w : World} {K : Fg} {mg : Str → Option Value} {base : Heap} {k : Nat} {f : Addr} {x qual : Str} {params : Arguments} {body : List Stmt} {scope : Scope} {dvs : List V} {kws : List (Str × V)} {fd : FuncData} {N ps : List Str} {A : Around}
    (F : FunD K x qual params body scope dvs kws f fd) (Sc : FnScope N ps scope) (hr : Room (k + 1) A) (b : S)
    (hb : ∀ (cdv : Value) (outer : List Env) (s : Shared) (H : Hp) (E : XK), Room k (A.deeper (envOfC qual scope s.heap.objs.size f cdv)) →
      ISs (cxOf (L2.CX P w) P w K mg base N qual scope f cdv A outer s H E) (fun c d _ H => E c d H) body b) : FnAt P w K mg base A f fd ps (spI K ps.length (runF N.length b)) := by
  obtain ⟨oc, od, dV, kV, doc, pm, an, cdv, ct, osl, rfl, lk, hcd, _, _⟩ := F.ex
  intro outer s H args us vs Q E e0 bb r hsp
  have hl : vs.length = ps.length := hsp.1
  have KX : K.In s.heap := e0.mod.kin.keeps fun b o e => (e0.bs b o e).1
  refine codeAny_call_function hr.depth (KX _ _ lk) rfl Sc.co Sc.gen rfl (PySem.W.codeRec_of KX hcd) (bb _ _ _ _ (wpAny_newFunctionEnv_cells Sc.kind (fun ⟨n, v⟩ hy => ?_) fun env he s1 x => ?_))
  · rcases Sc.par n (List.of_mem_zip hy).1 with q | q
    · exact .inl q
    · exact .inr ⟨q, PySem.W.cellsFrom_some _ _ _ (.inl q)⟩
  subst he
  refine ⟨(e0.mod.nolimit.keeps fun b o e => (e0.bs b o e).1).keeps x.toInCall.keep, codeAny_func ?_⟩
  have J : Inv (cxOf (L2.CX P w) P w K mg base N qual scope f cdv A outer s H E) [] (L2.start N vs) H s1 := inv_start Sc hr.hd e0 hl r x
  have hq : tIS K (fun c d _ H => E c d H) b { nx := fun _ H' => Q .non H', rt := Q } (L2.start N vs) H := by
    obtain ⟨_, m, μ, st, ds, R, r, post⟩ := hsp
    refine ⟨_, m, μ, _, st, R.start (N := N) r, ?_⟩
    unfold runF at post
    cases q : b (ds.map Sl.val ++ List.replicate (N.length - ds.length) Sl.no) st with
    | nx env1 st1 => rw [q] at post; exact fun σ m' μ' H' u R' => post _ m' μ' H' u R'.drop rfl
    | rt r1 st1 =>
      rw [q] at post
      intro v m' μ' H' u R' p
      refine post v m' μ' H' u R' ?_
      cases r1 with
      | v d => exact p
      | o o =>
        obtain ⟨a, e, q1, q2, q3, q4⟩ := p
        exact ⟨a, e, q1, q2, q3, q4, fun i ⟨o, z, _⟩ => by simp at z⟩
    | exc c fs env1 st1 => rw [q] at post; exact fun dx σ m' μ' H' u R' p => post dx m' μ' H' u R'.drop p
    | bk => rw [q] at post; exact post.elim
    | ct => rw [q] at post; exact post.elim
    | bad => rw [q] at post; exact post.elim
  refine wpAny_mono ((hb cdv outer s H E (hr.deeper _)).run [] s1 (L2.start N vs) H _ J hq) (fun fl s' hs => ?_) fun e s' hs => hs
  cases fl with
  | ret u =>
    obtain ⟨v, σ', H', J', rv, q⟩ := hs
    exact ⟨v, H', J'.os, J'.bare, J'.base, J'.hok, rv, q⟩
  | next =>
    obtain ⟨σ', H', J', q⟩ := hs
    exact ⟨V.non, H', J'.os, J'.bare, J'.base, J'.hok, rfl, q⟩
  | brk =>
    obtain ⟨_, _, _, q⟩ := hs
    exact False.elim q
  | cont =>
    obtain ⟨_, _, _, q⟩ := hs
    exact False.elim q
end SK
end
section
set_option Elab.async false
set_option linter.all false
set_option autoImplicit false
set_option maxRecDepth 100000
set_option maxHeartbeats 1000000
namespace SK
open PySem PySem.Spec PyProof.Rows L2
/-- the state at a law's entry -/
theorem law_at {P : Program} {w : World} {K : Fg} {mg mb : Str → Option Value} {fa a : Addr} {fd : FuncData} {x : Str} {sp : Sp} {s₁ : Shared} {vs : List Value} {ns : List Int}
    (KX : K.In s₁.heap) (hns : s₁.heap.Ns mainGlobals mg) (hb : s₁.heap.Ns builtinsNs mb) (hbb : ∀ x : Str, x ≠ "__name__" → mb x = bootBuiltins x) (hlim : s₁.heap.NoLimit) (hg : s₁.gens = #[])
    (ha : s₁.heap.get? a = some { cls := .type "list", data := .seq vs.toArray }) (hi : IntsAre vs ns) (hl : ns.length ≤ sizeLine)
    (F : ∀ base : Heap, K.In base → base.Ns mainGlobals mg → FnAt P w K mg base callerA fa fd [x] sp) (hbind : ∀ (s : Shared) (u : Value), BindsTo s fd ⟨[u], []⟩ [(x, u)])
    (hsp : ∀ H : Hp, L2.Only H → SqL K H a (ns.map V.int) → sp [.ref a] H (fun v _ => v = .bl true) fun _ _ _ => False) :
    codeAny (model P w) callerA (.call (.ref fa) ⟨[.ref a], []⟩) (fun r s' => r = .ok (.ret (.bool true)) ∧ OldK s₁.heap s'.heap ∧ s'.os = s₁.os ∧ AllBare s'.gens) s₁ := by
  have rel := vals_ints hi
  have nV := hi.length
  have main : ∀ H : Hp, L2.Only H → SqL K H a (ns.map V.int) → HOk P w H s₁.heap → (∀ b, H b ≠ none → b = a) → (H a ≠ none → K.lookup a = none) → codeAny (model P w) callerA (.call (.ref fa) ⟨[.ref a], []⟩) (fun r s' => r = .ok (.ret (.bool true)) ∧ OldK s₁.heap s'.heap ∧ s'.os = s₁.os ∧ AllBare s'.gens) s₁ := by
    intro H hO hS hok only noK
    have dictOff : ∀ {b : Addr} {o : Obj} {es : Array DictEntry} {ep : Nat}, s₁.heap.get? b = some o → o.data = .dict es ep → H b = none := fun {b o es ep} e d => Classical.byContradiction fun q => by
      have e' := only b q
      subst e'
      rw [ha] at e; cases e
      have z : Data.seq vs.toArray _ = Data.dict es ep := d
      cases z
    have nsBase : ∀ {b : Addr} {m : Str → Option Value}, s₁.heap.Ns b m → (hidT s₁.heap H).Ns b m := fun {b m} ⟨o, es, ep, e, d, r⟩ => ⟨o, es, ep, hidT_get e (dictOff e d), d, r⟩
    have kBase : K.In (hidT s₁.heap H) := fun b o e => hidT_get (KX b o e) (Classical.byContradiction fun q => by
      have e' := only b q
      subst e'
      rw [noK q] at e; cases e)
    have md : Mod K mg (hidT s₁.heap H) := ⟨kBase, nsBase hns, ⟨mb, nsBase hb, hbb⟩, let ⟨mc, h1, h2⟩ := hlim; ⟨mc, nsBase h1, h2⟩⟩
    have en : Env0 P w K mg (hidT s₁.heap H) callerA [] s₁ H := ⟨rfl, md, fun b o e => of_hidT e, Nat.le_of_eq (hidT_size _ _), trivial, fun b hb => absurd (show b ∈ ([] : List Addr) from hb) (by simp), hok, .of_eq hg⟩
    refine codeAny_mono (F _ kBase (nsBase hns) [] s₁ H ⟨[.ref a], []⟩ [.ref a] [.ref a] _ _ en (hbind s₁ (.ref a)) (.cons rfl .nil) (hsp H hO hS)) fun r s' h => ?_
    cases r with
    | error e =>
      obtain ⟨_, _, _, _, _, _, _, _, _, _, _, _, hf⟩ := h
      exact hf.elim
    | ok fl =>
      cases fl with
      | ret u =>
        obtain ⟨v, H', os, bare, un, hok', rv, q⟩ := h
        have q : v = .bl true := q
        subst q
        obtain rfl : u = Value.bool true := rv
        refine ⟨rfl, OldK.of_keep fun b o e => ?_, os, bare⟩
        rcases hO b with z | ⟨ob, xs, z⟩
        · exact un.keep b o e z (by intro z; exact absurd (show b ∈ ([] : List Addr) from z) (by simp)) (by simp)
        · obtain ⟨e1, _⟩ := hok b _ z
          obtain ⟨e2, _⟩ := hok' b _ (un.frzs b ob _ z)
          rw [e] at e1; cases e1
          exact e2
      | next => exact False.elim h
      | brk => exact False.elim h
      | cont => exact False.elim h
  cases inK : K.lookup a with
  | some o =>
    have e := KX a o inK
    rw [ha] at e; cases e
    exact main (fun _ => none) (fun _ => .inl rfl) (.inr ⟨_, vs.toArray, _, inK, rfl, rfl, rfl, by rw [List.size_toArray, nV]; exact hl, by simpa using rel⟩) (fun b u z => by cases (show (none : Option HO) = some u from z)) (fun b z => absurd rfl z) fun z => absurd rfl z
  | none =>
    have at_ : ∀ b u, (if b = a then some (HO.frz { cls := .type "list", data := .seq vs.toArray } (.lst (ns.map V.int))) else none) = some u → b = a ∧ u = HO.frz { cls := .type "list", data := .seq vs.toArray } (.lst (ns.map V.int)) := fun b u z => by
      by_cases h : b = a
      · rw [if_pos h] at z; exact ⟨h, (Option.some.inj z).symm⟩
      · rw [if_neg h] at z; cases z
    refine main (fun b => if b = a then some (HO.frz { cls := .type "list", data := .seq vs.toArray } (.lst (ns.map V.int))) else none) (fun b => ?_) (.inl (.inr ⟨{ cls := .type "list", data := .seq vs.toArray }, if_pos rfl⟩)) (fun b u z => ?_) (fun b z => Classical.byContradiction fun h => z (if_neg h)) fun _ => inK
    · by_cases h : b = a
      · exact .inr ⟨_, _, if_pos h⟩
      · exact .inl (if_neg h)
    · obtain ⟨rfl, rfl⟩ := at_ b u z
      exact ⟨ha, by rw [List.length_map]; exact hl, vs, _, rel, ha⟩
/-- the whole: F computes True at every script -/
theorem sp_law {K : Fg} {H : Hp} {a : Addr} {ns : List Int} {F : Fn} (hO : L2.Only H) (hS : SqL K H a (ns.map V.int)) (h : ∃ st, F [.scr (ns.map .int)] [] = .ok (.v (.bl true)) st) :
    spI K 1 F [.ref a] H (fun v _ => v = .bl true) fun _ _ _ => False := by
  obtain ⟨st, e⟩ := h
  refine ⟨rfl, H, [], [], [.scr (ns.map .int)], ⟨fun _ _ z => z, fun n o z => by simp at z, rfl, .nil, fun a z => absurd z (by simp), rfl, fun i d z => by simp at z, fun i d z => by simp at z, fun i j a ⟨o, z, _⟩ => by simp at z, Up.refl, fun _ _ z _ => z, fun n a _ z => by simp at z, fun _ _ z => .inl z⟩, ⟨.ref a, [], rfl, ⟨a, _, rfl, hS, Reps.ints ns⟩, rfl⟩, ?_⟩
  rw [e]
  intro v m' μ' H' u R p
  exact p
theorem walk_G {l : PySem.W.OpenLaw} {n : Nat} {q : Program} {loose : List Str} {XP : (Str → Option Value) → Heap → Prop} {YP : World → Heap → Prop} {d : DefRec} {x : Str} (hn : l.most = some n) (hn2 : n ≤ sizeLine) (hdf : d.params.defaults = [])
    (F : ∀ (w : World) (mg : Str → Option Value) (fa : Addr) (h : Heap), YP w h → h.Ns mainGlobals mg → mg d.name = some (.ref fa) →
      ∃ (K : Fg) (fd : FuncData) (G : Fn), K.In h ∧ (∀ (s : Shared) (u : Value), BindsTo s fd ⟨[u], []⟩ [(x, u)]) ∧ (∀ ns : List Int, ns.length ≤ n → ∃ st, G [.scr (ns.map .int)] [] = .ok (.v (.bl true)) st) ∧
        ∀ base : Heap, K.In base → base.Ns mainGlobals mg → FnAt l.prog w K mg base callerA fa fd [x] (spI K 1 G)) :
    PySem.W.WalkO q loose XP YP l.row.toRowW d [] (fun f vs => PySem.call f vs) := by
  refine Att.attach_call hn hdf fun w s₀ s₁ mg mb fa o pm cd doc a vs ns G Y ho hd hcd hmg hobj hints hlen hg => ?_
  obtain ⟨K, fd, g, KX, hb, hp, hF⟩ := F w mg fa _ Y G.T.g hmg
  exact law_at KX G.T.g G.T.b G.T.builtins G.T.nolimit hg hobj hints (Nat.le_trans hlen hn2) hF hb fun H hO hS => sp_law hO hS (hp ns hlen)
end SK
end
section
set_option Elab.async false
set_option linter.all false
set_option autoImplicit false
set_option maxRecDepth 100000
set_option maxHeartbeats 1000000
namespace SK
open PySem PySem.Spec PyProof.Rows L2
/-! ### a text, many times -/
def mulOkB (x : Str) (n : Int) : Bool := !(decide (n < -(2 ^ 63 : Int)) || decide (n ≥ 2 ^ 63)) && (decide (n < 1) || ((n == 1 || x.length == 0) || (!decide ((x.length : Int) > (2 ^ 63 - 1) / n) && !Builtin.Str.tooLong (x.length * n.toNat))))
theorem mulOkB_ok {x : Str} {n : Int} (h : mulOkB x n = true) : MulOk x n := by
  unfold mulOkB at h
  obtain ⟨h1, h2⟩ := Bool.and_eq_true_iff.mp h
  refine ⟨by simpa using h1, fun a b => ?_, fun a b => ?_⟩
  · rcases Bool.or_eq_true_iff.mp h2 with z | z
    · exact absurd (of_decide_eq_true z) a
    · rcases Bool.or_eq_true_iff.mp z with z | z
      · rw [b] at z; cases z
      · have := (Bool.and_eq_true_iff.mp z).1
        simpa using this
  · rcases Bool.or_eq_true_iff.mp h2 with z | z
    · exact absurd (of_decide_eq_true z) a
    · rcases Bool.or_eq_true_iff.mp z with z | z
      · rw [b] at z; cases z
      · have := (Bool.and_eq_true_iff.mp z).2
        simpa using this
def rMulS : R2 := fun x y H Q => ∃ (z : Str) (n : Int), x = .str z ∧ y = .int n ∧ MulOk z n ∧ Q (.str (Txt.mul z n)) H
theorem op_mulS {X : Cx} : OpR X (binaryOp .Mult) rMulS := by
  intro pins s σ H x y v u Q I rx ry ⟨z, n, e1, e2, hm, q⟩
  subst e1; subst e2
  obtain ⟨t, rfl⟩ := rx
  obtain ⟨t2, rfl⟩ := ry
  exact SB.mul hm fun t' k => ⟨.str (Txt.mul z n), H, I.tok _, ⟨t', rfl⟩, q⟩
def gMulS : D → D → Option D
  | .str x, .int n => if mulOkB x n then some (.str (Txt.mul x n)) else none
  | _, _ => none
theorem od_mulS {K : Fg} : OpD K rMulS gMulS := by
  intro B m μ env st σ H d d' x y z Q R r1 r2 e k
  unfold gMulS at e
  split at e
  · rename_i xx n
    split at e
    · rename_i hz
      cases e; cases r1; cases r2
      exact ⟨xx, n, rfl, rfl, mulOkB_ok hz, k _ m μ H Up.refl R rfl⟩
    · cases e
  · cases e
/-! ### int, str of more than one kind -/
def gIntA : List D → Option D
  | [.int i] => some (.int i)
  | [.bl b] => some (.int (if b then 1 else 0))
  | [.str x] => if x.length ≤ 640 then (PySem.intText? x).map .int else none
  | _ => none
theorem CallD.or2 {K : Fg} {r r' : List V → Hp → VK → Prop} {g g1 g2 : List D → Option D} (o1 : CallD K r g1) (o2 : CallD K r' g2) (h : ∀ ds z, g ds = some z → g1 ds = some z ∨ g2 ds = some z) : CallD K (fun xs H Q => r xs H Q ∨ r' xs H Q) g :=
  fun B m μ env st σ H ds xs z Q R rr e k => by
    rcases h ds z e with e | e
    · exact .inl (o1 B m μ env st σ H ds xs z Q R rr e k)
    · exact .inr (o2 B m μ env st σ H ds xs z Q R rr e k)
theorem cd_intA {K : Fg} : CallD K (fun xs H Q => ((∃ i, xs = [.int i] ∧ Q (.int i) H) ∨ ∃ k, xs = [.bl k] ∧ Q (.int (if k then 1 else 0)) H) ∨ ∃ a n, xs = [.str a] ∧ PySem.intText? a = some n ∧ a.length ≤ 640 ∧ Q (.int n) H) gIntA := CallD.or2 cd_int cd_intS fun ds z h => by
  unfold gIntA at h
  split at h
  · exact .inl h
  · exact .inl h
  · exact .inr h
  · cases h
theorem call_intA {X : Cx} : CallR X (.type "int") (fun xs H Q => ((∃ i, xs = [.int i] ∧ Q (.int i) H) ∨ ∃ k, xs = [.bl k] ∧ Q (.int (if k then 1 else 0)) H) ∨ ∃ a n, xs = [.str a] ∧ PySem.intText? a = some n ∧ a.length ≤ 640 ∧ Q (.int n) H) := RC.or call_int1 call_int_str
theorem call_strA {X : Cx} : CallR X (.type "str") (fun xs H Q => (∃ i, xs = [.int i] ∧ i.natAbs.log2 < 1920 ∧ Q (.str (toString i)) H) ∨ (∃ a, xs = [.str a] ∧ Q (.str a) H)) := RC.or call_str_int SkE.call_str_str
/-! ### x.append(e), x of the store -/
section
variable {X : Cx} {W : WX} {a e : Expr} {fo fe : M D} {pos : Pos}
/-- as sAppS, where the object is seen to be a list ahead of the argument -/
def sAppV (fo fe : M D) : S := fun env st => (fo env st).bindS env fun o st => match o with
  | .ref n => (match st[n]? with
    | some (.lst _) => (fe env st).bindS env fun v st => (match st[n]? with
      | some (.lst xs) => if xs.length < 100000 then .nx env (st.set n (.lst (xs ++ [v]))) else .bad
      | _ => .bad)
    | _ => .bad)
  | _ => .bad
theorem is_appS {apos cpos : Pos} (ho : IE X W a fo) (he : IE X W e fe) (hbase : attributeBase a "append" X.env (eval a X.env) = eval a X.env := by rfl)
    (hfew : ((backTo cpos (starEach [e] X.env)).all (fun x => !x.1) && (backToKw cpos (keywordEach [] X.env)).all (fun x => x.1.isSome) && decide ([e].length + ([] : List Keyword).length + (if ([] : List Keyword).isEmpty then 0 else 1) < 30)) = true := by rfl)
    (hline : (apos.endLine == cpos.line) = true := by rfl) (hs : starEach [e] X.env = (false, eval e X.env) :: starEach [] X.env := by rfl) (hplain : (backTo cpos (starEach [] X.env)).any (·.1) = false := by rfl) :
    IS X W (.Expr (.Call (.Attribute a "append" apos) [e] [] cpos) pos) (sAppV fo fe) :=
  ps_imp (ps_expr (pe_bm PySem.F.plainAttrs_list PySem.F.slot_list_append PySem.F.type_list_append mt_append ho (pa_cons he pa_nil hs) hbase hfew hline hs hplain) (by rfl)) fun Dn σ H ⟨B, m, μ, env, st, R, k⟩ => by
    refine ⟨B, m, μ, env, st, R, k.split fun od st1 ov m1 μ1 H1 u R1 r1 k1 => ?_⟩
    cases od with
    | ref n =>
      obtain ⟨aa, rfl, hn⟩ := r1
      obtain ⟨o, g1, g2⟩ := R1.stAt hn
      dsimp only at k1
      rw [g1] at k1
      cases o with
      | lst xs0 =>
        dsimp only at k1
        obtain ⟨vs0, h1, _⟩ := g2
        refine ⟨.inl ⟨rfl, _, SqL.of h1⟩, B, m1, μ1, env, st1, R1, k1.split fun v st2 vv m2 μ2 H2 u2 R2 r2 k2 => ?_⟩
        have hn2 := u2.st _ _ hn
        obtain ⟨o2, g3, g4⟩ := R2.stAt hn2
        rw [g3] at k2
        cases o2 with
        | lst xs =>
          obtain ⟨vs, h3, h4⟩ := g4
          dsimp only at k2
          split at k2
          · rename_i hz
            exact ⟨aa, vs, vv, rfl, rfl, h3, by rw [← h4.length]; exact Nat.lt_of_lt_of_le hz (by decide), k2.now (R2.putSt hn2 ⟨_, upd_same, h4.append (Reps.one r2)⟩)⟩
          · exact k2.elim
        | dic => exact k2.elim
        | ins => exact k2.elim
      | dic => exact k1.elim
      | ins => exact k1.elim
    | _ => exact k1.elim
end
end SK
end
section
set_option Elab.async false
set_option linter.all false
set_option autoImplicit false
set_option maxRecDepth 100000
set_option maxHeartbeats 1000000
namespace SK
open PySem PySem.Spec PyProof.Rows L2
def flatTys : List String := ["NoneType", "bool", "int", "str", "tuple", "list", "dict"]
def tbOf (l : List String) (s : String) : Option Bool := if s ∈ flatTys then some (decide (s ∈ l)) else none
theorem tbOf_ok {l : List String} {n : String} (h : ∀ s ∈ flatTys, kitB s n = some (decide (s ∈ l))) (s : String) (b : Bool) (e : tbOf l s = some b) : kitB s n = some b := by
  unfold tbOf at e
  split at e
  · rename_i hs
    cases e
    exact h s hs
  · cases e
abbrev tb_int := tbOf ["int", "bool"]
abbrev tb_bool := tbOf ["bool"]
abbrev tb_str := tbOf ["str"]
abbrev tb_tuple := tbOf ["tuple"]
abbrev tb_list := tbOf ["list"]
theorem tb_int_ok : ∀ s b, tb_int s = some b → kitB s "int" = some b := tbOf_ok (by decide +kernel)
theorem tb_bool_ok : ∀ s b, tb_bool s = some b → kitB s "bool" = some b := tbOf_ok (by decide +kernel)
theorem tb_str_ok : ∀ s b, tb_str s = some b → kitB s "str" = some b := tbOf_ok (by decide +kernel)
theorem tb_tuple_ok : ∀ s b, tb_tuple s = some b → kitB s "tuple" = some b := tbOf_ok (by decide +kernel)
theorem tb_list_ok : ∀ s b, tb_list s = some b → kitB s "list" = some b := tbOf_ok (by decide +kernel)
/-- an own exception of one field, as the text has it -/
structure Exc1 (P : Program) (w : World) (K : Fg) (mg : Str → Option Value) (base : Heap) (C : Addr) (f : Str) : Type where
  oex : OexC K C
  fI : Addr
  fd : FuncData
  self : Str
  arg : Str
  init : PySem.W.findIn K (.ref C) "__init__" = some (some (.ref fI))
  ty : PySem.W.typeIn K (.ref fI) = some (.type "function")
  ok : FnOk P w K mg base (L2.CX P w) 1 fI fd [self, arg] (sp1 C f)
  bi : Binds K fd [self, arg] []
end SK
namespace SK
open PySem PySem.Spec PyProof.Rows L2
theorem hu_of {k : Nat} {A : Around} (r : Room k A) : A.units + 66 < cLine := by have := r.un; omega
theorem hu1_of {k : Nat} {A : Around} (r : Room k A) : A.units + 1 < cLine := by have := r.un; omega
end SK
namespace SK
open PySem PySem.Spec PyProof.Rows L2
theorem takes0 {X : Cx} : Takes X W0 := fun _ _ ⟨_, _, _, _, _, _, _, _, _, _, _, _, _, _, _, _, w⟩ => w.elim
end SK
end
section
set_option Elab.async false
set_option linter.all false
set_option autoImplicit false
set_option maxRecDepth 100000
set_option maxHeartbeats 4000000
namespace K83
open PySem PySem.Spec PyProof.Rows L2 SK
def top (i : Nat) : Stmt := PySem.Challenge.pw_stalekeys_k83_record_texts.main.body.getD i (.Pass ⟨0, 0, 0, 0⟩)
structure Ad where
  cNoText : Addr
  cNoCommand : Addr
  dROWS : Addr
  cKind : Addr
def c_DIGITS : Str := "0123456789"
def c_NOTHING : Str := "none"
def rowsK : List (Str × SK.D) := [("change", .str "ofd"), ("lookup", .str "oa"), ("read", .str "ow"), ("put", .str "oio"), ("take", .str "oa"), ("lay", .str "")]
structure Tx (P : Program) (w : World) (K : Fg) (mg : Str → Option Value) : Type where
  ad : Ad
  a_read_integer : Addr
  fd_read_integer : FuncData
  f_read_integer : FunD K "read_integer" "read_integer" (defArgs (top 20)) (defBody (top 20)) (defScope (top 20)) [] [("signed", .bl false)] a_read_integer fd_read_integer
  m_read_integer : mg "read_integer" = some (.ref a_read_integer)
  a_part_text : Addr
  fd_part_text : FuncData
  f_part_text : FunD K "part_text" "part_text" (defArgs (top 21)) (defBody (top 21)) (defScope (top 21)) [] [] a_part_text fd_part_text
  m_part_text : mg "part_text" = some (.ref a_part_text)
  a_show_record : Addr
  fd_show_record : FuncData
  f_show_record : FunD K "show_record" "show_record" (defArgs (top 22)) (defBody (top 22)) (defScope (top 22)) [] [] a_show_record fd_show_record
  m_show_record : mg "show_record" = some (.ref a_show_record)
  a_read_part : Addr
  fd_read_part : FuncData
  f_read_part : FunD K "read_part" "read_part" (defArgs (top 23)) (defBody (top 23)) (defScope (top 23)) [] [] a_read_part fd_read_part
  m_read_part : mg "read_part" = some (.ref a_read_part)
  a_read_row : Addr
  fd_read_row : FuncData
  f_read_row : FunD K "read_row" "read_row" (defArgs (top 24)) (defBody (top 24)) (defScope (top 24)) [] [] a_read_row fd_read_row
  m_read_row : mg "read_row" = some (.ref a_read_row)
  a_read_record : Addr
  fd_read_record : FuncData
  f_read_record : FunD K "read_record" "read_record" (defArgs (top 25)) (defBody (top 25)) (defScope (top 25)) [] [] a_read_record fd_read_record
  m_read_record : mg "read_record" = some (.ref a_read_record)
  a_law_bag : Addr
  fd_law_bag : FuncData
  f_law_bag : FunD K "_law_bag" "_law_bag" (defArgs (top 27)) (defBody (top 27)) (defScope (top 27)) [] [] a_law_bag fd_law_bag
  m_law_bag : mg "_law_bag" = some (.ref a_law_bag)
  a_law_take : Addr
  fd_law_take : FuncData
  f_law_take : FunD K "_law_take" "_law_take" (defArgs (top 28)) (defBody (top 28)) (defScope (top 28)) [] [] a_law_take fd_law_take
  m_law_take : mg "_law_take" = some (.ref a_law_take)
  a_law_of : Addr
  fd_law_of : FuncData
  f_law_of : FunD K "_law_of" "_law_of" (defArgs (top 29)) (defBody (top 29)) (defScope (top 29)) [] [] a_law_of fd_law_of
  m_law_of : mg "_law_of" = some (.ref a_law_of)
  a_law_bent_lines : Addr
  fd_law_bent_lines : FuncData
  f_law_bent_lines : FunD K "_law_bent_lines" "_law_bent_lines" (defArgs (top 30)) (defBody (top 30)) (defScope (top 30)) [] [] a_law_bent_lines fd_law_bent_lines
  m_law_bent_lines : mg "_law_bent_lines" = some (.ref a_law_bent_lines)
  a_law_integer_of : Addr
  fd_law_integer_of : FuncData
  f_law_integer_of : FunD K "_law_integer_of" "_law_integer_of" (defArgs (top 31)) (defBody (top 31)) (defScope (top 31)) [] [] a_law_integer_of fd_law_integer_of
  m_law_integer_of : mg "_law_integer_of" = some (.ref a_law_integer_of)
  a_law_record_row : Addr
  fd_law_record_row : FuncData
  f_law_record_row : FunD K "_law_record_row" "_law_record_row" (defArgs (top 32)) (defBody (top 32)) (defScope (top 32)) [] [] a_law_record_row fd_law_record_row
  m_law_record_row : mg "_law_record_row" = some (.ref a_law_record_row)
  a_law_row_line : Addr
  fd_law_row_line : FuncData
  f_law_row_line : FunD K "_law_row_line" "_law_row_line" (defArgs (top 33)) (defBody (top 33)) (defScope (top 33)) [] [] a_law_row_line fd_law_row_line
  m_law_row_line : mg "_law_row_line" = some (.ref a_law_row_line)
  a_law_integer : Addr
  fd_law_integer : FuncData
  f_law_integer : FunD K "_law_integer" "_law_integer" (defArgs (top 34)) (defBody (top 34)) (defScope (top 34)) [] [] a_law_integer fd_law_integer
  m_law_integer : mg "_law_integer" = some (.ref a_law_integer)
  a_law_part : Addr
  fd_law_part : FuncData
  f_law_part : FunD K "_law_part" "_law_part" (defArgs (top 35)) (defBody (top 35)) (defScope (top 35)) [] [] a_law_part fd_law_part
  m_law_part : mg "_law_part" = some (.ref a_law_part)
  a_law_row : Addr
  fd_law_row : FuncData
  f_law_row : FunD K "_law_row" "_law_row" (defArgs (top 36)) (defBody (top 36)) (defScope (top 36)) [] [] a_law_row fd_law_row
  m_law_row : mg "_law_row" = some (.ref a_law_row)
  a_law_due : Addr
  fd_law_due : FuncData
  f_law_due : FunD K "_law_due" "_law_due" (defArgs (top 37)) (defBody (top 37)) (defScope (top 37)) [] [] a_law_due fd_law_due
  m_law_due : mg "_law_due" = some (.ref a_law_due)
  a_law_said : Addr
  fd_law_said : FuncData
  f_law_said : FunD K "_law_said" "_law_said" (defArgs (top 38)) (defBody (top 38)) (defScope (top 38)) [] [] a_law_said fd_law_said
  m_law_said : mg "_law_said" = some (.ref a_law_said)
  a_law : Addr
  fd_law : FuncData
  f_law : FunD K "law" "law" (defArgs (top 39)) (defBody (top 39)) (defScope (top 39)) [] [] a_law fd_law
  m_law : mg "law" = some (.ref a_law)
  n_len : mg "len" = none
  n_int : mg "int" = none
  n_str : mg "str" = none
  n_all : mg "all" = none
  n_zip : mg "zip" = none
  n_enumerate : mg "enumerate" = none
  n_range : mg "range" = none
  n_max : mg "max" = none
  n_min : mg "min" = none
  n_abs : mg "abs" = none
  n_tuple : mg "tuple" = none
  n_list : mg "list" = none
  n_repr : mg "repr" = none
  n_isinstance : mg "isinstance" = none
  n_ValueError : mg "ValueError" = none
  u_DIGITS : Value
  m_DIGITS : mg "DIGITS" = some u_DIGITS
  r_DIGITS : RelV (.str c_DIGITS) u_DIGITS
  u_NOTHING : Value
  m_NOTHING : mg "NOTHING" = some u_NOTHING
  r_NOTHING : RelV (.str c_NOTHING) u_NOTHING
  u_MOST_DIGITS : Value
  m_MOST_DIGITS : mg "MOST_DIGITS" = some u_MOST_DIGITS
  r_MOST_DIGITS : RelV (.int 20) u_MOST_DIGITS
  t_FIELDS : Addr
  m_FIELDS : mg "FIELDS" = some (.ref t_FIELDS)
  q_FIELDS : SqT K (fun _ => none) t_FIELDS [.str "x", .str "y", .str "z"]
  m_ROWS : mg "ROWS" = some (.ref ad.dROWS)
  r_ROWS : KDic K w ad.dROWS rowsK
  m_Kind : mg "Kind" = some (.ref ad.cKind)
  mc_Kind : Value
  c_Kind : ClX.CRead K ad.cKind mc_Kind
  u_Kind : Value
  v_Kind : ClX.CVal K ad.cKind mc_Kind "VALUES" (.int 4) u_Kind
  m_NoText : mg "NoText" = some (.ref ad.cNoText)
  m_NoCommand : mg "NoCommand" = some (.ref ad.cNoCommand)
  x_NoText : ∀ base : Heap, Exc1 P w K mg base ad.cNoText "line"
  xm_NoText' : PySem.W.exmOne K (.ref ad.cNoText) (.ref ad.cNoText) = some true
  xf_NoText : XfC K ad.cNoText
  xi_NoText : ExcC K ad.cNoText
  no_NoText : PySem.W.findIn K (.ref ad.cNoText) "line" = some none
  kt_VE : PySem.W.kitOne K (.ref ad.cNoText) (.type "ValueError") = some true
  kt_NC : PySem.W.kitOne K (.ref ad.cNoText) (.ref ad.cNoCommand) = some false
section
variable {P : Program} {w : World} {K : Fg} {mg : Str → Option Value} {base : Heap} {A : Around}
theorem Tx.k_read_integer (T : Tx P w K mg) : PySem.W.keepIn K (.ref T.a_read_integer) = true := T.f_read_integer.kp
theorem Tx.k_part_text (T : Tx P w K mg) : PySem.W.keepIn K (.ref T.a_part_text) = true := T.f_part_text.kp
theorem Tx.b_part_text (T : Tx P w K mg) : Binds K T.fd_part_text ["part"] [] := T.f_part_text.bindsN fun _ _ _ _ _ _ us hl => match us, hl with | [_], _ => rfl
theorem Tx.k_show_record (T : Tx P w K mg) : PySem.W.keepIn K (.ref T.a_show_record) = true := T.f_show_record.kp
theorem Tx.b_show_record (T : Tx P w K mg) : Binds K T.fd_show_record ["record"] [] := T.f_show_record.bindsN fun _ _ _ _ _ _ us hl => match us, hl with | [_], _ => rfl
theorem Tx.k_read_part (T : Tx P w K mg) : PySem.W.keepIn K (.ref T.a_read_part) = true := T.f_read_part.kp
theorem Tx.b_read_part (T : Tx P w K mg) : Binds K T.fd_read_part ["word", "form"] [] := T.f_read_part.bindsN fun _ _ _ _ _ _ us hl => match us, hl with | [_, _], _ => rfl
theorem Tx.k_read_row (T : Tx P w K mg) : PySem.W.keepIn K (.ref T.a_read_row) = true := T.f_read_row.kp
theorem Tx.b_read_row (T : Tx P w K mg) : Binds K T.fd_read_row ["line"] [] := T.f_read_row.bindsN fun _ _ _ _ _ _ us hl => match us, hl with | [_], _ => rfl
theorem Tx.k_read_record (T : Tx P w K mg) : PySem.W.keepIn K (.ref T.a_read_record) = true := T.f_read_record.kp
theorem Tx.b_read_record (T : Tx P w K mg) : Binds K T.fd_read_record ["text"] [] := T.f_read_record.bindsN fun _ _ _ _ _ _ us hl => match us, hl with | [_], _ => rfl
theorem Tx.k_law_bag (T : Tx P w K mg) : PySem.W.keepIn K (.ref T.a_law_bag) = true := T.f_law_bag.kp
theorem Tx.b_law_bag (T : Tx P w K mg) : Binds K T.fd_law_bag ["_law_script", "_law_at"] [] := T.f_law_bag.bindsN fun _ _ _ _ _ _ us hl => match us, hl with | [_, _], _ => rfl
theorem Tx.k_law_take (T : Tx P w K mg) : PySem.W.keepIn K (.ref T.a_law_take) = true := T.f_law_take.kp
theorem Tx.b_law_take (T : Tx P w K mg) : Binds K T.fd_law_take ["_law_bag_here", "_law_many"] [] := T.f_law_take.bindsN fun _ _ _ _ _ _ us hl => match us, hl with | [_, _], _ => rfl
theorem Tx.k_law_of (T : Tx P w K mg) : PySem.W.keepIn K (.ref T.a_law_of) = true := T.f_law_of.kp
theorem Tx.b_law_of (T : Tx P w K mg) : Binds K T.fd_law_of ["_law_bag_here", "_law_some"] [] := T.f_law_of.bindsN fun _ _ _ _ _ _ us hl => match us, hl with | [_, _], _ => rfl
theorem Tx.k_law_bent_lines (T : Tx P w K mg) : PySem.W.keepIn K (.ref T.a_law_bent_lines) = true := T.f_law_bent_lines.kp
theorem Tx.b_law_bent_lines (T : Tx P w K mg) : Binds K T.fd_law_bent_lines ["_law_bag_here", "_law_lines"] [] := T.f_law_bent_lines.bindsN fun _ _ _ _ _ _ us hl => match us, hl with | [_, _], _ => rfl
theorem Tx.k_law_integer_of (T : Tx P w K mg) : PySem.W.keepIn K (.ref T.a_law_integer_of) = true := T.f_law_integer_of.kp
theorem Tx.b_law_integer_of (T : Tx P w K mg) : Binds K T.fd_law_integer_of ["_law_bag_here", "_law_most"] [] := T.f_law_integer_of.bindsN fun _ _ _ _ _ _ us hl => match us, hl with | [_, _], _ => rfl
theorem Tx.k_law_record_row (T : Tx P w K mg) : PySem.W.keepIn K (.ref T.a_law_record_row) = true := T.f_law_record_row.kp
theorem Tx.b_law_record_row (T : Tx P w K mg) : Binds K T.fd_law_record_row ["_law_bag_here"] [] := T.f_law_record_row.bindsN fun _ _ _ _ _ _ us hl => match us, hl with | [_], _ => rfl
theorem Tx.k_law_row_line (T : Tx P w K mg) : PySem.W.keepIn K (.ref T.a_law_row_line) = true := T.f_law_row_line.kp
theorem Tx.b_law_row_line (T : Tx P w K mg) : Binds K T.fd_law_row_line ["_law_row_here"] [] := T.f_law_row_line.bindsN fun _ _ _ _ _ _ us hl => match us, hl with | [_], _ => rfl
theorem Tx.k_law_integer (T : Tx P w K mg) : PySem.W.keepIn K (.ref T.a_law_integer) = true := T.f_law_integer.kp
theorem Tx.b_law_integer (T : Tx P w K mg) : Binds K T.fd_law_integer ["_law_word", "_law_is_signed"] [] := T.f_law_integer.bindsN fun _ _ _ _ _ _ us hl => match us, hl with | [_, _], _ => rfl
theorem Tx.k_law_part (T : Tx P w K mg) : PySem.W.keepIn K (.ref T.a_law_part) = true := T.f_law_part.kp
theorem Tx.b_law_part (T : Tx P w K mg) : Binds K T.fd_law_part ["_law_word", "_law_form"] [] := T.f_law_part.bindsN fun _ _ _ _ _ _ us hl => match us, hl with | [_, _], _ => rfl
theorem Tx.k_law_row (T : Tx P w K mg) : PySem.W.keepIn K (.ref T.a_law_row) = true := T.f_law_row.kp
theorem Tx.b_law_row (T : Tx P w K mg) : Binds K T.fd_law_row ["_law_line"] [] := T.f_law_row.bindsN fun _ _ _ _ _ _ us hl => match us, hl with | [_], _ => rfl
theorem Tx.k_law_due (T : Tx P w K mg) : PySem.W.keepIn K (.ref T.a_law_due) = true := T.f_law_due.kp
theorem Tx.b_law_due (T : Tx P w K mg) : Binds K T.fd_law_due ["_law_text"] [] := T.f_law_due.bindsN fun _ _ _ _ _ _ us hl => match us, hl with | [_], _ => rfl
theorem Tx.k_law_said (T : Tx P w K mg) : PySem.W.keepIn K (.ref T.a_law_said) = true := T.f_law_said.kp
theorem Tx.b_law_said (T : Tx P w K mg) : Binds K T.fd_law_said ["_law_text"] [] := T.f_law_said.bindsN fun _ _ _ _ _ _ us hl => match us, hl with | [_], _ => rfl
theorem Tx.k_law (T : Tx P w K mg) : PySem.W.keepIn K (.ref T.a_law) = true := T.f_law.kp
theorem Tx.b_law (T : Tx P w K mg) : Binds K T.fd_law ["_law_script"] [] := T.f_law.bindsN fun _ _ _ _ _ _ us hl => match us, hl with | [_], _ => rfl
theorem Tx.kb_read_integer (T : Tx P w K mg) : KBn K T.fd_read_integer ["word", "signed"] 1 ["signed"] (fun us ws => us ++ ws) (fun vs zs => vs ++ zs) :=
  kbn_all T.f_read_integer fun kV doc pm an cdv ct us ws l1 l2 => match us, ws, l1, l2 with | [_], [_], _, _ => rfl
theorem Tx.rp_FIELDS (T : Tx P w K mg) (μ : List Addr) (m : Hp) : Rep K μ m (.tup [.str "x", .str "y", .str "z"]) (.ref T.t_FIELDS) := rep_ktup (ds := [.str "x", .str "y", .str "z"]) (vs := [.str "x", .str "y", .str "z"]) T.q_FIELDS (fun _ _ => ⟨_, _, rfl, rfl, _, _, rfl, rfl, _, _, rfl, rfl, rfl⟩) μ m
def xm83 (ad : Ad) (c : Value) : Option Bool := if c = .ref ad.cNoText then some true else none
theorem Tx.xm_NoText (T : Tx P w K mg) (c : Value) (b : Bool) (h : xm83 T.ad c = some b) : PySem.W.exmOne K c (.ref T.ad.cNoText) = some b := by
  unfold xm83 at h
  split at h
  · rename_i e; cases h; rw [e]; exact T.xm_NoText'
  · cases h
def g83 (ad : Ad) (c : Value) (fs : List (Str × SK.D)) : Option SK.D := match fs with
  | [] => none
  | f :: r => if (true && !false) then (f :: r).lookup ("line" : Str) else some (.str "wrong error")
theorem xm83_eq {ad : Ad} {c : Value} (h : xm83 ad c = some true) : c = .ref ad.cNoText := by
  unfold xm83 at h
  split at h
  · assumption
  · cases h
theorem g83_eq {ad : Ad} {c : Value} {fs : List (Str × SK.D)} {z : SK.D} (h : g83 ad c fs = some z) : (if (true && !false) = true then fs.lookup ("line" : Str) else some (.str "wrong error")) = some z := by
  cases fs with
  | nil => cases h
  | cons => exact h
theorem g83_ne {ad : Ad} {c : Value} {fs : List (Str × SK.D)} {z : SK.D} (h : g83 ad c fs = some z) : fs ≠ [] := by
  cases fs with
  | nil => cases h
  | cons => intro z; cases z

/-! ### read_integer -/
abbrev s_read_integer : Stmt := top 20
def b_read_integer (ad : Ad) : S :=
    sSeq (sSet 2 (eIf (tAndI (eTest (eVar 1)) (eTest (e2 (eSl (eVar 0) (oNone) (oSome (eC (.int 1)))) (eC (.str "-")) gEq))) (eSl (eVar 0) (oSome (eC (.int 1))) (oNone)) (eVar 0)))
    (sSeq (sIf (tOrI (tNotI (eTest (eChain (eC (.int 1)) (e1s (eVar 2) gLen) (eC (.int 20)) gLe gLe))) (tNotI (eTest (eA (aCons (eFrz (eLcO (wStr (eVar 2)) [3] (tgN 3) (tYesI) (e2 (eVar 3) (eC (.str c_DIGITS)) (gIn false)))) (aNil)) gAll)))) (sRet (eRet (eC .non))) (sNil))
    (sSeq (sIf (tAndI (eTest (e2 (e2s (eVar 2) (eC (.int 0)) gIxS) (eC (.str "0")) gEq)) (tOrI (eTest (e2 (e1s (eVar 2) gLen) (eC (.int 1)) gGt)) (eTest (e2 (eVar 2) (eVar 0) gNe)))) (sRet (eRet (eC .non))) (sNil))
    (sRet (eRet (eA (aCons (eVar 0) (aNil)) gIntA)))))
def F_read_integer (ad : Ad) : Fn := runF 4 (b_read_integer ad)
theorem sc_read_integer : FnScope ["word", "signed", "digits", "sign"] ["word", "signed"] (defScope s_read_integer) := scB_ok (by kernel_rfl)
theorem ok_read_integer (T : Tx P w K mg) : FnI P w K mg base 1 T.a_read_integer T.fd_read_integer ["word", "signed"] (F_read_integer T.ad) := fn_I T.f_read_integer sc_read_integer (b_read_integer T.ad) (fun cdv A outer s H E hr => by
  have hu := SK.hu_of hr
  have hu1 := SK.hu1_of hr
  have nd := (sc_read_integer).nd
  have tk := takes_of (X := cxOf (L2.CX P w) P w K mg base ["word", "signed", "digits", "sign"] "read_integer" (defScope s_read_integer) T.a_read_integer cdv A outer s H E) (E := E) rfl rfl rfl rfl
  have pso := passes_of (X := cxOf (L2.CX P w) P w K mg base ["word", "signed", "digits", "sign"] "read_integer" (defScope s_read_integer) T.a_read_integer cdv A outer s H E) rfl
  exact is_cons (is_set (i := 2) nd (by exact rfl) (by first | exact .inl rfl | exact .inr rfl) (ie_if (iw_it (iw_and (it_val (ie_var (pv 1))) (iw_and1 (it_cmp (opEq hu) od_eq (ie_sl (ie_var (pv 0)) (io_none) (io_some (ie_int))) (ie_str) (by first | exact nobehind _ (by decide) (by decide) | rfl))))) (ie_sl (ie_var (pv 0)) (io_some (ie_int)) (io_none)) (ie_var (pv 0))))
    (is_cons (is_if (iw_it (iw_or (it_not (it_chain op_le od_le op_le od_le (ie_int) (ie_len T.n_len (by exact rfl) (ie_var (pv 2))) (ie_glob T.m_MOST_DIGITS (by exact rfl) T.r_MOST_DIGITS (fun _ _ => by exact rfl)))) (iw_or1 (it_not (it_val (ie_callB (cr_all (by exact rfl)) cd_all (by exact rfl) T.n_all (by decide +kernel) (ia_cons (ie_frz (ir_lc (own := [("sign", 3)]) (by exact rfl) nd (ii_str (ie_var (pv 2))) (blkB_ok (by kernel_rfl)) (fun _ _ _ _ _ => ig_name (i := 3) nd (by exact rfl) (by first | exact .inl rfl | exact .inr rfl)) (fun _ _ _ _ _ => its_nil) (fun _ _ _ _ _ => ie_cmp (opIn hu) od_inA (ie_var (pv 3)) (ie_glob T.m_DIGITS (by exact rfl) T.r_DIGITS (fun _ _ => by exact rfl)) (by first | exact nobehind _ (by decide) (by decide) | rfl)) (by decide))) (ia_nil)))))))) (is_one (is_ret (ir_of (ie_non)))) (is_nil))
    (is_cons (is_if (iw_it (iw_and (it_cmp (opEq hu) od_eq (ie_ixS (ie_var (pv 2)) (ie_int) (fun _ _ => rfl)) (ie_str) (by first | exact nobehind _ (by decide) (by decide) | rfl)) (iw_and1 (iw_it (iw_or (it_cmp op_gt od_gt (ie_len T.n_len (by exact rfl) (ie_var (pv 2))) (ie_int) (by first | exact nobehind _ (by decide) (by decide) | rfl)) (iw_or1 (it_cmp (opNe hu) od_ne (ie_var (pv 2)) (ie_var (pv 0)) (by first | exact nobehind _ (by decide) (by decide) | rfl)))))))) (is_one (is_ret (ir_of (ie_non)))) (is_nil))
    (is_one (is_ret (ir_of (ie_callTy call_intA cd_intA (by exact rfl) T.n_int (by decide +kernel) (ia_cons (ie_var (pv 0)) (ia_nil)))))))))
/-! ### part_text -/
abbrev s_part_text : Stmt := top 21
def b_part_text (ad : Ad) : S :=
    sRet (eRet (eIf (eTest (e2 (eVar 0) (eC .non) gIsN)) (eC (.str c_NOTHING)) (eA (aCons (eVar 0) (aNil)) gStr)))
def F_part_text (ad : Ad) : Fn := runF 1 (b_part_text ad)
theorem sc_part_text : FnScope ["part"] ["part"] (defScope s_part_text) := scB_ok (by kernel_rfl)
theorem ok_part_text (T : Tx P w K mg) : FnI P w K mg base 1 T.a_part_text T.fd_part_text ["part"] (F_part_text T.ad) := fn_I T.f_part_text sc_part_text (b_part_text T.ad) (fun cdv A outer s H E hr => by
  have hu := SK.hu_of hr
  have hu1 := SK.hu1_of hr
  have nd := (sc_part_text).nd
  have tk := takes_of (X := cxOf (L2.CX P w) P w K mg base ["part"] "part_text" (defScope s_part_text) T.a_part_text cdv A outer s H E) (E := E) rfl rfl rfl rfl
  have pso := passes_of (X := cxOf (L2.CX P w) P w K mg base ["part"] "part_text" (defScope s_part_text) T.a_part_text cdv A outer s H E) rfl
  exact is_one (is_ret (ir_of (ie_if (it_cmp op_isN od_isN (ie_var (pv 0)) (ie_non) (by first | exact nobehind _ (by decide) (by decide) | rfl)) (ie_glob T.m_NOTHING (by exact rfl) T.r_NOTHING (fun _ _ => by exact rfl)) (ie_callTy call_strA cd_str (by exact rfl) T.n_str (by decide +kernel) (ia_cons (ie_var (pv 0)) (ia_nil)))))))
/-! ### show_record -/
abbrev s_show_record : Stmt := top 22
def b_show_record (ad : Ad) : S :=
    sRet (eRet (eM1 (eC (.str "\n")) (eFrz (eLcO (wLst (eVar 0)) [1] (tgN 1) (tYesI) (eM1 (eC (.str " ")) (eFrz (eLcO (wTup (eVar 1)) [2] (tgN 2) (tYesI) (eFrz (eCall (aCons (eVar 2) (aNil)) (F_part_text ad))))) gJoin))) gJoin))
def F_show_record (ad : Ad) : Fn := runF 3 (b_show_record ad)
theorem sc_show_record : FnScope ["record", "row", "part"] ["record"] (defScope s_show_record) := scB_ok (by kernel_rfl)
theorem ok_show_record (T : Tx P w K mg) : FnI P w K mg base 2 T.a_show_record T.fd_show_record ["record"] (F_show_record T.ad) := fn_I T.f_show_record sc_show_record (b_show_record T.ad) (fun cdv A outer s H E hr => by
  have hu := SK.hu_of hr
  have hu1 := SK.hu1_of hr
  have nd := (sc_show_record).nd
  have tk := takes_of (X := cxOf (L2.CX P w) P w K mg base ["record", "row", "part"] "show_record" (defScope s_show_record) T.a_show_record cdv A outer s H E) (E := E) rfl rfl rfl rfl
  have pso := passes_of (X := cxOf (L2.CX P w) P w K mg base ["record", "row", "part"] "show_record" (defScope s_show_record) T.a_show_record cdv A outer s H E) rfl
  exact is_one (is_ret (ir_of (ie_m1 PySem.F.slot_str_join PySem.F.type_str_join mt_join md_join (ie_str) (ie_frz (ir_lc (own := [("row", 1)]) (by exact rfl) nd (ii_lst (ie_var (pv 0))) (blkB_ok (by kernel_rfl)) (fun _ _ _ _ _ => ig_name (i := 1) nd (by exact rfl) (by first | exact .inl rfl | exact .inr rfl)) (fun _ _ _ _ _ => its_nil) (fun _ _ _ _ _ => ie_m1 PySem.F.slot_str_join PySem.F.type_str_join mt_join md_join (ie_str) (ie_frz (ir_lc (own := [("part", 2)]) (by exact rfl) nd (ii_tup (ie_var (pv 1))) (blkB_ok (by kernel_rfl)) (fun _ _ _ _ _ => ig_name (i := 2) nd (by exact rfl) (by first | exact .inl rfl | exact .inr rfl)) (fun _ _ _ _ _ => its_nil) (fun _ _ _ _ _ => ie_frz (ir_call (ok_part_text T) (hr.mono (by decide)) (by exact rfl) T.m_part_text T.k_part_text T.b_part_text SK.takes0 (ia_cons (ie_var (pv 2)) (ia_nil)) (al_cons (al_nil)))) (by decide)))) (by decide)))))))
/-! ### read_part -/
abbrev s_read_part : Stmt := top 23
def b_read_part (ad : Ad) : S :=
    sSeq (sIf (tAndI (eTest (e2 (eVar 1) (eA (aCons (eC (.str "a")) (aCons (eC (.str "w")) (aNil))) gTup) (gIn false))) (eTest (e2 (eVar 0) (eC (.str c_NOTHING)) gEq))) (sRet (eRet (eA (aCons (eC .non) (aNil)) gTup))) (sNil))
    (sSeq (sIf (eTest (e2 (eVar 1) (eC (.str "f")) gEq)) (sRet (eRet (eIf (eTest (e2 (eVar 0) (eC (.tup [.str "x", .str "y", .str "z"])) (gIn false))) (eA (aCons (eVar 0) (aNil)) gTup) (eA (aNil) gTup)))) (sNil))
    (sSeq (sSet 2 (eFrz (eCallK (aCons (eVar 0) (aNil)) (aCons (e2 (eVar 1) (eA (aCons (eC (.str "i")) (aCons (eC (.str "w")) (aNil))) gTup) (gIn false)) (aNil)) (F_read_integer ad))))
    (sSeq (sIf (tOrI (eTest (e2 (eVar 2) (eC .non) gIsN)) (tAndI (eTest (e2 (eVar 1) (eC (.str "d")) gEq)) (eTest (e2 (eVar 2) (e1 (eC (.adr ad.cKind)) (gCVal ad.cKind (.int 4))) gGe)))) (sRet (eRet (eA (aNil) gTup))) (sNil))
    (sRet (eRet (eA (aCons (eVar 2) (aNil)) gTup))))))
def F_read_part (ad : Ad) : Fn := runF 3 (b_read_part ad)
theorem sc_read_part : FnScope ["word", "form", "number"] ["word", "form"] (defScope s_read_part) := scB_ok (by kernel_rfl)
theorem ok_read_part (T : Tx P w K mg) : FnI P w K mg base 2 T.a_read_part T.fd_read_part ["word", "form"] (F_read_part T.ad) := fn_I T.f_read_part sc_read_part (b_read_part T.ad) (fun cdv A outer s H E hr => by
  have hu := SK.hu_of hr
  have hu1 := SK.hu1_of hr
  have nd := (sc_read_part).nd
  have tk := takes_of (X := cxOf (L2.CX P w) P w K mg base ["word", "form", "number"] "read_part" (defScope s_read_part) T.a_read_part cdv A outer s H E) (E := E) rfl rfl rfl rfl
  have pso := passes_of (X := cxOf (L2.CX P w) P w K mg base ["word", "form", "number"] "read_part" (defScope s_read_part) T.a_read_part cdv A outer s H E) rfl
  exact is_cons (is_if (iw_it (iw_and (it_cmp (opIn hu) od_inA (ie_var (pv 1)) (ie_tup (ia_cons (ie_str) (ia_cons (ie_str) (ia_nil)))) (by first | exact nobehind _ (by decide) (by decide) | rfl)) (iw_and1 (it_cmp (opEq hu) od_eq (ie_var (pv 0)) (ie_glob T.m_NOTHING (by exact rfl) T.r_NOTHING (fun _ _ => by exact rfl)) (by first | exact nobehind _ (by decide) (by decide) | rfl))))) (is_one (is_ret (ir_of (ie_tup (ia_cons (ie_non) (ia_nil)))))) (is_nil))
    (is_cons (is_if (it_cmp (opEq hu) od_eq (ie_var (pv 1)) (ie_str) (by first | exact nobehind _ (by decide) (by decide) | rfl)) (is_one (is_ret (ir_of (ie_if (it_cmp (opIn hu) od_inA (ie_var (pv 0)) (ie_glob (v := .ref T.t_FIELDS) T.m_FIELDS (by exact rfl) (by exact rfl) (fun μ m => T.rp_FIELDS μ m)) (by first | exact nobehind _ (by decide) (by decide) | rfl)) (ie_tup (ia_cons (ie_var (pv 0)) (ia_nil))) (ie_tup (ia_nil)))))) (is_nil))
    (is_cons (is_set (i := 2) nd (by exact rfl) (by first | exact .inl rfl | exact .inr rfl) (ie_frz (ir_callK (ok_read_integer T) (hr.mono (by decide)) (by exact rfl) T.m_read_integer T.k_read_integer T.kb_read_integer tk (ia_cons (ie_var (pv 0)) (ia_nil)) (ik_cons (ie_cmp (opIn hu) od_inA (ie_var (pv 1)) (ie_tup (ia_cons (ie_str) (ia_cons (ie_str) (ia_nil)))) (by first | exact nobehind _ (by decide) (by decide) | rfl)) (ik_nil)) (al_cons (al_nil)) (al_cons (al_nil)) (by exact rfl))))
    (is_cons (is_if (iw_it (iw_or (it_cmp op_isN od_isN (ie_var (pv 2)) (ie_non) (by first | exact nobehind _ (by decide) (by decide) | rfl)) (iw_or1 (iw_it (iw_and (it_cmp (opEq hu) od_eq (ie_var (pv 1)) (ie_str) (by first | exact nobehind _ (by decide) (by decide) | rfl)) (iw_and1 (it_cmp op_ge od_ge (ie_var (pv 2)) (ie_cval (ie_glob (v := .ref T.ad.cKind) T.m_Kind (by exact rfl) (by exact rfl) (fun _ _ => by exact rfl)) T.c_Kind T.v_Kind (fun _ _ => by exact rfl)) (by first | exact nobehind _ (by decide) (by decide) | rfl)))))))) (is_one (is_ret (ir_of (ie_tup (ia_nil))))) (is_nil))
    (is_one (is_ret (ir_of (ie_tup (ia_cons (ie_var (pv 2)) (ia_nil))))))))))
/-! ### read_row -/
abbrev s_read_row : Stmt := top 24
def b_read_row (ad : Ad) : S :=
    sSeq (sStar 1 2 (eM1 (eVar 0) (eC (.str " ")) gSplit))
    (sSeq (sIf (tOrI (eTest (e2 (eVar 1) (eC (.adr ad.dROWS)) (gInG true ad.dROWS rowsK))) (eTest (e2 (e1s (eVar 2) gLen) (e1s (e2 (eC (.adr ad.dROWS)) (eVar 1) (gIxG ad.dROWS rowsK)) gLen) gNe))) (sRet (eRet (eA (aNil) gTup))) (sNil))
    (sSeq (sSet 3 (eFrz (eLcO (wZip true (eVar 2) (e2 (eC (.adr ad.dROWS)) (eVar 1) (gIxG ad.dROWS rowsK))) [4, 5] (tgT 2 [tgN 4, tgN 5]) (tYesI) (eFrz (eCall (aCons (eVar 4) (aCons (eVar 5) (aNil))) (F_read_part ad))))))
    (sRet (eRet (eIf (eTest (e2 (eA (aNil) gTup) (eVar 3) (gIn false))) (eA (aNil) gTup) (eA (aCons (eVar 1) (aStar (eFrz (eLcO (wLst (eVar 3)) [6] (tgN 6) (tYesI) (e2s (eVar 6) (eC (.int 0)) gIxS))) (aNil))) gTup))))))
def F_read_row (ad : Ad) : Fn := runF 7 (b_read_row ad)
theorem sc_read_row : FnScope ["line", "first", "words", "parts", "word", "form", "part"] ["line"] (defScope s_read_row) := scB_ok (by kernel_rfl)
theorem ok_read_row (T : Tx P w K mg) : FnI P w K mg base 3 T.a_read_row T.fd_read_row ["line"] (F_read_row T.ad) := fn_I T.f_read_row sc_read_row (b_read_row T.ad) (fun cdv A outer s H E hr => by
  have hu := SK.hu_of hr
  have hu1 := SK.hu1_of hr
  have nd := (sc_read_row).nd
  have tk := takes_of (X := cxOf (L2.CX P w) P w K mg base ["line", "first", "words", "parts", "word", "form", "part"] "read_row" (defScope s_read_row) T.a_read_row cdv A outer s H E) (E := E) rfl rfl rfl rfl
  have pso := passes_of (X := cxOf (L2.CX P w) P w K mg base ["line", "first", "words", "parts", "word", "form", "part"] "read_row" (defScope s_read_row) T.a_read_row cdv A outer s H E) rfl
  exact is_cons (is_star (i := 1) (j := 2) (by exact rfl) nd (by exact rfl) (by exact rfl) (.inl (by exact rfl)) (.inl (by exact rfl)) (ie_m1 PySem.F.slot_str_split PySem.F.type_str_split mt_split md_split (ie_var (pv 0)) (ie_str)))
    (is_cons (is_if (iw_it (iw_or (it_cmp (op_ninG T.r_ROWS) (od_inG T.r_ROWS) (ie_var (pv 1)) (ie_glob (v := .ref T.ad.dROWS) T.m_ROWS (by exact rfl) (by exact rfl) (fun _ _ => by exact rfl)) (by first | exact nobehind _ (by decide) (by decide) | rfl)) (iw_or1 (it_cmp (opNe hu) od_ne (ie_len T.n_len (by exact rfl) (ie_var (pv 2))) (ie_len T.n_len (by exact rfl) (ie_ixG T.r_ROWS (ie_glob (v := .ref T.ad.dROWS) T.m_ROWS (by exact rfl) (by exact rfl) (fun _ _ => by exact rfl)) (ie_var (pv 1)) (fun _ _ => rfl))) (by first | exact nobehind _ (by decide) (by decide) | rfl))))) (is_one (is_ret (ir_of (ie_tup (ia_nil))))) (is_nil))
    (is_cons (is_setLcF (i := 3) (own := [("word", 4), ("form", 5)]) (by exact rfl) nd (by exact rfl) (by exact rfl) (by kernel_rfl) (ii_zipS T.n_zip (by exact rfl) (ie_var (pv 2)) (ie_ixG T.r_ROWS (ie_glob (v := .ref T.ad.dROWS) T.m_ROWS (by exact rfl) (by exact rfl) (fun _ _ => by exact rfl)) (ie_var (pv 1)) (fun _ _ => rfl))) (blkB_ok (by kernel_rfl)) (fun _ _ _ _ _ => ig_tup (by exact rfl) (igs_cons (ig_name (i := 4) nd (by exact rfl) (by first | exact .inl rfl | exact .inr rfl)) (igs_cons (ig_name (i := 5) nd (by exact rfl) (by first | exact .inl rfl | exact .inr rfl)) (igs_nil)))) (fun _ _ _ _ _ => its_nil) (fun _ _ _ _ _ => ie_frz (ir_call (ok_read_part T) (hr.mono (by decide)) (by exact rfl) T.m_read_part T.k_read_part T.b_read_part SK.takes0 (ia_cons (ie_var (pv 4)) (ia_cons (ie_var (pv 5)) (ia_nil))) (al_cons (al_cons (al_nil))))) (by decide))
    (is_one (is_ret (ir_of (ie_if (it_cmp (opIn hu) od_inA (ie_tup (ia_nil)) (ie_var (pv 3)) (by first | exact nobehind _ (by decide) (by decide) | rfl)) (ie_tup (ia_nil)) (ie_tup (ia_cons (ie_var (pv 1)) (ia_star (ie_frz (ir_lc (own := [("part", 6)]) (by exact rfl) nd (ii_lst (ie_var (pv 3))) (blkB_ok (by kernel_rfl)) (fun _ _ _ _ _ => ig_name (i := 6) nd (by exact rfl) (by first | exact .inl rfl | exact .inr rfl)) (fun _ _ _ _ _ => its_nil) (fun _ _ _ _ _ => ie_ixS (ie_var (pv 6)) (ie_int) (fun _ _ => rfl)) (by decide))) (ia_nil)))))))))))
/-! ### read_record -/
abbrev s_read_record : Stmt := top 25
def b_read_record (ad : Ad) : S :=
    sSeq (sIf (tNotI (eTest (e1s (eVar 0) (gIsi tb_str)))) (sRaise1 ad.cNoText "line" (e1 (eC (.int 1)) gNeg)) (sNil))
    (sSeq (sSetS 1 (rIf (eTest (e2 (eVar 0) (eC (.str "")) gNe)) (eLcO (wLst (eM1 (eVar 0) (eC (.str "\n")) gSplit)) [4] (tgN 4) (tYesI) (eFrz (eCall (aCons (eVar 4) (aNil)) (F_read_row ad)))) (eAR (aNil) gLstO)))
    (sSeq (sForE (eVar 1) (tgT 2 [tgN 2, tgN 3]) (sIf (eTest (e2 (eVar 3) (eA (aNil) gTup) gEq)) (sRaise1 ad.cNoText "line" (eVar 2)) (sNil)))
    (sRet (eRet (eVar 1)))))
def F_read_record (ad : Ad) : Fn := runF 5 (b_read_record ad)
theorem sc_read_record : FnScope ["text", "rows", "at", "row", "line"] ["text"] (defScope s_read_record) := scB_ok (by kernel_rfl)
theorem ok_read_record (T : Tx P w K mg) : FnI P w K mg base 4 T.a_read_record T.fd_read_record ["text"] (F_read_record T.ad) := fn_I T.f_read_record sc_read_record (b_read_record T.ad) (fun cdv A outer s H E hr => by
  have hu := SK.hu_of hr
  have hu1 := SK.hu1_of hr
  have nd := (sc_read_record).nd
  have tk := takes_of (X := cxOf (L2.CX P w) P w K mg base ["text", "rows", "at", "row", "line"] "read_record" (defScope s_read_record) T.a_read_record cdv A outer s H E) (E := E) rfl rfl rfl rfl
  have pso := passes_of (X := cxOf (L2.CX P w) P w K mg base ["text", "rows", "at", "row", "line"] "read_record" (defScope s_read_record) T.a_read_record cdv A outer s H E) rfl
  exact is_cons (is_if (it_not (it_val (ie_isi tb_str_ok T.n_isinstance (by exact rfl) T.n_str (by exact rfl) (by decide +kernel) (ie_var (pv 0))))) (is_one (is_raise1 (by exact rfl) tk (T.x_NoText base).oex (T.x_NoText base).init (T.x_NoText base).ty (T.x_NoText base).ok (hr.mono (by decide)) (T.x_NoText base).bi (by exact rfl) T.m_NoText (ie_neg (ie_int)))) (is_nil))
    (is_cons (is_setS (i := 1) nd (by exact rfl) (by first | exact .inl rfl | exact .inr rfl) (ir_if (it_cmp (opNe hu) od_ne (ie_var (pv 0)) (ie_str) (by first | exact nobehind _ (by decide) (by decide) | rfl)) (ir_lc (own := [("line", 4)]) (by exact rfl) nd (ii_lst (ie_m1 PySem.F.slot_str_split PySem.F.type_str_split mt_split md_split (ie_var (pv 0)) (ie_str))) (blkB_ok (by kernel_rfl)) (fun _ _ _ _ _ => ig_name (i := 4) nd (by exact rfl) (by first | exact .inl rfl | exact .inr rfl)) (fun _ _ _ _ _ => its_nil) (fun _ _ _ _ _ => ie_frz (ir_call (ok_read_row T) (hr.mono (by decide)) (by exact rfl) T.m_read_row T.k_read_row T.b_read_row SK.takes0 (ia_cons (ie_var (pv 4)) (ia_nil)) (al_cons (al_nil)))) (by decide)) (ir_lst (ia_nil))))
    (is_cons (is_forE pso (by exact rfl) T.n_enumerate (by exact rfl) (ie_var (pv 1)) (ig_tup (by exact rfl) (igs_cons (ig_name (i := 2) nd (by exact rfl) (by first | exact .inl rfl | exact .inr rfl)) (igs_cons (ig_name (i := 3) nd (by exact rfl) (by first | exact .inl rfl | exact .inr rfl)) (igs_nil)))) (is_one (is_if (it_cmp (opEq hu) od_eq (ie_var (pv 3)) (ie_tup (ia_nil)) (by first | exact nobehind _ (by decide) (by decide) | rfl)) (is_one (is_raise1 (by exact rfl) tk (T.x_NoText base).oex (T.x_NoText base).init (T.x_NoText base).ty (T.x_NoText base).ok (hr.mono (by decide)) (T.x_NoText base).bi (by exact rfl) T.m_NoText (ie_var (pv 2)))) (is_nil))))
    (is_one (is_ret (ir_of (ie_var (pv 1))))))))
/-! ### law_bag -/
abbrev s_law_bag : Stmt := top 27
def b_law_bag (ad : Ad) : S :=
    sSeq (sSet 2 (eIf (eTest (e2 (eVar 1) (e1s (eVar 0) gLen) gLt)) (e2s (eVar 0) (eVar 1) gIxS) (eC (.int 0))))
    (sSeq (sSet 3 (eIf (eTest (e2 (eA (aCons (eVar 2) (aNil)) gAbs) (e2 (eC (.int 10)) (eC (.int 18)) gPow) gGe)) (eA (aCons (eVar 2) (aNil)) gAbs) (eC (.int 0))))
    (sRet (eAR (aCons (eVar 3) (aCons (e2 (e2 (e2 (e2 (e2 (eVar 2) (eC (.int 2305843009213693951)) gMod) (e2 (eC (.int 4099)) (eVar 1) gMul) gAdd) (eC (.int 57)) gAdd) (eC (.int 6700417)) gMul) (eC (.int 2305843009213693951)) gMod) (aCons (eC (.int 0)) (aNil)))) gLstO)))
def F_law_bag (ad : Ad) : Fn := runF 4 (b_law_bag ad)
theorem sc_law_bag : FnScope ["_law_script", "_law_at", "_law_cell", "_law_digits"] ["_law_script", "_law_at"] (defScope s_law_bag) := scB_ok (by kernel_rfl)
theorem ok_law_bag (T : Tx P w K mg) : FnI P w K mg base 1 T.a_law_bag T.fd_law_bag ["_law_script", "_law_at"] (F_law_bag T.ad) := fn_I T.f_law_bag sc_law_bag (b_law_bag T.ad) (fun cdv A outer s H E hr => by
  have hu := SK.hu_of hr
  have hu1 := SK.hu1_of hr
  have nd := (sc_law_bag).nd
  have tk := takes_of (X := cxOf (L2.CX P w) P w K mg base ["_law_script", "_law_at", "_law_cell", "_law_digits"] "_law_bag" (defScope s_law_bag) T.a_law_bag cdv A outer s H E) (E := E) rfl rfl rfl rfl
  have pso := passes_of (X := cxOf (L2.CX P w) P w K mg base ["_law_script", "_law_at", "_law_cell", "_law_digits"] "_law_bag" (defScope s_law_bag) T.a_law_bag cdv A outer s H E) rfl
  exact is_cons (is_set (i := 2) nd (by exact rfl) (by first | exact .inl rfl | exact .inr rfl) (ie_if (it_cmp op_lt od_lt (ie_var (pv 1)) (ie_len T.n_len (by exact rfl) (ie_var (pv 0))) (by first | exact nobehind _ (by decide) (by decide) | rfl)) (ie_ixS (ie_var (pv 0)) (ie_var (pv 1)) (fun _ _ => rfl)) (ie_int)))
    (is_cons (is_set (i := 3) nd (by exact rfl) (by first | exact .inl rfl | exact .inr rfl) (ie_if (it_cmp op_ge od_ge (ie_callB call_abs cd_abs (by exact rfl) T.n_abs (by decide +kernel) (ia_cons (ie_var (pv 2)) (ia_nil))) (ie_op op_pow od_pow (ie_int) (ie_int)) (by first | exact nobehind _ (by decide) (by decide) | rfl)) (ie_callB call_abs cd_abs (by exact rfl) T.n_abs (by decide +kernel) (ia_cons (ie_var (pv 2)) (ia_nil))) (ie_int)))
    (is_one (is_ret (ir_lst (ia_cons (ie_var (pv 3)) (ia_cons (ie_op op_mod od_mod (ie_op op_mulA od_mulA (ie_op op_addA od_addA (ie_op op_addA od_addA (ie_op op_mod od_mod (ie_var (pv 2)) (ie_int)) (ie_op op_mulA od_mulA (ie_int) (ie_var (pv 1)))) (ie_int)) (ie_int)) (ie_int)) (ia_cons (ie_int) (ia_nil)))))))))
/-! ### law_take -/
abbrev s_law_take : Stmt := top 28
def b_law_take (ad : Ad) : S :=
    sSeq (sIf (eTest (e2 (e2s (eVar 0) (eC (.int 0)) gIxS) (eC (.int 0)) gGt)) (sSeq (sSet 2 (e2 (e2s (eVar 0) (eC (.int 0)) gIxS) (eVar 1) gMod))
    (sSeq (sSubS (eVar 0) (eC (.int 0)) (e2 (e2s (eVar 0) (eC (.int 0)) gIxS) (eVar 1) gDiv))
    (sRet (eRet (eVar 2))))) (sNil))
    (sSeq (sSubS (eVar 0) (eC (.int 2)) (e2 (e2s (eVar 0) (eC (.int 2)) gIxS) (eC (.int 1)) gAdd))
    (sSeq (sSet 3 (e2 (e2 (e2 (e2s (eVar 0) (eC (.int 1)) gIxS) (e2 (eC (.int 1000003)) (e2s (eVar 0) (eC (.int 2)) gIxS) gMul) gAdd) (eC (.int 3)) gPow) (eC (.int 2305843009213693921)) gMod))
    (sSeq (sSet 3 (e2 (e2 (e2 (eVar 3) (e2 (eC (.int 32452843)) (e2s (eVar 0) (eC (.int 2)) gIxS) gMul) gAdd) (eC (.int 2)) gPow) (eC (.int 2305843009213693951)) gMod))
    (sRet (eRet (e2 (e2 (eVar 3) (eC (.int 1024)) gDiv) (eVar 1) gMod))))))
def F_law_take (ad : Ad) : Fn := runF 4 (b_law_take ad)
theorem sc_law_take : FnScope ["_law_bag_here", "_law_many", "_law_digit", "_law_mixed"] ["_law_bag_here", "_law_many"] (defScope s_law_take) := scB_ok (by kernel_rfl)
theorem ok_law_take (T : Tx P w K mg) : FnI P w K mg base 1 T.a_law_take T.fd_law_take ["_law_bag_here", "_law_many"] (F_law_take T.ad) := fn_I T.f_law_take sc_law_take (b_law_take T.ad) (fun cdv A outer s H E hr => by
  have hu := SK.hu_of hr
  have hu1 := SK.hu1_of hr
  have nd := (sc_law_take).nd
  have tk := takes_of (X := cxOf (L2.CX P w) P w K mg base ["_law_bag_here", "_law_many", "_law_digit", "_law_mixed"] "_law_take" (defScope s_law_take) T.a_law_take cdv A outer s H E) (E := E) rfl rfl rfl rfl
  have pso := passes_of (X := cxOf (L2.CX P w) P w K mg base ["_law_bag_here", "_law_many", "_law_digit", "_law_mixed"] "_law_take" (defScope s_law_take) T.a_law_take cdv A outer s H E) rfl
  exact is_cons (is_if (it_cmp op_gt od_gt (ie_ixS (ie_var (pv 0)) (ie_int) (fun _ _ => rfl)) (ie_int) (by first | exact nobehind _ (by decide) (by decide) | rfl)) (is_cons (is_set (i := 2) nd (by exact rfl) (by first | exact .inl rfl | exact .inr rfl) (ie_op op_mod od_mod (ie_ixS (ie_var (pv 0)) (ie_int) (fun _ _ => rfl)) (ie_var (pv 1))))
    (is_cons (is_subS (ie_var (pv 0)) (ie_int) (ie_op op_fdivW od_div (ie_ixS (ie_var (pv 0)) (ie_int) (fun _ _ => rfl)) (ie_var (pv 1))))
    (is_one (is_ret (ir_of (ie_var (pv 2))))))) (is_nil))
    (is_cons (is_subS (ie_var (pv 0)) (ie_int) (ie_op op_addA od_addA (ie_ixS (ie_var (pv 0)) (ie_int) (fun _ _ => rfl)) (ie_int)))
    (is_cons (is_set (i := 3) nd (by exact rfl) (by first | exact .inl rfl | exact .inr rfl) (ie_op op_mod od_mod (ie_op op_pow od_pow (ie_op op_addA od_addA (ie_ixS (ie_var (pv 0)) (ie_int) (fun _ _ => rfl)) (ie_op op_mulA od_mulA (ie_int) (ie_ixS (ie_var (pv 0)) (ie_int) (fun _ _ => rfl)))) (ie_int)) (ie_int)))
    (is_cons (is_set (i := 3) nd (by exact rfl) (by first | exact .inl rfl | exact .inr rfl) (ie_op op_mod od_mod (ie_op op_pow od_pow (ie_op op_addA od_addA (ie_var (pv 3)) (ie_op op_mulA od_mulA (ie_int) (ie_ixS (ie_var (pv 0)) (ie_int) (fun _ _ => rfl)))) (ie_int)) (ie_int)))
    (is_one (is_ret (ir_of (ie_op op_mod od_mod (ie_op op_fdivW od_div (ie_var (pv 3)) (ie_int)) (ie_var (pv 1))))))))))
/-! ### law_of -/
abbrev s_law_of : Stmt := top 29
def b_law_of (ad : Ad) : S :=
    sRet (eRet (e2s (eVar 1) (eFrz (eCall (aCons (eVar 0) (aCons (e1s (eVar 1) gLen) (aNil))) (F_law_take ad))) gIxS))
def F_law_of (ad : Ad) : Fn := runF 2 (b_law_of ad)
theorem sc_law_of : FnScope ["_law_bag_here", "_law_some"] ["_law_bag_here", "_law_some"] (defScope s_law_of) := scB_ok (by kernel_rfl)
theorem ok_law_of (T : Tx P w K mg) : FnI P w K mg base 2 T.a_law_of T.fd_law_of ["_law_bag_here", "_law_some"] (F_law_of T.ad) := fn_I T.f_law_of sc_law_of (b_law_of T.ad) (fun cdv A outer s H E hr => by
  have hu := SK.hu_of hr
  have hu1 := SK.hu1_of hr
  have nd := (sc_law_of).nd
  have tk := takes_of (X := cxOf (L2.CX P w) P w K mg base ["_law_bag_here", "_law_some"] "_law_of" (defScope s_law_of) T.a_law_of cdv A outer s H E) (E := E) rfl rfl rfl rfl
  have pso := passes_of (X := cxOf (L2.CX P w) P w K mg base ["_law_bag_here", "_law_some"] "_law_of" (defScope s_law_of) T.a_law_of cdv A outer s H E) rfl
  exact is_one (is_ret (ir_of (ie_ixS (ie_var (pv 1)) (ie_frz (ir_call (ok_law_take T) (hr.mono (by decide)) (by exact rfl) T.m_law_take T.k_law_take T.b_law_take tk (ia_cons (ie_var (pv 0)) (ia_cons (ie_len T.n_len (by exact rfl) (ie_var (pv 1))) (ia_nil))) (al_cons (al_cons (al_nil))))) (fun _ _ => rfl)))))
/-! ### law_bent_lines -/
abbrev s_law_bent_lines : Stmt := top 30
def b_law_bent_lines (ad : Ad) : S :=
    sSeq (sPar3 2 3 4 (aCons (eFrz (eCall (aCons (eVar 0) (aCons (e1s (eVar 1) gLen) (aNil))) (F_law_take ad))) (aCons (eFrz (eCall (aCons (eVar 0) (aCons (e1s (eVar 1) gLen) (aNil))) (F_law_take ad))) (aCons (eFrz (eCall (aCons (eVar 0) (aCons (eC (.int 9)) (aNil))) (F_law_take ad))) (aNil)))))
    (sSeq (sParO 5 6 (eListA (eVar 1)) (e2s (eVar 1) (eVar 2) gIxS))
    (sSeq (sSet 7 (eFrz (eCall (aCons (eVar 0) (aCons (e2 (e1s (eVar 6) gLen) (eC (.int 1)) gAdd) (aNil))) (F_law_take ad))))
    (sSeq (sSet 8 (eFrz (eCall (aCons (eVar 0) (aCons (e2 (eFrz (eListA (eC (.str " 0123456789-xyzabkn")))) (eA (aCons (eC (.str "frozen")) (aCons (eC (.str " frozen")) (aCons (eC (.str "none")) (aNil)))) gLst) gAdd) (aNil))) (F_law_of ad))))
    (sSeq (sIf (eTest (e2 (eVar 4) (eC (.int 0)) gEq)) (sSeq (sSwp 5 (eA (aCons (eIxO 5 (eVar 3)) (aCons (eIxO 5 (eVar 2)) (aNil))) gTup) (eVar 2) (eVar 3))
    (sRetO 5)) (sNil))
    (sSeq (sIf (tAndI (eTest (e2 (eVar 4) (eC (.int 1)) gEq)) (eTest (e2 (eLenO 5) (eC (.int 1)) gGt))) (sFrz 5 (sRet (eRet (e2 (eSl (eVar 5) (oNone) (oSome (eVar 2))) (eSl (eVar 5) (oSome (e2 (eVar 2) (eC (.int 1)) gAdd)) (oNone)) gAdd)))) (sNil))
    (sSeq (sIf (eTest (e2 (eVar 4) (eC (.int 2)) gEq)) (sFrz 5 (sRet (eRet (e2 (e2 (eSl (eVar 5) (oNone) (oSome (eVar 2))) (eA (aCons (eVar 6) (aNil)) gLst) gAdd) (eSl (eVar 5) (oSome (eVar 2)) (oNone)) gAdd)))) (sNil))
    (sSeq (sSubO 5 (eVar 2) (e2 (e2 (eSl (eVar 6) (oNone) (oSome (eVar 7))) (eVar 8) gAdd) (eSl (eVar 6) (oSome (e2 (eVar 7) (eA (aCons (e2 (eVar 4) (eC (.int 6)) gGt) (aNil)) gIntA) gAdd)) (oNone)) gAdd))
    (sSeq (sIf (eTest (e2 (eVar 4) (eC (.int 3)) gEq)) (sSubO 5 (eVar 2) (e2 (eVar 6) (e2s (eA (aCons (eC (.str " ")) (aCons (eC (.str "\n")) (aCons (eC (.str " 0")) (aCons (eC (.str " frozen")) (aCons (eC (.str " none")) (aCons (eC (.str "  ")) (aNil))))))) gLst) (eFrz (eCall (aCons (eVar 0) (aCons (eC (.int 6)) (aNil))) (F_law_take ad))) gIxS) gAdd)) (sNil))
    (sSeq (sIf (eTest (e2 (eVar 4) (eC (.int 4)) gEq)) (sSubO 5 (eVar 2) (e2 (eSl (eVar 6) (oNone) (oSome (eVar 7))) (eSl (eVar 6) (oSome (e2 (eVar 7) (eC (.int 1)) gAdd)) (oNone)) gAdd)) (sNil))
    (sRetO 5))))))))))
def F_law_bent_lines (ad : Ad) : Fn := runF 9 (b_law_bent_lines ad)
theorem sc_law_bent_lines : FnScope ["_law_bag_here", "_law_lines", "_law_at", "_law_other", "_law_way", "_law_some", "_law_line", "_law_spot", "_law_sign"] ["_law_bag_here", "_law_lines"] (defScope s_law_bent_lines) := scB_ok (by kernel_rfl)
theorem ok_law_bent_lines (T : Tx P w K mg) : FnI P w K mg base 3 T.a_law_bent_lines T.fd_law_bent_lines ["_law_bag_here", "_law_lines"] (F_law_bent_lines T.ad) := fn_I T.f_law_bent_lines sc_law_bent_lines (b_law_bent_lines T.ad) (fun cdv A outer s H E hr => by
  have hu := SK.hu_of hr
  have hu1 := SK.hu1_of hr
  have nd := (sc_law_bent_lines).nd
  have tk := takes_of (X := cxOf (L2.CX P w) P w K mg base ["_law_bag_here", "_law_lines", "_law_at", "_law_other", "_law_way", "_law_some", "_law_line", "_law_spot", "_law_sign"] "_law_bent_lines" (defScope s_law_bent_lines) T.a_law_bent_lines cdv A outer s H E) (E := E) rfl rfl rfl rfl
  have pso := passes_of (X := cxOf (L2.CX P w) P w K mg base ["_law_bag_here", "_law_lines", "_law_at", "_law_other", "_law_way", "_law_some", "_law_line", "_law_spot", "_law_sign"] "_law_bent_lines" (defScope s_law_bent_lines) T.a_law_bent_lines cdv A outer s H E) rfl
  exact is_cons (is_par3 (i := 2) (j := 3) (l := 4) (by exact rfl) nd (by exact rfl) (by exact rfl) (by exact rfl) (by decide) (by decide) (by decide) (by exact rfl) (by exact rfl) (by exact rfl) (ia_cons (ie_frz (ir_call (ok_law_take T) (hr.mono (by decide)) (by exact rfl) T.m_law_take T.k_law_take T.b_law_take tk (ia_cons (ie_var (pv 0)) (ia_cons (ie_len T.n_len (by exact rfl) (ie_var (pv 1))) (ia_nil))) (al_cons (al_cons (al_nil))))) (ia_cons (ie_frz (ir_call (ok_law_take T) (hr.mono (by decide)) (by exact rfl) T.m_law_take T.k_law_take T.b_law_take tk (ia_cons (ie_var (pv 0)) (ia_cons (ie_len T.n_len (by exact rfl) (ie_var (pv 1))) (ia_nil))) (al_cons (al_cons (al_nil))))) (ia_cons (ie_frz (ir_call (ok_law_take T) (hr.mono (by decide)) (by exact rfl) T.m_law_take T.k_law_take T.b_law_take tk (ia_cons (ie_var (pv 0)) (ia_cons (ie_int) (ia_nil))) (al_cons (al_cons (al_nil))))) (ia_nil)))) (by kernel_rfl))
    (is_cons (is_parO (i := 5) (j := 6) (by exact rfl) nd (by exact rfl) (by exact rfl) (by decide) (by exact rfl) (by exact rfl) (ir_listA (by exact rfl) T.n_list (by exact rfl) (ie_var (pv 1))) (ie_ixS (ie_var (pv 1)) (ie_var (pv 2)) (fun _ _ => rfl)) (by kernel_rfl))
    (is_cons (is_set (i := 7) nd (by exact rfl) (by first | exact .inl rfl | exact .inr rfl) (ie_frz (ir_call (ok_law_take T) (hr.mono (by decide)) (by exact rfl) T.m_law_take T.k_law_take T.b_law_take tk (ia_cons (ie_var (pv 0)) (ia_cons (ie_op op_addA od_addA (ie_len T.n_len (by exact rfl) (ie_var (pv 6))) (ie_int)) (ia_nil))) (al_cons (al_cons (al_nil))))))
    (is_cons (is_set (i := 8) nd (by exact rfl) (by first | exact .inl rfl | exact .inr rfl) (ie_frz (ir_call (ok_law_of T) (hr.mono (by decide)) (by exact rfl) T.m_law_of T.k_law_of T.b_law_of tk (ia_cons (ie_var (pv 0)) (ia_cons (ie_op op_addA od_addA (ie_frz (ir_listA (by exact rfl) T.n_list (by exact rfl) (ie_str))) (ie_lst (ia_cons (ie_str) (ia_cons (ie_str) (ia_cons (ie_str) (ia_nil)))))) (ia_nil))) (al_cons (al_cons (al_nil))))))
    (is_cons (is_if (it_cmp (opEq hu) od_eq (ie_var (pv 4)) (ie_int) (by first | exact nobehind _ (by decide) (by decide) | rfl)) (is_cons (is_swp (by exact rfl) (pv 5) (ie_var (pv 2)) (pv 5) (ie_var (pv 3)) (ie_tup (ia_cons (ie_ixO (pv 5) (ie_var (pv 3)) (fun _ _ => rfl)) (ia_cons (ie_ixO (pv 5) (ie_var (pv 2)) (fun _ _ => rfl)) (ia_nil)))))
    (is_one (is_retO (pv 5)))) (is_nil))
    (is_cons (is_if (iw_it (iw_and (it_cmp (opEq hu) od_eq (ie_var (pv 4)) (ie_int) (by first | exact nobehind _ (by decide) (by decide) | rfl)) (iw_and1 (it_cmp op_gt od_gt (ie_lenO T.n_len (by exact rfl) (pv 5)) (ie_int) (by first | exact nobehind _ (by decide) (by decide) | rfl))))) (is_one (is_frz 5 (is_ret (ir_of (ie_op op_addA od_addA (ie_sl (ie_var (pv 5)) (io_none) (io_some (ie_var (pv 2)))) (ie_sl (ie_var (pv 5)) (io_some (ie_op op_addA od_addA (ie_var (pv 2)) (ie_int))) (io_none))))))) (is_nil))
    (is_cons (is_if (it_cmp (opEq hu) od_eq (ie_var (pv 4)) (ie_int) (by first | exact nobehind _ (by decide) (by decide) | rfl)) (is_one (is_frz 5 (is_ret (ir_of (ie_op op_addA od_addA (ie_op op_addA od_addA (ie_sl (ie_var (pv 5)) (io_none) (io_some (ie_var (pv 2)))) (ie_lst (ia_cons (ie_var (pv 6)) (ia_nil)))) (ie_sl (ie_var (pv 5)) (io_some (ie_var (pv 2))) (io_none))))))) (is_nil))
    (is_cons (is_subO (pv 5) (ie_var (pv 2)) (ie_op op_addA od_addA (ie_op op_addA od_addA (ie_sl (ie_var (pv 6)) (io_none) (io_some (ie_var (pv 7)))) (ie_var (pv 8))) (ie_sl (ie_var (pv 6)) (io_some (ie_op op_addA od_addA (ie_var (pv 7)) (ie_callTy call_intA cd_intA (by exact rfl) T.n_int (by decide +kernel) (ia_cons (ie_cmp op_gt od_gt (ie_var (pv 4)) (ie_int) (by first | exact nobehind _ (by decide) (by decide) | rfl)) (ia_nil))))) (io_none))))
    (is_cons (is_if (it_cmp (opEq hu) od_eq (ie_var (pv 4)) (ie_int) (by first | exact nobehind _ (by decide) (by decide) | rfl)) (is_one (is_subO (pv 5) (ie_var (pv 2)) (ie_op op_addA od_addA (ie_var (pv 6)) (ie_ixS (ie_lst (ia_cons (ie_str) (ia_cons (ie_str) (ia_cons (ie_str) (ia_cons (ie_str) (ia_cons (ie_str) (ia_cons (ie_str) (ia_nil)))))))) (ie_frz (ir_call (ok_law_take T) (hr.mono (by decide)) (by exact rfl) T.m_law_take T.k_law_take T.b_law_take tk (ia_cons (ie_var (pv 0)) (ia_cons (ie_int) (ia_nil))) (al_cons (al_cons (al_nil))))) (fun _ _ => rfl))))) (is_nil))
    (is_cons (is_if (it_cmp (opEq hu) od_eq (ie_var (pv 4)) (ie_int) (by first | exact nobehind _ (by decide) (by decide) | rfl)) (is_one (is_subO (pv 5) (ie_var (pv 2)) (ie_op op_addA od_addA (ie_sl (ie_var (pv 6)) (io_none) (io_some (ie_var (pv 7)))) (ie_sl (ie_var (pv 6)) (io_some (ie_op op_addA od_addA (ie_var (pv 7)) (ie_int))) (io_none))))) (is_nil))
    (is_one (is_retO (pv 5)))))))))))))
/-! ### law_integer_of -/
abbrev s_law_integer_of : Stmt := top 31
def b_law_integer_of (ad : Ad) : S :=
    sSeq (sSet 2 (eA (aCons (eC (.int 0)) (aCons (eC (.int 1)) (aCons (eC (.int 7)) (aCons (eC (.int 10)) (aCons (e2 (e2 (eC (.int 10)) (eC (.int 20)) gPow) (eC (.int 1)) gSub) (aCons (e2 (eC (.int 1)) (e2 (eC (.int 10)) (eC (.int 20)) gPow) gSub) (aCons (e1 (eC (.int 1)) gNeg) (aCons (eFrz (eCall (aCons (eVar 0) (aCons (e2 (eC (.int 10)) (eC (.int 20)) gPow) (aNil))) (F_law_take ad))) (aCons (e2 (eC (.int 0)) (eFrz (eCall (aCons (eVar 0) (aCons (eVar 1) (aNil))) (F_law_take ad))) gSub) (aNil)))))))))) gLst))
    (sRet (eCall (aCons (eVar 0) (aCons (e2 (eVar 2) (e2 (eA (aCons (eFrz (eCall (aCons (eVar 0) (aCons (eVar 1) (aNil))) (F_law_take ad))) (aNil)) gLst) (eC (.int 5)) gMul) gAdd) (aNil))) (F_law_of ad)))
def F_law_integer_of (ad : Ad) : Fn := runF 3 (b_law_integer_of ad)
theorem sc_law_integer_of : FnScope ["_law_bag_here", "_law_most", "_law_some"] ["_law_bag_here", "_law_most"] (defScope s_law_integer_of) := scB_ok (by kernel_rfl)
theorem ok_law_integer_of (T : Tx P w K mg) : FnI P w K mg base 3 T.a_law_integer_of T.fd_law_integer_of ["_law_bag_here", "_law_most"] (F_law_integer_of T.ad) := fn_I T.f_law_integer_of sc_law_integer_of (b_law_integer_of T.ad) (fun cdv A outer s H E hr => by
  have hu := SK.hu_of hr
  have hu1 := SK.hu1_of hr
  have nd := (sc_law_integer_of).nd
  have tk := takes_of (X := cxOf (L2.CX P w) P w K mg base ["_law_bag_here", "_law_most", "_law_some"] "_law_integer_of" (defScope s_law_integer_of) T.a_law_integer_of cdv A outer s H E) (E := E) rfl rfl rfl rfl
  have pso := passes_of (X := cxOf (L2.CX P w) P w K mg base ["_law_bag_here", "_law_most", "_law_some"] "_law_integer_of" (defScope s_law_integer_of) T.a_law_integer_of cdv A outer s H E) rfl
  exact is_cons (is_set (i := 2) nd (by exact rfl) (by first | exact .inl rfl | exact .inr rfl) (ie_lst (ia_cons (ie_int) (ia_cons (ie_int) (ia_cons (ie_int) (ia_cons (ie_int) (ia_cons (ie_op op_sub od_sub (ie_op op_pow od_pow (ie_int) (ie_int)) (ie_int)) (ia_cons (ie_op op_sub od_sub (ie_int) (ie_op op_pow od_pow (ie_int) (ie_int))) (ia_cons (ie_neg (ie_int)) (ia_cons (ie_frz (ir_call (ok_law_take T) (hr.mono (by decide)) (by exact rfl) T.m_law_take T.k_law_take T.b_law_take tk (ia_cons (ie_var (pv 0)) (ia_cons (ie_op op_pow od_pow (ie_int) (ie_int)) (ia_nil))) (al_cons (al_cons (al_nil))))) (ia_cons (ie_op op_sub od_sub (ie_int) (ie_frz (ir_call (ok_law_take T) (hr.mono (by decide)) (by exact rfl) T.m_law_take T.k_law_take T.b_law_take tk (ia_cons (ie_var (pv 0)) (ia_cons (ie_var (pv 1)) (ia_nil))) (al_cons (al_cons (al_nil)))))) (ia_nil))))))))))))
    (is_one (is_ret (ir_call (ok_law_of T) (hr.mono (by decide)) (by exact rfl) T.m_law_of T.k_law_of T.b_law_of tk (ia_cons (ie_var (pv 0)) (ia_cons (ie_op op_addA od_addA (ie_var (pv 2)) (ie_op op_mulA od_mulA (ie_lst (ia_cons (ie_frz (ir_call (ok_law_take T) (hr.mono (by decide)) (by exact rfl) T.m_law_take T.k_law_take T.b_law_take tk (ia_cons (ie_var (pv 0)) (ia_cons (ie_var (pv 1)) (ia_nil))) (al_cons (al_cons (al_nil))))) (ia_nil))) (ie_int))) (ia_nil))) (al_cons (al_cons (al_nil)))))))
/-! ### law_record_row -/
abbrev s_law_record_row : Stmt := top 32
def b_law_record_row (ad : Ad) : S :=
    sSeq (sPar 1 2 (aCons (eFrz (eCall (aCons (eVar 0) (aCons (e2s (eA (aCons (eC (.int 4)) (aCons (eC (.int 20)) (aCons (e2 (eC (.int 10)) (eC (.int 20)) gPow) (aNil)))) gLst) (eFrz (eCall (aCons (eVar 0) (aCons (eC (.int 3)) (aNil))) (F_law_take ad))) gIxS) (aNil))) (F_law_take ad))) (aCons (eFrz (eCall (aCons (eVar 0) (aCons (eA (aCons (eC .non) (aCons (eC (.int 0)) (aCons (eC (.int 1)) (aCons (e2 (e2 (eC (.int 10)) (eC (.int 20)) gPow) (eC (.int 1)) gSub) (aCons (eC (.int 12)) (aNil)))))) gLst) (aNil))) (F_law_of ad))) (aNil))))
    (sSeq (sSet 3 (eFrz (eCall (aCons (eVar 0) (aCons (eA (aCons (eC (.str "change")) (aCons (eC (.str "lookup")) (aCons (eC (.str "read")) (aCons (eC (.str "put")) (aCons (eC (.str "take")) (aCons (eC (.str "lay")) (aNil))))))) gLst) (aNil))) (F_law_of ad))))
    (sSeq (sIf (eTest (e2 (eVar 3) (eC (.str "change")) gEq)) (sRet (eRet (eA (aCons (eVar 3) (aCons (eVar 1) (aCons (eFrz (eCall (aCons (eVar 0) (aCons (eA (aCons (eC (.str "x")) (aCons (eC (.str "y")) (aCons (eC (.str "z")) (aNil)))) gLst) (aNil))) (F_law_of ad))) (aCons (eFrz (eCall (aCons (eVar 0) (aCons (eC (.int 4)) (aNil))) (F_law_take ad))) (aNil))))) gTup))) (sNil))
    (sSeq (sIf (eTest (e2 (eVar 3) (eC (.str "put")) gEq)) (sRet (eRet (eA (aCons (eVar 3) (aCons (eVar 1) (aCons (eFrz (eCall (aCons (eVar 0) (aCons (eC (.int 40)) (aNil))) (F_law_integer_of ad))) (aCons (eFrz (eCall (aCons (eVar 0) (aCons (e2 (eC (.int 10)) (eC (.int 20)) gPow) (aNil))) (F_law_take ad))) (aNil))))) gTup))) (sNil))
    (sSeq (sIf (eTest (e2 (eVar 3) (eC (.str "read")) gEq)) (sRet (eRet (eA (aCons (eVar 3) (aCons (eVar 1) (aCons (eFrz (eCall (aCons (eVar 0) (aCons (eA (aCons (eC .non) (aCons (eFrz (eCall (aCons (eVar 0) (aCons (eC (.int 40)) (aNil))) (F_law_integer_of ad))) (aNil))) gLst) (aNil))) (F_law_of ad))) (aNil)))) gTup))) (sNil))
    (sRet (eRet (eIf (eTest (e2 (eVar 3) (eC (.str "lay")) gEq)) (eA (aCons (eC (.str "lay")) (aNil)) gTup) (eA (aCons (eVar 3) (aCons (eVar 1) (aCons (eVar 2) (aNil)))) gTup))))))))
def F_law_record_row (ad : Ad) : Fn := runF 4 (b_law_record_row ad)
theorem sc_law_record_row : FnScope ["_law_bag_here", "_law_number", "_law_entry", "_law_word"] ["_law_bag_here"] (defScope s_law_record_row) := scB_ok (by kernel_rfl)
theorem ok_law_record_row (T : Tx P w K mg) : FnI P w K mg base 4 T.a_law_record_row T.fd_law_record_row ["_law_bag_here"] (F_law_record_row T.ad) := fn_I T.f_law_record_row sc_law_record_row (b_law_record_row T.ad) (fun cdv A outer s H E hr => by
  have hu := SK.hu_of hr
  have hu1 := SK.hu1_of hr
  have nd := (sc_law_record_row).nd
  have tk := takes_of (X := cxOf (L2.CX P w) P w K mg base ["_law_bag_here", "_law_number", "_law_entry", "_law_word"] "_law_record_row" (defScope s_law_record_row) T.a_law_record_row cdv A outer s H E) (E := E) rfl rfl rfl rfl
  have pso := passes_of (X := cxOf (L2.CX P w) P w K mg base ["_law_bag_here", "_law_number", "_law_entry", "_law_word"] "_law_record_row" (defScope s_law_record_row) T.a_law_record_row cdv A outer s H E) rfl
  exact is_cons (is_par (i := 1) (j := 2) (by exact rfl) nd (by exact rfl) (by exact rfl) (by decide) (by exact rfl) (by exact rfl) (ia_cons (ie_frz (ir_call (ok_law_take T) (hr.mono (by decide)) (by exact rfl) T.m_law_take T.k_law_take T.b_law_take tk (ia_cons (ie_var (pv 0)) (ia_cons (ie_ixS (ie_lst (ia_cons (ie_int) (ia_cons (ie_int) (ia_cons (ie_op op_pow od_pow (ie_int) (ie_int)) (ia_nil))))) (ie_frz (ir_call (ok_law_take T) (hr.mono (by decide)) (by exact rfl) T.m_law_take T.k_law_take T.b_law_take tk (ia_cons (ie_var (pv 0)) (ia_cons (ie_int) (ia_nil))) (al_cons (al_cons (al_nil))))) (fun _ _ => rfl)) (ia_nil))) (al_cons (al_cons (al_nil))))) (ia_cons (ie_frz (ir_call (ok_law_of T) (hr.mono (by decide)) (by exact rfl) T.m_law_of T.k_law_of T.b_law_of tk (ia_cons (ie_var (pv 0)) (ia_cons (ie_lst (ia_cons (ie_non) (ia_cons (ie_int) (ia_cons (ie_int) (ia_cons (ie_op op_sub od_sub (ie_op op_pow od_pow (ie_int) (ie_int)) (ie_int)) (ia_cons (ie_int) (ia_nil))))))) (ia_nil))) (al_cons (al_cons (al_nil))))) (ia_nil))) (by kernel_rfl))
    (is_cons (is_set (i := 3) nd (by exact rfl) (by first | exact .inl rfl | exact .inr rfl) (ie_frz (ir_call (ok_law_of T) (hr.mono (by decide)) (by exact rfl) T.m_law_of T.k_law_of T.b_law_of tk (ia_cons (ie_var (pv 0)) (ia_cons (ie_lst (ia_cons (ie_str) (ia_cons (ie_str) (ia_cons (ie_str) (ia_cons (ie_str) (ia_cons (ie_str) (ia_cons (ie_str) (ia_nil)))))))) (ia_nil))) (al_cons (al_cons (al_nil))))))
    (is_cons (is_if (it_cmp (opEq hu) od_eq (ie_var (pv 3)) (ie_str) (by first | exact nobehind _ (by decide) (by decide) | rfl)) (is_one (is_ret (ir_of (ie_tup (ia_cons (ie_var (pv 3)) (ia_cons (ie_var (pv 1)) (ia_cons (ie_frz (ir_call (ok_law_of T) (hr.mono (by decide)) (by exact rfl) T.m_law_of T.k_law_of T.b_law_of tk (ia_cons (ie_var (pv 0)) (ia_cons (ie_lst (ia_cons (ie_str) (ia_cons (ie_str) (ia_cons (ie_str) (ia_nil))))) (ia_nil))) (al_cons (al_cons (al_nil))))) (ia_cons (ie_frz (ir_call (ok_law_take T) (hr.mono (by decide)) (by exact rfl) T.m_law_take T.k_law_take T.b_law_take tk (ia_cons (ie_var (pv 0)) (ia_cons (ie_int) (ia_nil))) (al_cons (al_cons (al_nil))))) (ia_nil))))))))) (is_nil))
    (is_cons (is_if (it_cmp (opEq hu) od_eq (ie_var (pv 3)) (ie_str) (by first | exact nobehind _ (by decide) (by decide) | rfl)) (is_one (is_ret (ir_of (ie_tup (ia_cons (ie_var (pv 3)) (ia_cons (ie_var (pv 1)) (ia_cons (ie_frz (ir_call (ok_law_integer_of T) (hr.mono (by decide)) (by exact rfl) T.m_law_integer_of T.k_law_integer_of T.b_law_integer_of tk (ia_cons (ie_var (pv 0)) (ia_cons (ie_int) (ia_nil))) (al_cons (al_cons (al_nil))))) (ia_cons (ie_frz (ir_call (ok_law_take T) (hr.mono (by decide)) (by exact rfl) T.m_law_take T.k_law_take T.b_law_take tk (ia_cons (ie_var (pv 0)) (ia_cons (ie_op op_pow od_pow (ie_int) (ie_int)) (ia_nil))) (al_cons (al_cons (al_nil))))) (ia_nil))))))))) (is_nil))
    (is_cons (is_if (it_cmp (opEq hu) od_eq (ie_var (pv 3)) (ie_str) (by first | exact nobehind _ (by decide) (by decide) | rfl)) (is_one (is_ret (ir_of (ie_tup (ia_cons (ie_var (pv 3)) (ia_cons (ie_var (pv 1)) (ia_cons (ie_frz (ir_call (ok_law_of T) (hr.mono (by decide)) (by exact rfl) T.m_law_of T.k_law_of T.b_law_of tk (ia_cons (ie_var (pv 0)) (ia_cons (ie_lst (ia_cons (ie_non) (ia_cons (ie_frz (ir_call (ok_law_integer_of T) (hr.mono (by decide)) (by exact rfl) T.m_law_integer_of T.k_law_integer_of T.b_law_integer_of tk (ia_cons (ie_var (pv 0)) (ia_cons (ie_int) (ia_nil))) (al_cons (al_cons (al_nil))))) (ia_nil)))) (ia_nil))) (al_cons (al_cons (al_nil))))) (ia_nil)))))))) (is_nil))
    (is_one (is_ret (ir_of (ie_if (it_cmp (opEq hu) od_eq (ie_var (pv 3)) (ie_str) (by first | exact nobehind _ (by decide) (by decide) | rfl)) (ie_tup (ia_cons (ie_str) (ia_nil))) (ie_tup (ia_cons (ie_var (pv 3)) (ia_cons (ie_var (pv 1)) (ia_cons (ie_var (pv 2)) (ia_nil))))))))))))))
/-! ### law_row_line -/
abbrev s_law_row_line : Stmt := top 33
def b_law_row_line (ad : Ad) : S :=
    sRet (eRet (eM1 (eC (.str " ")) (eFrz (eLcO (wTup (eVar 0)) [1] (tgN 1) (tYesI) (eIf (eTest (e2 (eVar 1) (eC .non) gIsN)) (eC (.str "none")) (eA (aCons (eVar 1) (aNil)) gStr)))) gJoin))
def F_law_row_line (ad : Ad) : Fn := runF 2 (b_law_row_line ad)
theorem sc_law_row_line : FnScope ["_law_row_here", "_law_part_here"] ["_law_row_here"] (defScope s_law_row_line) := scB_ok (by kernel_rfl)
theorem ok_law_row_line (T : Tx P w K mg) : FnI P w K mg base 1 T.a_law_row_line T.fd_law_row_line ["_law_row_here"] (F_law_row_line T.ad) := fn_I T.f_law_row_line sc_law_row_line (b_law_row_line T.ad) (fun cdv A outer s H E hr => by
  have hu := SK.hu_of hr
  have hu1 := SK.hu1_of hr
  have nd := (sc_law_row_line).nd
  have tk := takes_of (X := cxOf (L2.CX P w) P w K mg base ["_law_row_here", "_law_part_here"] "_law_row_line" (defScope s_law_row_line) T.a_law_row_line cdv A outer s H E) (E := E) rfl rfl rfl rfl
  have pso := passes_of (X := cxOf (L2.CX P w) P w K mg base ["_law_row_here", "_law_part_here"] "_law_row_line" (defScope s_law_row_line) T.a_law_row_line cdv A outer s H E) rfl
  exact is_one (is_ret (ir_of (ie_m1 PySem.F.slot_str_join PySem.F.type_str_join mt_join md_join (ie_str) (ie_frz (ir_lc (own := [("_law_part_here", 1)]) (by exact rfl) nd (ii_tup (ie_var (pv 0))) (blkB_ok (by kernel_rfl)) (fun _ _ _ _ _ => ig_name (i := 1) nd (by exact rfl) (by first | exact .inl rfl | exact .inr rfl)) (fun _ _ _ _ _ => its_nil) (fun _ _ _ _ _ => ie_if (it_cmp op_isN od_isN (ie_var (pv 1)) (ie_non) (by first | exact nobehind _ (by decide) (by decide) | rfl)) (ie_str) (ie_callTy call_strA cd_str (by exact rfl) T.n_str (by decide +kernel) (ia_cons (ie_var (pv 1)) (ia_nil)))) (by decide)))))))
/-! ### law_integer -/
abbrev s_law_integer : Stmt := top 34
def b_law_integer (ad : Ad) : S :=
    sSeq (sSet 2 (eIf (tAndI (eTest (eVar 1)) (eTest (e2 (eSl (eVar 0) (oNone) (oSome (eC (.int 1)))) (eC (.str "-")) gEq))) (eSl (eVar 0) (oSome (eC (.int 1))) (oNone)) (eVar 0)))
    (sSeq (sIf (tOrI (tNotI (eTest (eChain (eC (.int 0)) (e1s (eVar 2) gLen) (eC (.int 21)) gLt gLt))) (eTest (e2 (eFrz (eLcO (wStr (eVar 2)) [3] (tgN 3) (eTest (e2 (eVar 3) (eC (.str "0123456789")) (gInS true))) (eVar 3))) (eA (aNil) gLst) gNe))) (sRet (eRet (eA (aNil) gLst))) (sNil))
    (sSeq (sIf (tAndI (eTest (e2 (e2s (eVar 2) (eC (.int 0)) gIxS) (eC (.str "0")) gEq)) (tOrI (eTest (e2 (e1s (eVar 2) gLen) (eC (.int 1)) gGt)) (eTest (e2 (e2s (eVar 0) (eC (.int 0)) gIxS) (eC (.str "-")) gEq)))) (sRet (eRet (eA (aNil) gLst))) (sNil))
    (sRet (eRet (eA (aCons (eA (aCons (eVar 0) (aNil)) gIntA) (aNil)) gLst)))))
def F_law_integer (ad : Ad) : Fn := runF 4 (b_law_integer ad)
theorem sc_law_integer : FnScope ["_law_word", "_law_is_signed", "_law_digits", "_law_sign"] ["_law_word", "_law_is_signed"] (defScope s_law_integer) := scB_ok (by kernel_rfl)
theorem ok_law_integer (T : Tx P w K mg) : FnI P w K mg base 1 T.a_law_integer T.fd_law_integer ["_law_word", "_law_is_signed"] (F_law_integer T.ad) := fn_I T.f_law_integer sc_law_integer (b_law_integer T.ad) (fun cdv A outer s H E hr => by
  have hu := SK.hu_of hr
  have hu1 := SK.hu1_of hr
  have nd := (sc_law_integer).nd
  have tk := takes_of (X := cxOf (L2.CX P w) P w K mg base ["_law_word", "_law_is_signed", "_law_digits", "_law_sign"] "_law_integer" (defScope s_law_integer) T.a_law_integer cdv A outer s H E) (E := E) rfl rfl rfl rfl
  have pso := passes_of (X := cxOf (L2.CX P w) P w K mg base ["_law_word", "_law_is_signed", "_law_digits", "_law_sign"] "_law_integer" (defScope s_law_integer) T.a_law_integer cdv A outer s H E) rfl
  exact is_cons (is_set (i := 2) nd (by exact rfl) (by first | exact .inl rfl | exact .inr rfl) (ie_if (iw_it (iw_and (it_val (ie_var (pv 1))) (iw_and1 (it_cmp (opEq hu) od_eq (ie_sl (ie_var (pv 0)) (io_none) (io_some (ie_int))) (ie_str) (by first | exact nobehind _ (by decide) (by decide) | rfl))))) (ie_sl (ie_var (pv 0)) (io_some (ie_int)) (io_none)) (ie_var (pv 0))))
    (is_cons (is_if (iw_it (iw_or (it_not (it_chain op_lt od_lt op_lt od_lt (ie_int) (ie_len T.n_len (by exact rfl) (ie_var (pv 2))) (ie_int))) (iw_or1 (it_cmp (opNe hu) od_ne (ie_frz (ir_lc (own := [("_law_sign", 3)]) (by exact rfl) nd (ii_str (ie_var (pv 2))) (blkB_ok (by kernel_rfl)) (fun _ _ _ _ _ => ig_name (i := 3) nd (by exact rfl) (by first | exact .inl rfl | exact .inr rfl)) (fun _ _ _ _ _ => its_one (it_cmp op_notin_str od_ninS (ie_var (pv 3)) (ie_str) (by first | exact nobehind _ (by decide) (by decide) | rfl))) (fun _ _ _ _ _ => ie_var (pv 3)) (by decide))) (ie_lst (ia_nil)) (by first | exact nobehind _ (by decide) (by decide) | rfl))))) (is_one (is_ret (ir_of (ie_lst (ia_nil))))) (is_nil))
    (is_cons (is_if (iw_it (iw_and (it_cmp (opEq hu) od_eq (ie_ixS (ie_var (pv 2)) (ie_int) (fun _ _ => rfl)) (ie_str) (by first | exact nobehind _ (by decide) (by decide) | rfl)) (iw_and1 (iw_it (iw_or (it_cmp op_gt od_gt (ie_len T.n_len (by exact rfl) (ie_var (pv 2))) (ie_int) (by first | exact nobehind _ (by decide) (by decide) | rfl)) (iw_or1 (it_cmp (opEq hu) od_eq (ie_ixS (ie_var (pv 0)) (ie_int) (fun _ _ => rfl)) (ie_str) (by first | exact nobehind _ (by decide) (by decide) | rfl)))))))) (is_one (is_ret (ir_of (ie_lst (ia_nil))))) (is_nil))
    (is_one (is_ret (ir_of (ie_lst (ia_cons (ie_callTy call_intA cd_intA (by exact rfl) T.n_int (by decide +kernel) (ia_cons (ie_var (pv 0)) (ia_nil))) (ia_nil)))))))))
/-! ### law_part -/
abbrev s_law_part : Stmt := top 35
def b_law_part (ad : Ad) : S :=
    sSeq (sIf (tAndI (eTest (e2 (eVar 1) (eA (aCons (eC (.str "e")) (aCons (eC (.str "r")) (aNil))) gTup) (gIn false))) (eTest (e2 (eVar 0) (eC (.str "none")) gEq))) (sRet (eRet (eA (aCons (eC .non) (aNil)) gLst))) (sNil))
    (sSeq (sIf (eTest (e2 (eVar 1) (eC (.str "f")) gEq)) (sRet (eRet (eIf (eTest (e2 (eVar 0) (eA (aCons (eC (.str "x")) (aCons (eC (.str "y")) (aCons (eC (.str "z")) (aNil)))) gTup) (gIn false))) (eA (aCons (eVar 0) (aNil)) gLst) (eA (aNil) gLst)))) (sNil))
    (sSeq (sIf (eTest (e2 (eVar 1) (eC (.str "d")) gEq)) (sRet (eRet (eIf (eTest (e2 (eVar 0) (eA (aCons (eC (.str "0")) (aCons (eC (.str "1")) (aCons (eC (.str "2")) (aCons (eC (.str "3")) (aNil))))) gTup) (gIn false))) (eFrz (eCall (aCons (eVar 0) (aCons (eC (.bl false)) (aNil))) (F_law_integer ad))) (eA (aNil) gLst)))) (sNil))
    (sRet (eCall (aCons (eVar 0) (aCons (e2 (eVar 1) (eA (aCons (eC (.str "v")) (aCons (eC (.str "r")) (aNil))) gTup) (gIn false)) (aNil))) (F_law_integer ad)))))
def F_law_part (ad : Ad) : Fn := runF 2 (b_law_part ad)
theorem sc_law_part : FnScope ["_law_word", "_law_form"] ["_law_word", "_law_form"] (defScope s_law_part) := scB_ok (by kernel_rfl)
theorem ok_law_part (T : Tx P w K mg) : FnI P w K mg base 2 T.a_law_part T.fd_law_part ["_law_word", "_law_form"] (F_law_part T.ad) := fn_I T.f_law_part sc_law_part (b_law_part T.ad) (fun cdv A outer s H E hr => by
  have hu := SK.hu_of hr
  have hu1 := SK.hu1_of hr
  have nd := (sc_law_part).nd
  have tk := takes_of (X := cxOf (L2.CX P w) P w K mg base ["_law_word", "_law_form"] "_law_part" (defScope s_law_part) T.a_law_part cdv A outer s H E) (E := E) rfl rfl rfl rfl
  have pso := passes_of (X := cxOf (L2.CX P w) P w K mg base ["_law_word", "_law_form"] "_law_part" (defScope s_law_part) T.a_law_part cdv A outer s H E) rfl
  exact is_cons (is_if (iw_it (iw_and (it_cmp (opIn hu) od_inA (ie_var (pv 1)) (ie_tup (ia_cons (ie_str) (ia_cons (ie_str) (ia_nil)))) (by first | exact nobehind _ (by decide) (by decide) | rfl)) (iw_and1 (it_cmp (opEq hu) od_eq (ie_var (pv 0)) (ie_str) (by first | exact nobehind _ (by decide) (by decide) | rfl))))) (is_one (is_ret (ir_of (ie_lst (ia_cons (ie_non) (ia_nil)))))) (is_nil))
    (is_cons (is_if (it_cmp (opEq hu) od_eq (ie_var (pv 1)) (ie_str) (by first | exact nobehind _ (by decide) (by decide) | rfl)) (is_one (is_ret (ir_of (ie_if (it_cmp (opIn hu) od_inA (ie_var (pv 0)) (ie_tup (ia_cons (ie_str) (ia_cons (ie_str) (ia_cons (ie_str) (ia_nil))))) (by first | exact nobehind _ (by decide) (by decide) | rfl)) (ie_lst (ia_cons (ie_var (pv 0)) (ia_nil))) (ie_lst (ia_nil)))))) (is_nil))
    (is_cons (is_if (it_cmp (opEq hu) od_eq (ie_var (pv 1)) (ie_str) (by first | exact nobehind _ (by decide) (by decide) | rfl)) (is_one (is_ret (ir_of (ie_if (it_cmp (opIn hu) od_inA (ie_var (pv 0)) (ie_tup (ia_cons (ie_str) (ia_cons (ie_str) (ia_cons (ie_str) (ia_cons (ie_str) (ia_nil)))))) (by first | exact nobehind _ (by decide) (by decide) | rfl)) (ie_frz (ir_call (ok_law_integer T) (hr.mono (by decide)) (by exact rfl) T.m_law_integer T.k_law_integer T.b_law_integer tk (ia_cons (ie_var (pv 0)) (ia_cons (ie_bl) (ia_nil))) (al_cons (al_cons (al_nil))))) (ie_lst (ia_nil)))))) (is_nil))
    (is_one (is_ret (ir_call (ok_law_integer T) (hr.mono (by decide)) (by exact rfl) T.m_law_integer T.k_law_integer T.b_law_integer tk (ia_cons (ie_var (pv 0)) (ia_cons (ie_cmp (opIn hu) od_inA (ie_var (pv 1)) (ie_tup (ia_cons (ie_str) (ia_cons (ie_str) (ia_nil)))) (by first | exact nobehind _ (by decide) (by decide) | rfl)) (ia_nil))) (al_cons (al_cons (al_nil)))))))))
/-! ### law_row -/
abbrev s_law_row : Stmt := top 36
def b_law_row (ad : Ad) : S :=
    sSeq (sSet 1 (eC (.dic [(.inr "change", .str "nfd"), (.inr "lookup", .str "ne"), (.inr "read", .str "nr"), (.inr "put", .str "nvn"), (.inr "take", .str "ne"), (.inr "lay", .str "")])))
    (sSeq (sSet 2 (eM1 (eVar 0) (eC (.str " ")) gSplit))
    (sSeq (sIf (tOrI (eTest (e2s (e2s (eVar 2) (eC (.int 0)) gIxS) (eVar 1) (gInD true))) (eTest (e2 (e1s (eVar 2) gLen) (e2 (eC (.int 1)) (e1s (e2s (eVar 1) (e2s (eVar 2) (eC (.int 0)) gIxS) gIxD) gLen) gAdd) gNe))) (sRet (eRet (eC .non))) (sNil))
    (sSeq (sSet 3 (eA (aCons (e2s (eVar 2) (eC (.int 0)) gIxS) (aNil)) gLst))
    (sSeq (sFor (wZip false (eSl (eVar 2) (oSome (eC (.int 1))) (oNone)) (e2s (eVar 1) (e2s (eVar 2) (eC (.int 0)) gIxS) gIxD)) (tgT 2 [tgN 4, tgN 5])
    (sSeq (sSet 6 (eFrz (eCall (aCons (eVar 4) (aCons (eVar 5) (aNil))) (F_law_part ad))))
    (sSeq (sIf (eTest (e2 (eVar 6) (eA (aNil) gLst) gEq)) (sRet (eRet (eC .non))) (sNil))
    (sSet 3 (e2 (eVar 3) (eVar 6) gAdd)))))
    (sRet (eRet (eA (aCons (eVar 3) (aNil)) gTupOf)))))))
def F_law_row (ad : Ad) : Fn := runF 7 (b_law_row ad)
theorem sc_law_row : FnScope ["_law_line", "_law_forms", "_law_words", "_law_row_here", "_law_word", "_law_form", "_law_part_here"] ["_law_line"] (defScope s_law_row) := scB_ok (by kernel_rfl)
theorem ok_law_row (T : Tx P w K mg) : FnI P w K mg base 3 T.a_law_row T.fd_law_row ["_law_line"] (F_law_row T.ad) := fn_I T.f_law_row sc_law_row (b_law_row T.ad) (fun cdv A outer s H E hr => by
  have hu := SK.hu_of hr
  have hu1 := SK.hu1_of hr
  have nd := (sc_law_row).nd
  have tk := takes_of (X := cxOf (L2.CX P w) P w K mg base ["_law_line", "_law_forms", "_law_words", "_law_row_here", "_law_word", "_law_form", "_law_part_here"] "_law_row" (defScope s_law_row) T.a_law_row cdv A outer s H E) (E := E) rfl rfl rfl rfl
  have pso := passes_of (X := cxOf (L2.CX P w) P w K mg base ["_law_line", "_law_forms", "_law_words", "_law_row_here", "_law_word", "_law_form", "_law_part_here"] "_law_row" (defScope s_law_row) T.a_law_row cdv A outer s H E) rfl
  exact is_cons (is_set (i := 1) nd (by exact rfl) (by first | exact .inl rfl | exact .inr rfl) (ie_disp (kvs := [(.inr "change", .str "nfd"), (.inr "lookup", .str "ne"), (.inr "read", .str "nr"), (.inr "put", .str "nvn"), (.inr "take", .str "ne"), (.inr "lay", .str "")]) (pps_cons pe_str pe_str (pps_cons pe_str pe_str (pps_cons pe_str pe_str (pps_cons pe_str pe_str (pps_cons pe_str pe_str (pps_cons pe_str pe_str (pps_nil))))))) (fun _ _ => ⟨_, _, rfl, rfl, ⟨_, _, rfl, rfl, ⟨_, _, rfl, rfl, ⟨_, _, rfl, rfl, ⟨_, _, rfl, rfl, ⟨_, _, rfl, rfl, rfl⟩⟩⟩⟩⟩⟩) (by decide +kernel) (by decide) (by rfl) (by rfl) (by intro z; cases z) (by decide)))
    (is_cons (is_set (i := 2) nd (by exact rfl) (by first | exact .inl rfl | exact .inr rfl) (ie_m1 PySem.F.slot_str_split PySem.F.type_str_split mt_split md_split (ie_var (pv 0)) (ie_str)))
    (is_cons (is_if (iw_it (iw_or (it_ninD hu (ie_ixS (ie_var (pv 2)) (ie_int) (fun _ _ => rfl)) (ie_var (pv 1)) (by first | exact nobehind _ (by decide) (by decide) | rfl)) (iw_or1 (it_cmp (opNe hu) od_ne (ie_len T.n_len (by exact rfl) (ie_var (pv 2))) (ie_op op_addA od_addA (ie_int) (ie_len T.n_len (by exact rfl) (ie_ixD hu1 (ie_var (pv 1)) (ie_ixS (ie_var (pv 2)) (ie_int) (fun _ _ => rfl)) (fun _ _ => rfl)))) (by first | exact nobehind _ (by decide) (by decide) | rfl))))) (is_one (is_ret (ir_of (ie_non)))) (is_nil))
    (is_cons (is_set (i := 3) nd (by exact rfl) (by first | exact .inl rfl | exact .inr rfl) (ie_lst (ia_cons (ie_ixS (ie_var (pv 2)) (ie_int) (fun _ _ => rfl)) (ia_nil))))
    (is_cons (is_for pso (by exact rfl) (ii_zip T.n_zip (by exact rfl) (ie_sl (ie_var (pv 2)) (io_some (ie_int)) (io_none)) (ie_ixD hu1 (ie_var (pv 1)) (ie_ixS (ie_var (pv 2)) (ie_int) (fun _ _ => rfl)) (fun _ _ => rfl))) (ig_tup (by exact rfl) (igs_cons (ig_name (i := 4) nd (by exact rfl) (by first | exact .inl rfl | exact .inr rfl)) (igs_cons (ig_name (i := 5) nd (by exact rfl) (by first | exact .inl rfl | exact .inr rfl)) (igs_nil))))
    (is_cons (is_set (i := 6) nd (by exact rfl) (by first | exact .inl rfl | exact .inr rfl) (ie_frz (ir_call (ok_law_part T) (hr.mono (by decide)) (by exact rfl) T.m_law_part T.k_law_part T.b_law_part tk (ia_cons (ie_var (pv 4)) (ia_cons (ie_var (pv 5)) (ia_nil))) (al_cons (al_cons (al_nil))))))
    (is_cons (is_if (it_cmp (opEq hu) od_eq (ie_var (pv 6)) (ie_lst (ia_nil)) (by first | exact nobehind _ (by decide) (by decide) | rfl)) (is_one (is_ret (ir_of (ie_non)))) (is_nil))
    (is_one (is_set (i := 3) nd (by exact rfl) (by first | exact .inl rfl | exact .inr rfl) (ie_op op_addA od_addA (ie_var (pv 3)) (ie_var (pv 6))))))))
    (is_one (is_ret (ir_of (ie_callTy call_tuple_of cd_tup (by exact rfl) T.n_tuple (by decide +kernel) (ia_cons (ie_var (pv 3)) (ia_nil)))))))))))
/-! ### law_due -/
abbrev s_law_due : Stmt := top 37
def b_law_due (ad : Ad) : S :=
    sSeq (sParO 1 2 (eAR (aNil) gLstO) (eM1 (eVar 0) (eC (.str "\n")) gSplit))
    (sSeq (sIf (eTest (e2 (eVar 0) (eC (.str "")) gEq)) (sRet (eRet (eA (aNil) gLst))) (sNil))
    (sSeq (sFor (wRng1 (e1s (eVar 2) gLen)) (tgN 3)
    (sSeq (sSet 4 (eFrz (eCall (aCons (e2s (eVar 2) (eVar 3) gIxS) (aNil)) (F_law_row ad))))
    (sSeq (sIf (eTest (e2 (eVar 4) (eC .non) gIsN)) (sRet (eRet (eVar 3))) (sNil))
    (sAppO 1 (eVar 4)))))
    (sRetO 1)))
def F_law_due (ad : Ad) : Fn := runF 5 (b_law_due ad)
theorem sc_law_due : FnScope ["_law_text", "_law_found", "_law_lines", "_law_at", "_law_row_here"] ["_law_text"] (defScope s_law_due) := scB_ok (by kernel_rfl)
theorem ok_law_due (T : Tx P w K mg) : FnI P w K mg base 4 T.a_law_due T.fd_law_due ["_law_text"] (F_law_due T.ad) := fn_I T.f_law_due sc_law_due (b_law_due T.ad) (fun cdv A outer s H E hr => by
  have hu := SK.hu_of hr
  have hu1 := SK.hu1_of hr
  have nd := (sc_law_due).nd
  have tk := takes_of (X := cxOf (L2.CX P w) P w K mg base ["_law_text", "_law_found", "_law_lines", "_law_at", "_law_row_here"] "_law_due" (defScope s_law_due) T.a_law_due cdv A outer s H E) (E := E) rfl rfl rfl rfl
  have pso := passes_of (X := cxOf (L2.CX P w) P w K mg base ["_law_text", "_law_found", "_law_lines", "_law_at", "_law_row_here"] "_law_due" (defScope s_law_due) T.a_law_due cdv A outer s H E) rfl
  exact is_cons (is_parO (i := 1) (j := 2) (by exact rfl) nd (by exact rfl) (by exact rfl) (by decide) (by exact rfl) (by exact rfl) (ir_lst (ia_nil)) (ie_m1 PySem.F.slot_str_split PySem.F.type_str_split mt_split md_split (ie_var (pv 0)) (ie_str)) (by kernel_rfl))
    (is_cons (is_if (it_cmp (opEq hu) od_eq (ie_var (pv 0)) (ie_str) (by first | exact nobehind _ (by decide) (by decide) | rfl)) (is_one (is_ret (ir_of (ie_lst (ia_nil))))) (is_nil))
    (is_cons (is_for pso (by exact rfl) (ii_rng1 T.n_range (by exact rfl) (ie_len T.n_len (by exact rfl) (ie_var (pv 2)))) (ig_name (i := 3) nd (by exact rfl) (by first | exact .inl rfl | exact .inr rfl))
    (is_cons (is_set (i := 4) nd (by exact rfl) (by first | exact .inl rfl | exact .inr rfl) (ie_frz (ir_call (ok_law_row T) (hr.mono (by decide)) (by exact rfl) T.m_law_row T.k_law_row T.b_law_row tk (ia_cons (ie_ixS (ie_var (pv 2)) (ie_var (pv 3)) (fun _ _ => rfl)) (ia_nil)) (al_cons (al_nil)))))
    (is_cons (is_if (it_cmp op_isN od_isN (ie_var (pv 4)) (ie_non) (by first | exact nobehind _ (by decide) (by decide) | rfl)) (is_one (is_ret (ir_of (ie_var (pv 3))))) (is_nil))
    (is_one (is_appO (pv 1) (ie_var (pv 4)))))))
    (is_one (is_retO (pv 1))))))
/-! ### law_said -/
abbrev s_law_said : Stmt := top 38
def b_law_said (ad : Ad) : S :=
    sTry 1 (sRet (eCall (aCons (eVar 0) (aNil)) (F_read_record ad))) (xm83 ad) (g83 ad)
def F_law_said (ad : Ad) : Fn := runF 2 (b_law_said ad)
theorem sc_law_said : FnScope ["_law_text", "e"] ["_law_text"] (defScope s_law_said) := scB_ok (by kernel_rfl)
theorem ok_law_said (T : Tx P w K mg) : FnI P w K mg base 5 T.a_law_said T.fd_law_said ["_law_text"] (F_law_said T.ad) := fn_I T.f_law_said sc_law_said (b_law_said T.ad) (fun cdv A outer s H E hr => by
  have hu := SK.hu_of hr
  have hu1 := SK.hu1_of hr
  have nd := (sc_law_said).nd
  have tk := takes_of (X := cxOf (L2.CX P w) P w K mg base ["_law_text", "e"] "_law_said" (defScope s_law_said) T.a_law_said cdv A outer s H E) (E := E) rfl rfl rfl rfl
  have pso := passes_of (X := cxOf (L2.CX P w) P w K mg base ["_law_text", "e"] "_law_said" (defScope s_law_said) T.a_law_said cdv A outer s H E) rfl
  exact is_one (is_try (i := 1) (by exact rfl) (by exact rfl) nd (by exact rfl) (by exact rfl) ⟨by exact rfl, by decide, .inl T.m_NoText⟩ tk T.xm_NoText (fun W pn xe tk pso => is_one (is_ret (ir_call (ok_read_record T) (hr.mono (by decide)) (by exact rfl) T.m_read_record T.k_read_record T.b_read_record tk (ia_cons (ie_var (pv 0)) (ia_nil)) (al_cons (al_nil))))) (fun a oe cls d pn hx hz hf => by
      obtain rfl := xm83_eq hx
      exact pe_imp (xr_if ((xt_and (xt_isi T.xi_NoText hz hf (pv 1) (pe_bltn (v := .ty "ValueError") (u := .type "ValueError") (by exact rfl) T.n_ValueError (by decide +kernel) (by exact rfl)) (fun u h => h) T.kt_VE (by exact rfl) T.n_isinstance)
        (xt_and1 (xt_not (xt_isi T.xi_NoText hz hf (pv 1) (pe_glob (v := .ref T.ad.cNoCommand) (by exact rfl) T.m_NoCommand (by exact rfl)) (fun u h => h) T.kt_NC (by exact rfl) T.n_isinstance)))).pt) (xr_fld T.xf_NoText T.no_NoText hz hf (pv 1)) (xr_c pe_str (fun _ _ => by exact rfl)))
        (fun σ H Q ⟨h1, dd, μ, m, fs, vs, z, h2, h3, h4, h5, k⟩ => ⟨h1, dd, μ, m, fs, vs, z, h2, h3, h4, g83_eq h5, k⟩)) (fun c fs z e => g83_ne e)))
/-! ### law -/
abbrev s_law : Stmt := top 39
def b_law (ad : Ad) : S :=
    sSeq (sFor (wRng1 (eA (aCons (eC (.int 2)) (aCons (eA (aCons (eC (.int 4)) (aCons (e1s (eVar 0) gLen) (aNil))) gMin2) (aNil))) gMax2)) (tgN 1)
    (sSeq (sSetS 2 (eCall (aCons (eVar 0) (aCons (eVar 1) (aNil))) (F_law_bag ad)))
    (sSeq (sFor (wRng1 (eC (.int 8))) (tgN 3)
    (sSeq (sSet 4 (eFrz (eLcO (wRng1 (eFrz (eCall (aCons (eVar 2) (aCons (eC (.int 13)) (aNil))) (F_law_take ad)))) [9] (tgN 9) (tYesI) (eFrz (eCall (aCons (eVar 2) (aNil)) (F_law_record_row ad))))))
    (sSeq (sPar 5 6 (aCons (eM1 (eC (.str "\n")) (eFrz (eLcO (wLst (eVar 4)) [11] (tgN 11) (tYesI) (eFrz (eCall (aCons (eVar 11) (aNil)) (F_law_row_line ad))))) gJoin) (aCons (e1s (eVar 4) gRepr) (aNil))))
    (sSeq (sIf (tOrI (eTest (e2 (eFrz (eCall (aCons (eVar 4) (aNil)) (F_show_record ad))) (eVar 5) gNe)) (tOrI (eTest (e2 (e1s (eVar 4) gRepr) (eVar 6) gNe)) (eTest (e2 (e1s (eFrz (eCall (aCons (eVar 5) (aNil)) (F_law_said ad))) gRepr) (eVar 6) gNe)))) (sRet (eRet (eC (.bl false)))) (sNil))
    (sSeq (sSet 7 (eFrz (eCall (aCons (eVar 5) (aNil)) (F_read_record ad))))
    (sSeq (sAppV (eVar 7) (eC .non))
    (sSeq (sIf (eTest (e2 (e1s (eFrz (eCall (aCons (eVar 5) (aNil)) (F_law_said ad))) gRepr) (eVar 6) gNe)) (sRet (eRet (eC (.bl false)))) (sNil))
    (sSeq (sSet 8 (eM1 (eVar 5) (eC (.str "\n")) gSplit))
    (sFor (wRng1 (eC (.int 4))) (tgN 9)
    (sSeq (sSet 8 (eFrz (eCall (aCons (eVar 2) (aCons (eVar 8) (aNil))) (F_law_bent_lines ad))))
    (sIf (eTest (e2 (e1s (eFrz (eCall (aCons (eM1 (eC (.str "\n")) (eVar 8) gJoin) (aNil)) (F_law_said ad))) gRepr) (e1s (eFrz (eCall (aCons (eM1 (eC (.str "\n")) (eVar 8) gJoin) (aNil)) (F_law_due ad))) gRepr) gNe)) (sRet (eRet (eC (.bl false)))) (sNil))))))))))))
    (sIf (tNotI (eTest (eA (aCons (eFrz (eLcO (wLst (eA (aCons (eC .non) (aCons (eC (.int 3)) (aCons (eC (.bl true)) (aCons (eA (aCons (eC (.str "lay")) (aNil)) gLst) (aCons (eA (aCons (eC (.str "lay")) (aNil)) gTup) (aCons (eA (aNil) gLst) (aNil))))))) gLst)) [12] (tgN 12) (tYesI) (e2 (eFrz (eCall (aCons (eVar 12) (aNil)) (F_law_said ad))) (e1 (eC (.int 1)) gNeg) gEq))) (aNil)) gAll))) (sRet (eRet (eC (.bl false)))) (sNil)))))
    (sSeq (sSet 10 (eA (aCons (eC (.str "lay\n")) (aCons (eC (.str "\nlay")) (aCons (eC (.str "change 0 x 4")) (aCons (eC (.str "change 0 w 1")) (aCons (eC (.str "put 0 5 none")) (aCons (eC (.str "read 0 -0")) (aCons (eC (.str "read 0 00")) (aCons (eC (.str "lay 1")) (aNil))))))))) gLst))
    (sSeq (sSet 10 (e2 (eVar 10) (eA (aCons (eC (.str "lookup -1 0")) (aCons (eC (.str "read 0 +1")) (aCons (eC (.str "Lay")) (aCons (eC (.str "lookup 0 -1")) (aCons (e2 (eC (.str "take 0 ")) (e2 (eC (.str "1")) (eC (.int 21)) gMulS) gAdd) (aNil)))))) gLst) gAdd))
    (sSeq (sSet 10 (e2 (eVar 10) (eA (aCons (e2 (eC (.str "read 0 -")) (e2 (eC (.str "1")) (eC (.int 20)) gMulS) gAdd) (aCons (e2 (eC (.str "read 0 -")) (e2 (eC (.str "1")) (eC (.int 21)) gMulS) gAdd) (aCons (eC (.str "put 0 -7 3")) (aNil)))) gLst) gAdd))
    (sSeq (sSet 10 (e2 (eVar 10) (eA (aCons (eC (.str "put 0 none 3")) (aCons (eC (.str "put none 5 3")) (aCons (eC (.str "lookup none 0")) (aCons (eC (.str "take none 1")) (aCons (eC (.str "read none 5")) (aCons (eC (.str "change none x 1")) (aNil))))))) gLst) gAdd))
    (sSeq (sSet 10 (e2 (eVar 10) (eA (aCons (eC (.str "change 0 none 1")) (aCons (eC (.str "change 0 x none")) (aCons (eC (.str "lay none")) (aCons (eC (.str "none")) (aCons (eC (.str "put 0 5 3 none")) (aCons (eC (.str "lookup 0")) (aCons (eC (.str "take 0")) (aNil)))))))) gLst) gAdd))
    (sSeq (sSet 10 (e2 (e2 (eVar 10) (eFrz (eLcO (wLst (eVar 10)) [5] (tgN 5) (tYesI) (e2 (eC (.str "lay\n")) (eVar 5) gAdd))) gAdd) (eFrz (eLcO (wLst (eSl (eVar 10) (oSome (e1 (eC (.int 7)) gNeg)) (oNone))) [5] (tgN 5) (tYesI) (e2 (eC (.str "lookup 0 none\n")) (eVar 5) gAdd))) gAdd))
    (sRet (eRet (eA (aCons (eFrz (eLcO (wLst (eVar 10)) [5] (tgN 5) (tYesI) (e2 (e1s (eFrz (eCall (aCons (eVar 5) (aNil)) (F_law_said ad))) gRepr) (e1s (eFrz (eCall (aCons (eVar 5) (aNil)) (F_law_due ad))) gRepr) gEq))) (aNil)) gAll)))))))))
def F_law (ad : Ad) : Fn := runF 13 (b_law ad)
theorem sc_law : FnScope ["_law_script", "_law_at", "_law_bag_here", "_law_turn", "_law_record", "_law_text", "_law_kept", "_law_found", "_law_some", "_law_more", "_law_near", "_law_row_here", "_law_odd"] ["_law_script"] (defScope s_law) := scB_ok (by kernel_rfl)
theorem ok_law (T : Tx P w K mg) (hgA : A.guards = some []) (hrA : Room 6 A) : FnAt P w K mg base A T.a_law T.fd_law ["_law_script"] (spI K 1 (F_law T.ad)) := fn_at T.f_law sc_law hrA (b_law T.ad) (fun cdv outer s H E hr => by
  have hu := SK.hu_of hr
  have hu1 := SK.hu1_of hr
  have hgd : (A.deeper (envOfC "law" (defScope s_law) s.heap.objs.size T.a_law cdv)).guards = some [] := hgA
  have nd := (sc_law).nd
  have tk := takes_of (X := cxOf (L2.CX P w) P w K mg base ["_law_script", "_law_at", "_law_bag_here", "_law_turn", "_law_record", "_law_text", "_law_kept", "_law_found", "_law_some", "_law_more", "_law_near", "_law_row_here", "_law_odd"] "law" (defScope s_law) T.a_law cdv A outer s H E) (E := E) rfl rfl rfl rfl
  have pso := passes_of (X := cxOf (L2.CX P w) P w K mg base ["_law_script", "_law_at", "_law_bag_here", "_law_turn", "_law_record", "_law_text", "_law_kept", "_law_found", "_law_some", "_law_more", "_law_near", "_law_row_here", "_law_odd"] "law" (defScope s_law) T.a_law cdv A outer s H E) rfl
  exact is_cons (is_for pso (by exact rfl) (ii_rng1 T.n_range (by exact rfl) (ie_callB (call_max2 (by exact rfl)) cd_max2 (by exact rfl) T.n_max (by decide +kernel) (ia_cons (ie_int) (ia_cons (ie_callB (call_min2 (by exact rfl)) cd_min2 (by exact rfl) T.n_min (by decide +kernel) (ia_cons (ie_int) (ia_cons (ie_len T.n_len (by exact rfl) (ie_var (pv 0))) (ia_nil)))) (ia_nil))))) (ig_name (i := 1) nd (by exact rfl) (by first | exact .inl rfl | exact .inr rfl))
    (is_cons (is_setS (i := 2) nd (by exact rfl) (by first | exact .inl rfl | exact .inr rfl) (ir_call (ok_law_bag T) (hr.mono (by decide)) (by exact rfl) T.m_law_bag T.k_law_bag T.b_law_bag tk (ia_cons (ie_var (pv 0)) (ia_cons (ie_var (pv 1)) (ia_nil))) (al_cons (al_cons (al_nil)))))
    (is_cons (is_for pso (by exact rfl) (ii_rng1 T.n_range (by exact rfl) (ie_int)) (ig_name (i := 3) nd (by exact rfl) (by first | exact .inl rfl | exact .inr rfl))
    (is_cons (is_setLcF (i := 4) (own := [("_law_more", 9)]) (by exact rfl) nd (by exact rfl) (by exact rfl) (by kernel_rfl) (ii_rng1 T.n_range (by exact rfl) (ie_frz (ir_call (ok_law_take T) (hr.mono (by decide)) (by exact rfl) T.m_law_take T.k_law_take T.b_law_take tk (ia_cons (ie_var (pv 2)) (ia_cons (ie_int) (ia_nil))) (al_cons (al_cons (al_nil)))))) (blkB_ok (by kernel_rfl)) (fun _ _ _ _ _ => ig_name (i := 9) nd (by exact rfl) (by first | exact .inl rfl | exact .inr rfl)) (fun _ _ _ _ _ => its_nil) (fun _ _ _ _ _ => ie_frz (ir_call (ok_law_record_row T) (hr.mono (by decide)) (by exact rfl) T.m_law_record_row T.k_law_record_row T.b_law_record_row SK.takes0 (ia_cons (ie_var (pv 2)) (ia_nil)) (al_cons (al_nil)))) (by decide))
    (is_cons (is_par (i := 5) (j := 6) (by exact rfl) nd (by exact rfl) (by exact rfl) (by decide) (by exact rfl) (by exact rfl) (ia_cons (ie_m1 PySem.F.slot_str_join PySem.F.type_str_join mt_join md_join (ie_str) (ie_frz (ir_lc (own := [("_law_row_here", 11)]) (by exact rfl) nd (ii_lst (ie_var (pv 4))) (blkB_ok (by kernel_rfl)) (fun _ _ _ _ _ => ig_name (i := 11) nd (by exact rfl) (by first | exact .inl rfl | exact .inr rfl)) (fun _ _ _ _ _ => its_nil) (fun _ _ _ _ _ => ie_frz (ir_call (ok_law_row_line T) (hr.mono (by decide)) (by exact rfl) T.m_law_row_line T.k_law_row_line T.b_law_row_line SK.takes0 (ia_cons (ie_var (pv 11)) (ia_nil)) (al_cons (al_nil)))) (by decide)))) (ia_cons (ie_repr hgd hu T.n_repr (by exact rfl) (ie_var (pv 4))) (ia_nil))) (by kernel_rfl))
    (is_cons (is_if (iw_it (iw_or (it_cmp (opNe hu) od_ne (ie_frz (ir_call (ok_show_record T) (hr.mono (by decide)) (by exact rfl) T.m_show_record T.k_show_record T.b_show_record tk (ia_cons (ie_var (pv 4)) (ia_nil)) (al_cons (al_nil)))) (ie_var (pv 5)) (by first | exact nobehind _ (by decide) (by decide) | rfl)) (iw_or (it_cmp (opNe hu) od_ne (ie_repr hgd hu T.n_repr (by exact rfl) (ie_var (pv 4))) (ie_var (pv 6)) (by first | exact nobehind _ (by decide) (by decide) | rfl)) (iw_or1 (it_cmp (opNe hu) od_ne (ie_repr hgd hu T.n_repr (by exact rfl) (ie_frz (ir_call (ok_law_said T) (hr.mono (by decide)) (by exact rfl) T.m_law_said T.k_law_said T.b_law_said tk (ia_cons (ie_var (pv 5)) (ia_nil)) (al_cons (al_nil))))) (ie_var (pv 6)) (by first | exact nobehind _ (by decide) (by decide) | rfl)))))) (is_one (is_ret (ir_of (ie_bl)))) (is_nil))
    (is_cons (is_set (i := 7) nd (by exact rfl) (by first | exact .inl rfl | exact .inr rfl) (ie_frz (ir_call (ok_read_record T) (hr.mono (by decide)) (by exact rfl) T.m_read_record T.k_read_record T.b_read_record tk (ia_cons (ie_var (pv 5)) (ia_nil)) (al_cons (al_nil)))))
    (is_cons (is_appS (ie_var (pv 7)) (ie_non))
    (is_cons (is_if (it_cmp (opNe hu) od_ne (ie_repr hgd hu T.n_repr (by exact rfl) (ie_frz (ir_call (ok_law_said T) (hr.mono (by decide)) (by exact rfl) T.m_law_said T.k_law_said T.b_law_said tk (ia_cons (ie_var (pv 5)) (ia_nil)) (al_cons (al_nil))))) (ie_var (pv 6)) (by first | exact nobehind _ (by decide) (by decide) | rfl)) (is_one (is_ret (ir_of (ie_bl)))) (is_nil))
    (is_cons (is_set (i := 8) nd (by exact rfl) (by first | exact .inl rfl | exact .inr rfl) (ie_m1 PySem.F.slot_str_split PySem.F.type_str_split mt_split md_split (ie_var (pv 5)) (ie_str)))
    (is_one (is_for pso (by exact rfl) (ii_rng1 T.n_range (by exact rfl) (ie_int)) (ig_name (i := 9) nd (by exact rfl) (by first | exact .inl rfl | exact .inr rfl))
    (is_cons (is_set (i := 8) nd (by exact rfl) (by first | exact .inl rfl | exact .inr rfl) (ie_frz (ir_call (ok_law_bent_lines T) (hr.mono (by decide)) (by exact rfl) T.m_law_bent_lines T.k_law_bent_lines T.b_law_bent_lines tk (ia_cons (ie_var (pv 2)) (ia_cons (ie_var (pv 8)) (ia_nil))) (al_cons (al_cons (al_nil))))))
    (is_one (is_if (it_cmp (opNe hu) od_ne (ie_repr hgd hu T.n_repr (by exact rfl) (ie_frz (ir_call (ok_law_said T) (hr.mono (by decide)) (by exact rfl) T.m_law_said T.k_law_said T.b_law_said tk (ia_cons (ie_m1 PySem.F.slot_str_join PySem.F.type_str_join mt_join md_join (ie_str) (ie_var (pv 8))) (ia_nil)) (al_cons (al_nil))))) (ie_repr hgd hu T.n_repr (by exact rfl) (ie_frz (ir_call (ok_law_due T) (hr.mono (by decide)) (by exact rfl) T.m_law_due T.k_law_due T.b_law_due tk (ia_cons (ie_m1 PySem.F.slot_str_join PySem.F.type_str_join mt_join md_join (ie_str) (ie_var (pv 8))) (ia_nil)) (al_cons (al_nil))))) (by first | exact nobehind _ (by decide) (by decide) | rfl)) (is_one (is_ret (ir_of (ie_bl)))) (is_nil))))))))))))))
    (is_one (is_if (it_not (it_val (ie_callB (cr_all (by exact rfl)) cd_all (by exact rfl) T.n_all (by decide +kernel) (ia_cons (ie_frz (ir_lc (own := [("_law_odd", 12)]) (by exact rfl) nd (ii_lst (ie_lst (ia_cons (ie_non) (ia_cons (ie_int) (ia_cons (ie_bl) (ia_cons (ie_lst (ia_cons (ie_str) (ia_nil))) (ia_cons (ie_tup (ia_cons (ie_str) (ia_nil))) (ia_cons (ie_lst (ia_nil)) (ia_nil))))))))) (blkB_ok (by kernel_rfl)) (fun _ _ _ _ _ => ig_name (i := 12) nd (by exact rfl) (by first | exact .inl rfl | exact .inr rfl)) (fun _ _ _ _ _ => its_nil) (fun _ _ _ _ _ => ie_cmp (opEq hu) od_eq (ie_frz (ir_call (ok_law_said T) (hr.mono (by decide)) (by exact rfl) T.m_law_said T.k_law_said T.b_law_said SK.takes0 (ia_cons (ie_var (pv 12)) (ia_nil)) (al_cons (al_nil)))) (ie_neg (ie_int)) (by first | exact nobehind _ (by decide) (by decide) | rfl)) (by decide))) (ia_nil))))) (is_one (is_ret (ir_of (ie_bl)))) (is_nil))))))
    (is_cons (is_set (i := 10) nd (by exact rfl) (by first | exact .inl rfl | exact .inr rfl) (ie_lst (ia_cons (ie_str) (ia_cons (ie_str) (ia_cons (ie_str) (ia_cons (ie_str) (ia_cons (ie_str) (ia_cons (ie_str) (ia_cons (ie_str) (ia_cons (ie_str) (ia_nil)))))))))))
    (is_cons (is_set (i := 10) nd (by exact rfl) (by first | exact .inl rfl | exact .inr rfl) (ie_op op_addA od_addA (ie_var (pv 10)) (ie_lst (ia_cons (ie_str) (ia_cons (ie_str) (ia_cons (ie_str) (ia_cons (ie_str) (ia_cons (ie_op op_addA od_addA (ie_str) (ie_op op_mulS od_mulS (ie_str) (ie_int))) (ia_nil)))))))))
    (is_cons (is_set (i := 10) nd (by exact rfl) (by first | exact .inl rfl | exact .inr rfl) (ie_op op_addA od_addA (ie_var (pv 10)) (ie_lst (ia_cons (ie_op op_addA od_addA (ie_str) (ie_op op_mulS od_mulS (ie_str) (ie_int))) (ia_cons (ie_op op_addA od_addA (ie_str) (ie_op op_mulS od_mulS (ie_str) (ie_int))) (ia_cons (ie_str) (ia_nil)))))))
    (is_cons (is_set (i := 10) nd (by exact rfl) (by first | exact .inl rfl | exact .inr rfl) (ie_op op_addA od_addA (ie_var (pv 10)) (ie_lst (ia_cons (ie_str) (ia_cons (ie_str) (ia_cons (ie_str) (ia_cons (ie_str) (ia_cons (ie_str) (ia_cons (ie_str) (ia_nil))))))))))
    (is_cons (is_set (i := 10) nd (by exact rfl) (by first | exact .inl rfl | exact .inr rfl) (ie_op op_addA od_addA (ie_var (pv 10)) (ie_lst (ia_cons (ie_str) (ia_cons (ie_str) (ia_cons (ie_str) (ia_cons (ie_str) (ia_cons (ie_str) (ia_cons (ie_str) (ia_cons (ie_str) (ia_nil)))))))))))
    (is_cons (is_set (i := 10) nd (by exact rfl) (by first | exact .inl rfl | exact .inr rfl) (ie_op op_addA od_addA (ie_op op_addA od_addA (ie_var (pv 10)) (ie_frz (ir_lc (own := [("_law_text", 5)]) (by exact rfl) nd (ii_lst (ie_var (pv 10))) (blkB_ok (by kernel_rfl)) (fun _ _ _ _ _ => ig_name (i := 5) nd (by exact rfl) (by first | exact .inl rfl | exact .inr rfl)) (fun _ _ _ _ _ => its_nil) (fun _ _ _ _ _ => ie_op op_addA od_addA (ie_str) (ie_var (pv 5))) (by decide)))) (ie_frz (ir_lc (own := [("_law_text", 5)]) (by exact rfl) nd (ii_lst (ie_sl (ie_var (pv 10)) (io_some (ie_neg (ie_int))) (io_none))) (blkB_ok (by kernel_rfl)) (fun _ _ _ _ _ => ig_name (i := 5) nd (by exact rfl) (by first | exact .inl rfl | exact .inr rfl)) (fun _ _ _ _ _ => its_nil) (fun _ _ _ _ _ => ie_op op_addA od_addA (ie_str) (ie_var (pv 5))) (by decide)))))
    (is_one (is_ret (ir_of (ie_callB (cr_all (by exact rfl)) cd_all (by exact rfl) T.n_all (by decide +kernel) (ia_cons (ie_frz (ir_lc (own := [("_law_text", 5)]) (by exact rfl) nd (ii_lst (ie_var (pv 10))) (blkB_ok (by kernel_rfl)) (fun _ _ _ _ _ => ig_name (i := 5) nd (by exact rfl) (by first | exact .inl rfl | exact .inr rfl)) (fun _ _ _ _ _ => its_nil) (fun _ _ _ _ _ => ie_cmp (opEq hu) od_eq (ie_repr hgd hu T.n_repr (by exact rfl) (ie_frz (ir_call (ok_law_said T) (hr.mono (by decide)) (by exact rfl) T.m_law_said T.k_law_said T.b_law_said SK.takes0 (ia_cons (ie_var (pv 5)) (ia_nil)) (al_cons (al_nil))))) (ie_repr hgd hu T.n_repr (by exact rfl) (ie_frz (ir_call (ok_law_due T) (hr.mono (by decide)) (by exact rfl) T.m_law_due T.k_law_due T.b_law_due SK.takes0 (ia_cons (ie_var (pv 5)) (ia_nil)) (al_cons (al_nil))))) (by first | exact nobehind _ (by decide) (by decide) | rfl)) (by decide))) (ia_nil)))))))))))))
end
end K83
end
section
set_option Elab.async false
set_option linter.all false
set_option autoImplicit false
set_option maxRecDepth 100000
set_option maxHeartbeats 4000000
namespace K83P
open PySem PySem.Spec PyProof.Rows L2 SK K83
def T (l : List Nat) : Str := SX.S l
theorem T_len (l : List Nat) : (T l).length = l.length := SX.S_len l
theorem T_one (c : Nat) : (⟨#[c]⟩ : Str) = T [c] := rfl
theorem T_beq (a b : List Nat) : (T a == T b) = decide (a = b) := SX.S_beq_eq
theorem T_inj {a b : List Nat} (h : T a = T b) : a = b := SX.S_inj h
theorem cps_T (a : List Nat) : (T a).cps.toList = a := rfl
theorem strOk_T {l : List Nat} (h : ∀ c ∈ l, c < 128) : PyData.strOk (T l) = true := by
  unfold PyData.strOk
  rw [← Array.all_toList, cps_T]
  exact List.all_eq_true.mpr fun c hc => decide_eq_true (Nat.lt_trans (h c hc) (by decide))
theorem shaped_str {x : Str} (h : PyData.strOk x = true) : SeqAt.shaped (.str x) = true := by
  unfold SeqAt.shaped
  simp [PyData.canLay0, PyData.depth, h]
theorem gEq_str {x y : Str} (hx : PyData.strOk x = true) (hy : PyData.strOk y = true) : gEq (.str x) (.str y) = some (.bl (x == y)) := by
  simp [gEq, D.py, shaped_str hx, shaped_str hy, PyData.eqv]
theorem gNe_str {x y : Str} (hx : PyData.strOk x = true) (hy : PyData.strOk y = true) : gNe (.str x) (.str y) = some (.bl (!(x == y))) := by
  simp [gNe, D.py, shaped_str hx, shaped_str hy, PyData.eqv]
theorem gEq_T {a b : List Nat} (ha : ∀ c ∈ a, c < 128) (hb : ∀ c ∈ b, c < 128) : gEq (.str (T a)) (.str (T b)) = some (.bl (decide (a = b))) := by
  rw [gEq_str (strOk_T ha) (strOk_T hb), T_beq]
theorem gNe_T {a b : List Nat} (ha : ∀ c ∈ a, c < 128) (hb : ∀ c ∈ b, c < 128) : gNe (.str (T a)) (.str (T b)) = some (.bl (!decide (a = b))) := by
  rw [gNe_str (strOk_T ha) (strOk_T hb), T_beq]
theorem gEq_int (i j : Int) : gEq (.int i) (.int j) = some (.bl (i == j)) := by
  simp [gEq, D.py, SeqAt.shaped, PyData.canLay0, PyData.depth, PyData.eqv]
theorem subS_T (c : Nat) (a : List Nat) : subS (T [c]) (T a) = decide (c ∈ a) := SX.in_one a c
theorem vw_str (st : List MO) (x : Str) : vw st (.str x) = some (.str x) := rfl
theorem vw_lst (st : List MO) (x : List D) : vw st (.lst x) = some (.lst x) := rfl
theorem gLen_str {st : List MO} {a : List Nat} (h : a.length ≤ sizeLine) : gLen st (.str (T a)) = some (.int a.length) := by
  unfold gLen
  rw [vw_str]
  dsimp only
  rw [T_len, if_pos h]
theorem gSl_str {a : List Nat} (h : a.length ≤ sizeLine) (lo hi : Option Int) : gSl (.str (T a)) lo hi = some (.str (T (cutL a lo hi))) := by
  unfold gSl
  dsimp only
  rw [T_len, if_pos h]
  unfold cutS cutL
  rw [T_len, cps_T]; rfl
theorem cut_to (a : List Nat) (k : Nat) : cutL a none (some (k : Int)) = a.take k := by
  unfold cutL
  rw [HT.sIx_nat, HT.sIx_none, List.drop_zero, Nat.sub_zero]
  by_cases h : k ≤ a.length
  · rw [Nat.min_eq_left h]
  · rw [Nat.min_eq_right (by omega), List.take_of_length_le (Nat.le_refl _), List.take_of_length_le (by omega)]
theorem cut_from (a : List Nat) (k : Nat) : cutL a (some (k : Int)) none = a.drop k := by
  unfold cutL
  rw [HT.sIx_nat, HT.sIx_none]
  by_cases h : k ≤ a.length
  · rw [Nat.min_eq_left h, List.take_of_length_le (by rw [List.length_drop]; exact Nat.le_refl _)]
  · rw [Nat.min_eq_right (by omega), List.drop_eq_nil_of_le (Nat.le_refl _), List.drop_eq_nil_of_le (show a.length ≤ k by omega), List.take_nil]
theorem gIx_str0 {st : List MO} {c : Nat} {a : List Nat} (h : (c :: a).length ≤ sizeLine) : gIx (.str (T (c :: a))) (.int 0) = some (.str (T [c])) := by
  unfold gIx
  dsimp only
  rw [T_len, if_pos h]
  rw [cps_T]
  simp [atI, ixN, T_one]

theorem compA_pure {t : Tg} {c : M Bool} {e : M SK.D} {env : En} {st : List MO} {p : SK.D → Bool} {ψ : SK.D → SK.D} : ∀ (ds acc : List SK.D),
    (∀ d ∈ ds, ∃ env1, t d env = some env1 ∧ c env1 st = .ok (p d) st ∧ (p d = true → e env1 st = .ok (ψ d) st)) → compA t c e ds acc env st = .ok (acc ++ (ds.filter p).map ψ) st
  | [], acc, _ => by simp [compA]
  | d :: ds, acc, h => by
    obtain ⟨env1, h1, h2, h3⟩ := h d (List.mem_cons_self ..)
    have ih := fun a => compA_pure ds a (fun d hd => h d (List.mem_cons_of_mem _ hd))
    unfold compA
    rw [h1]
    dsimp only
    rw [h2]
    cases hp : p d with
    | false => simp [Out.nox, Out.bind, ih, hp]
    | true => simp [Out.nox, Out.bind, ih, hp, h3 hp]
theorem eLcO_pure {f : M (List SK.D)} {vs : List Nat} {t : Tg} {c : M Bool} {e : M SK.D} {env : En} {st : List MO} {ds : List SK.D} (p : SK.D → Bool) (ψ : SK.D → SK.D) (hf : f env st = .ok ds st) (hl : ds.length ≤ 100000)
    (h : ∀ d ∈ ds, ∃ env1, t d (cEnv env vs) = some env1 ∧ c env1 st = .ok (p d) st ∧ (p d = true → e env1 st = .ok (ψ d) st)) : eLcO f vs t c e env st = .ok (.o (.lst ((ds.filter p).map ψ))) st := by
  unfold eLcO
  rw [hf]
  simp [Out.bind, hl, compA_pure ds [] h]
def isD (c : Nat) : Bool := decide (48 ≤ c) && decide (c ≤ 57)
def digs : List Nat := [48, 49, 50, 51, 52, 53, 54, 55, 56, 57]
theorem mem_digs (c : Nat) : decide (c ∈ digs) = isD c := by
  unfold digs isD
  rw [← Bool.decide_and]
  apply decide_eq_decide.mpr
  simp only [List.mem_cons, List.not_mem_nil, or_false]
  omega
def wordD (w : List Nat) (sg : Bool) : List Nat := if sg && decide (w.take 1 = [45]) then w.drop 1 else w
def okD (ds : List Nat) : Bool := decide (1 ≤ ds.length ∧ ds.length ≤ 20) && ds.all isD
def badD (ds : List Nat) (b : Bool) : Bool := decide (ds.take 1 = [48]) && (decide (1 < ds.length) || b)
def numP (w : List Nat) (sg : Bool) : Option Int := if okD (wordD w sg) && !badD (wordD w sg) (!decide (wordD w sg = w)) then intText? (T w) else none
theorem okD_cons {ds : List Nat} (h : okD ds = true) : ∃ c r, ds = c :: r ∧ isD c = true := by
  cases ds with
  | nil => simp [okD] at h
  | cons c r => simp [okD] at h; exact ⟨c, r, rfl, h.2.1⟩
theorem isD_iff {c : Nat} : isD c = true ↔ 48 ≤ c ∧ c ≤ 57 := by simp [isD]
theorem okD_all {ds : List Nat} (h : okD ds = true) : ∀ c ∈ ds, 48 ≤ c ∧ c ≤ 57 := fun c hc => isD_iff.mp (List.all_eq_true.mp (Bool.and_eq_true_iff.mp h).2 c hc)
theorem okD_len {ds : List Nat} (h : okD ds = true) : 1 ≤ ds.length ∧ ds.length ≤ 20 := of_decide_eq_true (Bool.and_eq_true_iff.mp h).1
theorem wordD_cases (w : List Nat) (sg : Bool) : (wordD w sg = w ∧ (sg = true → w.take 1 ≠ [45])) ∨ (sg = true ∧ w = 45 :: wordD w sg) := by
  unfold wordD
  split
  · rename_i h
    rw [Bool.and_eq_true, decide_eq_true_eq] at h
    right
    refine ⟨h.1, ?_⟩
    match w, h.2 with
    | c :: r, h2 => simp at h2; rw [h2]; rfl
  · rename_i h
    exact .inl ⟨rfl, fun z q => h (by rw [z, q]; decide)⟩
theorem intText_ok {w : List Nat} {sg : Bool} (h : okD (wordD w sg) = true) : ∃ i : Int, intText? (T w) = some i ∧ i.natAbs < 10 ^ 20 := by
  have hv : ∀ cs : List Nat, (∀ c ∈ cs, 48 ≤ c ∧ c ≤ 57) → cs.length ≤ 20 → NumText.digitsVal cs < 10 ^ 20 := by
    have go : ∀ (cs : List Nat) (a : Nat), (∀ c ∈ cs, 48 ≤ c ∧ c ≤ 57) → cs.foldl (fun acc c => acc * 10 + (c - 48)) a < (a + 1) * 10 ^ cs.length := by
      intro cs
      induction cs with
      | nil => intro a _; simp
      | cons c r ih =>
        intro a hc
        rw [List.foldl_cons, List.length_cons]
        have h1 := ih (a * 10 + (c - 48)) (fun d hd => hc d (List.mem_cons_of_mem _ hd))
        have h2 := hc c (List.mem_cons_self ..)
        have h3 : (a * 10 + (c - 48) + 1) * 10 ^ r.length ≤ (a + 1) * 10 * 10 ^ r.length := Nat.mul_le_mul_right _ (by omega)
        have h4 : (a + 1) * 10 ^ (r.length + 1) = (a + 1) * 10 * 10 ^ r.length := by rw [Nat.pow_succ, Nat.mul_assoc (a + 1) 10, Nat.mul_comm 10 (10 ^ r.length)]
        rw [h4]
        exact Nat.lt_of_lt_of_le h1 h3
    intro cs hc hl
    have := go cs 0 hc
    rw [Nat.zero_add, Nat.one_mul] at this
    exact Nat.lt_of_lt_of_le this (Nat.pow_le_pow_right (by decide) hl)
  have ha := okD_all h
  have hl := okD_len h
  rcases wordD_cases w sg with ⟨e, _⟩ | ⟨_, e⟩
  · rw [e] at ha hl
    refine ⟨_, intText_digits (x := T w) ha (by rw [cps_T]; intro z; rw [z] at hl; simp at hl) (by rw [T_len]; omega), ?_⟩
    rw [Int.natAbs_natCast]; exact hv w ha hl.2
  · refine ⟨_, intText_neg (x := T w) (cs := wordD w sg) (by rw [cps_T]; exact e) ha (by intro z; rw [z] at hl; simp at hl) (by rw [T_len, e, List.length_cons]; omega), ?_⟩
    rw [Int.natAbs_neg, Int.natAbs_natCast]; exact hv _ ha hl.2
end K83P
end
section
set_option Elab.async false
set_option linter.all false
set_option autoImplicit false
set_option maxRecDepth 100000
set_option maxHeartbeats 4000000
namespace K83P
open PySem PySem.Spec PyProof.Rows L2 SK K83
theorem s_minus : Str.ofString "-" = T [45] := by decide +kernel
theorem s_zero : Str.ofString "0" = T [48] := by decide +kernel
theorem s_digits : Str.ofString "0123456789" = T digs := by decide +kernel
theorem s_none : Str.ofString "none" = T [110, 111, 110, 101] := by decide +kernel
theorem s_nl : Str.ofString "\n" = T [10] := by decide +kernel
theorem s_sp : Str.ofString " " = T [32] := by decide +kernel
def optI : Option Int → SK.D
  | some i => .int i
  | none => .non
abbrev Asc (w : List Nat) : Prop := ∀ c ∈ w, c < 128
theorem Asc.take {w : List Nat} (h : Asc w) (n : Nat) : Asc (w.take n) := fun c hc => h c (List.mem_of_mem_take hc)
theorem Asc.drop {w : List Nat} (h : Asc w) (n : Nat) : Asc (w.drop n) := fun c hc => h c (List.mem_of_mem_drop hc)
theorem Asc.wordD {w : List Nat} (h : Asc w) (sg : Bool) : Asc (wordD w sg) := by
  unfold K83P.wordD
  split
  · exact h.drop 1
  · exact h
theorem wordD_le (w : List Nat) (sg : Bool) : (wordD w sg).length ≤ w.length := by
  unfold wordD
  split
  · rw [List.length_drop]; omega
  · exact Nat.le_refl _
section
variable {α β : Type} {env env' : En} {st st1 st2 st3 : List MO} {f g h : M SK.D} {fs : M (List SK.D)} {c c' : M Bool} {a b : S} {d d' z : SK.D} {ds : List SK.D} {i : Nat} {x y : Bool} {fr gr : M Rs} {r : Rs}
theorem bind_ok (a : α) (st : List MO) (f : α → List MO → Out β) : (Out.ok a st).bind f = f a st := rfl
theorem bindS_ok (a : α) (st : List MO) (env : En) (f : α → List MO → SO) : (Out.ok a st).bindS env f = f a st := rfl
theorem of_some (a : α) (st : List MO) : Out.of (some a) st = .ok a st := rfl
theorem eVar_ok (h : env[i]? = some (.val d)) : eVar i env st = .ok d st := by unfold eVar; rw [h]
theorem eC_ok : eC d env st = .ok d st := rfl
theorem aNil_ok : aNil env st = .ok [] st := rfl
theorem aCons_ok (h1 : f env st = .ok d st1) (h2 : fs env st1 = .ok ds st2) : aCons f fs env st = .ok (d :: ds) st2 := by unfold aCons; rw [h1, bind_ok, h2, bind_ok]
theorem e1_ok {o : SK.D → Option SK.D} (h1 : f env st = .ok d st1) (h : o d = some z) : e1 f o env st = .ok z st1 := by unfold e1; rw [h1, bind_ok, h, of_some]
theorem e2_ok {o : SK.D → SK.D → Option SK.D} (h1 : f env st = .ok d st1) (h2 : g env st1 = .ok d' st2) (h : o d d' = some z) : e2 f g o env st = .ok z st2 := by unfold e2; rw [h1, bind_ok, h2, bind_ok, h, of_some]
theorem eA_ok {o : List SK.D → Option SK.D} (h1 : fs env st = .ok ds st1) (h : o ds = some z) : eA fs o env st = .ok z st1 := by unfold eA; rw [h1, bind_ok, h, of_some]
theorem eAR_ok {o : List SK.D → Option Rs} (h1 : fs env st = .ok ds st1) (h : o ds = some r) : eAR fs o env st = .ok r st1 := by unfold eAR; rw [h1, bind_ok, h, of_some]
theorem e1s_ok {o : List MO → SK.D → Option SK.D} (h1 : f env st = .ok d st1) (h : o st1 d = some z) : e1s f o env st = .ok z st1 := by unfold e1s; rw [h1, bind_ok, h, of_some]
theorem e2s_ok {o : List MO → SK.D → SK.D → Option SK.D} (h1 : f env st = .ok d st1) (h2 : g env st1 = .ok d' st2) (h : o st2 d d' = some z) : e2s f g o env st = .ok z st2 := by unfold e2s; rw [h1, bind_ok, h2, bind_ok, h, of_some]
theorem eTest_ok (h1 : f env st = .ok (.bl x) st1) : eTest f env st = .ok x st1 := by unfold eTest; rw [h1, bind_ok]
theorem eIf_t (h1 : c env st = .ok true st1) : eIf c f g env st = f env st1 := by unfold eIf; rw [h1, bind_ok]; rfl
theorem eIf_f (h1 : c env st = .ok false st1) : eIf c f g env st = g env st1 := by unfold eIf; rw [h1, bind_ok]; rfl
theorem rIf_t (h1 : c env st = .ok true st1) : rIf c fr gr env st = fr env st1 := by unfold rIf; rw [h1, bind_ok]; rfl
theorem rIf_f (h1 : c env st = .ok false st1) : rIf c fr gr env st = gr env st1 := by unfold rIf; rw [h1, bind_ok]; rfl
theorem and_ok (h1 : c env st = .ok x st1) (h2 : x = true → c' env st1 = .ok y st1) : tAndI c c' env st = .ok (x && y) st1 := by
  unfold tAndI; rw [h1, bind_ok]
  cases x with
  | true => rw [if_pos rfl, h2 rfl]; rfl
  | false => rfl
theorem or_ok (h1 : c env st = .ok x st1) (h2 : x = false → c' env st1 = .ok y st1) : tOrI c c' env st = .ok (x || y) st1 := by
  unfold tOrI; rw [h1, bind_ok]
  cases x with
  | false => rw [if_neg (by decide), h2 rfl]; rfl
  | true => rfl
theorem not_ok (h1 : c env st = .ok x st1) : tNotI c env st = .ok (!x) st1 := by unfold tNotI; rw [h1, bind_ok]
theorem eFrz_ok (h1 : fr env st = .ok r st1) : eFrz fr env st = .ok r.d st1 := by unfold eFrz; rw [h1, bind_ok]
theorem eRet_ok (h1 : f env st = .ok d st1) : eRet f env st = .ok (.v d) st1 := by unfold eRet; rw [h1, bind_ok]
theorem eCall_ok {F : Fn} {o : Out Rs} (h1 : fs env st = .ok ds st1) (h2 : F ds st1 = o) : eCall fs F env st = o := by unfold eCall; rw [h1, bind_ok, h2]
theorem eM1_ok {o : Str → SK.D → Option SK.D} {u : Str} (h1 : f env st = .ok (.str u) st1) (h2 : g env st1 = .ok d' st2) (h : o u d' = some z) : eM1 f g o env st = .ok z st2 := by unfold eM1; rw [h1, bind_ok]; dsimp only; rw [h2, bind_ok, h, of_some]
theorem oSome_ok {k : Int} (h1 : f env st = .ok (.int k) st1) : oSome f env st = .ok (some k) st1 := by unfold oSome; rw [h1, bind_ok]
theorem oNone_ok : oNone env st = .ok none st := rfl
theorem eSl_ok {lo hi : M (Option Int)} {l u : Option Int} (h1 : f env st = .ok d st1) (h2 : lo env st1 = .ok l st2) (h3 : hi env st2 = .ok u st3) (h : gSl d l u = some z) : eSl f lo hi env st = .ok z st3 := by unfold eSl; rw [h1, bind_ok, h2, bind_ok, h3, bind_ok, h, of_some]
theorem sSet_ok (h1 : f env st = .ok d st1) : sSet i f env st = .nx (env.set i (.val d)) st1 := by unfold sSet; rw [h1, bindS_ok]
theorem sSetO_ok {q : MO} (h1 : fr env st = .ok (.o q) st1) : sSetO i fr env st = .nx (env.set i (.own q)) st1 := by unfold sSetO; rw [h1, bindS_ok]
theorem sSetS_o {q : MO} (h1 : fr env st = .ok (.o q) st1) : sSetS i fr env st = .nx (env.set i (.val (.ref st1.length))) (st1 ++ [q]) := by unfold sSetS; rw [h1, bindS_ok]
theorem sRet_ok (h1 : fr env st = .ok r st1) : sRet fr env st = .rt r st1 := by unfold sRet; rw [h1, bindS_ok]
theorem sIf_t (h1 : c env st = .ok true st1) : sIf c a b env st = a env st1 := by unfold sIf; rw [h1, bindS_ok, if_pos rfl]
theorem sIf_f (h1 : c env st = .ok false st1) : sIf c a b env st = b env st1 := by unfold sIf; rw [h1, bindS_ok, if_neg (by decide)]
theorem seq_nx (h1 : a env st = .nx env' st1) : sSeq a b env st = b env' st1 := by unfold sSeq; rw [h1]; rfl
theorem seq_rt (h1 : a env st = .rt r st1) : sSeq a b env st = .rt r st1 := by unfold sSeq; rw [h1]; rfl
theorem sNil_ok : sNil env st = .nx env st := rfl
theorem run_rt {n : Nat} (h1 : a (ds.map Sl.val ++ List.replicate (n - ds.length) Sl.no) st = .rt r st1) : runF n a ds st = .ok r st1 := by unfold runF; rw [h1]
end
theorem slice_to (a : List Nat) (h : a.length ≤ sizeLine) (k : Int) (hk : 0 ≤ k) : gSl (.str (T a)) none (some k) = some (.str (T (a.take k.toNat))) := by
  obtain ⟨n, rfl⟩ := Int.eq_ofNat_of_zero_le hk
  rw [gSl_str h, cut_to]; rfl
theorem slice_from (a : List Nat) (h : a.length ≤ sizeLine) (k : Int) (hk : 0 ≤ k) : gSl (.str (T a)) (some k) none = some (.str (T (a.drop k.toNat))) := by
  obtain ⟨n, rfl⟩ := Int.eq_ofNat_of_zero_le hk
  rw [gSl_str h, cut_from]; rfl
theorem bls_map (p : Nat → Bool) : ∀ l : List Nat, D.bls (l.map fun c => .bl (p c)) = some (l.map p)
  | [] => rfl
  | c :: r => by simp [D.bls, bls_map p r]
theorem digits_eval {env : En} {st : List MO} {i j : Nat} {ds : List Nat} (hd : env[i]? = some (.val (.str (T ds)))) (hj : j < env.length) (hl : ds.length ≤ 100000) :
    eLcO (wStr (eVar i)) [j] (tgN j) tYesI (e2 (eVar j) (eC (.str c_DIGITS)) (gIn false)) env st = .ok (.o (.lst (ds.map fun c => .bl (isD c)))) st := by
  rw [eLcO_pure (fun _ => true) (fun d => match d with | .str x => .bl (subS x c_DIGITS) | _ => .non) (ds := ds.map fun c => .str (T [c])) (by unfold wStr; rw [eVar_ok hd, bind_ok]; rfl) (by simpa using hl) fun d hm => by
    obtain ⟨c, hc, rfl⟩ := List.mem_map.mp hm
    refine ⟨_, rfl, rfl, fun _ => ?_⟩
    have hlen : j < (cEnv env [j]).length := by unfold cEnv; rw [wipeE_length, List.length_map]; exact hj
    exact e2_ok (eVar_ok (List.getElem?_set_self hlen)) eC_ok (by simp [gIn, gInS])]
  rw [List.filter_eq_self.mpr (fun _ _ => rfl), List.map_map]
  congr 3
  refine List.map_congr_left fun c _ => ?_
  show SK.D.bl (subS (T [c]) c_DIGITS) = _
  rw [show c_DIGITS = T digs from s_digits, subS_T, mem_digs]
theorem word_eval {w : List Nat} {sg : Bool} {st : List MO} (ha : Asc w) (hl : w.length ≤ 100000) (env : En) (h0 : env[0]? = some (.val (.str (T w)))) (h1 : env[1]? = some (.val (.bl sg))) :
    eIf (tAndI (eTest (eVar 1)) (eTest (e2 (eSl (eVar 0) oNone (oSome (eC (.int 1)))) (eC (.str "-")) gEq))) (eSl (eVar 0) (oSome (eC (.int 1))) oNone) (eVar 0) env st = .ok (.str (T (wordD w sg))) st := by
  have hz : w.length ≤ sizeLine := Nat.le_trans hl (by decide)
  have hA : Asc [45] := by decide
  have ht : tAndI (eTest (eVar 1)) (eTest (e2 (eSl (eVar 0) oNone (oSome (eC (.int 1)))) (eC (.str "-")) gEq)) env st = _ := and_ok (eTest_ok (eVar_ok (st := st) h1)) fun _ => eTest_ok (e2_ok (eSl_ok (eVar_ok (st := st) h0) oNone_ok (oSome_ok (eC_ok (d := .int 1))) (slice_to w hz 1 (by decide))) (eC_ok (d := .str "-")) (by rw [s_minus]; exact gEq_T (ha.take 1) hA))
  unfold wordD
  cases hb : sg && decide (w.take 1 = [45]) with
  | true => 
    rw [show (1 : Int).toNat = 1 from rfl, hb] at ht
    rw [eIf_t ht, if_pos rfl]
    exact eSl_ok (eVar_ok h0) (oSome_ok (eC_ok (d := .int 1))) oNone_ok (slice_from w hz 1 (by decide))
  | false => 
    rw [show (1 : Int).toNat = 1 from rfl, hb] at ht
    rw [eIf_f ht, if_neg (by decide)]
    exact eVar_ok h0
theorem len_chain {env : En} {st : List MO} {f : M SK.D} {n : Nat} {lo hi : Int} (h : f env st = .ok (.int n) st) : eChain (eC (.int lo)) f (eC (.int hi)) gLe gLe env st = .ok (.bl (decide (lo ≤ n) && decide ((n : Int) ≤ hi))) st := by
  unfold eChain
  rw [eC_ok, bind_ok, h, bind_ok]
  simp only [gB]
  cases decide (lo ≤ (n : Int)) with
  | true => dsimp only; rw [eC_ok, bind_ok, Bool.true_and]; rfl
  | false => rfl
theorem F_int (ad : Ad) {w : List Nat} {sg : Bool} {st : List MO} (ha : Asc w) (hl : w.length ≤ 100000) : F_read_integer ad [.str (T w), .bl sg] st = .ok (.v (optI (numP w sg))) st := by
  have hz : w.length ≤ sizeLine := Nat.le_trans hl (by decide)
  have ha' := ha.wordD sg
  have hl' : (wordD w sg).length ≤ 100000 := Nat.le_trans (wordD_le w sg) hl
  have hz' : (wordD w sg).length ≤ sizeLine := Nat.le_trans hl' (by decide)
  have q1 := fun env => word_eval (st := st) (sg := sg) ha hl env
  have q2 : ∀ env : En, env[2]? = some (.val (.str (T (wordD w sg)))) → 3 < env.length → tOrI (tNotI (eTest (eChain (eC (.int 1)) (e1s (eVar 2) gLen) (eC (.int 20)) gLe gLe))) (tNotI (eTest (eA (aCons (eFrz (eLcO (wStr (eVar 2)) [3] (tgN 3) (tYesI) (e2 (eVar 3) (eC (.str c_DIGITS)) (gIn false)))) (aNil)) gAll))) env st = .ok (!okD (wordD w sg)) st := by
    intro env h2 hlen
    refine Eq.trans (or_ok (not_ok (eTest_ok (len_chain (st := st) (lo := 1) (hi := 20) (e1s_ok (eVar_ok h2) (gLen_str hz'))))) fun _ => not_ok (eTest_ok (eA_ok (aCons_ok (eFrz_ok (digits_eval (st := st) h2 hlen hl')) aNil_ok) (by show (D.bls ((wordD w sg).map fun c => D.bl (isD c))).map _ = _; rw [bls_map isD]; rfl)))) ?_
    unfold okD
    have z1 : decide ((1 : Int) ≤ ((wordD w sg).length : Nat)) = decide (1 ≤ (wordD w sg).length) := decide_eq_decide.mpr (by omega)
    have z2 : decide ((((wordD w sg).length : Nat) : Int) ≤ 20) = decide ((wordD w sg).length ≤ 20) := decide_eq_decide.mpr (by omega)
    rw [List.all_map, z1, z2, Bool.decide_and]
    cases decide (1 ≤ (wordD w sg).length) <;> cases decide ((wordD w sg).length ≤ 20) <;> rfl
  cases hok : okD (wordD w sg) with
  | false =>
    unfold F_read_integer b_read_integer numP
    rw [hok]
    refine run_rt ((seq_nx (sSet_ok (q1 _ rfl rfl))).trans (seq_rt ((sIf_t ((q2 _ rfl (by simp)).trans (by rw [hok]; rfl))).trans (sRet_ok (eRet_ok eC_ok)))))
  | true =>
    obtain ⟨c, r, ec, hc⟩ := okD_cons hok
    have hl2 := okD_len hok
    obtain ⟨i, hi, _⟩ := intText_ok hok
    have hw : w.length ≤ 640 := by
      rcases wordD_cases w sg with ⟨q, _⟩ | ⟨_, q⟩
      · rw [q] at hl2; omega
      · rw [q, List.length_cons]; omega
    have e6 : gIxS st (.str (T (wordD w sg))) (.int 0) = some (.str (T [c])) := by
      rw [ec] at hz' ⊢
      exact gIx_str0 (st := st) hz'
    have hcA : Asc [c] := fun x hx => by rw [List.mem_singleton] at hx; subst hx; exact ha' x (by rw [ec]; exact List.mem_cons_self ..)
    have q3 : ∀ env : En, env[0]? = some (.val (.str (T w))) → env[2]? = some (.val (.str (T (wordD w sg)))) → tAndI (eTest (e2 (e2s (eVar 2) (eC (.int 0)) gIxS) (eC (.str "0")) gEq)) (tOrI (eTest (e2 (e1s (eVar 2) gLen) (eC (.int 1)) gGt)) (eTest (e2 (eVar 2) (eVar 0) gNe))) env st = .ok (badD (wordD w sg) (!decide (wordD w sg = w))) st := by
      intro env h0 h2
      refine Eq.trans (and_ok (eTest_ok (e2_ok (e2s_ok (eVar_ok (st := st) h2) (eC_ok (d := .int 0)) e6) (eC_ok (d := .str "0")) (by rw [s_zero]; exact gEq_T hcA (show Asc [48] by decide)))) fun _ => or_ok (eTest_ok (e2_ok (e1s_ok (eVar_ok (st := st) h2) (gLen_str hz')) (eC_ok (d := .int 1)) rfl)) fun _ => eTest_ok (e2_ok (eVar_ok (st := st) h2) (eVar_ok h0) (gNe_T ha' ha))) ?_
      unfold badD
      rw [ec]
      congr 3
      exact decide_eq_decide.mpr (by omega)
    unfold F_read_integer b_read_integer numP
    rw [hok]
    refine run_rt ((seq_nx (sSet_ok (q1 _ rfl rfl))).trans ((seq_nx ((sIf_f ((q2 _ rfl (by simp)).trans (by rw [hok]; rfl))).trans sNil_ok)).trans ?_))
    cases hbad : badD (wordD w sg) (!decide (wordD w sg = w)) with
    | true => exact seq_rt ((sIf_t ((q3 _ rfl rfl).trans (by rw [hbad]))).trans (sRet_ok (eRet_ok eC_ok)))
    | false =>
      refine (seq_nx ((sIf_f ((q3 _ rfl rfl).trans (by rw [hbad]))).trans sNil_ok)).trans ((sRet_ok (eRet_ok (eA_ok (aCons_ok (eVar_ok rfl) aNil_ok) (z := .int i) ?_))).trans ?_)
      · unfold gIntA
        dsimp only
        rw [T_len, if_pos hw, hi]; rfl
      · rw [Bool.not_false, Bool.and_self, if_pos rfl, hi]; rfl
end K83P
end
section
set_option Elab.async false
set_option linter.all false
set_option autoImplicit false
set_option maxRecDepth 100000
set_option maxHeartbeats 4000000
namespace K83P
open PySem PySem.Spec PyProof.Rows L2 SK K83
theorem pys_strs : ∀ l : List Nat, D.pys (l.map fun c => SK.D.str (T [c])) = some (l.map fun c => PyData.str (T [c]))
  | [] => rfl
  | c :: r => by simp [D.pys, D.py, pys_strs r]
theorem lay_strs : ∀ l : List Nat, Asc l → PyData.canLayAll0 (l.map fun c => PyData.str (T [c])) = true ∧ PyData.depthAll (l.map fun c => PyData.str (T [c])) = 0
  | [], _ => ⟨by simp [PyData.canLayAll0], by simp [PyData.depthAll]⟩
  | c :: r, h => by
    obtain ⟨h1, h2⟩ := lay_strs r fun x hx => h x (List.mem_cons_of_mem _ hx)
    have h3 : PyData.strOk (T [c]) = true := strOk_T fun x hx => by rw [List.mem_singleton] at hx; subst hx; exact h x (List.mem_cons_self ..)
    constructor
    · rw [List.map_cons]; simp [PyData.canLayAll0, PyData.canLay0, h1, h3]
    · rw [List.map_cons]; simp [PyData.depthAll, PyData.depth, h2]
theorem gNe_nil {l : List Nat} (h : Asc l) : gNe (.lst (l.map fun c => .str (T [c]))) (.lst []) = some (.bl (!l.isEmpty)) := by
  obtain ⟨h1, h2⟩ := lay_strs l h
  have e1 : D.py (.lst (l.map fun c => .str (T [c]))) = some (.list (l.map fun c => PyData.str (T [c]))) := by unfold D.py; rw [pys_strs]; rfl
  have e2 : D.py (.lst []) = some (.list []) := rfl
  have s1 : SeqAt.shaped (.list (l.map fun c => PyData.str (T [c]))) = true := by simp [SeqAt.shaped, PyData.canLay0, PyData.depth, h1, h2]
  have s2 : SeqAt.shaped (.list []) = true := by decide
  unfold gNe
  rw [e1, e2]
  dsimp only
  rw [s1, s2, Bool.and_self, if_pos rfl]
  cases l with
  | nil => simp [PyData.eqv, PyData.eqvAll]
  | cons c r => simp [PyData.eqv, PyData.eqvAll]
theorem len_chain2 {env : En} {st : List MO} {f : M SK.D} {n : Nat} {lo hi : Int} (h : f env st = .ok (.int n) st) : eChain (eC (.int lo)) f (eC (.int hi)) gLt gLt env st = .ok (.bl (decide (lo < n) && decide ((n : Int) < hi))) st := by
  unfold eChain
  rw [eC_ok, bind_ok, h, bind_ok]
  simp only [gB]
  cases decide (lo < (n : Int)) with
  | true => dsimp only; rw [eC_ok, bind_ok, Bool.true_and]; rfl
  | false => rfl
theorem digits_eval2 {env : En} {st : List MO} {i j : Nat} {ds : List Nat} (hd : env[i]? = some (.val (.str (T ds)))) (hj : j < env.length) (hl : ds.length ≤ 100000) :
    eLcO (wStr (eVar i)) [j] (tgN j) (eTest (e2 (eVar j) (eC (.str "0123456789")) (gInS true))) (eVar j) env st = .ok (.o (.lst ((ds.filter fun c => !isD c).map fun c => .str (T [c])))) st := by
  rw [eLcO_pure (fun d => match d with | .str x => !subS x c_DIGITS | _ => false) (fun d => d) (ds := ds.map fun c => .str (T [c])) (by unfold wStr; rw [eVar_ok hd, bind_ok]; rfl) (by simpa using hl) fun d hm => by
    obtain ⟨c, hc, rfl⟩ := List.mem_map.mp hm
    have hlen : j < (cEnv env [j]).length := by unfold cEnv; rw [wipeE_length, List.length_map]; exact hj
    exact ⟨_, rfl, eTest_ok (e2_ok (eVar_ok (List.getElem?_set_self hlen)) eC_ok (by simp [gInS]; rfl)), fun _ => eVar_ok (List.getElem?_set_self hlen)⟩]
  rw [List.map_id'' (fun _ => rfl), List.filter_map]
  congr 4
  refine List.filter_congr fun c _ => ?_
  show (!subS (T [c]) c_DIGITS) = _
  rw [show c_DIGITS = T digs from s_digits, subS_T, mem_digs]
def lstI : Option Int → List SK.D
  | some i => [.int i]
  | none => []
theorem bad_same {w : List Nat} {sg : Bool} (h : okD (wordD w sg) = true) : badD (wordD w sg) (decide (w.take 1 = [45])) = badD (wordD w sg) (!decide (wordD w sg = w)) := by
  unfold badD
  by_cases h0 : (wordD w sg).take 1 = [48]
  · rw [decide_eq_true h0, Bool.true_and, Bool.true_and]
    congr 1
    rcases wordD_cases w sg with ⟨q, _⟩ | ⟨_, q⟩
    · rw [q] at h0 ⊢
      rw [h0]; simp
    · have : wordD w sg ≠ w := fun z => by
        have := congrArg List.length q
        rw [List.length_cons, z] at this; omega
      rw [decide_eq_false this]
      rw [q]; rfl
  · rw [decide_eq_false h0]; rfl
theorem all_filter (l : List Nat) : (l.filter fun c => !isD c).isEmpty = l.all isD := by
  induction l with
  | nil => rfl
  | cons c r ih =>
    rw [List.filter_cons, List.all_cons]
    cases isD c with
    | true => simpa using ih
    | false => rfl
theorem F_lint (ad : Ad) {w : List Nat} {sg : Bool} {st : List MO} (ha : Asc w) (hl : w.length ≤ 100000) : F_law_integer ad [.str (T w), .bl sg] st = .ok (.v (.lst (lstI (numP w sg)))) st := by
  have hz : w.length ≤ sizeLine := Nat.le_trans hl (by decide)
  have ha' := ha.wordD sg
  have hl' : (wordD w sg).length ≤ 100000 := Nat.le_trans (wordD_le w sg) hl
  have hz' : (wordD w sg).length ≤ sizeLine := Nat.le_trans hl' (by decide)
  have q1 := fun env => word_eval (st := st) (sg := sg) ha hl env
  have q2 : ∀ env : En, env[2]? = some (.val (.str (T (wordD w sg)))) → 3 < env.length → tOrI (tNotI (eTest (eChain (eC (.int 0)) (e1s (eVar 2) gLen) (eC (.int 21)) gLt gLt))) (eTest (e2 (eFrz (eLcO (wStr (eVar 2)) [3] (tgN 3) (eTest (e2 (eVar 3) (eC (.str "0123456789")) (gInS true))) (eVar 3))) (eA (aNil) SK.gLst) gNe)) env st = .ok (!okD (wordD w sg)) st := by
    intro env h2 hlen
    refine Eq.trans (or_ok (not_ok (eTest_ok (len_chain2 (st := st) (lo := 0) (hi := 21) (e1s_ok (eVar_ok h2) (gLen_str hz'))))) fun _ => eTest_ok (e2_ok (eFrz_ok (digits_eval2 (st := st) h2 hlen hl')) (eA_ok (aNil_ok (st := st)) rfl) (gNe_nil (fun x hx => ha' x (List.mem_filter.mp hx).1)))) ?_
    unfold okD
    have z1 : decide ((0 : Int) < ((wordD w sg).length : Nat)) = decide (1 ≤ (wordD w sg).length) := decide_eq_decide.mpr (by omega)
    have z2 : decide ((((wordD w sg).length : Nat) : Int) < 21) = decide ((wordD w sg).length ≤ 20) := decide_eq_decide.mpr (by omega)
    rw [all_filter, z1, z2, Bool.decide_and]
    cases decide (1 ≤ (wordD w sg).length) <;> cases decide ((wordD w sg).length ≤ 20) <;> rfl
  have eL : ∀ env : En, eA (aNil) SK.gLst env st = .ok (.lst []) st := fun env => eA_ok aNil_ok rfl
  cases hok : okD (wordD w sg) with
  | false =>
    unfold F_law_integer b_law_integer numP
    rw [hok]
    exact run_rt ((seq_nx (sSet_ok (q1 _ rfl rfl))).trans (seq_rt ((sIf_t ((q2 _ rfl (by simp)).trans (by rw [hok]; rfl))).trans (sRet_ok (eRet_ok (eL _))))))
  | true =>
    obtain ⟨c, r, ec, hc⟩ := okD_cons hok
    have hl2 := okD_len hok
    obtain ⟨i, hi, _⟩ := intText_ok hok
    have hw : w.length ≤ 640 := by
      rcases wordD_cases w sg with ⟨q, _⟩ | ⟨_, q⟩
      · rw [q] at hl2; omega
      · rw [q, List.length_cons]; omega
    have e6 : gIxS st (.str (T (wordD w sg))) (.int 0) = some (.str (T [c])) := by
      rw [ec] at hz' ⊢
      exact gIx_str0 (st := st) hz'
    obtain ⟨c1, r1, ew⟩ : ∃ c1 r1, w = c1 :: r1 := by
      rcases wordD_cases w sg with ⟨q, _⟩ | ⟨_, q⟩
      · exact ⟨c, r, by rw [← q, ec]⟩
      · exact ⟨_, _, q⟩
    have e7 : gIxS st (.str (T w)) (.int 0) = some (.str (T [c1])) := by
      rw [ew] at hz ⊢
      exact gIx_str0 (st := st) hz
    have hcA : Asc [c] := fun x hx => by rw [List.mem_singleton] at hx; subst hx; exact ha' x (by rw [ec]; exact List.mem_cons_self ..)
    have hcB : Asc [c1] := fun x hx => by rw [List.mem_singleton] at hx; subst hx; exact ha x (by rw [ew]; exact List.mem_cons_self ..)
    have q3 : ∀ env : En, env[0]? = some (.val (.str (T w))) → env[2]? = some (.val (.str (T (wordD w sg)))) → tAndI (eTest (e2 (e2s (eVar 2) (eC (.int 0)) gIxS) (eC (.str "0")) gEq)) (tOrI (eTest (e2 (e1s (eVar 2) gLen) (eC (.int 1)) gGt)) (eTest (e2 (e2s (eVar 0) (eC (.int 0)) gIxS) (eC (.str "-")) gEq))) env st = .ok (badD (wordD w sg) (!decide (wordD w sg = w))) st := by
      intro env h0 h2
      refine Eq.trans (and_ok (eTest_ok (e2_ok (e2s_ok (eVar_ok (st := st) h2) (eC_ok (d := .int 0)) e6) (eC_ok (d := .str "0")) (by rw [s_zero]; exact gEq_T hcA (show Asc [48] by decide)))) fun _ => or_ok (eTest_ok (e2_ok (e1s_ok (eVar_ok (st := st) h2) (gLen_str hz')) (eC_ok (d := .int 1)) rfl)) fun _ => eTest_ok (e2_ok (e2s_ok (eVar_ok (st := st) h0) (eC_ok (d := .int 0)) e7) (eC_ok (d := .str "-")) (by rw [s_minus]; exact gEq_T hcB (show Asc [45] by decide)))) ?_
      rw [← bad_same hok]
      unfold badD
      rw [ec, ew]
      congr 3
      exact decide_eq_decide.mpr (by omega)
    unfold F_law_integer b_law_integer numP
    rw [hok]
    refine run_rt ((seq_nx (sSet_ok (q1 _ rfl rfl))).trans ((seq_nx ((sIf_f ((q2 _ rfl (by simp)).trans (by rw [hok]; rfl))).trans sNil_ok)).trans ?_))
    cases hbad : badD (wordD w sg) (!decide (wordD w sg = w)) with
    | true => exact seq_rt ((sIf_t ((q3 _ rfl rfl).trans (by rw [hbad]))).trans (sRet_ok (eRet_ok (eL _))))
    | false =>
      refine (seq_nx ((sIf_f ((q3 _ rfl rfl).trans (by rw [hbad]))).trans sNil_ok)).trans ((sRet_ok (eRet_ok (eA_ok (aCons_ok (eA_ok (aCons_ok (eVar_ok rfl) aNil_ok) (z := .int i) ?_) aNil_ok) rfl))).trans ?_)
      · unfold gIntA
        dsimp only
        rw [T_len, if_pos hw, hi]; rfl
      · rw [Bool.not_false, Bool.and_self, if_pos rfl, hi]; rfl
end K83P
end
section
set_option Elab.async false
set_option linter.all false
set_option autoImplicit false
set_option maxRecDepth 100000
set_option maxHeartbeats 4000000
namespace K83P
open PySem PySem.Spec PyProof.Rows L2 SK K83
theorem s_a : Str.ofString "a" = T [97] := by decide +kernel
theorem s_w : Str.ofString "w" = T [119] := by decide +kernel
theorem s_i : Str.ofString "i" = T [105] := by decide +kernel
theorem s_x : Str.ofString "x" = T [120] := by decide +kernel
theorem s_y : Str.ofString "y" = T [121] := by decide +kernel
theorem s_z : Str.ofString "z" = T [122] := by decide +kernel
theorem s_f : Str.ofString "f" = T [102] := by decide +kernel
theorem s_d : Str.ofString "d" = T [100] := by decide +kernel
theorem s_e : Str.ofString "e" = T [101] := by decide +kernel
theorem s_r : Str.ofString "r" = T [114] := by decide +kernel
theorem s_v : Str.ofString "v" = T [118] := by decide +kernel
theorem s_n : Str.ofString "n" = T [110] := by decide +kernel
theorem fvs_strs : ∀ ls : List (List Nat), D.fvs (ls.map fun l => SK.D.str (T l)) = some (ls.map fun l => V.str (T l))
  | [] => rfl
  | c :: r => by simp [D.fvs, D.fv, fvs_strs r]
theorem inV_strs (x : List Nat) (ls : List (List Nat)) : inV (.str (T x)) (ls.map fun l => V.str (T l)) = decide (x ∈ ls) := by
  unfold inV
  induction ls with
  | nil => rfl
  | cons l r ih =>
    rw [List.map_cons, List.any_cons, ih]
    show (T l == T x || decide (x ∈ r)) = _
    rw [T_beq, ← Bool.decide_or]
    exact decide_eq_decide.mpr (by rw [List.mem_cons]; exact or_congr ⟨Eq.symm, Eq.symm⟩ Iff.rfl)
theorem in_strs {x : List Nat} {ts : List SK.D} (ls : List (List Nat)) (h : ts = ls.map fun l => .str (T l)) : gIn false (.str (T x)) (.tup ts) = some (.bl (decide (x ∈ ls))) := by
  subst h
  unfold gIn gInT
  dsimp only
  rw [fvs_strs]
  simp [D.fv, inV_strs]
def nonW : List Nat := [110, 111, 110, 101]
def partP (w : List Nat) (f : Nat) : Option SK.D :=
  if (f = 97 ∨ f = 119) ∧ w = nonW then some .non
  else if f = 102 then (if w ∈ [[120], [121], [122]] then some (.str (T w)) else none)
  else match numP w (decide (f = 105 ∨ f = 119)) with
    | none => none
    | some n => if f = 100 ∧ 4 ≤ n then none else some (.int n)
theorem asc1 {f : Nat} (h : f < 128) : Asc [f] := fun x hx => by rw [List.mem_singleton] at hx; subst hx; exact h
theorem eCallK_ok {fs gs : M (List SK.D)} {F : Fn} {env : En} {st st1 st2 st3 : List MO} {ds es : List SK.D} {r : Rs} (h1 : fs env st = .ok ds st1) (h2 : gs env st1 = .ok es st2) (h3 : F (ds ++ es) st2 = .ok r st3) : eCallK fs gs F env st = .ok r st3 := by
  unfold eCallK; rw [h1, bind_ok, h2, bind_ok, h3]; rfl
theorem m1 (f a : Nat) : decide ([f] ∈ [[a]]) = decide (f = a) := decide_eq_decide.mpr (by simp)
theorem m2 (f a b : Nat) : decide ([f] ∈ [[a], [b]]) = decide (f = a ∨ f = b) := decide_eq_decide.mpr (by simp)
theorem F_part (ad : Ad) {w : List Nat} {f : Nat} {st : List MO} (ha : Asc w) (hf : f < 128) (hl : w.length ≤ 100000) : F_read_part ad [.str (T w), .str (T [f])] st = .ok (.v (.tup (partP w f).toList)) st := by
  have hn : Asc nonW := by unfold nonW; decide
  have hA := asc1 hf
  have e1 : ∀ env : En, env[0]? = some (.val (.str (T w))) → env[1]? = some (.val (.str (T [f]))) → tAndI (eTest (e2 (eVar 1) (eA (aCons (eC (.str "a")) (aCons (eC (.str "w")) (aNil))) SK.gTup) (gIn false))) (eTest (e2 (eVar 0) (eC (.str c_NOTHING)) gEq)) env st = .ok (decide ((f = 97 ∨ f = 119) ∧ w = nonW)) st := by
    intro env h0 h1
    refine Eq.trans (and_ok (eTest_ok (e2_ok (eVar_ok (st := st) h1) (eA_ok (aCons_ok eC_ok (aCons_ok eC_ok aNil_ok)) rfl) (in_strs [[97], [119]] (by rw [s_a, s_w]; rfl)))) fun _ => eTest_ok (e2_ok (eVar_ok (st := st) h0) eC_ok (by rw [show c_NOTHING = T nonW from s_none]; exact gEq_T ha hn))) ?_
    rw [m2, Bool.decide_and]
  have e2 : ∀ env : En, env[1]? = some (.val (.str (T [f]))) → eTest (e2 (eVar 1) (eC (.str "f")) gEq) env st = .ok (decide (f = 102)) st := by
    intro env h1
    refine Eq.trans (eTest_ok (e2_ok (eVar_ok (st := st) h1) eC_ok (by rw [show Str.ofString "f" = T [102] by decide +kernel]; exact gEq_T hA (asc1 (by decide))))) ?_
    congr 1
    exact decide_eq_decide.mpr (by simp)
  have e3 : ∀ env : En, env[0]? = some (.val (.str (T w))) → env[1]? = some (.val (.str (T [f]))) → eFrz (eCallK (aCons (eVar 0) (aNil)) (aCons (SK.e2 (eVar 1) (eA (aCons (eC (.str "i")) (aCons (eC (.str "w")) (aNil))) SK.gTup) (gIn false)) (aNil)) (F_read_integer ad)) env st = .ok (optI (numP w (decide (f = 105 ∨ f = 119)))) st := by
    intro env h0 h1
    refine eFrz_ok (eCallK_ok (aCons_ok (eVar_ok (st := st) h0) aNil_ok) (aCons_ok (e2_ok (eVar_ok (st := st) h1) (eA_ok (aCons_ok eC_ok (aCons_ok eC_ok aNil_ok)) rfl) (in_strs [[105], [119]] (by rw [s_i, s_w]; rfl))) aNil_ok) (Eq.trans ?_ (F_int ad ha hl)))
    rw [m2]; rfl
  have eT0 : ∀ env : En, eA (aNil) SK.gTup env st = .ok (.tup []) st := fun env => eA_ok aNil_ok rfl
  unfold F_read_part b_read_part partP
  by_cases c1 : (f = 97 ∨ f = 119) ∧ w = nonW
  · rw [if_pos c1]
    exact run_rt (seq_rt ((sIf_t ((e1 _ rfl rfl).trans (by rw [decide_eq_true c1]))).trans (sRet_ok (eRet_ok (eA_ok (aCons_ok eC_ok aNil_ok) rfl)))))
  · rw [if_neg c1]
    refine run_rt ((seq_nx ((sIf_f ((e1 _ rfl rfl).trans (by rw [decide_eq_false c1]))).trans sNil_ok)).trans ?_)
    by_cases c2 : f = 102
    · rw [if_pos c2]
      refine seq_rt ((sIf_t ((e2 _ rfl).trans (by rw [decide_eq_true c2]))).trans (sRet_ok (eRet_ok ?_)))
      have e4 : ∀ env : En, env[0]? = some (.val (.str (T w))) → eTest (SK.e2 (eVar 0) (eC (.tup [.str "x", .str "y", .str "z"])) (gIn false)) env st = .ok (decide (w ∈ [[120], [121], [122]])) st := fun env h0 => eTest_ok (e2_ok (eVar_ok h0) eC_ok (in_strs [[120], [121], [122]] (by rw [s_x, s_y, s_z]; rfl)))
      by_cases c3 : w ∈ [[120], [121], [122]]
      · rw [if_pos c3]
        exact (eIf_t ((e4 _ rfl).trans (by rw [decide_eq_true c3]))).trans (eA_ok (aCons_ok (eVar_ok rfl) aNil_ok) rfl)
      · rw [if_neg c3]
        exact (eIf_f ((e4 _ rfl).trans (by rw [decide_eq_false c3]))).trans (eT0 _)
    · rw [if_neg c2]
      refine (seq_nx ((sIf_f ((e2 _ rfl).trans (by rw [decide_eq_false c2]))).trans sNil_ok)).trans ((seq_nx (sSet_ok (e3 _ rfl rfl))).trans ?_)
      cases hn : numP w (decide (f = 105 ∨ f = 119)) with
      | none =>
        exact seq_rt ((sIf_t (or_ok (x := true) (y := true) (eTest_ok (e2_ok (eVar_ok rfl) eC_ok rfl)) (fun z => by cases z))).trans (sRet_ok (eRet_ok (eT0 _))))
      | some n =>
        have e5 : ∀ env : En, env[1]? = some (.val (.str (T [f]))) → env[2]? = some (.val (.int n)) → tOrI (eTest (SK.e2 (eVar 2) (eC .non) gIsN)) (tAndI (eTest (SK.e2 (eVar 1) (eC (.str "d")) gEq)) (eTest (SK.e2 (eVar 2) (SK.e1 (eC (.adr ad.cKind)) (gCVal ad.cKind (.int 4))) gGe))) env st = .ok (decide (f = 100 ∧ 4 ≤ n)) st := by
          intro env h1 h2
          refine Eq.trans (or_ok (eTest_ok (e2_ok (eVar_ok (st := st) h2) eC_ok rfl)) fun _ => and_ok (eTest_ok (e2_ok (eVar_ok (st := st) h1) eC_ok (by rw [show Str.ofString "d" = T [100] by decide +kernel]; exact gEq_T hA (asc1 (by decide))))) fun _ => eTest_ok (e2_ok (eVar_ok (st := st) h2) (e1_ok eC_ok (by unfold gCVal; dsimp only; rw [if_pos rfl])) rfl)) ?_
          rw [Bool.false_or, Bool.decide_and]
          congr 2
          exact decide_eq_decide.mpr (by simp)
        by_cases c4 : f = 100 ∧ 4 ≤ n
        · dsimp only
          rw [if_pos c4]
          exact seq_rt ((sIf_t ((e5 _ rfl rfl).trans (by rw [decide_eq_true c4]))).trans (sRet_ok (eRet_ok (eT0 _))))
        · dsimp only
          rw [if_neg c4]
          exact (seq_nx ((sIf_f ((e5 _ rfl rfl).trans (by rw [decide_eq_false c4]))).trans sNil_ok)).trans (sRet_ok (eRet_ok (eA_ok (aCons_ok (eVar_ok rfl) aNil_ok) rfl)))
end K83P
end
section
set_option Elab.async false
set_option linter.all false
set_option autoImplicit false
set_option maxRecDepth 100000
set_option maxHeartbeats 4000000
namespace K83P
open PySem PySem.Spec PyProof.Rows L2 SK K83
def lawP (w : List Nat) (g : Nat) : List SK.D :=
  if (g = 101 ∨ g = 114) ∧ w = nonW then [.non]
  else if g = 102 then (if w ∈ [[120], [121], [122]] then [.str (T w)] else [])
  else if g = 100 then (if w ∈ [[48], [49], [50], [51]] then lstI (numP w false) else [])
  else lstI (numP w (decide (g = 118 ∨ g = 114)))
theorem s_1 : Str.ofString "1" = T [49] := by decide +kernel
theorem s_2 : Str.ofString "2" = T [50] := by decide +kernel
theorem s_3 : Str.ofString "3" = T [51] := by decide +kernel
theorem F_lpart0 (ad : Ad) {w : List Nat} {g : Nat} {st : List MO} (ha : Asc w) (hg : g < 128) (hl : w.length ≤ 100000) : F_law_part ad [.str (T w), .str (T [g])] st = .ok (.v (.lst (lawP w g))) st := by
  have hn : Asc nonW := by unfold nonW; decide
  have hA := asc1 hg
  have e1 : ∀ env : En, env[0]? = some (.val (.str (T w))) → env[1]? = some (.val (.str (T [g]))) → tAndI (eTest (e2 (eVar 1) (eA (aCons (eC (.str "e")) (aCons (eC (.str "r")) (aNil))) SK.gTup) (gIn false))) (eTest (e2 (eVar 0) (eC (.str "none")) gEq)) env st = .ok (decide ((g = 101 ∨ g = 114) ∧ w = nonW)) st := by
    intro env h0 h1
    refine Eq.trans (and_ok (eTest_ok (e2_ok (eVar_ok (st := st) h1) (eA_ok (aCons_ok eC_ok (aCons_ok eC_ok aNil_ok)) rfl) (in_strs [[101], [114]] (by rw [s_e, s_r]; rfl)))) fun _ => eTest_ok (e2_ok (eVar_ok (st := st) h0) eC_ok (by rw [s_none]; exact gEq_T ha hn))) ?_
    rw [m2, Bool.decide_and]; rfl
  have e2 : ∀ env : En, env[1]? = some (.val (.str (T [g]))) → eTest (e2 (eVar 1) (eC (.str "f")) gEq) env st = .ok (decide (g = 102)) st := by
    intro env h1
    refine Eq.trans (eTest_ok (e2_ok (eVar_ok (st := st) h1) eC_ok (by rw [s_f]; exact gEq_T hA (asc1 (by decide))))) ?_
    congr 1
    exact decide_eq_decide.mpr (by simp)
  have e3 : ∀ env : En, env[1]? = some (.val (.str (T [g]))) → eTest (SK.e2 (eVar 1) (eC (.str "d")) gEq) env st = .ok (decide (g = 100)) st := by
    intro env h1
    refine Eq.trans (eTest_ok (e2_ok (eVar_ok (st := st) h1) eC_ok (by rw [s_d]; exact gEq_T hA (asc1 (by decide))))) ?_
    congr 1
    exact decide_eq_decide.mpr (by simp)
  have eT0 : ∀ env : En, eA (aNil) SK.gLst env st = .ok (.lst []) st := fun env => eA_ok aNil_ok rfl
  unfold F_law_part b_law_part lawP
  by_cases c1 : (g = 101 ∨ g = 114) ∧ w = nonW
  · rw [if_pos c1]
    exact run_rt (seq_rt ((sIf_t ((e1 _ rfl rfl).trans (by rw [decide_eq_true c1]))).trans (sRet_ok (eRet_ok (eA_ok (aCons_ok eC_ok aNil_ok) rfl)))))
  · rw [if_neg c1]
    refine run_rt ((seq_nx ((sIf_f ((e1 _ rfl rfl).trans (by rw [decide_eq_false c1]))).trans sNil_ok)).trans ?_)
    by_cases c2 : g = 102
    · rw [if_pos c2]
      refine seq_rt ((sIf_t ((e2 _ rfl).trans (by rw [decide_eq_true c2]))).trans (sRet_ok (eRet_ok ?_)))
      have e4 : ∀ env : En, env[0]? = some (.val (.str (T w))) → eTest (SK.e2 (eVar 0) (eA (aCons (eC (.str "x")) (aCons (eC (.str "y")) (aCons (eC (.str "z")) (aNil)))) SK.gTup) (gIn false)) env st = .ok (decide (w ∈ [[120], [121], [122]])) st := fun env h0 => eTest_ok (e2_ok (eVar_ok h0) (eA_ok (aCons_ok eC_ok (aCons_ok eC_ok (aCons_ok eC_ok aNil_ok))) rfl) (in_strs [[120], [121], [122]] (by rw [s_x, s_y, s_z]; rfl)))
      by_cases c3 : w ∈ [[120], [121], [122]]
      · rw [if_pos c3]
        exact (eIf_t ((e4 _ rfl).trans (by rw [decide_eq_true c3]))).trans (eA_ok (aCons_ok (eVar_ok rfl) aNil_ok) rfl)
      · rw [if_neg c3]
        exact (eIf_f ((e4 _ rfl).trans (by rw [decide_eq_false c3]))).trans (eT0 _)
    · rw [if_neg c2]
      refine (seq_nx ((sIf_f ((e2 _ rfl).trans (by rw [decide_eq_false c2]))).trans sNil_ok)).trans ?_
      by_cases c3 : g = 100
      · rw [if_pos c3]
        refine seq_rt ((sIf_t ((e3 _ rfl).trans (by rw [decide_eq_true c3]))).trans (sRet_ok (eRet_ok ?_)))
        have e4 : ∀ env : En, env[0]? = some (.val (.str (T w))) → eTest (SK.e2 (eVar 0) (eA (aCons (eC (.str "0")) (aCons (eC (.str "1")) (aCons (eC (.str "2")) (aCons (eC (.str "3")) (aNil))))) SK.gTup) (gIn false)) env st = .ok (decide (w ∈ [[48], [49], [50], [51]])) st := fun env h0 => eTest_ok (e2_ok (eVar_ok h0) (eA_ok (aCons_ok eC_ok (aCons_ok eC_ok (aCons_ok eC_ok (aCons_ok eC_ok aNil_ok)))) rfl) (in_strs [[48], [49], [50], [51]] (by rw [s_zero, s_1, s_2, s_3]; rfl)))
        by_cases c4 : w ∈ [[48], [49], [50], [51]]
        · rw [if_pos c4]
          exact (eIf_t ((e4 _ rfl).trans (by rw [decide_eq_true c4]))).trans (eFrz_ok (eCall_ok (aCons_ok (eVar_ok rfl) (aCons_ok eC_ok aNil_ok)) (F_lint ad ha hl)))
        · rw [if_neg c4]
          exact (eIf_f ((e4 _ rfl).trans (by rw [decide_eq_false c4]))).trans (eT0 _)
      · rw [if_neg c3]
        refine (seq_nx ((sIf_f ((e3 _ rfl).trans (by rw [decide_eq_false c3]))).trans sNil_ok)).trans (sRet_ok (eCall_ok (aCons_ok (eVar_ok rfl) (aCons_ok (e2_ok (eVar_ok rfl) (eA_ok (aCons_ok eC_ok (aCons_ok eC_ok aNil_ok)) rfl) (in_strs [[118], [114]] (by rw [s_v, s_r]; rfl))) aNil_ok)) (Eq.trans ?_ (F_lint ad ha hl))))
        rw [m2]
theorem fold_ge : ∀ (cs : List Nat) (a : Nat), a ≤ cs.foldl (fun acc c => acc * 10 + (c - 48)) a
  | [], a => Nat.le_refl _
  | c :: r, a => by
    rw [List.foldl_cons]
    exact Nat.le_trans (by omega) (fold_ge r _)
theorem d_small {w : List Nat} {n : Int} (h : numP w false = some n) (hn : n < 4) : w ∈ [[48], [49], [50], [51]] := by
  unfold numP at h
  split at h
  · rename_i hc
    obtain ⟨h1, h2⟩ := Bool.and_eq_true_iff.mp hc
    have e : wordD w false = w := by unfold wordD; rw [Bool.false_and]; rfl
    rw [e] at h1 h2
    obtain ⟨c, r, rfl, hcd⟩ := okD_cons h1
    have hl := okD_len h1
    have h3 := intText_digits (x := T (c :: r)) (okD_all h1) (by rw [cps_T]; simp) (by rw [T_len]; omega)
    rw [h] at h3
    cases h3
    rw [cps_T] at hn
    unfold NumText.digitsVal at hn
    have hc' := isD_iff.mp hcd
    cases r with
    | nil =>
      simp only [List.foldl_cons, List.foldl_nil] at hn
      have : c = 48 ∨ c = 49 ∨ c = 50 ∨ c = 51 := by omega
      rcases this with z | z | z | z <;> subst z <;> simp
    | cons d r =>
      exfalso
      have h4 : c ≠ 48 := fun z => by
        subst z
        simp [badD] at h2
      simp only [List.foldl_cons] at hn
      have := fold_ge r ((0 * 10 + (c - 48)) * 10 + (d - 48))
      omega
  · cases h
def pairs : List (Nat × Nat) := [(111, 110), (102, 102), (100, 100), (97, 101), (119, 114), (105, 118)]
theorem lawP_same {w : List Nat} {f g : Nat} (h : (f, g) ∈ pairs) : lawP w g = (partP w f).toList := by
  have k : ∀ o : Option Int, lstI o = (match o with | none => none | some n => some (SK.D.int n)).toList := fun o => by cases o <;> rfl
  unfold pairs at h
  simp only [List.mem_cons, Prod.mk.injEq, List.not_mem_nil, or_false] at h
  rcases h with ⟨rfl, rfl⟩ | ⟨rfl, rfl⟩ | ⟨rfl, rfl⟩ | ⟨rfl, rfl⟩ | ⟨rfl, rfl⟩ | ⟨rfl, rfl⟩ <;> unfold lawP partP
  · simp
    cases numP w false <;> rfl
  · simp
    split <;> rfl
  · simp
    split
    · rename_i hw
      rcases hw with rfl | rfl | rfl | rfl
      · rw [show numP [48] false = some 0 by decide +kernel]; rfl
      · rw [show numP [49] false = some 1 by decide +kernel]; rfl
      · rw [show numP [50] false = some 2 by decide +kernel]; rfl
      · rw [show numP [51] false = some 3 by decide +kernel]; rfl
    · rename_i hw
      cases hnum : numP w false with
      | none => rfl
      | some n =>
        dsimp only
        by_cases h4 : 4 ≤ n
        · rw [if_pos h4]; rfl
        · have := d_small hnum (by omega)
          simp at this
          exact absurd this hw
  · simp
    split
    · rfl
    · cases numP w false <;> rfl
  · simp
    split
    · rfl
    · cases numP w true <;> rfl
  · simp
    cases numP w true <;> rfl
theorem F_lpart (ad : Ad) {w : List Nat} {f g : Nat} {st : List MO} (h : (f, g) ∈ pairs) (ha : Asc w) (hl : w.length ≤ 100000) : F_law_part ad [.str (T w), .str (T [g])] st = .ok (.v (.lst (partP w f).toList)) st := by
  have hg : g < 128 := by
    unfold pairs at h
    simp only [List.mem_cons, Prod.mk.injEq, List.not_mem_nil, or_false] at h
    omega
  rw [F_lpart0 ad ha hg hl, lawP_same h]
end K83P
end
section
set_option Elab.async false
set_option linter.all false
set_option autoImplicit false
set_option maxRecDepth 100000
set_option maxHeartbeats 4000000
namespace K83P
open PySem PySem.Spec PyProof.Rows L2 SK K83
def w_change : List Nat := [99, 104, 97, 110, 103, 101]
def w_lookup : List Nat := [108, 111, 111, 107, 117, 112]
def w_read : List Nat := [114, 101, 97, 100]
def w_put : List Nat := [112, 117, 116]
def w_take : List Nat := [116, 97, 107, 101]
def w_lay : List Nat := [108, 97, 121]
theorem s_change : Str.ofString "change" = T w_change := by decide +kernel
theorem s_lookup : Str.ofString "lookup" = T w_lookup := by decide +kernel
theorem s_read : Str.ofString "read" = T w_read := by decide +kernel
theorem s_put : Str.ofString "put" = T w_put := by decide +kernel
theorem s_take : Str.ofString "take" = T w_take := by decide +kernel
theorem s_lay : Str.ofString "lay" = T w_lay := by decide +kernel
def formsK : List (List Nat × List Nat) := [(w_change, [111, 102, 100]), (w_lookup, [111, 97]), (w_read, [111, 119]), (w_put, [111, 105, 111]), (w_take, [111, 97]), (w_lay, [])]
def formsL : List (List Nat × List Nat) := [(w_change, [110, 102, 100]), (w_lookup, [110, 101]), (w_read, [110, 114]), (w_put, [110, 118, 110]), (w_take, [110, 101]), (w_lay, [])]
theorem look_map (f : List Nat → SK.D) (x : List Nat) : ∀ ks : List (List Nat × List Nat), List.lookup (T x) (ks.map fun p => (T p.1, f p.2)) = (ks.lookup x).map f
  | [] => rfl
  | (k, v) :: r => by
    rw [List.map_cons, List.lookup_cons, List.lookup_cons, look_map f x r, T_beq]
    by_cases h : x = k
    · subst h; simp
    · rw [decide_eq_false h, show (x == k) = false from beq_eq_false_iff_ne.mpr h]
theorem rowsK_eq : rowsK = formsK.map fun p => (T p.1, SK.D.str (T p.2)) := by
  unfold rowsK
  rw [s_change, s_lookup, s_read, s_put, s_take, s_lay, show Str.ofString "ofd" = T [111, 102, 100] by decide +kernel, show Str.ofString "oa" = T [111, 97] by decide +kernel, show Str.ofString "ow" = T [111, 119] by decide +kernel, show Str.ofString "oio" = T [111, 105, 111] by decide +kernel, show Str.ofString "" = T [] by decide +kernel]
  rfl
theorem rows_look (x : List Nat) : rowsK.lookup (T x) = (formsK.lookup x).map fun f => SK.D.str (T f) := by rw [rowsK_eq]; exact look_map (fun l => .str (T l)) x formsK
def dicL : List (Key × SK.D) := [(.inr "change", .str "nfd"), (.inr "lookup", .str "ne"), (.inr "read", .str "nr"), (.inr "put", .str "nvn"), (.inr "take", .str "ne"), (.inr "lay", .str "")]
theorem dicL_eq : dicL = formsL.map fun p => (.inr (T p.1), SK.D.str (T p.2)) := by
  unfold dicL
  rw [s_change, s_lookup, s_read, s_put, s_take, s_lay, show Str.ofString "nfd" = T [110, 102, 100] by decide +kernel, show Str.ofString "ne" = T [110, 101] by decide +kernel, show Str.ofString "nr" = T [110, 114] by decide +kernel, show Str.ofString "nvn" = T [110, 118, 110] by decide +kernel, show Str.ofString "" = T [] by decide +kernel]
  rfl
theorem lookD_map (f : List Nat → SK.D) (x : List Nat) : ∀ ks : List (List Nat × List Nat), lookD (ks.map fun p => (.inr (T p.1), f p.2)) (.inr (T x)) = (ks.lookup x).map f
  | [] => rfl
  | (k, v) :: r => by
    have ih := lookD_map f x r
    rw [List.lookup_cons]
    by_cases h : x = k
    · subst h; simp [lookD]
    · have h2 : ¬ ((.inr (T k) : Key) = .inr (T x)) := fun z => h (T_inj (Sum.inr.inj z)).symm
      rw [show (x == k) = false from beq_eq_false_iff_ne.mpr h]
      dsimp only
      rw [← ih]
      simp [lookD, h2]
theorem dic_look (x : List Nat) : lookD dicL (.inr (T x)) = (formsL.lookup x).map fun f => SK.D.str (T f) := by rw [dicL_eq]; exact lookD_map (fun l => .str (T l)) x formsL
def words9 : List (List Nat) := [w_change, w_lookup, w_read, w_put, w_take, w_lay, [120], [121], [122]]
theorem words9_asc : ∀ w ∈ words9, ∀ c ∈ w, c < 128 := by decide
theorem forms_both (x : List Nat) : (formsK.lookup x = none ∧ formsL.lookup x = none) ∨ ∃ fs gs, formsK.lookup x = some fs ∧ formsL.lookup x = some gs ∧ fs.length = gs.length ∧ fs.length ≤ 3 ∧ (∀ p ∈ fs.zip gs, p ∈ pairs) ∧ (∀ f ∈ fs, f < 128) ∧ x ∈ words9 := by
  unfold formsK formsL
  simp only [List.lookup_cons, List.lookup_nil]
  repeat (split; · exact .inr ⟨_, _, rfl, rfl, rfl, by decide, by decide, by decide, by rename_i h; rw [eq_of_beq h]; decide⟩)
  exact .inl ⟨rfl, rfl⟩
def partsP (ws fs : List Nat → List Nat) : Unit := ()
def rowP (line : List Nat) : Option (List SK.D) :=
  match TL.spl [32] 0 [] line with
  | [] => none
  | first :: words => match formsK.lookup first with
    | none => none
    | some fs => if words.length = fs.length then (if (List.zipWith partP words fs).all Option.isSome then some (.str (T first) :: (List.zipWith partP words fs).filterMap id) else none) else none
/-! flat parts -/
def dpy : SK.D → PyData
  | .non => .none
  | .int i => .int i
  | .str x => .str x
  | _ => .none
def Flat (d : SK.D) : Prop := d = .non ∨ (∃ i : Int, d = .int i ∧ i.natAbs < 10 ^ 20) ∨ ∃ w, d = .str (T w) ∧ w ∈ words9
theorem Flat.py {d : SK.D} (h : Flat d) : D.py d = some (dpy d) ∧ PyData.canLay0 (dpy d) = true ∧ PyData.depth (dpy d) = 0 := by
  rcases h with rfl | ⟨i, rfl, _⟩ | ⟨w, rfl, h⟩
  · exact ⟨rfl, by simp [dpy, PyData.canLay0], by simp [dpy, PyData.depth]⟩
  · exact ⟨rfl, by simp [dpy, PyData.canLay0], by simp [dpy, PyData.depth]⟩
  · exact ⟨rfl, by simp [dpy, PyData.canLay0, strOk_T (words9_asc w h)], by simp [dpy, PyData.depth]⟩
theorem flats_py : ∀ {ds : List SK.D}, (∀ d ∈ ds, Flat d) → D.pys ds = some (ds.map dpy) ∧ PyData.canLayAll0 (ds.map dpy) = true ∧ PyData.depthAll (ds.map dpy) = 0
  | [], _ => ⟨rfl, by simp [PyData.canLayAll0], by simp [PyData.depthAll]⟩
  | d :: r, h => by
    obtain ⟨h1, h2, h3⟩ := (h d (List.mem_cons_self ..)).py
    obtain ⟨h4, h5, h6⟩ := flats_py (ds := r) fun x hx => h x (List.mem_cons_of_mem _ hx)
    exact ⟨by simp [D.pys, h1, h4], by simp [PyData.canLayAll0, h2, h5], by simp [PyData.depthAll, h3, h6]⟩
theorem num_small {w : List Nat} {sg : Bool} {n : Int} (h : numP w sg = some n) : n.natAbs < 10 ^ 20 := by
  unfold numP at h
  split at h
  · rename_i hc
    obtain ⟨i, hi, hs⟩ := intText_ok (Bool.and_eq_true_iff.mp hc).1
    rw [h] at hi; cases hi; exact hs
  · cases h
theorem part_flat {w : List Nat} {f : Nat} {d : SK.D} (h : partP w f = some d) : Flat d := by
  unfold partP at h
  split at h
  · cases h; exact .inl rfl
  · split at h
    · split at h
      · rename_i hw
        cases h
        refine .inr (.inr ⟨w, rfl, ?_⟩)
        simp only [List.mem_cons, List.not_mem_nil, or_false] at hw
        rcases hw with rfl | rfl | rfl <;> decide
      · cases h
    · split at h
      · cases h
      · rename_i n hn
        split at h
        · cases h
        · cases h; exact .inr (.inl ⟨n, rfl, num_small hn⟩)
/-- tuples of at most one flat item -/
theorem tups_py : ∀ {os : List (Option SK.D)}, (∀ o ∈ os, ∀ d, o = some d → Flat d) → D.pys (os.map fun o => .tup o.toList) = some (os.map fun o => .tuple (o.toList.map dpy)) ∧ PyData.canLayAll0 (os.map fun o => .tuple (o.toList.map dpy)) = true ∧ PyData.depthAll (os.map fun o => .tuple (o.toList.map dpy)) ≤ 1
  | [], _ => ⟨rfl, by simp [PyData.canLayAll0], by simp [PyData.depthAll]⟩
  | o :: r, h => by
    obtain ⟨h4, h5, h6⟩ := tups_py (os := r) fun x hx => h x (List.mem_cons_of_mem _ hx)
    obtain ⟨h1, h2, h3⟩ := flats_py (ds := o.toList) fun d hd => h o (List.mem_cons_self ..) d (Option.mem_toList.mp hd)
    refine ⟨by simp [D.pys, D.py, h1, h4], by simp [PyData.canLayAll0, PyData.canLay0, h2, h5], ?_⟩
    rw [List.map_cons]
    simp only [PyData.depthAll, PyData.depth, h3]
    omega
theorem in_tups {os : List (Option SK.D)} (h : ∀ o ∈ os, ∀ d, o = some d → Flat d) : gIn false (.tup []) (.lst (os.map fun o => .tup o.toList)) = some (.bl (!os.all Option.isSome)) := by
  obtain ⟨h1, h2, h3⟩ := tups_py h
  have e1 : D.py (.tup []) = some (.tuple []) := rfl
  have s1 : SeqAt.shaped (.tuple []) = true := by decide
  have s2 : SeqAt.shaped (.list (os.map fun o => .tuple (o.toList.map dpy))) = true := by
    simp only [SeqAt.shaped, PyData.canLay0, PyData.depth, h2, Bool.true_and]; exact decide_eq_true (by omega)
  unfold gIn gInL
  dsimp only
  rw [e1, h1]
  dsimp only
  rw [s1, s2, Bool.and_self, if_pos rfl, Bool.false_xor, List.any_map]
  congr 2
  rw [List.not_all_eq_any_not]
  congr 1
  funext o
  cases o with
  | none => simp [PyData.eqv, PyData.eqvAll]
  | some d => simp [PyData.eqv, PyData.eqvAll]
end K83P
end
section
set_option Elab.async false
set_option linter.all false
set_option autoImplicit false
set_option maxRecDepth 100000
set_option maxHeartbeats 4000000
namespace K83P
open PySem PySem.Spec PyProof.Rows L2 SK K83
theorem spl1 (c x : Nat) (acc r : List Nat) : TL.spl [c] 0 acc (x :: r) = if x = c then acc :: TL.spl [c] 0 [] r else TL.spl [c] 0 (acc ++ [x]) r := by
  split
  · rename_i h
    subst h
    exact TL.spl_hit (by simp [TL.pre])
  · rename_i h
    exact TL.spl_miss (TL.pre_of_head [] r h)
theorem spl_facts (c : Nat) : ∀ (l acc : List Nat), (∀ p ∈ TL.spl [c] 0 acc l, (∀ x ∈ p, x ∈ acc ∨ x ∈ l) ∧ p.length ≤ acc.length + l.length) ∧ (TL.spl [c] 0 acc l).length ≤ l.length + 1 ∧ TL.spl [c] 0 acc l ≠ []
  | [], acc => by
    rw [TL.spl_nil]
    exact ⟨fun p hp => by rw [List.mem_singleton] at hp; subst hp; exact ⟨fun x hx => .inl hx, by simp⟩, by simp, by simp⟩
  | x :: r, acc => by
    rw [spl1]
    split
    · obtain ⟨h1, h2, h3⟩ := spl_facts c r []
      refine ⟨fun p hp => ?_, by simp; omega, by simp⟩
      rcases List.mem_cons.mp hp with rfl | hp
      · exact ⟨fun x hx => .inl hx, by omega⟩
      · obtain ⟨g1, g2⟩ := h1 p hp
        refine ⟨fun y hy => ?_, by simp at g2 ⊢; omega⟩
        rcases g1 y hy with z | z
        · simp at z
        · exact .inr (List.mem_cons_of_mem _ z)
    · obtain ⟨h1, h2, h3⟩ := spl_facts c r (acc ++ [x])
      refine ⟨fun p hp => ?_, by simp; omega, h3⟩
      obtain ⟨g1, g2⟩ := h1 p hp
      refine ⟨fun y hy => ?_, by simp at g2 ⊢; omega⟩
      rcases g1 y hy with z | z
      · rcases List.mem_append.mp z with z | z
        · exact .inl z
        · rw [List.mem_singleton] at z; subst z; exact .inr (List.mem_cons_self ..)
      · exact .inr (List.mem_cons_of_mem _ z)
def Lin (l : List Nat) (n : Nat) : Prop := Asc l ∧ l.length ≤ n
theorem spl_lin {c : Nat} {l : List Nat} {n : Nat} (h : Lin l n) : ∀ p ∈ TL.spl [c] 0 [] l, Lin p n := fun p hp => by
  obtain ⟨h1, h2⟩ := (spl_facts c l []).1 p hp
  refine ⟨fun x hx => ?_, by have := h.2; simp at h2; omega⟩
  rcases h1 x hx with z | z
  · simp at z
  · exact h.1 x z
theorem spl_cons (c : Nat) (l : List Nat) : ∃ a r, TL.spl [c] 0 [] l = a :: r ∧ r.length ≤ l.length := by
  obtain ⟨_, h2, h3⟩ := spl_facts c l []
  cases h : TL.spl [c] 0 [] l with
  | nil => exact absurd h h3
  | cons a r => rw [h] at h2; exact ⟨a, r, rfl, by simp at h2; omega⟩
theorem gSplit_T {c : Nat} {l : List Nat} (hc : c < 256) (hl : l.length + 2 ≤ sizeLine) : gSplit (T l) (.str (T [c])) = some (.lst ((TL.spl [c] 0 [] l).map fun p => .str (T p))) := by
  unfold gSplit
  dsimp only
  rw [T_len, T_len, if_pos ⟨rfl, hl⟩, show Txt.split (T l) (T [c]) = (TL.spl [c] 0 [] l).map SX.S from SX.split_S (by simp) (by simpa using hc), List.map_map]
  rfl
theorem sStar_ok {i j : Nat} {f : M SK.D} {env : En} {st st1 : List MO} {x : SK.D} {xs : List SK.D} (h : f env st = .ok (.lst (x :: xs)) st1) (hl : xs.length ≤ 16000) : sStar i j f env st = .nx ((env.set i (.val x)).set j (.val (.lst xs))) st1 := by
  unfold sStar; rw [h, bindS_ok]; dsimp only; rw [if_pos hl]
theorem inG_ok {ad : Ad} {x : List Nat} : gInG true ad.dROWS rowsK (.str (T x)) (.adr ad.dROWS) = some (.bl (formsK.lookup x).isNone) := by
  unfold gInG; dsimp only; rw [if_pos rfl, rows_look]
  cases formsK.lookup x <;> rfl
theorem ixG_ok {ad : Ad} {x fs : List Nat} (h : formsK.lookup x = some fs) : gIxG ad.dROWS rowsK (.adr ad.dROWS) (.str (T x)) = some (.str (T fs)) := by
  unfold gIxG; dsimp only; rw [if_pos rfl, rows_look, h]; rfl
theorem gNe_int (i j : Int) : gNe (.int i) (.int j) = some (.bl (!(i == j))) := by
  simp [gNe, D.py, SeqAt.shaped, PyData.canLay0, PyData.depth, PyData.eqv]
theorem gLen_lst {st : List MO} (xs : List SK.D) : gLen st (.lst xs) = some (.int xs.length) := rfl
theorem zip_ok {b : Bool} {f g : M SK.D} {env : En} {st : List MO} {ws : List (List Nat)} {fs : List Nat} (h1 : f env st = .ok (.lst (ws.map fun p => .str (T p))) st) (h2 : g env st = .ok (.str (T fs)) st) (hl : ws.length = fs.length) :
    wZip b f g env st = .ok ((ws.zip fs).map fun p => .tup [.str (T p.1), .str (T [p.2])]) st := by
  unfold wZip
  rw [h1, bind_ok, h2, bind_ok]
  unfold zipO
  dsimp only
  have e1 : (T fs).cps.size = fs.length := by have := T_len fs; unfold Str.length at this; exact this
  rw [e1, List.length_map, hl]
  simp only [bne_self_eq_false, Bool.and_false]
  rw [if_neg (by decide)]
  congr 1
  unfold zipD
  rw [cps_T, List.zip, List.map_zipWith, List.zipWith_map_left]
  rfl
theorem eLcO_map {α : Type} {f : M (List SK.D)} {vs : List Nat} {t : Tg} {e : M SK.D} {env : En} {st : List MO} {l : List α} {g : α → SK.D} (ψ : α → SK.D) (hf : f env st = .ok (l.map g) st) (hl : l.length ≤ 100000)
    (h : ∀ a ∈ l, ∃ env1, t (g a) (cEnv env vs) = some env1 ∧ e env1 st = .ok (ψ a) st) : eLcO f vs t tYesI e env st = .ok (.o (.lst (l.map ψ))) st := by
  have go : ∀ (l : List α) (acc : List SK.D), (∀ a ∈ l, ∃ env1, t (g a) (cEnv env vs) = some env1 ∧ e env1 st = .ok (ψ a) st) → compA t tYesI e (l.map g) acc (cEnv env vs) st = .ok (acc ++ l.map ψ) st := by
    intro l
    induction l with
    | nil => intro acc _; simp [compA]
    | cons a r ih =>
      intro acc h
      obtain ⟨env1, h1, h2⟩ := h a (List.mem_cons_self ..)
      rw [List.map_cons]
      unfold compA
      rw [h1]
      dsimp only
      have e1 : tYesI env1 st = .ok true st := rfl
      rw [e1]
      show (e env1 st).nox.bind (fun y st => compA t tYesI e (r.map g) (acc ++ [y]) (cEnv env vs) st) = _
      rw [h2]
      show compA t tYesI e (r.map g) (acc ++ [ψ a]) (cEnv env vs) st = _
      rw [ih (acc ++ [ψ a]) fun x hx => h x (List.mem_cons_of_mem _ hx), List.append_assoc]; rfl
  unfold eLcO
  rw [hf, bind_ok, if_pos (by rw [List.length_map]; exact hl), go l [] h, bind_ok, List.nil_append]
theorem aStar_lst {f : M SK.D} {g : M (List SK.D)} {env : En} {st st1 st2 : List MO} {xs ds : List SK.D} (h1 : f env st = .ok (.lst xs) st1) (h2 : g env st1 = .ok ds st2) : aStar f g env st = .ok (xs ++ ds) st2 := by
  unfold aStar; rw [h1, bind_ok]; dsimp only; rw [h2, bind_ok]
theorem wLst_ok {f : M SK.D} {env : En} {st st1 : List MO} {xs : List SK.D} (h1 : f env st = .ok (.lst xs) st1) : wLst f env st = .ok xs st1 := by unfold wLst; rw [h1, bind_ok]
theorem wTup_ok {f : M SK.D} {env : En} {st st1 : List MO} {xs : List SK.D} (h1 : f env st = .ok (.tup xs) st1) : wTup f env st = .ok xs st1 := by unfold wTup; rw [h1, bind_ok]
theorem zipWith_flat {words : List (List Nat)} {fs : List Nat} : ∀ o ∈ List.zipWith partP words fs, ∀ d, o = some d → Flat d := fun o ho d e => by
  rw [← List.map_uncurry_zip_eq_zipWith] at ho
  obtain ⟨p, _, rfl⟩ := List.mem_map.mp ho
  exact part_flat e
theorem all_some : ∀ {os : List (Option SK.D)}, os.all Option.isSome = true → os.map (fun o => o.getD .non) = os.filterMap id
  | [], _ => rfl
  | none :: r, h => by simp at h
  | some d :: r, h => by
    rw [List.all_cons, Bool.and_eq_true] at h
    rw [List.map_cons, List.filterMap_cons, all_some h.2]; rfl
theorem F_row (ad : Ad) {line : List Nat} {st : List MO} (hl : Lin line 15000) : F_read_row ad [.str (T line)] st = .ok (.v (.tup ((rowP line).getD []))) st := by
  obtain ⟨first, words, ew, hwl⟩ := spl_cons 32 line
  have hpl := spl_lin (c := 32) hl
  rw [ew] at hpl
  have hw2 : words.length ≤ 15000 := Nat.le_trans hwl hl.2
  have q0 : ∀ env : En, env[0]? = some (.val (.str (T line))) → eM1 (eVar 0) (eC (.str " ")) gSplit env st = .ok (.lst (.str (T first) :: words.map fun p => .str (T p))) st := fun env h0 => by
    refine eM1_ok (eVar_ok h0) eC_ok ?_
    rw [s_sp, gSplit_T (by decide) (Nat.le_trans (Nat.add_le_add_right hl.2 2) (by decide)), ew]; rfl
  have eT0 : ∀ env : En, eA (aNil) SK.gTup env st = .ok (.tup []) st := fun env => eA_ok aNil_ok rfl
  unfold F_read_row b_read_row
  refine run_rt ((seq_nx (sStar_ok (q0 _ rfl) (by rw [List.length_map]; omega))).trans ?_)
  cases hk : formsK.lookup first with
  | none =>
    have : rowP line = none := by unfold rowP; rw [ew]; dsimp only; rw [hk]
    rw [this]
    exact seq_rt ((sIf_t (or_ok (x := true) (y := true) (eTest_ok (e2_ok (eVar_ok rfl) eC_ok (by rw [inG_ok, hk]; rfl))) (fun z => by cases z))).trans (sRet_ok (eRet_ok (eT0 _))))
  | some fs =>
    have q1 : ∀ env : En, env[1]? = some (.val (.str (T first))) → env[2]? = some (.val (.lst (words.map fun p => .str (T p)))) → tOrI (eTest (e2 (eVar 1) (eC (.adr ad.dROWS)) (gInG true ad.dROWS rowsK))) (eTest (e2 (e1s (eVar 2) gLen) (e1s (e2 (eC (.adr ad.dROWS)) (eVar 1) (gIxG ad.dROWS rowsK)) gLen) gNe)) env st = .ok (!decide (words.length = fs.length)) st := fun env h1 h2 => by
      have hfs : fs.length ≤ 3 := by
        rcases forms_both first with ⟨z, _⟩ | ⟨fs', gs, z1, z2, z3, z4, z5⟩
        · rw [hk] at z; cases z
        · rw [hk] at z1; cases z1; exact z4
      refine Eq.trans (or_ok (eTest_ok (e2_ok (eVar_ok (st := st) h1) eC_ok (by rw [inG_ok, hk]))) fun _ => eTest_ok (e2_ok (e1s_ok (eVar_ok (st := st) h2) (gLen_lst _)) (e1s_ok (e2_ok eC_ok (eVar_ok h1) (ixG_ok hk)) (gLen_str (Nat.le_trans hfs (by decide)))) (gNe_int _ _))) ?_
      rw [Option.isNone_some, Bool.false_or, List.length_map]
      congr 2
      by_cases z : words.length = fs.length
      · rw [decide_eq_true z, z]; simp
      · rw [decide_eq_false z]; simp; omega
    by_cases hlen : words.length = fs.length
    · refine (seq_nx ((sIf_f ((q1 _ rfl rfl).trans (by rw [decide_eq_true hlen]; rfl))).trans sNil_ok)).trans ?_
      have hfs : fs.length ≤ 3 ∧ ∀ f ∈ fs, f < 128 := by
        rcases forms_both first with ⟨z, _⟩ | ⟨fs', gs, z1, z2, z3, z4, z5, z6, z7⟩
        · rw [hk] at z; cases z
        · rw [hk] at z1; cases z1; exact ⟨z4, z6⟩
      have hos : (List.zipWith partP words fs).length ≤ 3 := by rw [List.length_zipWith]; omega
      have ez : (words.zip fs).map (fun p => SK.D.tup (partP p.1 p.2).toList) = (List.zipWith partP words fs).map fun o => .tup o.toList := by
        rw [List.map_zipWith, List.zip, List.map_zipWith]
      have q2 : eFrz (eLcO (wZip true (eVar 2) (e2 (eC (.adr ad.dROWS)) (eVar 1) (gIxG ad.dROWS rowsK))) [4, 5] (tgT 2 [tgN 4, tgN 5]) (tYesI) (eFrz (eCall (aCons (eVar 4) (aCons (eVar 5) (aNil))) (F_read_part ad)))) [.val (.str (T line)), .val (.str (T first)), .val (.lst (words.map fun p => .str (T p))), .no, .no, .no, .no] st = .ok (.lst ((List.zipWith partP words fs).map fun o => .tup o.toList)) st := by
        rw [← ez]
        refine eFrz_ok (eLcO_map (l := words.zip fs) (g := fun p => .tup [.str (T p.1), .str (T [p.2])]) (fun p => .tup (partP p.1 p.2).toList) (zip_ok (eVar_ok rfl) (e2_ok eC_ok (eVar_ok rfl) (ixG_ok hk)) hlen) (by rw [List.length_zip]; omega) fun p hp => ⟨_, rfl, ?_⟩)
        have hp1 := hpl p.1 (List.mem_cons_of_mem _ (List.of_mem_zip hp).1)
        exact eFrz_ok (eCall_ok (aCons_ok (eVar_ok rfl) (aCons_ok (eVar_ok rfl) aNil_ok)) (F_part ad hp1.1 (hfs.2 _ (List.of_mem_zip hp).2) (Nat.le_trans hp1.2 (by decide))))
      have hflat := zipWith_flat (words := words) (fs := fs)
      have er : rowP line = if (List.zipWith partP words fs).all Option.isSome then some (.str (T first) :: (List.zipWith partP words fs).filterMap id) else none := by unfold rowP; rw [ew]; dsimp only; rw [hk]; dsimp only; rw [if_pos hlen]
      rw [er]
      refine (seq_nx (sSet_ok q2)).trans (sRet_ok (eRet_ok ?_))
      have q3 : ∀ env : En, env[3]? = some (.val (.lst ((List.zipWith partP words fs).map fun o => .tup o.toList))) → eTest (e2 (eA (aNil) SK.gTup) (eVar 3) (gIn false)) env st = .ok (!(List.zipWith partP words fs).all Option.isSome) st := fun env h3 => eTest_ok (e2_ok (eT0 _) (eVar_ok h3) (in_tups hflat))
      cases ha : (List.zipWith partP words fs).all Option.isSome with
      | false =>
        rw [if_neg (by decide)]
        exact (eIf_t ((q3 _ rfl).trans (by rw [ha]; rfl))).trans (eT0 _)
      | true =>
        rw [if_pos rfl, ← all_some ha]
        refine (eIf_f ((q3 _ rfl).trans (by rw [ha]; rfl))).trans (eA_ok (aCons_ok (eVar_ok rfl) (aStar_lst (eFrz_ok (eLcO_map (l := List.zipWith partP words fs) (g := fun o => .tup o.toList) (fun o => o.getD .non) (wLst_ok (eVar_ok rfl)) (by omega) fun o ho => ⟨_, rfl, ?_⟩)) aNil_ok)) ?_)
        · have := List.all_eq_true.mp ha o ho
          cases o with
          | none => cases this
          | some d => exact e2s_ok (eVar_ok rfl) eC_ok rfl
        · rw [List.append_nil]
          show SK.gTup (.str (T first) :: (List.zipWith partP words fs).map fun o => o.getD .non) = _
          unfold SK.gTup
          rw [if_pos (by rw [List.length_cons, List.length_map]; exact Nat.le_trans (Nat.succ_le_succ hos) (by decide))]; rfl
    · have : rowP line = none := by unfold rowP; rw [ew]; dsimp only; rw [hk]; dsimp only; rw [if_neg hlen]
      rw [this]
      exact seq_rt ((sIf_t ((q1 _ rfl rfl).trans (by rw [decide_eq_false hlen]; rfl))).trans (sRet_ok (eRet_ok (eT0 _))))
end K83P
end
section
set_option Elab.async false
set_option linter.all false
set_option autoImplicit false
set_option maxRecDepth 100000
set_option maxHeartbeats 4000000
namespace K83P
open PySem PySem.Spec PyProof.Rows L2 SK K83
theorem cut_fromA {α : Type} (a : List α) (k : Nat) : cutL a (some (k : Int)) none = a.drop k := by
  unfold cutL
  rw [HT.sIx_nat, HT.sIx_none]
  by_cases h : k ≤ a.length
  · rw [Nat.min_eq_left h, List.take_of_length_le (by rw [List.length_drop]; exact Nat.le_refl _)]
  · rw [Nat.min_eq_right (by omega), List.drop_eq_nil_of_le (Nat.le_refl _), List.drop_eq_nil_of_le (show a.length ≤ k by omega), List.take_nil]
theorem ix0 {st : List MO} {x : SK.D} {xs : List SK.D} : gIxS st (.lst (x :: xs)) (.int 0) = some x := by
  show atI (x :: xs) 0 = _
  unfold atI ixN
  rw [if_pos (by decide), if_pos (by rw [List.length_cons]; omega)]; rfl
theorem flats_shaped {ds : List SK.D} (h : ∀ d ∈ ds, Flat d) : D.py (.lst ds) = some (.list (ds.map dpy)) ∧ SeqAt.shaped (.list (ds.map dpy)) = true := by
  obtain ⟨h1, h2, h3⟩ := flats_py h
  refine ⟨by unfold D.py; rw [h1]; rfl, ?_⟩
  simp only [SeqAt.shaped, PyData.canLay0, PyData.depth, h2, h3, Bool.true_and]
  decide
theorem gEq_nil {ds : List SK.D} (h : ∀ d ∈ ds, Flat d) : gEq (.lst ds) (.lst []) = some (.bl ds.isEmpty) := by
  obtain ⟨h1, h2⟩ := flats_shaped h
  have e2 : D.py (.lst []) = some (.list []) := rfl
  have s2 : SeqAt.shaped (.list []) = true := by decide
  unfold gEq
  rw [h1, e2]
  dsimp only
  rw [h2, s2, Bool.and_self, if_pos rfl]
  cases ds with
  | nil => simp [PyData.eqv, PyData.eqvAll]
  | cons c r => simp [PyData.eqv, PyData.eqvAll]
theorem gAdd_lst {a b : List SK.D} (h : a.length + b.length ≤ sizeLine) : gAdd (.lst a) (.lst b) = some (.lst (a ++ b)) := by unfold gAdd; dsimp only; rw [if_pos h]
abbrev rowBody (ad : Ad) : S := sSeq (sSet 6 (eFrz (eCall (aCons (eVar 4) (aCons (eVar 5) (aNil))) (F_law_part ad))))
    (sSeq (sIf (eTest (e2 (eVar 6) (eA (aNil) SK.gLst) gEq)) (sRet (eRet (eC .non))) (sNil))
    (sSet 3 (e2 (eVar 3) (eVar 6) gAdd)))
theorem row_loop (ad : Ad) {st : List MO} {a0 a1 a2 : Sl} : ∀ (ws : List (List Nat)) (fs gs : List Nat) (acc : List SK.D) (x4 x5 x6 : Sl), ws.length = fs.length → fs.length = gs.length → (∀ p ∈ fs.zip gs, p ∈ pairs) → (∀ p ∈ ws, Lin p 15000) → acc.length + ws.length ≤ 16000 →
    ((List.zipWith partP ws fs).all Option.isSome = true → ∃ y4 y5 y6, forL (tgT 2 [tgN 4, tgN 5]) (rowBody ad) ((ws.zip gs).map fun p => .tup [.str (T p.1), .str (T [p.2])]) [a0, a1, a2, .val (.lst acc), x4, x5, x6] st = .nx [a0, a1, a2, .val (.lst (acc ++ (List.zipWith partP ws fs).filterMap id)), y4, y5, y6] st) ∧
    ((List.zipWith partP ws fs).all Option.isSome = false → forL (tgT 2 [tgN 4, tgN 5]) (rowBody ad) ((ws.zip gs).map fun p => .tup [.str (T p.1), .str (T [p.2])]) [a0, a1, a2, .val (.lst acc), x4, x5, x6] st = .rt (.v .non) st)
  | [], fs, gs, acc, x4, x5, x6, _, _, _, _, _ => by
    refine ⟨fun _ => ⟨x4, x5, x6, ?_⟩, fun h => by simp at h⟩
    simp [forL]
  | w :: ws, [], gs, acc, x4, x5, x6, h, _, _, _, _ => by simp at h
  | w :: ws, f :: fs, [], acc, x4, x5, x6, _, h, _, _, _ => by simp at h
  | w :: ws, f :: fs, g :: gs, acc, x4, x5, x6, h1, h2, h3, h4, h5 => by
    have hw := h4 w (List.mem_cons_self ..)
    have hp : (f, g) ∈ pairs := h3 (f, g) (by rw [List.zip_cons_cons]; exact List.mem_cons_self ..)
    have eP := F_lpart ad (st := st) hp hw.1 (Nat.le_trans hw.2 (by decide))
    have ih := fun acc' x4 x5 x6 hl => row_loop ad (st := st) (a0 := a0) (a1 := a1) (a2 := a2) ws fs gs acc' x4 x5 x6 (by simpa using h1) (by simpa using h2) (fun p hp => h3 p (by rw [List.zip_cons_cons]; exact List.mem_cons_of_mem _ hp)) (fun p hp => h4 p (List.mem_cons_of_mem _ hp)) hl
    have hfl : ∀ d ∈ (partP w f).toList, Flat d := fun d hd => part_flat (Option.mem_toList.mp hd)
    have e1 : ∀ s6, sSet 6 (eFrz (eCall (aCons (eVar 4) (aCons (eVar 5) (aNil))) (F_law_part ad))) [a0, a1, a2, .val (.lst acc), .val (.str (T w)), .val (.str (T [g])), s6] st = .nx [a0, a1, a2, .val (.lst acc), .val (.str (T w)), .val (.str (T [g])), .val (.lst (partP w f).toList)] st := fun s6 => sSet_ok (eFrz_ok (eCall_ok (aCons_ok (eVar_ok rfl) (aCons_ok (eVar_ok rfl) aNil_ok)) eP))
    have e2 : eTest (SK.e2 (eVar 6) (eA (aNil) SK.gLst) gEq) [a0, a1, a2, .val (.lst acc), .val (.str (T w)), .val (.str (T [g])), .val (.lst (partP w f).toList)] st = .ok (partP w f).toList.isEmpty st := eTest_ok (e2_ok (eVar_ok rfl) (eA_ok aNil_ok rfl) (gEq_nil hfl))
    have step : forL (tgT 2 [tgN 4, tgN 5]) (rowBody ad) (((w :: ws).zip (g :: gs)).map fun p => .tup [.str (T p.1), .str (T [p.2])]) [a0, a1, a2, .val (.lst acc), x4, x5, x6] st = (match rowBody ad [a0, a1, a2, .val (.lst acc), .val (.str (T w)), .val (.str (T [g])), x6] st with
      | .nx env2 st2 => forL (tgT 2 [tgN 4, tgN 5]) (rowBody ad) ((ws.zip gs).map fun p => .tup [.str (T p.1), .str (T [p.2])]) env2 st2
      | .ct env2 st2 => forL (tgT 2 [tgN 4, tgN 5]) (rowBody ad) ((ws.zip gs).map fun p => .tup [.str (T p.1), .str (T [p.2])]) env2 st2
      | .bk env2 st2 => .nx env2 st2
      | o => o) := rfl
    cases hq : partP w f with
    | none =>
      rw [hq] at e1 e2
      have eb : rowBody ad [a0, a1, a2, .val (.lst acc), .val (.str (T w)), .val (.str (T [g])), x6] st = .rt (.v .non) st := (seq_nx (e1 x6)).trans (seq_rt ((sIf_t e2).trans (sRet_ok (eRet_ok eC_ok))))
      rw [step, eb]
      refine ⟨fun z => ?_, fun _ => rfl⟩
      rw [List.zipWith_cons_cons, List.all_cons, hq] at z
      cases z
    | some d =>
      rw [hq] at e1 e2
      have eb : rowBody ad [a0, a1, a2, .val (.lst acc), .val (.str (T w)), .val (.str (T [g])), x6] st = .nx [a0, a1, a2, .val (.lst (acc ++ [d])), .val (.str (T w)), .val (.str (T [g])), .val (.lst [d])] st :=
        (seq_nx (e1 x6)).trans ((seq_nx ((sIf_f e2).trans sNil_ok)).trans (sSet_ok (e2_ok (eVar_ok rfl) (eVar_ok rfl) (gAdd_lst (by rw [List.length_cons] at h5; simp; exact Nat.le_trans (show acc.length + 1 ≤ 16000 by omega) (by decide))))))
      rw [step, eb]
      obtain ⟨i1, i2⟩ := ih (acc ++ [d]) (.val (.str (T w))) (.val (.str (T [g]))) (.val (.lst [d])) (by rw [List.length_append, List.length_singleton]; rw [List.length_cons] at h5; omega)
      rw [List.zipWith_cons_cons, List.all_cons, hq, List.filterMap_cons]
      refine ⟨fun z => ?_, fun z => i2 (by simpa using z)⟩
      obtain ⟨y4, y5, y6, e⟩ := i1 (by simpa using z)
      exact ⟨y4, y5, y6, by rw [List.append_assoc] at e; exact e⟩
theorem zip_ok2 {f g : M SK.D} {env : En} {st : List MO} {ws : List (List Nat)} {fs : List Nat} (h1 : f env st = .ok (.lst (ws.map fun p => .str (T p))) st) (h2 : g env st = .ok (.str (T fs)) st) (hl : ws.length = fs.length) :
    wZip false f g env st = .ok ((ws.zip fs).map fun p => .tup [.str (T p.1), .str (T [p.2])]) st := zip_ok h1 h2 hl
theorem sFor_ok {f : M (List SK.D)} {t : Tg} {b : S} {env : En} {st st1 : List MO} {ds : List SK.D} (h : f env st = .ok ds st1) : sFor f t b env st = forL t b ds env st1 := by unfold sFor; rw [h, bindS_ok]
def rowD (line : List Nat) : SK.D := match rowP line with
  | none => .non
  | some xs => .tup xs
theorem F_lrow (ad : Ad) {line : List Nat} {st : List MO} (hl : Lin line 15000) : F_law_row ad [.str (T line)] st = .ok (.v (rowD line)) st := by
  obtain ⟨first, words, ew, hwl⟩ := spl_cons 32 line
  have hpl := spl_lin (c := 32) hl
  rw [ew] at hpl
  have hw2 : words.length ≤ 15000 := Nat.le_trans hwl hl.2
  have q0 : ∀ env : En, env[0]? = some (.val (.str (T line))) → eM1 (eVar 0) (eC (.str " ")) gSplit env st = .ok (.lst (.str (T first) :: words.map fun p => .str (T p))) st := fun env h0 => by
    refine eM1_ok (eVar_ok h0) eC_ok ?_
    rw [s_sp, gSplit_T (by decide) (Nat.le_trans (Nat.add_le_add_right hl.2 2) (by decide)), ew]; rfl
  unfold F_law_row b_law_row
  refine run_rt ((seq_nx (sSet_ok (eC_ok (d := .dic dicL)))).trans ((seq_nx (sSet_ok (q0 _ rfl))).trans ?_))
  have qF : ∀ env : En, env[2]? = some (.val (.lst (.str (T first) :: words.map fun p => .str (T p)))) → e2s (eVar 2) (eC (.int 0)) gIxS env st = .ok (.str (T first)) st := fun env h2 => e2s_ok (eVar_ok h2) eC_ok ix0
  have q1 : ∀ env : En, env[1]? = some (.val (.dic dicL)) → env[2]? = some (.val (.lst (.str (T first) :: words.map fun p => .str (T p)))) → eTest (e2s (e2s (eVar 2) (eC (.int 0)) gIxS) (eVar 1) (gInD true)) env st = .ok (formsL.lookup first).isNone st := fun env h1 h2 => by
    refine eTest_ok (e2s_ok (qF env h2) (eVar_ok h1) ?_)
    show some (SK.D.bl (true ^^ (lookD dicL (.inr (T first))).isSome)) = _
    rw [dic_look]
    cases formsL.lookup first <;> rfl
  rcases forms_both first with ⟨hk, hkL⟩ | ⟨fs, gs, hk, hkL, hfg, hf3, hpr, hf128, _⟩
  · have : rowP line = none := by unfold rowP; rw [ew]; dsimp only; rw [hk]
    unfold rowD
    rw [this]
    exact seq_rt ((sIf_t (or_ok (x := true) (y := true) ((q1 _ rfl rfl).trans (by rw [hkL]; rfl)) (fun z => by cases z))).trans (sRet_ok (eRet_ok eC_ok)))
  · have er : rowP line = if words.length = fs.length then (if (List.zipWith partP words fs).all Option.isSome then some (.str (T first) :: (List.zipWith partP words fs).filterMap id) else none) else none := by unfold rowP; rw [ew]; dsimp only; rw [hk]
    have qD : ∀ env : En, env[1]? = some (.val (.dic dicL)) → env[2]? = some (.val (.lst (.str (T first) :: words.map fun p => .str (T p)))) → e2s (eVar 1) (e2s (eVar 2) (eC (.int 0)) gIxS) gIxD env st = .ok (.str (T gs)) st := fun env h1 h2 => by
      refine e2s_ok (eVar_ok h1) (qF env h2) ?_
      show lookD dicL (.inr (T first)) = _
      rw [dic_look, hkL]; rfl
    have q2 : ∀ env : En, env[1]? = some (.val (.dic dicL)) → env[2]? = some (.val (.lst (.str (T first) :: words.map fun p => .str (T p)))) → tOrI (eTest (e2s (e2s (eVar 2) (eC (.int 0)) gIxS) (eVar 1) (gInD true))) (eTest (e2 (e1s (eVar 2) gLen) (e2 (eC (.int 1)) (e1s (e2s (eVar 1) (e2s (eVar 2) (eC (.int 0)) gIxS) gIxD) gLen) gAdd) gNe)) env st = .ok (!decide (words.length = fs.length)) st := fun env h1 h2 => by
      refine Eq.trans (or_ok (q1 env h1 h2) fun _ => eTest_ok (e2_ok (e1s_ok (eVar_ok (st := st) h2) (gLen_lst _)) (e2_ok eC_ok (e1s_ok (qD env h1 h2) (gLen_str (by rw [← hfg]; exact Nat.le_trans hf3 (by decide)))) rfl) (gNe_int _ _))) ?_
      rw [hkL, Option.isNone_some, Bool.false_or, List.length_cons, List.length_map, hfg]
      congr 2
      by_cases z : words.length = gs.length
      · rw [decide_eq_true z, z]; simp; omega
      · rw [decide_eq_false z]; simp; omega
    unfold rowD
    rw [er]
    by_cases hlen : words.length = fs.length
    · rw [if_pos hlen]
      refine (seq_nx ((sIf_f ((q2 _ rfl rfl).trans (by rw [decide_eq_true hlen]; rfl))).trans sNil_ok)).trans ((seq_nx (sSet_ok (eA_ok (aCons_ok (qF _ rfl) aNil_ok) rfl))).trans ?_)
      obtain ⟨i1, i2⟩ := row_loop ad (st := st) (a0 := .val (.str (T line))) (a1 := .val (.dic dicL)) (a2 := .val (.lst (.str (T first) :: words.map fun p => .str (T p)))) words fs gs [.str (T first)] .no .no .no hlen hfg hpr (fun p hp => hpl p (List.mem_cons_of_mem _ hp)) (by simp; omega)
      have qz : ∀ env : En, env[1]? = some (.val (.dic dicL)) → env[2]? = some (.val (.lst (.str (T first) :: words.map fun p => .str (T p)))) → wZip false (eSl (eVar 2) (oSome (eC (.int 1))) (oNone)) (e2s (eVar 1) (e2s (eVar 2) (eC (.int 0)) gIxS) gIxD) env st = .ok ((words.zip gs).map fun p => .tup [.str (T p.1), .str (T [p.2])]) st := fun env h1 h2 =>
        zip_ok2 (eSl_ok (eVar_ok h2) (oSome_ok eC_ok) oNone_ok (by show some (SK.D.lst (cutL _ (some ((1 : Nat) : Int)) none)) = _; rw [cut_fromA]; rfl)) (qD env h1 h2) (hlen.trans hfg)
      cases ha : (List.zipWith partP words fs).all Option.isSome with
      | false =>
        rw [if_neg (by decide)]
        exact seq_rt ((sFor_ok (qz _ rfl rfl)).trans (i2 ha))
      | true =>
        rw [if_pos rfl]
        obtain ⟨y4, y5, y6, e⟩ := i1 ha
        exact (seq_nx ((sFor_ok (qz _ rfl rfl)).trans e)).trans (sRet_ok (eRet_ok (eA_ok (aCons_ok (eVar_ok rfl) aNil_ok) rfl)))
    · rw [if_neg hlen]
      exact seq_rt ((sIf_t ((q2 _ rfl rfl).trans (by rw [decide_eq_false hlen]; rfl))).trans (sRet_ok (eRet_ok eC_ok)))
end K83P
end
section
set_option Elab.async false
set_option linter.all false
set_option autoImplicit false
set_option maxRecDepth 100000
set_option maxHeartbeats 4000000
namespace K83P
open PySem PySem.Spec PyProof.Rows L2 SK K83
def intL (i : Int) : List Nat := if i < 0 then 45 :: TL.numL i.natAbs else TL.numL i.natAbs
theorem of_int (i : Int) : Str.ofString (toString i) = T (intL i) := by
  unfold intL
  cases i with
  | ofNat n =>
    rw [if_neg (show ¬ (Int.ofNat n < 0) from Int.not_lt.mpr (Int.natCast_nonneg n))]
    exact SX.num_S n
  | negSucc n =>
    rw [if_pos (by omega)]
    have e : toString (Int.negSucc n) = "-" ++ toString ((n + 1 : Nat) : Int) := rfl
    refine TL.ext_tl ?_
    show TL.tl (Str.ofString (toString (Int.negSucc n))) = _
    rw [e, TL.tl_ofString, String.toList_append, List.map_append]
    have h1 : (toString ((n + 1 : Nat) : Int)).toList.map Char.toNat = TL.numL (n + 1) := by rw [← TL.tl_ofString]; exact TL.tl_num (n + 1)
    rw [h1]
    have h2 : ("-" : String).toList.map Char.toNat = [45] := by decide
    rw [h2]; rfl
theorem numL_asc (n : Nat) : Asc (TL.numL n) := fun c hc => by have := TL.numL_digits n c hc; omega
theorem intL_asc (i : Int) : Asc (intL i) := by
  unfold intL
  split
  · intro c hc
    rcases List.mem_cons.mp hc with rfl | hc
    · decide
    · exact numL_asc _ c hc
  · exact numL_asc _
theorem intL_len {i : Int} (h : i.natAbs < 10 ^ 20) : (intL i).length ≤ 21 := by
  have := TL.numL_len (n := i.natAbs) (k := 20) (by decide) h
  unfold intL
  split
  · rw [List.length_cons]; omega
  · omega
/-! shown -/
structure Sm (x : Str) (n : Nat) : Prop where
  asc : ∀ c ∈ x.cps.toList, c < 128
  len : x.length ≤ n
theorem Sm.T {l : List Nat} {n : Nat} (h : Asc l) (hn : l.length ≤ n) : Sm (T l) n := ⟨h, by rw [T_len]; exact hn⟩
theorem Sm.app {x y : Str} {n m : Nat} (h : Sm x n) (g : Sm y m) : Sm (x ++ y) (n + m) := by
  refine ⟨fun c hc => ?_, ?_⟩
  · have e : (x ++ y).cps.toList = x.cps.toList ++ y.cps.toList := TL.tl_append x y
    rw [e] at hc
    rcases List.mem_append.mp hc with z | z
    · exact h.asc c z
    · exact g.asc c z
  · have e := congrArg List.length (TL.tl_append x y)
    rw [List.length_append, ← TL.len_tl, ← TL.len_tl, ← TL.len_tl] at e
    have := h.len; have := g.len; omega
theorem Sm.ok {x : Str} {n : Nat} (h : Sm x n) : PyData.strOk x = true := by
  unfold PyData.strOk
  rw [← Array.all_toList]
  exact List.all_eq_true.mpr fun c hc => decide_eq_true (Nat.lt_trans (h.asc c hc) (by decide))
def smB (x : Str) (n : Nat) : Bool := x.cps.toList.all (fun c => decide (c < 128)) && decide (x.length ≤ n)
theorem Sm.dec {x : Str} {n : Nat} (h : smB x n = true) : Sm x n := by
  obtain ⟨h1, h2⟩ := Bool.and_eq_true_iff.mp h
  exact ⟨fun c hc => of_decide_eq_true (List.all_eq_true.mp h1 c hc), of_decide_eq_true h2⟩
theorem words9_repr : words9.all (fun w => smB (reprText (T w)) 21) = true := by decide +kernel
theorem flat_shown {d : SK.D} (h : Flat d) : Sm (dpy d).shown 21 ∧ (dpy d).showable = true := by
  rcases h with rfl | ⟨i, rfl, hi⟩ | ⟨w, rfl, h⟩
  · refine ⟨?_, by simp [dpy, PyData.showable]⟩
    show Sm PyData.none.shown 21
    rw [PyData.shown_none]; exact .dec (by decide +kernel)
  · refine ⟨?_, ?_⟩
    · show Sm (PyData.int i).shown 21
      rw [PyData.shown_int, of_int]
      exact .T (intL_asc i) (intL_len hi)
    · simp only [dpy, PyData.showable]
      exact decide_eq_true (by
        have : i.natAbs < 2 ^ 1920 := Nat.lt_of_lt_of_le hi (by decide +kernel)
        by_cases z : i.natAbs = 0
        · rw [z]; decide
        · exact (Nat.log2_lt z).mpr this)
  · refine ⟨?_, by simp [dpy, PyData.showable]⟩
    show Sm (PyData.str (T w)).shown 21
    rw [PyData.shown_str]
    exact .dec (List.all_eq_true.mp words9_repr w h)
theorem join_sm {sep : Str} {k n : Nat} (hs : Sm sep k) : ∀ (l : List Str), (∀ x ∈ l, Sm x n) → Sm (Str.join sep l) (l.length * (n + k))
  | [], _ => ⟨fun c (hc : c ∈ ([] : List Nat)) => (by cases hc), Nat.zero_le _⟩
  | [x], h => by
    have := h x (List.mem_singleton_self x)
    exact ⟨this.asc, Nat.le_trans this.len (by simp)⟩
  | x :: y :: r, h => by
    have e : Str.join sep (x :: y :: r) = x ++ sep ++ Str.join sep (y :: r) := rfl
    rw [e]
    have h1 := ((h x (List.mem_cons_self ..)).app hs).app (join_sm hs (y :: r) fun z hz => h z (List.mem_cons_of_mem _ hz))
    refine ⟨h1.asc, Nat.le_trans h1.len ?_⟩
    simp only [List.length_cons]
    rw [Nat.add_mul (r.length + 1) 1, Nat.one_mul]; omega
structure Row (xs : List SK.D) : Prop where
  fl : ∀ d ∈ xs, Flat d
  len : xs.length ≤ 4
def pyR (xs : List SK.D) : PyData := .tuple (xs.map dpy)
theorem shownAll_map : ∀ l : List PyData, PyData.shownAll l = l.map PyData.shown
  | [] => PyData.shownAll_nil
  | x :: r => by rw [PyData.shownAll_cons, shownAll_map r]; rfl
theorem showableAll_map : ∀ l : List PyData, (∀ x ∈ l, x.showable = true) → PyData.showableAll l = true
  | [], _ => by simp [PyData.showableAll]
  | x :: r, h => by simp [PyData.showableAll, h x (List.mem_cons_self ..), showableAll_map r fun y hy => h y (List.mem_cons_of_mem _ hy)]
theorem row_shown {xs : List SK.D} (h : Row xs) : Sm (pyR xs).shown 100 ∧ (pyR xs).showable = true := by
  refine ⟨?_, ?_⟩
  · show Sm (PyData.tuple (xs.map dpy)).shown 100
    rw [PyData.shown_tuple, shownAll_map]
    have hj := join_sm (sep := (", " : Str)) (k := 2) (n := 21) (.dec (by decide +kernel)) ((xs.map dpy).map PyData.shown) fun x hx => by
      rw [List.map_map] at hx
      obtain ⟨d, hd, rfl⟩ := List.mem_map.mp hx
      exact (flat_shown (h.fl d hd)).1
    have hb : Sm ((if (xs.map dpy).length == 1 then ",)" else ")" : String) : Str) 2 := by
      split
      · exact .dec (by decide +kernel)
      · exact .dec (by decide +kernel)
    have h1 := ((Sm.dec (x := ("(" : Str)) (n := 1) (by decide +kernel)).app hj).app hb
    refine ⟨h1.asc, Nat.le_trans h1.len ?_⟩
    rw [List.length_map, List.length_map]
    have := h.len
    omega
  · simp only [pyR, PyData.showable]
    exact showableAll_map _ fun x hx => by
      obtain ⟨d, hd, rfl⟩ := List.mem_map.mp hx
      exact (flat_shown (h.fl d hd)).2
def reprR (rows : List (List SK.D)) : Str := PyData.shown (.list (rows.map pyR))
theorem rows_py : ∀ {rows : List (List SK.D)}, (∀ r ∈ rows, Row r) → D.pys (rows.map .tup) = some (rows.map pyR) ∧ PyData.canLayAll0 (rows.map pyR) = true ∧ PyData.depthAll (rows.map pyR) ≤ 1
  | [], _ => ⟨rfl, by simp [PyData.canLayAll0], by simp [PyData.depthAll]⟩
  | o :: r, h => by
    obtain ⟨h4, h5, h6⟩ := rows_py (rows := r) fun x hx => h x (List.mem_cons_of_mem _ hx)
    obtain ⟨h1, h2, h3⟩ := flats_py (h o (List.mem_cons_self ..)).fl
    refine ⟨by simp [D.pys, D.py, h1, h4, pyR], by simp [PyData.canLayAll0, pyR, PyData.canLay0, h2, h5], ?_⟩
    rw [List.map_cons]
    rw [PyData.depthAll, show PyData.depth (pyR o) = PyData.depthAll (o.map dpy) + 1 by unfold pyR; rw [PyData.depth], h3]
    omega
theorem reprR_sm {rows : List (List SK.D)} (h : ∀ r ∈ rows, Row r) : Sm (reprR rows) (rows.length * 102 + 2) := by
  unfold reprR
  rw [PyData.shown_list, shownAll_map]
  have hj := join_sm (sep := (", " : Str)) (k := 2) (n := 100) (.dec (by decide +kernel)) ((rows.map pyR).map PyData.shown) fun x hx => by
    rw [List.map_map] at hx
    obtain ⟨d, hd, rfl⟩ := List.mem_map.mp hx
    exact (row_shown (h d hd)).1
  have h1 := ((Sm.dec (x := ("[" : Str)) (n := 1) (by decide +kernel)).app hj).app (Sm.dec (x := ("]" : Str)) (n := 1) (by decide +kernel))
  refine ⟨h1.asc, Nat.le_trans h1.len ?_⟩
  rw [List.length_map, List.length_map]; omega
theorem rows_shaped {rows : List (List SK.D)} (h : ∀ r ∈ rows, Row r) : SeqAt.shaped (.list (rows.map pyR)) = true := by
  obtain ⟨_, h2, h3⟩ := rows_py h
  simp only [SeqAt.shaped, PyData.canLay0, PyData.depth, h2, Bool.true_and]; exact decide_eq_true (by omega)
theorem gRepr_of {st : List MO} {d : SK.D} {rows : List (List SK.D)} (hd : vw st d = some (.lst (rows.map .tup))) (hn : ∀ i, d ≠ .int i) (h : ∀ r ∈ rows, Row r) (hl : rows.length ≤ 20000) : gRepr st d = some (.str (reprR rows)) := by
  have e : vpy st d = some (.list (rows.map pyR)) := by
    unfold vpy; rw [hd]; dsimp only; unfold D.py; rw [(rows_py h).1]; rfl
  have hs : PyData.showable (.list (rows.map pyR)) = true := by
    simp only [PyData.showable]
    exact showableAll_map _ fun x hx => by
      obtain ⟨d, hd, rfl⟩ := List.mem_map.mp hx
      exact (row_shown (h d hd)).2
  have hz : (PyData.shown (.list (rows.map pyR))).length ≤ sizeLine := Nat.le_trans (reprR_sm h).len (Nat.le_trans (show _ ≤ 20000 * 102 + 2 by omega) (by decide))
  unfold gRepr
  cases d with
  | int i => exact absurd rfl (hn i)
  | _ =>
    dsimp only
    rw [e]
    dsimp only
    rw [rows_shaped h, hs, decide_eq_true hz]; rfl
theorem gRepr_int {st : List MO} {i : Nat} (h : i ≤ 20000) : gRepr st (.int i) = some (.str (T (TL.numL i))) := by
  unfold gRepr
  dsimp only
  rw [if_pos (by
    rw [Int.natAbs_natCast]
    by_cases z : i = 0
    · rw [z]; decide
    · exact (Nat.log2_lt z).mpr (Nat.lt_of_le_of_lt h (by decide +kernel)))]
  congr 2
  exact SX.num_S i
end K83P
end
section
set_option Elab.async false
set_option linter.all false
set_option autoImplicit false
set_option maxRecDepth 100000
set_option maxHeartbeats 4000000
namespace K83P
open PySem PySem.Spec PyProof.Rows L2 SK K83
theorem filterMap_flat {words : List (List Nat)} {fs : List Nat} : ∀ d ∈ (List.zipWith partP words fs).filterMap id, Flat d := fun d hd => by
  obtain ⟨o, ho, e⟩ := List.mem_filterMap.mp hd
  exact zipWith_flat o ho d e
theorem rowP_row {line : List Nat} {xs : List SK.D} (h : rowP line = some xs) : Row xs ∧ xs ≠ [] := by
  obtain ⟨first, words, ew, _⟩ := spl_cons 32 line
  unfold rowP at h
  rw [ew] at h
  dsimp only at h
  rcases forms_both first with ⟨hk, _⟩ | ⟨fs, gs, hk, hkL, hfg, hf3, hpr, hf128, h9⟩
  · rw [hk] at h; cases h
  · rw [hk] at h
    dsimp only at h
    split at h
    · split at h
      · cases h
        refine ⟨⟨fun d hd => ?_, ?_⟩, by simp⟩
        · rcases List.mem_cons.mp hd with rfl | hd
          · exact .inr (.inr ⟨first, rfl, h9⟩)
          · exact filterMap_flat d hd
        · rw [List.length_cons]
          have := List.length_filterMap_le id (List.zipWith partP words fs)
          rw [List.length_zipWith] at this
          omega
      · cases h
    · cases h
def rowsOf (ls : List (List Nat)) : List (List SK.D) := ls.map fun l => (rowP l).getD []
theorem rowsOf_row (ls : List (List Nat)) : ∀ r ∈ rowsOf ls, Row r := fun r hr => by
  obtain ⟨l, _, rfl⟩ := List.mem_map.mp hr
  cases h : rowP l with
  | none => exact ⟨fun d hd => absurd hd List.not_mem_nil, Nat.zero_le _⟩
  | some xs => exact (rowP_row h).1
/-- the first line that is no row -/
def badAt : List (List Nat) → Nat → Option Nat
  | [], _ => none
  | l :: r, i => if (rowP l).isNone then some i else badAt r (i + 1)
theorem tup_nil {xs : List SK.D} (h : Row xs) : gEq (.tup xs) (.tup []) = some (.bl xs.isEmpty) := by
  obtain ⟨h1, h2, h3⟩ := flats_py h.fl
  have e1 : D.py (.tup xs) = some (.tuple (xs.map dpy)) := by unfold D.py; rw [h1]; rfl
  have e2 : D.py (.tup []) = some (.tuple []) := rfl
  have s1 : SeqAt.shaped (.tuple (xs.map dpy)) = true := by
    simp only [SeqAt.shaped, PyData.canLay0, PyData.depth, h2, h3, Bool.true_and]; decide
  have s2 : SeqAt.shaped (.tuple []) = true := by decide
  unfold gEq
  rw [e1, e2]
  dsimp only
  rw [s1, s2, Bool.and_self, if_pos rfl]
  cases xs with
  | nil => simp [PyData.eqv, PyData.eqvAll]
  | cons c r => simp [PyData.eqv, PyData.eqvAll]
abbrev recBody (ad : Ad) : S := sIf (eTest (e2 (eVar 3) (eA (aNil) SK.gTup) gEq)) (sRaise1 ad.cNoText "line" (eVar 2)) (sNil)
theorem sRaise1_ok {c : Addr} {f : Str} {fe : M SK.D} {env : En} {st st1 : List MO} {v : SK.D} (h : fe env st = .ok v st1) : sRaise1 c f fe env st = .exc (.ref c) [(f, v)] env st1 := by unfold sRaise1; rw [h, bindS_ok]
theorem forE_cons {n : Nat} {t : Tg} {b : S} {d0 d : SK.D} {rest ys : List SK.D} {i : Nat} {env env1 : En} {st : List MO} (hst : st[n]? = some (.lst ys)) (hget : ys[i]? = some d) (ht : t (.tup [.int (i : Nat), d]) env = some env1) :
    forE n t b (d0 :: rest) i env st = (match b env1 st with
          | .nx env2 st2 => forE n t b rest (i + 1) env2 st2
          | .ct env2 st2 => forE n t b rest (i + 1) env2 st2
          | .bk env2 st2 => .nx env2 st2
          | o => o) := by
  conv => lhs; unfold forE
  rw [hst]
  dsimp only
  rw [hget]
  dsimp only
  rw [ht]
  first | done | (dsimp only; first | done | (cases b env1 st <;> rfl))
theorem rec_loop (ad : Ad) {st : List MO} {n : Nat} {all : List (List Nat)} (hst : st[n]? = some (.lst ((rowsOf all).map .tup))) {a0 a1 : Sl} : ∀ (ls pre : List (List Nat)) (x2 x3 x4 : Sl), all = pre ++ ls →
    (badAt ls pre.length = none → ∃ y2 y3 y4, forE n (tgT 2 [tgN 2, tgN 3]) (recBody ad) ((rowsOf ls).map .tup) pre.length [a0, a1, x2, x3, x4] st = .nx [a0, a1, y2, y3, y4] st) ∧
    (∀ i, badAt ls pre.length = some i → ∃ env, forE n (tgT 2 [tgN 2, tgN 3]) (recBody ad) ((rowsOf ls).map .tup) pre.length [a0, a1, x2, x3, x4] st = .exc (.ref ad.cNoText) [("line", .int i)] env st)
  | [], pre, x2, x3, x4, h => by
    refine ⟨fun _ => ⟨x2, x3, x4, ?_⟩, fun i h => by cases h⟩
    show (match st[n]? with
      | some (.lst ys) => if ys.length ≤ pre.length then SO.nx [a0, a1, x2, x3, x4] st else .bad
      | _ => .bad) = _
    rw [hst]
    dsimp only
    rw [if_pos (by rw [h]; unfold rowsOf; simp)]
  | l :: ls, pre, x2, x3, x4, h => by
    have ih := fun x2 x3 x4 => rec_loop ad (st := st) hst (a0 := a0) (a1 := a1) ls (pre ++ [l]) x2 x3 x4 (by rw [h]; simp)
    have hr : Row ((rowP l).getD []) := rowsOf_row [l] _ (by unfold rowsOf; simp)
    have hget : ((rowsOf all).map SK.D.tup)[pre.length]? = some (.tup ((rowP l).getD [])) := by
      rw [h]; unfold rowsOf; simp
    have step : forE n (tgT 2 [tgN 2, tgN 3]) (recBody ad) ((rowsOf (l :: ls)).map .tup) pre.length [a0, a1, x2, x3, x4] st = (match recBody ad [a0, a1, .val (.int (pre.length : Nat)), .val (.tup ((rowP l).getD [])), x4] st with
          | .nx env2 st2 => forE n (tgT 2 [tgN 2, tgN 3]) (recBody ad) ((rowsOf ls).map .tup) (pre.length + 1) env2 st2
          | .ct env2 st2 => forE n (tgT 2 [tgN 2, tgN 3]) (recBody ad) ((rowsOf ls).map .tup) (pre.length + 1) env2 st2
          | .bk env2 st2 => .nx env2 st2
          | o => o) := by
      exact forE_cons hst hget rfl
    have et : eTest (SK.e2 (eVar 3) (eA (aNil) SK.gTup) gEq) [a0, a1, .val (.int (pre.length : Nat)), .val (.tup ((rowP l).getD [])), x4] st = .ok ((rowP l).getD []).isEmpty st := eTest_ok (e2_ok (eVar_ok rfl) (eA_ok aNil_ok rfl) (tup_nil hr))
    rw [step]
    cases hq : rowP l with
    | none =>
      rw [hq] at et
      have eb : recBody ad [a0, a1, .val (.int (pre.length : Nat)), .val (.tup ((none : Option (List SK.D)).getD [])), x4] st = .exc (.ref ad.cNoText) [("line", .int (pre.length : Nat))] [a0, a1, .val (.int (pre.length : Nat)), .val (.tup []), x4] st := (sIf_t et).trans (sRaise1_ok (eVar_ok rfl))
      rw [eb]
      refine ⟨fun z => ?_, fun i z => ?_⟩
      · unfold badAt at z; rw [hq] at z; cases z
      · unfold badAt at z; rw [hq] at z
        have : pre.length = i := Option.some.inj z
        subst this
        exact ⟨_, rfl⟩
    | some xs =>
      rw [hq] at et
      have hne := (rowP_row hq).2
      have et' : ((some xs : Option (List SK.D)).getD []).isEmpty = false := by cases xs with | nil => exact absurd rfl hne | cons => rfl
      rw [et'] at et
      have eb : recBody ad [a0, a1, .val (.int (pre.length : Nat)), .val (.tup ((some xs).getD [])), x4] st = .nx [a0, a1, .val (.int (pre.length : Nat)), .val (.tup xs), x4] st := (sIf_f et).trans sNil_ok
      rw [eb]
      have hb : badAt (l :: ls) pre.length = badAt ls (pre ++ [l]).length := by
        unfold badAt; rw [hq]
        rw [if_neg (by simp)]
        rw [List.length_append, List.length_singleton]
        cases ls <;> rfl
      rw [hb]
      obtain ⟨i1, i2⟩ := ih (.val (.int (pre.length : Nat))) (.val (.tup xs)) x4
      rw [show (pre ++ [l]).length = pre.length + 1 by simp] at i1 i2 ⊢
      exact ⟨i1, i2⟩
def linesOf (t : List Nat) : List (List Nat) := if t = [] then [] else TL.spl [10] 0 [] t
theorem linesOf_lin {t : List Nat} (h : Lin t 15000) : ∀ l ∈ linesOf t, Lin l 15000 := fun l hl => by
  unfold linesOf at hl
  split at hl
  · cases hl
  · exact spl_lin h l hl
theorem linesOf_len {t : List Nat} (h : Lin t 15000) : (linesOf t).length ≤ 15001 := by
  unfold linesOf
  split
  · simp
  · have := (spl_facts 10 t []).2.1; have := h.2; omega
theorem F_rec (ad : Ad) {t : List Nat} {st : List MO} (h : Lin t 15000) :
    (badAt (linesOf t) 0 = none → F_read_record ad [.str (T t)] st = .ok (.v (.ref st.length)) (st ++ [.lst ((rowsOf (linesOf t)).map .tup)])) ∧
    (∀ i, badAt (linesOf t) 0 = some i → F_read_record ad [.str (T t)] st = .exc (.ref ad.cNoText) [("line", .int i)] (st ++ [.lst ((rowsOf (linesOf t)).map .tup)])) := by
  have q1 : ∀ env : En, env[0]? = some (.val (.str (T t))) → tNotI (eTest (e1s (eVar 0) (gIsi tb_str))) env st = .ok false st := fun env h0 => not_ok (x := true) (eTest_ok (e1s_ok (eVar_ok h0) (by rfl)))
  have q2 : ∀ env : En, env[0]? = some (.val (.str (T t))) → eTest (e2 (eVar 0) (eC (.str "")) gNe) env st = .ok (!decide (t = [])) st := fun env h0 => eTest_ok (e2_ok (eVar_ok h0) eC_ok (by rw [show Str.ofString "" = T [] by decide +kernel]; exact gNe_T h.1 (by simp)))
  have q3 : rIf (eTest (e2 (eVar 0) (eC (.str "")) gNe)) (eLcO (wLst (eM1 (eVar 0) (eC (.str "\n")) gSplit)) [4] (tgN 4) (tYesI) (eFrz (eCall (aCons (eVar 4) (aNil)) (F_read_row ad)))) (eAR (aNil) gLstO) [.val (.str (T t)), .no, .no, .no, .no] st = .ok (.o (.lst ((rowsOf (linesOf t)).map .tup))) st := by
    unfold linesOf rowsOf
    by_cases ht : t = []
    · rw [if_pos ht]
      exact (rIf_f ((q2 _ rfl).trans (by rw [decide_eq_true ht]; rfl))).trans (eAR_ok aNil_ok rfl)
    · rw [if_neg ht, List.map_map]
      have hl := (spl_facts 10 t []).2.1
      refine (rIf_t ((q2 _ rfl).trans (by rw [decide_eq_false ht]; rfl))).trans (eLcO_map (l := TL.spl [10] 0 [] t) (g := fun p => .str (T p)) _ (wLst_ok (eM1_ok (eVar_ok rfl) eC_ok (by rw [s_nl]; exact gSplit_T (by decide) (Nat.le_trans (Nat.add_le_add_right h.2 2) (by decide))))) (by have := h.2; omega) fun p hp => ⟨_, rfl, ?_⟩)
      exact eFrz_ok (eCall_ok (aCons_ok (eVar_ok rfl) aNil_ok) (F_row ad (spl_lin h p hp)))
  have hst : (st ++ [MO.lst ((rowsOf (linesOf t)).map .tup)])[st.length]? = some (.lst ((rowsOf (linesOf t)).map .tup)) := by simp
  obtain ⟨i1, i2⟩ := rec_loop ad (st := st ++ [.lst ((rowsOf (linesOf t)).map .tup)]) (n := st.length) (all := linesOf t) hst (a0 := .val (.str (T t))) (a1 := .val (.ref st.length)) (linesOf t) [] .no .no .no rfl
  have q4 : ∀ o, forE st.length (tgT 2 [tgN 2, tgN 3]) (recBody ad) ((rowsOf (linesOf t)).map .tup) 0 [.val (.str (T t)), .val (.ref st.length), .no, .no, .no] (st ++ [.lst ((rowsOf (linesOf t)).map .tup)]) = o → sForE (eVar 1) (tgT 2 [tgN 2, tgN 3]) (recBody ad) [.val (.str (T t)), .val (.ref st.length), .no, .no, .no] (st ++ [.lst ((rowsOf (linesOf t)).map .tup)]) = o := fun o ho => by
    unfold sForE
    rw [eVar_ok rfl, bindS_ok]
    dsimp only
    rw [hst]
    exact ho
  have q5 : b_read_record ad [.val (.str (T t)), .no, .no, .no, .no] st = sSeq (sForE (eVar 1) (tgT 2 [tgN 2, tgN 3]) (recBody ad)) (sRet (eRet (eVar 1))) [.val (.str (T t)), .val (.ref st.length), .no, .no, .no] (st ++ [.lst ((rowsOf (linesOf t)).map .tup)]) := by
    unfold b_read_record
    exact (seq_nx ((sIf_f (q1 _ rfl)).trans sNil_ok)).trans (seq_nx (sSetS_o q3))
  refine ⟨fun hb => ?_, fun i hb => ?_⟩
  · obtain ⟨y2, y3, y4, e⟩ := i1 hb
    exact run_rt (q5.trans ((seq_nx (q4 _ e)).trans (sRet_ok (eRet_ok (eVar_ok rfl)))))
  · obtain ⟨env, e⟩ := i2 i hb
    have : b_read_record ad [.val (.str (T t)), .no, .no, .no, .no] st = .exc (.ref ad.cNoText) [("line", .int i)] env (st ++ [.lst ((rowsOf (linesOf t)).map .tup)]) := by
      rw [q5]; unfold sSeq; rw [q4 _ e]; rfl
    show runF 5 (b_read_record ad) [.str (T t)] st = _
    unfold runF
    have e0 : List.map Sl.val [SK.D.str (T t)] ++ List.replicate (5 - [SK.D.str (T t)].length) Sl.no = [.val (.str (T t)), .no, .no, .no, .no] := rfl
    rw [e0, this]
theorem F_said (ad : Ad) {t : List Nat} {st : List MO} (h : Lin t 15000) :
    (badAt (linesOf t) 0 = none → F_law_said ad [.str (T t)] st = .ok (.v (.ref st.length)) (st ++ [.lst ((rowsOf (linesOf t)).map .tup)])) ∧
    (∀ i, badAt (linesOf t) 0 = some i → F_law_said ad [.str (T t)] st = .ok (.v (.int i)) (st ++ [.lst ((rowsOf (linesOf t)).map .tup)])) := by
  obtain ⟨h1, h2⟩ := F_rec ad (st := st) h
  have q : ∀ o, F_read_record ad [.str (T t)] st = o → eCall (aCons (eVar 0) (aNil)) (F_read_record ad) [.val (.str (T t)), .no] st = o := fun o e => eCall_ok (aCons_ok (eVar_ok rfl) aNil_ok) e
  refine ⟨fun hb => run_rt ?_, fun i hb => run_rt ?_⟩
  · show sTry 1 (sRet (eCall (aCons (eVar 0) (aNil)) (F_read_record ad))) (xm83 ad) (g83 ad) [.val (.str (T t)), .no] st = _
    unfold sTry
    rw [sRet_ok (q _ (h1 hb))]
  · show sTry 1 (sRet (eCall (aCons (eVar 0) (aNil)) (F_read_record ad))) (xm83 ad) (g83 ad) [.val (.str (T t)), .no] st = _
    have e : sRet (eCall (aCons (eVar 0) (aNil)) (F_read_record ad)) [.val (.str (T t)), .no] st = .exc (.ref ad.cNoText) [("line", .int i)] [.val (.str (T t)), .no] (st ++ [.lst ((rowsOf (linesOf t)).map .tup)]) := by
      unfold sRet; rw [q _ (h2 i hb)]; rfl
    unfold sTry
    rw [e]
    dsimp only
    rw [show xm83 ad (.ref ad.cNoText) = some true by unfold xm83; rw [if_pos rfl]]
    rfl
end K83P
end
section
set_option Elab.async false
set_option linter.all false
set_option autoImplicit false
set_option maxRecDepth 100000
set_option maxHeartbeats 4000000
namespace K83P
open PySem PySem.Spec PyProof.Rows L2 SK K83
theorem ixk {st : List MO} {xs : List SK.D} {k : Nat} {x : SK.D} (h : xs[k]? = some x) : gIxS st (.lst xs) (.int (0 + (k : Nat))) = some x := by
  have hk : k < xs.length := (List.getElem?_eq_some_iff.mp h).1
  show atI xs (0 + (k : Int)) = _
  unfold atI ixN
  rw [Int.zero_add, if_pos (Int.natCast_nonneg k), if_pos (by omega)]
  exact h
abbrev dueBody (ad : Ad) : S := (sSeq (sSet 4 (eFrz (eCall (aCons (e2s (eVar 2) (eVar 3) gIxS) (aNil)) (F_law_row ad))))
    (sSeq (sIf (eTest (e2 (eVar 4) (eC .non) gIsN)) (sRet (eRet (eVar 3))) (sNil))
    (sAppO 1 (eVar 4))))
theorem forL_cons {t : Tg} {b : S} {d : SK.D} {rest : List SK.D} {env env1 : En} {st : List MO} (ht : t d env = some env1) : forL t b (d :: rest) env st = (match b env1 st with
      | .nx env2 st2 => forL t b rest env2 st2
      | .ct env2 st2 => forL t b rest env2 st2
      | .bk env2 st2 => .nx env2 st2
      | o => o) := by
  conv => lhs; unfold forL
  rw [ht]
  first | done | (dsimp only; first | done | (cases b env1 st <;> rfl))
theorem sAppO_ok {i : Nat} {fe : M SK.D} {env : En} {st st1 : List MO} {xs : List SK.D} {v : SK.D} (h : env[i]? = some (.own (.lst xs))) (h2 : fe env st = .ok v st1) (hl : xs.length < 100000) : sAppO i fe env st = .nx (env.set i (.own (.lst (xs ++ [v])))) st1 := by
  unfold sAppO; rw [h]; dsimp only; rw [h2, bindS_ok, if_pos hl]
theorem due_loop (ad : Ad) {st : List MO} {all : List (List Nat)} {a0 : Sl} (hall : ∀ l ∈ all, Lin l 15000) (hlen : all.length ≤ 15001) : ∀ (ls pre : List (List Nat)) (x3 x4 : Sl), all = pre ++ ls →
    (badAt ls pre.length = none → ∃ y3 y4, forL (tgN 3) (dueBody ad) ((List.range' pre.length ls.length).map fun (i : Nat) => SK.D.int (0 + (i : Nat))) [a0, .own (.lst ((rowsOf pre).map .tup)), .val (.lst (all.map fun p => .str (T p))), x3, x4] st = .nx [a0, .own (.lst ((rowsOf all).map .tup)), .val (.lst (all.map fun p => .str (T p))), y3, y4] st) ∧
    (∀ i, badAt ls pre.length = some i → forL (tgN 3) (dueBody ad) ((List.range' pre.length ls.length).map fun (i : Nat) => SK.D.int (0 + (i : Nat))) [a0, .own (.lst ((rowsOf pre).map .tup)), .val (.lst (all.map fun p => .str (T p))), x3, x4] st = .rt (.v (.int i)) st)
  | [], pre, x3, x4, h => by
    rw [List.append_nil] at h
    subst h
    exact ⟨fun _ => ⟨x3, x4, rfl⟩, fun i h => by cases h⟩
  | l :: ls, pre, x3, x4, h => by
    have ih := fun x3 x4 => due_loop ad (st := st) (a0 := a0) hall hlen ls (pre ++ [l]) x3 x4 (by rw [h]; simp)
    have hl : Lin l 15000 := hall l (by rw [h]; simp)
    have hget : (all.map fun p => SK.D.str (T p))[pre.length]? = some (.str (T l)) := by rw [h]; simp
    have hpl : pre.length < 100000 := by rw [h, List.length_append] at hlen; omega
    rw [List.length_cons, List.range'_succ, List.map_cons]
    have step := forL_cons (t := tgN 3) (b := dueBody ad) (d := SK.D.int (0 + (pre.length : Nat))) (rest := (List.range' (pre.length + 1) ls.length).map fun (i : Nat) => SK.D.int (0 + (i : Nat))) (env := [a0, .own (.lst ((rowsOf pre).map .tup)), .val (.lst (all.map fun p => .str (T p))), x3, x4]) (env1 := [a0, .own (.lst ((rowsOf pre).map .tup)), .val (.lst (all.map fun p => .str (T p))), .val (.int (0 + (pre.length : Nat))), x4]) (st := st) rfl
    have e1 : sSet 4 (eFrz (eCall (aCons (e2s (eVar 2) (eVar 3) gIxS) (aNil)) (F_law_row ad))) [a0, .own (.lst ((rowsOf pre).map .tup)), .val (.lst (all.map fun p => .str (T p))), .val (.int (0 + (pre.length : Nat))), x4] st = .nx [a0, .own (.lst ((rowsOf pre).map .tup)), .val (.lst (all.map fun p => .str (T p))), .val (.int (0 + (pre.length : Nat))), .val (rowD l)] st :=
      sSet_ok (eFrz_ok (eCall_ok (aCons_ok (e2s_ok (eVar_ok rfl) (eVar_ok rfl) (ixk hget)) aNil_ok) (F_lrow ad hl)))
    rw [step]
    cases hq : rowP l with
    | none =>
      have er : rowD l = .non := by unfold rowD; rw [hq]
      rw [er] at e1
      have eb : dueBody ad [a0, .own (.lst ((rowsOf pre).map .tup)), .val (.lst (all.map fun p => .str (T p))), .val (.int (0 + (pre.length : Nat))), x4] st = .rt (.v (.int (0 + (pre.length : Nat)))) st := (seq_nx e1).trans (seq_rt ((sIf_t (eTest_ok (e2_ok (eVar_ok rfl) eC_ok rfl))).trans (sRet_ok (eRet_ok (eVar_ok rfl)))))
      rw [eb]
      refine ⟨fun z => ?_, fun i z => ?_⟩
      · unfold badAt at z; rw [hq] at z; cases z
      · unfold badAt at z; rw [hq] at z
        have : pre.length = i := Option.some.inj z
        subst this
        rw [Int.zero_add]
    | some xs =>
      have er : rowD l = .tup xs := by unfold rowD; rw [hq]
      rw [er] at e1
      have eb : dueBody ad [a0, .own (.lst ((rowsOf pre).map .tup)), .val (.lst (all.map fun p => .str (T p))), .val (.int (0 + (pre.length : Nat))), x4] st = .nx [a0, .own (.lst ((rowsOf pre).map .tup ++ [.tup xs])), .val (.lst (all.map fun p => .str (T p))), .val (.int (0 + (pre.length : Nat))), .val (.tup xs)] st :=
        (seq_nx e1).trans ((seq_nx ((sIf_f (eTest_ok (e2_ok (eVar_ok rfl) eC_ok rfl))).trans sNil_ok)).trans (sAppO_ok rfl (eVar_ok rfl) (by unfold rowsOf; rw [List.length_map, List.length_map]; exact hpl)))
      rw [eb]
      have hb : badAt (l :: ls) pre.length = badAt ls (pre ++ [l]).length := by
        conv => lhs; unfold badAt
        rw [hq, if_neg (by simp), List.length_append, List.length_singleton]
      have hro : (rowsOf (pre ++ [l])).map SK.D.tup = (rowsOf pre).map .tup ++ [.tup xs] := by unfold rowsOf; rw [List.map_append, List.map_append]; simp [hq]
      rw [hb]
      obtain ⟨i1, i2⟩ := ih (.val (.int (0 + (pre.length : Nat)))) (.val (.tup xs))
      rw [hro] at i1 i2
      rw [show (pre ++ [l]).length = pre.length + 1 by simp] at i1 i2 ⊢
      exact ⟨i1, i2⟩
theorem rng_ok {f : M SK.D} {env : En} {st st1 : List MO} {n : Nat} (h : f env st = .ok (.int n) st1) (hn : n ≤ 100000) : wRng1 f env st = .ok ((List.range' 0 n).map fun (i : Nat) => SK.D.int (0 + (i : Nat))) st1 := by
  unfold wRng1
  rw [h, bind_ok]
  dsimp only
  have : rngOk (n : Int) = true := by
    unfold rngOk
    rw [Bool.and_eq_true, decide_eq_true_eq, decide_eq_true_eq]
    omega
  rw [if_pos this]
  unfold rngD
  rw [Int.toNat_natCast, List.range_eq_range']
def dueD (t : List Nat) : SK.D := match badAt (linesOf t) 0 with
  | none => .lst ((rowsOf (linesOf t)).map .tup)
  | some i => .int i
theorem F_due (ad : Ad) {t : List Nat} {st : List MO} (h : Lin t 15000) : ∃ r, F_law_due ad [.str (T t)] st = .ok r st ∧ r.d = dueD t := by
  have q1 : sParO 1 2 (eAR (aNil) gLstO) (eM1 (eVar 0) (eC (.str "\n")) gSplit) [.val (.str (T t)), .no, .no, .no, .no] st = .nx [.val (.str (T t)), .own (.lst []), .val (.lst ((TL.spl [10] 0 [] t).map fun p => .str (T p))), .no, .no] st := by
    unfold sParO
    rw [eAR_ok (env := [.val (.str (T t)), .no, .no, .no, .no]) (st := st) aNil_ok (r := .o (.lst [])) rfl, bindS_ok]
    dsimp only
    rw [eM1_ok (env := cEnv [.val (.str (T t)), .no, .no, .no, .no] []) (st := st) (eVar_ok rfl) eC_ok (by rw [s_nl]; exact gSplit_T (by decide) (Nat.le_trans (Nat.add_le_add_right h.2 2) (by decide))), bindS_ok]
    rfl
  have q2 : ∀ env : En, env[0]? = some (.val (.str (T t))) → eTest (e2 (eVar 0) (eC (.str "")) gEq) env st = .ok (decide (t = [])) st := fun env h0 => eTest_ok (e2_ok (eVar_ok h0) eC_ok (by rw [show Str.ofString "" = T [] by decide +kernel]; exact gEq_T h.1 (by simp)))
  unfold F_law_due b_law_due
  by_cases ht : t = []
  · refine ⟨.v (.lst []), run_rt ((seq_nx q1).trans (seq_rt ((sIf_t ((q2 _ rfl).trans (by rw [decide_eq_true ht]))).trans (sRet_ok (eRet_ok (eA_ok aNil_ok rfl)))))), ?_⟩
    unfold dueD linesOf
    rw [if_pos ht]; rfl
  · have el : linesOf t = TL.spl [10] 0 [] t := by unfold linesOf; rw [if_neg ht]
    have hlen := linesOf_len h
    obtain ⟨i1, i2⟩ := due_loop ad (st := st) (a0 := .val (.str (T t))) (linesOf_lin h) hlen (linesOf t) [] .no .no rfl
    rw [← el] at q1
    have q3 : wRng1 (e1s (eVar 2) gLen) [.val (.str (T t)), .own (.lst []), .val (.lst ((linesOf t).map fun p => .str (T p))), .no, .no] st = .ok ((List.range' 0 (linesOf t).length).map fun (i : Nat) => SK.D.int (0 + (i : Nat))) st := rng_ok (e1s_ok (eVar_ok rfl) (by rw [gLen_lst, List.length_map])) (by omega)
    have q4 := (q2 [.val (.str (T t)), .own (.lst []), .val (.lst ((linesOf t).map fun p => .str (T p))), .no, .no] rfl).trans (by rw [decide_eq_false ht])
    unfold dueD
    cases hb : badAt (linesOf t) 0 with
    | none =>
      obtain ⟨y3, y4, e⟩ := i1 hb
      exact ⟨.o (.lst ((rowsOf (linesOf t)).map .tup)), run_rt ((seq_nx q1).trans ((seq_nx ((sIf_f q4).trans sNil_ok)).trans ((seq_nx ((sFor_ok q3).trans e)).trans rfl))), rfl⟩
    | some i => 
      exact ⟨.v (.int i), run_rt ((seq_nx q1).trans ((seq_nx ((sIf_f q4).trans sNil_ok)).trans (seq_rt ((sFor_ok q3).trans (i2 i hb))))), rfl⟩
theorem badAt_le : ∀ (ls : List (List Nat)) (k i : Nat), badAt ls k = some i → i ≤ k + ls.length
  | [], _, _, h => by cases h
  | l :: ls, k, i, h => by
    unfold badAt at h
    split at h
    · cases h; omega
    · have := badAt_le ls (k + 1) i h
      rw [List.length_cons]; omega
/-- the two readings agree on every text -/
theorem agree (ad : Ad) {t : List Nat} (h : Lin t 15000) : ∃ z x, PyData.strOk z = true ∧ (∀ st, ∃ d, F_law_said ad [.str (T t)] st = .ok (.v d) (st ++ [x]) ∧ gRepr (st ++ [x]) d = some (.str z)) ∧ ∀ st, ∃ r, F_law_due ad [.str (T t)] st = .ok r st ∧ gRepr st r.d = some (.str z) := by
  have hlen := linesOf_len h
  have hrl : (rowsOf (linesOf t)).length ≤ 20000 := by unfold rowsOf; rw [List.length_map]; omega
  have hR := rowsOf_row (linesOf t)
  cases hb : badAt (linesOf t) 0 with
  | none =>
    refine ⟨reprR (rowsOf (linesOf t)), .lst ((rowsOf (linesOf t)).map .tup), (reprR_sm hR).ok, fun st => ⟨_, (F_said ad h).1 hb, ?_⟩, fun st => ?_⟩
    · exact gRepr_of (by simp [vw, MO.d]) (fun i z => by cases z) hR hrl
    · obtain ⟨r, e1, e2⟩ := F_due ad (st := st) h
      unfold dueD at e2
      rw [hb] at e2
      exact ⟨r, e1, by rw [e2]; exact gRepr_of rfl (fun i z => by cases z) hR hrl⟩
  | some i =>
    have hi : i ≤ 20000 := by have := badAt_le _ _ _ hb; omega
    refine ⟨T (TL.numL i), .lst ((rowsOf (linesOf t)).map .tup), strOk_T (numL_asc i), fun st => ⟨_, (F_said ad h).2 i hb, gRepr_int hi⟩, fun st => ?_⟩
    obtain ⟨r, e1, e2⟩ := F_due ad (st := st) h
    unfold dueD at e2
    rw [hb] at e2
    exact ⟨r, e1, by rw [e2]; exact gRepr_int hi⟩
end K83P
end
section
set_option Elab.async false
set_option linter.all false
set_option autoImplicit false
set_option maxRecDepth 100000
set_option maxHeartbeats 4000000
namespace K83P
open PySem PySem.Spec PyProof.Rows L2 SK K83
structure Bag (n k : Nat) (st : List MO) : Prop where
  ex : ∃ a b c : Int, st[n]? = some (.lst [.int a, .int b, .int c]) ∧ 0 ≤ a ∧ 0 ≤ b ∧ b < 2305843009213693951 ∧ 0 ≤ c ∧ c ≤ k
theorem Bag.mono {n k k' : Nat} {st : List MO} (h : Bag n k st) (hk : k ≤ k') : Bag n k' st := by
  obtain ⟨a, b, c, h1, h2, h3, h4, h5, h6⟩ := h.ex
  exact ⟨a, b, c, h1, h2, h3, h4, h5, by omega⟩
theorem Bag.push {n k : Nat} {st : List MO} (h : Bag n k st) (x : MO) : Bag n k (st ++ [x]) := by
  obtain ⟨a, b, c, h1, h2⟩ := h.ex
  exact ⟨a, b, c, by rw [List.getElem?_append_left (List.getElem?_eq_some_iff.mp h1).1]; exact h1, h2⟩
theorem Bag.lt {n k : Nat} {st : List MO} (h : Bag n k st) : n < st.length := by
  obtain ⟨a, b, c, h1, _⟩ := h.ex
  exact (List.getElem?_eq_some_iff.mp h1).1
theorem gI_ok {C : Int → Int → Bool} {h : Int → Int → Int} {i j : Int} (hc : C i j = true) : gI C h (.int i) (.int j) = some (.int (h i j)) := by unfold gI; dsimp only; rw [if_pos hc]
theorem mod_ok {i j : Int} (h : 0 < j) : gMod (.int i) (.int j) = some (.int (i % j)) := gI_ok (decide_eq_true h)
theorem div_ok {i j : Int} (h : 0 < j) (h2 : j ≤ 10 ^ 20) : gDiv (.int i) (.int j) = some (.int (i / j)) := gI_ok (by
  rw [Bool.and_eq_true, decide_eq_true_eq, decide_eq_true_eq]
  refine ⟨h, ?_⟩
  have : j.natAbs < 2 ^ 9000 := Nat.lt_of_le_of_lt (show j.natAbs ≤ 10 ^ 20 by omega) (by decide +kernel)
  exact (Nat.log2_lt (by omega)).mpr this)
theorem pow_ok {i j : Int} (h : 0 ≤ j) (h2 : j ≤ 1000000) (h3 : i.natAbs < 2 ^ 64) : gPow (.int i) (.int j) = some (.int (i ^ j.toNat)) := gI_ok (by
  rw [Bool.and_eq_true, Bool.and_eq_true, decide_eq_true_eq, decide_eq_true_eq, decide_eq_true_eq]
  exact ⟨⟨h, h2⟩, h3⟩)
theorem mul_ok {i j : Int} (h : (-(2 ^ 64) < i ∧ i < 2 ^ 64) ∨ (-(2 ^ 64) < j ∧ j < 2 ^ 64)) : gMul (.int i) (.int j) = some (.int (i * j)) := by
  unfold gMul
  dsimp only
  rw [if_pos (by
    unfold cMulB
    rw [Bool.or_eq_true, Bool.and_eq_true, Bool.and_eq_true, decide_eq_true_eq, decide_eq_true_eq, decide_eq_true_eq, decide_eq_true_eq]
    exact h)]
theorem add_ok (i j : Int) : gAdd (.int i) (.int j) = some (.int (i + j)) := rfl
theorem sub_ok (i j : Int) : gSub (.int i) (.int j) = some (.int (i - j)) := rfl
theorem ixS0 {n : Nat} {st : List MO} {a b c : SK.D} (h : st[n]? = some (.lst [a, b, c])) : gIxS st (.ref n) (.int 0) = some a := by unfold gIxS; dsimp only; rw [h]; rfl
theorem ixS1 {n : Nat} {st : List MO} {a b c : SK.D} (h : st[n]? = some (.lst [a, b, c])) : gIxS st (.ref n) (.int 1) = some b := by unfold gIxS; dsimp only; rw [h]; rfl
theorem ixS2 {n : Nat} {st : List MO} {a b c : SK.D} (h : st[n]? = some (.lst [a, b, c])) : gIxS st (.ref n) (.int 2) = some c := by unfold gIxS; dsimp only; rw [h]; rfl
theorem subS_ok {env : En} {st st1 : List MO} {fo fj fe : M SK.D} {v : SK.D} {r m : Nat} {k : Int} {xs : List SK.D} (h1 : fe env st = .ok v st1) (h2 : fo env st1 = .ok (.ref r) st1) (h3 : fj env st1 = .ok (.int k) st1) (h4 : st1[r]? = some (.lst xs)) (h5 : ixN xs.length k = some m) :
    sSubS fo fj fe env st = .nx env (st1.set r (.lst (xs.set m v))) := by
  unfold sSubS
  rw [h1, bindS_ok, h2, bindS_ok, h3, bindS_ok]
  dsimp only
  rw [h4]
  dsimp only
  rw [h5]
theorem gt_ok (i j : Int) : gGt (.int i) (.int j) = some (.bl (decide (j < i))) := rfl
theorem F_take (ad : Ad) {n k : Nat} {st : List MO} {m : Int} (h : Bag n k st) (hk : k < 1000000000) (hm : 0 < m) (hm2 : m ≤ 10 ^ 20) : ∃ r st', F_law_take ad [.ref n, .int m] st = .ok (.v (.int r)) st' ∧ 0 ≤ r ∧ r < m ∧ Bag n (k + 1) st' ∧ st'.length = st.length := by
  obtain ⟨a, b, c, h1, h2, h3, h4, h5, h6⟩ := h.ex
  have hn := h.lt
  have e0 : ∀ env : En, env[0]? = some (.val (.ref n)) → e2s (eVar 0) (eC (.int 0)) gIxS env st = .ok (.int a) st := fun env q => e2s_ok (eVar_ok q) eC_ok (ixS0 h1)
  have e1 : ∀ env : En, env[0]? = some (.val (.ref n)) → eTest (e2 (e2s (eVar 0) (eC (.int 0)) gIxS) (eC (.int 0)) gGt) env st = .ok (decide (0 < a)) st := fun env q => eTest_ok (e2_ok (e0 env q) eC_ok (gt_ok _ _))
  unfold F_law_take b_law_take
  by_cases ha : 0 < a
  · refine ⟨a % m, st.set n (.lst ([.int a, .int b, .int c].set 0 (.int (a / m)))), run_rt (seq_rt ((sIf_t ((e1 _ rfl).trans (by rw [decide_eq_true ha]))).trans ((seq_nx (sSet_ok (e2_ok (e0 _ rfl) (eVar_ok rfl) (mod_ok hm)))).trans ((seq_nx (subS_ok (e2_ok (e0 _ rfl) (eVar_ok rfl) (div_ok hm hm2)) (eVar_ok rfl) eC_ok h1 rfl)).trans (sRet_ok (eRet_ok (eVar_ok rfl))))))), Int.emod_nonneg _ (by omega), Int.emod_lt_of_pos _ hm, ⟨a / m, b, c, ?_, Int.ediv_nonneg h2 (by omega), h3, h4, h5, by omega⟩, by simp⟩
    rw [List.getElem?_set_self hn]; rfl
  · have hc' : (c + 1 : Int) ≤ 1000000000 := by omega
    let st1 : List MO := st.set n (.lst [.int a, .int b, .int (c + 1)])
    have g1 : st1[n]? = some (.lst [.int a, .int b, .int (c + 1)]) := List.getElem?_set_self hn
    have f1 : ∀ env : En, env[0]? = some (.val (.ref n)) → sSubS (eVar 0) (eC (.int 2)) (e2 (e2s (eVar 0) (eC (.int 2)) gIxS) (eC (.int 1)) gAdd) env st = .nx env st1 := fun env q => subS_ok (m := 2) (e2_ok (e2s_ok (eVar_ok q) eC_ok (ixS2 h1)) eC_ok (add_ok _ _)) (eVar_ok q) eC_ok h1 rfl
    have f2 : ∀ env : En, env[0]? = some (.val (.ref n)) → e2 (e2 (e2 (e2s (eVar 0) (eC (.int 1)) gIxS) (e2 (eC (.int 1000003)) (e2s (eVar 0) (eC (.int 2)) gIxS) gMul) gAdd) (eC (.int 3)) gPow) (eC (.int 2305843009213693921)) gMod env st1 = .ok (.int ((b + 1000003 * (c + 1)) ^ 3 % 2305843009213693921)) st1 := fun env q =>
      e2_ok (e2_ok (e2_ok (e2s_ok (eVar_ok q) eC_ok (ixS1 g1)) (e2_ok eC_ok (e2s_ok (eVar_ok q) eC_ok (ixS2 g1)) (mul_ok (.inl (by decide)))) (add_ok _ _)) eC_ok (pow_ok (by decide) (by decide) (by omega))) eC_ok (mod_ok (by decide))
    have hx0 : 0 ≤ (b + 1000003 * (c + 1)) ^ 3 % 2305843009213693921 := Int.emod_nonneg _ (by decide)
    have hx1 : (b + 1000003 * (c + 1)) ^ 3 % 2305843009213693921 < 2305843009213693921 := Int.emod_lt_of_pos _ (by decide)
    generalize (b + 1000003 * (c + 1)) ^ 3 % 2305843009213693921 = x at f2 hx0 hx1
    have f3 : ∀ env : En, env[0]? = some (.val (.ref n)) → env[3]? = some (.val (.int x)) → e2 (e2 (e2 (eVar 3) (e2 (eC (.int 32452843)) (e2s (eVar 0) (eC (.int 2)) gIxS) gMul) gAdd) (eC (.int 2)) gPow) (eC (.int 2305843009213693951)) gMod env st1 = .ok (.int ((x + 32452843 * (c + 1)) ^ 2 % 2305843009213693951)) st1 := fun env q q3 =>
      e2_ok (e2_ok (e2_ok (eVar_ok q3) (e2_ok eC_ok (e2s_ok (eVar_ok q) eC_ok (ixS2 g1)) (mul_ok (.inl (by decide)))) (add_ok _ _)) eC_ok (pow_ok (by decide) (by decide) (by omega))) eC_ok (mod_ok (by decide))
    generalize (x + 32452843 * (c + 1)) ^ 2 % 2305843009213693951 = y at f3
    refine ⟨y / 1024 % m, st1, run_rt ((seq_nx ((sIf_f ((e1 _ rfl).trans (by rw [decide_eq_false ha]))).trans sNil_ok)).trans ((seq_nx (f1 _ rfl)).trans ((seq_nx (sSet_ok (f2 _ rfl))).trans ((seq_nx (sSet_ok (f3 _ rfl rfl))).trans (sRet_ok (eRet_ok (e2_ok (e2_ok (eVar_ok rfl) eC_ok (div_ok (by decide) (by decide))) (eVar_ok rfl) (mod_ok hm)))))))), Int.emod_nonneg _ (by omega), Int.emod_lt_of_pos _ hm, ⟨a, b, c + 1, g1, h2, h3, h4, by omega, by omega⟩, by simp [st1]⟩
theorem atI_get {α : Type} {xs : List α} {r : Int} (h0 : 0 ≤ r) (h1 : r < xs.length) : ∃ x ∈ xs, atI xs r = some x := by
  have hr : r.toNat < xs.length := by omega
  refine ⟨xs[r.toNat], List.getElem_mem hr, ?_⟩
  unfold atI ixN
  rw [if_pos h0, if_pos h1]
  exact List.getElem?_eq_getElem hr
theorem F_of (ad : Ad) {n k : Nat} {st : List MO} {xs : List SK.D} (h : Bag n k st) (hk : k < 1000000000) (hx : xs ≠ []) (hl : xs.length ≤ 1000000) : ∃ d ∈ xs, ∃ st', F_law_of ad [.ref n, .lst xs] st = .ok (.v d) st' ∧ Bag n (k + 1) st' ∧ st'.length = st.length := by
  have hp := List.length_pos_iff.mpr hx
  obtain ⟨r, st', e, h0, h1, hb, hs⟩ := F_take ad (m := xs.length) h hk (by omega) (by omega)
  obtain ⟨d, hd, ea⟩ := atI_get h0 h1
  refine ⟨d, hd, st', ?_, hb, hs⟩
  unfold F_law_of b_law_of
  exact run_rt (sRet_ok (eRet_ok (e2s_ok (eVar_ok rfl) (eFrz_ok (eCall_ok (aCons_ok (eVar_ok rfl) (aCons_ok (e1s_ok (eVar_ok rfl) (gLen_lst _)) aNil_ok)) e)) ea)))
theorem F_bag (ad : Ad) {ns : List Int} {i : Nat} {st : List MO} : ∃ a b : Int, F_law_bag ad [.scr (ns.map .int), .int i] st = .ok (.o (.lst [.int a, .int b, .int 0])) st ∧ 0 ≤ a ∧ 0 ≤ b ∧ b < 2305843009213693951 := by
  have eL : ∀ env : En, env[0]? = some (.val (.scr (ns.map .int))) → env[1]? = some (.val (.int i)) → eTest (e2 (eVar 1) (e1s (eVar 0) gLen) gLt) env st = .ok (decide ((i : Int) < ns.length)) st := fun env h0 h1 => eTest_ok (e2_ok (eVar_ok h1) (e1s_ok (eVar_ok h0) (z := .int ns.length) (by show some (SK.D.int ((ns.map SK.D.int).length : Nat)) = _; rw [List.length_map])) rfl)
  have ec : ∃ cell : Int, eIf (eTest (e2 (eVar 1) (e1s (eVar 0) gLen) gLt)) (e2s (eVar 0) (eVar 1) gIxS) (eC (.int 0)) [.val (.scr (ns.map .int)), .val (.int i), .no, .no] st = .ok (.int cell) st := by
    by_cases h : (i : Int) < ns.length
    · obtain ⟨d, hd, ea⟩ := atI_get (xs := ns.map SK.D.int) (r := (i : Int)) (by omega) (by rw [List.length_map]; exact h)
      obtain ⟨cell, _, rfl⟩ := List.mem_map.mp hd
      exact ⟨cell, (eIf_t ((eL _ rfl rfl).trans (by rw [decide_eq_true h]))).trans (e2s_ok (eVar_ok rfl) (eVar_ok rfl) ea)⟩
    · exact ⟨0, (eIf_f ((eL _ rfl rfl).trans (by rw [decide_eq_false h]))).trans eC_ok⟩
  obtain ⟨cell, ec⟩ := ec
  have eA : ∀ env : En, env[2]? = some (.val (.int cell)) → SK.eA (aCons (eVar 2) (aNil)) gAbs env st = .ok (.int (if cell < 0 then -cell else cell)) st := fun env h2 => eA_ok (aCons_ok (eVar_ok h2) aNil_ok) rfl
  have h0a : 0 ≤ (if cell < 0 then -cell else cell) := by split <;> omega
  have ed : ∃ a : Int, 0 ≤ a ∧ eIf (eTest (e2 (SK.eA (aCons (eVar 2) (aNil)) gAbs) (e2 (eC (.int 10)) (eC (.int 18)) gPow) gGe)) (SK.eA (aCons (eVar 2) (aNil)) gAbs) (eC (.int 0)) [.val (.scr (ns.map .int)), .val (.int i), .val (.int cell), .no] st = .ok (.int a) st := by
    have et := eTest_ok (e2_ok (eA [.val (.scr (ns.map .int)), .val (.int i), .val (.int cell), .no] rfl) (e2_ok (eC_ok (d := .int 10) (st := st)) (eC_ok (d := .int 18)) (pow_ok (by decide) (by decide) (by decide))) (show gGe _ _ = some (.bl _) from rfl))
    obtain ⟨bb, et⟩ : ∃ bb, _ = Out.ok bb st := ⟨_, et⟩
    cases bb with
    | true => exact ⟨_, h0a, (eIf_t et).trans (eA _ rfl)⟩
    | false => exact ⟨0, Int.le_refl 0, (eIf_f et).trans eC_ok⟩
  obtain ⟨a, ha, ed⟩ := ed
  refine ⟨a, (cell % 2305843009213693951 + 4099 * (i : Int) + 57) * 6700417 % 2305843009213693951, ?_, ha, Int.emod_nonneg _ (by decide), Int.emod_lt_of_pos _ (by decide)⟩
  unfold F_law_bag b_law_bag
  refine run_rt ((seq_nx (sSet_ok ec)).trans ((seq_nx (sSet_ok ed)).trans (sRet_ok (eAR_ok (aCons_ok (eVar_ok rfl) (aCons_ok (e2_ok (e2_ok (e2_ok (e2_ok (e2_ok (eVar_ok rfl) eC_ok (mod_ok (by decide))) (e2_ok eC_ok (eVar_ok rfl) (mul_ok (.inl (by decide)))) (add_ok _ _)) eC_ok (add_ok _ _)) eC_ok (mul_ok (.inr (by decide)))) eC_ok (mod_ok (by decide))) (aCons_ok eC_ok aNil_ok))) rfl))))
end K83P
end
section
set_option Elab.async false
set_option linter.all false
set_option autoImplicit false
set_option maxRecDepth 100000
set_option maxHeartbeats 4000000
namespace K83P
open PySem PySem.Spec PyProof.Rows L2 SK K83
theorem p20 {env : En} {st : List MO} : e2 (eC (.int 10)) (eC (.int 20)) gPow env st = .ok (.int 100000000000000000000) st := e2_ok eC_ok eC_ok (by rw [pow_ok (by decide) (by decide) (by decide)]; rfl)
def cT (ad : Ad) (m : M SK.D) : M SK.D := eFrz (eCall (aCons (eVar 0) (aCons m (aNil))) (F_law_take ad))
theorem cT_ok (ad : Ad) {n k : Nat} {st : List MO} {env : En} {f : M SK.D} {m : Int} (h : Bag n k st) (hk : k < 1000000000) (h0 : env[0]? = some (.val (.ref n))) (hf : f env st = .ok (.int m) st) (hm : 0 < m) (hm2 : m ≤ 10 ^ 20) :
    ∃ r st', cT ad f env st = .ok (.int r) st' ∧ 0 ≤ r ∧ r < m ∧ Bag n (k + 1) st' ∧ st'.length = st.length := by
  obtain ⟨r, st', e, q⟩ := F_take ad h hk hm hm2
  exact ⟨r, st', eFrz_ok (eCall_ok (aCons_ok (eVar_ok h0) (aCons_ok hf aNil_ok)) e), q⟩
def Big (d : SK.D) : Prop := ∃ i : Int, d = .int i ∧ i.natAbs < 10 ^ 20
theorem F_iof (ad : Ad) {n k : Nat} {st : List MO} (h : Bag n k st) (hk : k < 100000000) : ∃ d st', F_law_integer_of ad [.ref n, .int 40] st = .ok (.v d) st' ∧ Big d ∧ Bag n (k + 4) st' ∧ st'.length = st.length := by
  obtain ⟨r1, st1, e1, h1a, h1b, b1, s1⟩ := cT_ok ad (env := [.val (.ref n), .val (.int 40), .no]) (f := e2 (eC (.int 10)) (eC (.int 20)) gPow) h (by omega) rfl p20 (by decide) (by decide)
  obtain ⟨r2, st2, e2', h2a, h2b, b2, s2⟩ := cT_ok ad (env := [.val (.ref n), .val (.int 40), .no]) (f := eVar 1) b1 (by omega) rfl (eVar_ok rfl) (by decide) (by decide)
  let l1 : List SK.D := [.int 0, .int 1, .int 7, .int 10, .int (100000000000000000000 - 1), .int (1 - 100000000000000000000), .int (-1), .int r1, .int (0 - r2)]
  obtain ⟨r3, st3, e3, h3a, h3b, b3, s3⟩ := cT_ok ad (env := [.val (.ref n), .val (.int 40), .val (.lst l1)]) (f := eVar 1) b2 (by omega) rfl (eVar_ok rfl) (by decide) (by decide)
  obtain ⟨d, hd, st4, e4, b4, s4⟩ := F_of ad (xs := l1 ++ [.int r3, .int r3, .int r3, .int r3, .int r3]) b3 (by omega) (by simp [l1]) (by simp [l1])
  refine ⟨d, st4, ?_, ?_, b4.mono (by omega), by omega⟩
  · unfold F_law_integer_of b_law_integer_of
    refine run_rt ((seq_nx (sSet_ok (d := .lst l1) (st1 := st2) (eA_ok (aCons_ok eC_ok (aCons_ok eC_ok (aCons_ok eC_ok (aCons_ok eC_ok (aCons_ok (e2_ok p20 eC_ok (sub_ok _ _)) (aCons_ok (e2_ok eC_ok p20 (sub_ok _ _)) (aCons_ok (e1_ok eC_ok rfl) (aCons_ok e1 (aCons_ok (e2_ok eC_ok e2' (sub_ok _ _)) aNil_ok))))))))) rfl))).trans (sRet_ok (eCall_ok (aCons_ok (eVar_ok rfl) (aCons_ok (e2_ok (eVar_ok rfl) (e2_ok (eA_ok (aCons_ok e3 aNil_ok) rfl) eC_ok rfl) (gAdd_lst (by simp [l1]; decide))) aNil_ok)) e4)))
  · simp only [l1, List.cons_append, List.nil_append, List.mem_cons, List.not_mem_nil, or_false] at hd
    rcases hd with rfl | rfl | rfl | rfl | rfl | rfl | rfl | rfl | rfl | rfl | rfl | rfl | rfl | rfl <;> exact ⟨_, rfl, by omega⟩
def words6 : List (List Nat) := [w_change, w_lookup, w_read, w_put, w_take, w_lay]
inductive Good : List SK.D → Prop
  | change (a : Int) (f : List Nat) (d : Int) : 0 ≤ a → a < 10 ^ 20 → f ∈ [[120], [121], [122]] → 0 ≤ d → d < 4 → Good [.str (T w_change), .int a, .str (T f), .int d]
  | put (a i e : Int) : 0 ≤ a → a < 10 ^ 20 → i.natAbs < 10 ^ 20 → 0 ≤ e → e < 10 ^ 20 → Good [.str (T w_put), .int a, .int i, .int e]
  | read0 (a : Int) : 0 ≤ a → a < 10 ^ 20 → Good [.str (T w_read), .int a, .non]
  | read1 (a i : Int) : 0 ≤ a → a < 10 ^ 20 → i.natAbs < 10 ^ 20 → Good [.str (T w_read), .int a, .int i]
  | lay : Good [.str (T w_lay)]
  | two0 (w : List Nat) (a : Int) : w ∈ [w_lookup, w_take] → 0 ≤ a → a < 10 ^ 20 → Good [.str (T w), .int a, .non]
  | two1 (w : List Nat) (a e : Int) : w ∈ [w_lookup, w_take] → 0 ≤ a → a < 10 ^ 20 → 0 ≤ e → e < 10 ^ 20 → Good [.str (T w), .int a, .int e]
theorem sPar_ok {i j : Nat} {fs : M (List SK.D)} {env : En} {st st1 : List MO} {d d' : SK.D} (h : fs env st = .ok [d, d'] st1) : sPar i j fs env st = .nx ((env.set i (.val d)).set j (.val d')) st1 := by unfold sPar; rw [h, bindS_ok]
def cO (ad : Ad) (m : M SK.D) : M SK.D := eFrz (eCall (aCons (eVar 0) (aCons m (aNil))) (F_law_of ad))
theorem cO_ok (ad : Ad) {n k : Nat} {st st0 : List MO} {env : En} {f : M SK.D} {xs : List SK.D} (h : Bag n k st) (hk : k < 1000000000) (h0 : env[0]? = some (.val (.ref n))) (hf : f env st0 = .ok (.lst xs) st) (hx : xs ≠ []) (hl : xs.length ≤ 1000000) :
    ∃ d ∈ xs, ∃ st', cO ad f env st0 = .ok d st' ∧ Bag n (k + 1) st' ∧ st'.length = st.length := by
  obtain ⟨d, hd, st', e, q⟩ := F_of ad h hk hx hl
  exact ⟨d, hd, st', eFrz_ok (eCall_ok (aCons_ok (eVar_ok h0) (aCons_ok hf aNil_ok)) e), q⟩
theorem F_rr (ad : Ad) {n k : Nat} {st : List MO} (h : Bag n k st) (hk : k < 10000000) : ∃ xs st', F_law_record_row ad [.ref n] st = .ok (.v (.tup xs)) st' ∧ Good xs ∧ Bag n (k + 20) st' ∧ st'.length = st.length := by
  obtain ⟨r0, st0, e0, h0a, h0b, b0, s0⟩ := cT_ok ad (env := [.val (.ref n), .no, .no, .no]) (f := eC (.int 3)) h (by omega) rfl eC_ok (by decide) (by decide)
  obtain ⟨m, hm, em⟩ := atI_get (xs := [SK.D.int 4, .int 20, .int 100000000000000000000]) h0a (by simpa using h0b)
  have hm' : ∃ m' : Int, m = .int m' ∧ 0 < m' ∧ m' ≤ 10 ^ 20 := by
    simp only [List.mem_cons, List.not_mem_nil, or_false] at hm
    rcases hm with rfl | rfl | rfl <;> exact ⟨_, rfl, by decide, by decide⟩
  obtain ⟨m', rfl, hm0, hm1⟩ := hm'
  have em' : e2s (eA (aCons (eC (.int 4)) (aCons (eC (.int 20)) (aCons (e2 (eC (.int 10)) (eC (.int 20)) gPow) (aNil)))) SK.gLst) (cT ad (eC (.int 3))) gIxS [.val (.ref n), .no, .no, .no] st = .ok (.int m') st0 := e2s_ok (eA_ok (aCons_ok eC_ok (aCons_ok eC_ok (aCons_ok p20 aNil_ok))) rfl) e0 em
  obtain ⟨a, st1, e1, h1a, h1b, b1, s1⟩ := F_take ad b0 (by omega) hm0 hm1
  have e1' : cT ad (e2s (eA (aCons (eC (.int 4)) (aCons (eC (.int 20)) (aCons (e2 (eC (.int 10)) (eC (.int 20)) gPow) (aNil)))) SK.gLst) (cT ad (eC (.int 3))) gIxS) [.val (.ref n), .no, .no, .no] st = .ok (.int a) st1 := eFrz_ok (eCall_ok (aCons_ok (eVar_ok rfl) (aCons_ok em' aNil_ok)) e1)
  obtain ⟨p, hp, st2, e2', b2, s2⟩ := cO_ok ad (env := [.val (.ref n), .no, .no, .no]) (f := eA (aCons (eC .non) (aCons (eC (.int 0)) (aCons (eC (.int 1)) (aCons (e2 (e2 (eC (.int 10)) (eC (.int 20)) gPow) (eC (.int 1)) gSub) (aCons (eC (.int 12)) (aNil)))))) SK.gLst) (xs := [.non, .int 0, .int 1, .int (100000000000000000000 - 1), .int 12]) b1 (by omega) rfl (eA_ok (aCons_ok eC_ok (aCons_ok eC_ok (aCons_ok eC_ok (aCons_ok (e2_ok p20 eC_ok (sub_ok _ _)) (aCons_ok eC_ok aNil_ok))))) rfl) (by simp) (by simp)
  have hp' : p = .non ∨ ∃ e : Int, p = .int e ∧ 0 ≤ e ∧ e < 10 ^ 20 := by
    simp only [List.mem_cons, List.not_mem_nil, or_false] at hp
    rcases hp with rfl | rfl | rfl | rfl | rfl
    · exact .inl rfl
    all_goals exact .inr ⟨_, rfl, by decide, by decide⟩
  obtain ⟨w, hw, st3, e3, b3, s3⟩ := cO_ok ad (env := [.val (.ref n), .val (.int a), .val p, .no]) (f := eA (aCons (eC (.str "change")) (aCons (eC (.str "lookup")) (aCons (eC (.str "read")) (aCons (eC (.str "put")) (aCons (eC (.str "take")) (aCons (eC (.str "lay")) (aNil))))))) SK.gLst) (xs := words6.map fun w => .str (T w)) b2 (by omega) rfl (eA_ok (aCons_ok eC_ok (aCons_ok eC_ok (aCons_ok eC_ok (aCons_ok eC_ok (aCons_ok eC_ok (aCons_ok eC_ok aNil_ok)))))) (by rw [s_change, s_lookup, s_read, s_put, s_take, s_lay]; rfl)) (by decide) (by decide)
  obtain ⟨w, hw6, rfl⟩ := List.mem_map.mp hw
  have hwA : Asc w := by
    have : ∀ w ∈ words6, ∀ c ∈ w, c < 128 := by decide
    exact this w hw6
  have q1 : ∀ (st : List MO) (env : En), env[3]? = some (.val (.str (T w))) → eTest (e2 (eVar 3) (eC (.str "change")) gEq) env st = .ok (decide (w = w_change)) st := fun st env q => eTest_ok (e2_ok (eVar_ok q) eC_ok (by rw [s_change]; exact gEq_T hwA (by decide)))
  have q2 : ∀ (st : List MO) (env : En), env[3]? = some (.val (.str (T w))) → eTest (e2 (eVar 3) (eC (.str "put")) gEq) env st = .ok (decide (w = w_put)) st := fun st env q => eTest_ok (e2_ok (eVar_ok q) eC_ok (by rw [s_put]; exact gEq_T hwA (by decide)))
  have q3 : ∀ (st : List MO) (env : En), env[3]? = some (.val (.str (T w))) → eTest (e2 (eVar 3) (eC (.str "read")) gEq) env st = .ok (decide (w = w_read)) st := fun st env q => eTest_ok (e2_ok (eVar_ok q) eC_ok (by rw [s_read]; exact gEq_T hwA (by decide)))
  have q4 : ∀ (st : List MO) (env : En), env[3]? = some (.val (.str (T w))) → eTest (e2 (eVar 3) (eC (.str "lay")) gEq) env st = .ok (decide (w = w_lay)) st := fun st env q => eTest_ok (e2_ok (eVar_ok q) eC_ok (by rw [s_lay]; exact gEq_T hwA (by decide)))
  unfold F_law_record_row b_law_record_row
  have pre := fun (b : S) => (seq_nx (b := b) (sPar_ok (i := 1) (j := 2) (aCons_ok (env := [.val (.ref n), .no, .no, .no]) e1' (aCons_ok e2' aNil_ok))))
  have ha2 : a < 10 ^ 20 := by omega
  have sub6 : w = w_change ∨ w = w_lookup ∨ w = w_read ∨ w = w_put ∨ w = w_take ∨ w = w_lay := by
    simpa [words6] using hw6
  by_cases c1 : w = w_change
  · subst c1
    obtain ⟨f, hf, st4, e4, b4, s4⟩ := cO_ok ad (env := [.val (.ref n), .val (.int a), .val p, .val (.str (T w_change))]) (f := eA (aCons (eC (.str "x")) (aCons (eC (.str "y")) (aCons (eC (.str "z")) (aNil)))) SK.gLst) (xs := [[120], [121], [122]].map fun w => .str (T w)) b3 (by omega) rfl (eA_ok (aCons_ok eC_ok (aCons_ok eC_ok (aCons_ok eC_ok aNil_ok))) (by rw [s_x, s_y, s_z]; rfl)) (by decide) (by decide)
    obtain ⟨f, hf3, rfl⟩ := List.mem_map.mp hf
    obtain ⟨d, st5, e5, h5a, h5b, b5, s5⟩ := cT_ok ad (env := [.val (.ref n), .val (.int a), .val p, .val (.str (T w_change))]) (f := eC (.int 4)) b4 (by omega) rfl eC_ok (by decide) (by decide)
    refine ⟨_, st5, run_rt ((pre _).trans ((seq_nx (sSet_ok e3)).trans (seq_rt ((sIf_t ((q1 _ _ rfl).trans (by rw [decide_eq_true rfl]))).trans (sRet_ok (eRet_ok (eA_ok (aCons_ok (eVar_ok rfl) (aCons_ok (eVar_ok rfl) (aCons_ok e4 (aCons_ok e5 aNil_ok)))) rfl))))))), .change a f d h1a ha2 hf3 h5a h5b, b5.mono (by omega), by omega⟩
  · have r1 := fun st => (q1 st [.val (.ref n), .val (.int a), .val p, .val (.str (T w))] rfl).trans (by rw [decide_eq_false c1])
    by_cases c2 : w = w_put
    · subst c2
      obtain ⟨i, st4, e4, ⟨i', rfl, hi⟩, b4, s4⟩ := F_iof ad b3 (by omega)
      obtain ⟨d, st5, e5, h5a, h5b, b5, s5⟩ := cT_ok ad (env := [.val (.ref n), .val (.int a), .val p, .val (.str (T w_put))]) (f := e2 (eC (.int 10)) (eC (.int 20)) gPow) b4 (by omega) rfl p20 (by decide) (by decide)
      refine ⟨_, st5, run_rt ((pre _).trans ((seq_nx (sSet_ok e3)).trans ((seq_nx ((sIf_f (r1 _)).trans sNil_ok)).trans (seq_rt ((sIf_t ((q2 _ _ rfl).trans (by rw [decide_eq_true rfl]))).trans (sRet_ok (eRet_ok (eA_ok (aCons_ok (eVar_ok rfl) (aCons_ok (eVar_ok rfl) (aCons_ok (eFrz_ok (eCall_ok (aCons_ok (eVar_ok rfl) (aCons_ok eC_ok aNil_ok)) e4)) (aCons_ok e5 aNil_ok)))) rfl)))))))), .put a i' d h1a ha2 hi h5a h5b, b5.mono (by omega), by omega⟩
    · have r2 := fun st => (q2 st [.val (.ref n), .val (.int a), .val p, .val (.str (T w))] rfl).trans (by rw [decide_eq_false c2])
      by_cases c3 : w = w_read
      · subst c3
        obtain ⟨i, st4, e4, ⟨i', rfl, hi⟩, b4, s4⟩ := F_iof ad b3 (by omega)
        obtain ⟨d, hd, st5, e5, b5, s5⟩ := cO_ok ad (env := [.val (.ref n), .val (.int a), .val p, .val (.str (T w_read))]) (f := eA (aCons (eC .non) (aCons (eFrz (eCall (aCons (eVar 0) (aCons (eC (.int 40)) (aNil))) (F_law_integer_of ad))) (aNil))) SK.gLst) (xs := [.non, .int i']) b4 (by omega) rfl (eA_ok (aCons_ok eC_ok (aCons_ok (eFrz_ok (eCall_ok (aCons_ok (eVar_ok rfl) (aCons_ok eC_ok aNil_ok)) e4)) aNil_ok)) rfl) (by simp) (by simp)
        refine ⟨_, st5, run_rt ((pre _).trans ((seq_nx (sSet_ok e3)).trans ((seq_nx ((sIf_f (r1 _)).trans sNil_ok)).trans ((seq_nx ((sIf_f (r2 _)).trans sNil_ok)).trans (seq_rt ((sIf_t ((q3 _ _ rfl).trans (by rw [decide_eq_true rfl]))).trans (sRet_ok (eRet_ok (eA_ok (aCons_ok (eVar_ok rfl) (aCons_ok (eVar_ok rfl) (aCons_ok e5 aNil_ok))) rfl))))))))), ?_, b5.mono (by omega), by omega⟩
        simp only [List.mem_cons, List.not_mem_nil, or_false] at hd
        rcases hd with rfl | rfl
        · exact .read0 a h1a ha2
        · exact .read1 a i' h1a ha2 hi
      · have r3 := fun st => (q3 st [.val (.ref n), .val (.int a), .val p, .val (.str (T w))] rfl).trans (by rw [decide_eq_false c3])
        by_cases c4 : w = w_lay
        · subst c4
          refine ⟨_, st3, run_rt ((pre _).trans ((seq_nx (sSet_ok e3)).trans ((seq_nx ((sIf_f (r1 _)).trans sNil_ok)).trans ((seq_nx ((sIf_f (r2 _)).trans sNil_ok)).trans ((seq_nx ((sIf_f (r3 _)).trans sNil_ok)).trans (sRet_ok (eRet_ok ((eIf_t ((q4 _ _ rfl).trans (by rw [decide_eq_true rfl]))).trans (eA_ok (aCons_ok eC_ok aNil_ok) rfl))))))))), ?_, b3.mono (by omega), by omega⟩
          rw [s_lay]; exact .lay
        · refine ⟨_, st3, run_rt ((pre _).trans ((seq_nx (sSet_ok e3)).trans ((seq_nx ((sIf_f (r1 _)).trans sNil_ok)).trans ((seq_nx ((sIf_f (r2 _)).trans sNil_ok)).trans ((seq_nx ((sIf_f (r3 _)).trans sNil_ok)).trans (sRet_ok (eRet_ok ((eIf_f ((q4 _ _ rfl).trans (by rw [decide_eq_false c4]))).trans (eA_ok (aCons_ok (eVar_ok rfl) (aCons_ok (eVar_ok rfl) (aCons_ok (eVar_ok rfl) aNil_ok))) rfl))))))))), ?_, b3.mono (by omega), by omega⟩
          have hw2 : w ∈ [w_lookup, w_take] := by
            rcases sub6 with z | z | z | z | z | z
            · exact absurd z c1
            · subst z; decide
            · exact absurd z c3
            · exact absurd z c2
            · subst z; decide
            · exact absurd z c4
          rcases hp' with rfl | ⟨e, rfl, he0, he1⟩
          · exact .two0 w a hw2 h1a ha2
          · exact .two1 w a e hw2 h1a ha2 he0 he1
end K83P
end
section
set_option Elab.async false
set_option linter.all false
set_option autoImplicit false
set_option maxRecDepth 100000
set_option maxHeartbeats 4000000
namespace K83P
open PySem PySem.Spec PyProof.Rows L2 SK K83
def pt : SK.D → List Nat
  | .non => nonW
  | .int i => intL i
  | .str x => x.cps.toList
  | _ => []
def lineOf (xs : List SK.D) : List Nat := TL.joinL [32] (xs.map pt)
def txtOf (rows : List (List SK.D)) : List Nat := TL.joinL [10] (rows.map lineOf)
theorem joinL_facts (c n : Nat) : ∀ ls : List (List Nat), (∀ p ∈ ls, p.length ≤ n) → (∀ x ∈ TL.joinL [c] ls, x = c ∨ ∃ p ∈ ls, x ∈ p) ∧ (TL.joinL [c] ls).length ≤ ls.length * (n + 1)
  | [], _ => ⟨fun x hx => by simp [TL.joinL] at hx, by simp [TL.joinL]⟩
  | [p], h => ⟨fun x hx => .inr ⟨p, List.mem_singleton_self p, by simpa [TL.joinL] using hx⟩, by
    have := h p (List.mem_singleton_self p)
    simp [TL.joinL]; omega⟩
  | p :: q :: r, h => by
    have e : TL.joinL [c] (p :: q :: r) = p ++ ([c] ++ TL.joinL [c] (q :: r)) := by simp [TL.joinL]
    obtain ⟨h1, h2⟩ := joinL_facts c n (q :: r) fun x hx => h x (List.mem_cons_of_mem _ hx)
    have hp := h p (List.mem_cons_self ..)
    rw [e]
    refine ⟨fun x hx => ?_, ?_⟩
    · rcases List.mem_append.mp hx with z | z
      · exact .inr ⟨p, List.mem_cons_self .., z⟩
      · rcases List.mem_append.mp z with z | z
        · exact .inl (List.mem_singleton.mp z)
        · rcases h1 x z with z | ⟨y, hy, z⟩
          · exact .inl z
          · exact .inr ⟨y, List.mem_cons_of_mem _ hy, z⟩
    · rw [List.length_append, List.length_append, List.length_singleton, List.length_cons (a := p)]
      have : ((q :: r).length + 1) * (n + 1) = (q :: r).length * (n + 1) + (n + 1) := by rw [Nat.add_mul, Nat.one_mul]
      omega
structure Pt (l : List Nat) : Prop where
  ch : ∀ c ∈ l, c < 128 ∧ c ≠ 32 ∧ c ≠ 10
  len : l.length ≤ 21
theorem intL_ch (i : Int) : ∀ c ∈ intL i, c = 45 ∨ (48 ≤ c ∧ c ≤ 57) := by
  unfold intL
  split
  · intro c hc
    rcases List.mem_cons.mp hc with rfl | hc
    · exact .inl rfl
    · exact .inr (TL.numL_digits _ c hc)
  · exact fun c hc => .inr (TL.numL_digits _ c hc)
theorem words9_pt : ∀ w ∈ words9, (∀ c ∈ w, c < 128 ∧ c ≠ 32 ∧ c ≠ 10) ∧ w.length ≤ 21 := by decide
theorem pt_ok {d : SK.D} (h : Flat d) : Pt (pt d) := by
  rcases h with rfl | ⟨i, rfl, hi⟩ | ⟨w, rfl, h⟩
  · exact ⟨by decide, by decide⟩
  · exact ⟨fun c hc => by have := intL_ch i c hc; omega, intL_len hi⟩
  · exact ⟨(words9_pt w h).1, (words9_pt w h).2⟩
theorem pts_ok {xs : List SK.D} (h : ∀ d ∈ xs, Flat d) : ∀ p ∈ xs.map pt, Pt p := fun p hp => by
  obtain ⟨d, hd, rfl⟩ := List.mem_map.mp hp
  exact pt_ok (h d hd)
structure Ln (l : List Nat) : Prop where
  ch : ∀ c ∈ l, c < 128 ∧ c ≠ 10
  len : l.length ≤ 88
theorem line_ok {xs : List SK.D} (h : Row xs) : Ln (lineOf xs) := by
  have hp := pts_ok h.fl
  obtain ⟨h1, h2⟩ := joinL_facts 32 21 (xs.map pt) fun p hpm => (hp p hpm).len
  refine ⟨fun c hc => ?_, ?_⟩
  · rcases h1 c hc with rfl | ⟨p, hpm, z⟩
    · decide
    · have := (hp p hpm).ch c z; exact ⟨this.1, this.2.2⟩
  · unfold lineOf
    rw [List.length_map] at h2
    have := h.len
    omega
theorem txt_lin {rows : List (List SK.D)} (h : ∀ r ∈ rows, Row r) (hl : rows.length ≤ 12) : Lin (txtOf rows) 1100 := by
  have hp : ∀ p ∈ rows.map lineOf, Ln p := fun p hp => by
    obtain ⟨r, hr, rfl⟩ := List.mem_map.mp hp
    exact line_ok (h r hr)
  obtain ⟨h1, h2⟩ := joinL_facts 10 88 (rows.map lineOf) fun p hpm => (hp p hpm).len
  refine ⟨fun c hc => ?_, ?_⟩
  · rcases h1 c hc with rfl | ⟨p, hpm, z⟩
    · decide
    · exact ((hp p hpm).ch c z).1
  · unfold txtOf
    rw [List.length_map] at h2
    omega
theorem joinL_ne {c : Nat} {p : List Nat} {r : List (List Nat)} (h : p ≠ []) : TL.joinL [c] (p :: r) ≠ [] := by
  cases p with
  | nil => exact absurd rfl h
  | cons x q => cases r <;> simp [TL.joinL]
/-! numbers read back -/
theorem numL_head {n : Nat} (h : 0 < n) : ∃ c r, TL.numL n = c :: r ∧ c ≠ 48 := by
  induction n using Nat.strongRecOn with
  | _ n ih =>
    by_cases h10 : n < 10
    · exact ⟨48 + n, [], TL.numL_lt h10, by omega⟩
    · rw [TL.numL_step (by omega)]
      obtain ⟨c, r, e, hc⟩ := ih (n / 10) (by omega) (by omega)
      exact ⟨c, r ++ [48 + n % 10], by rw [e]; rfl, hc⟩
theorem okD_num {n : Nat} (h : n < 10 ^ 20) : okD (TL.numL n) = true := by
  unfold okD
  rw [Bool.and_eq_true, decide_eq_true_eq]
  refine ⟨⟨List.length_pos_iff.mpr (TL.numL_ne n), TL.numL_len (by decide) h⟩, List.all_eq_true.mpr fun c hc => isD_iff.mpr (TL.numL_digits n c hc)⟩
theorem badD_num {n : Nat} (b : Bool) (h : 0 < n ∨ b = false) : badD (TL.numL n) b = false := by
  unfold badD
  by_cases hn : 0 < n
  · obtain ⟨c, r, e, hc⟩ := numL_head hn
    rw [e]
    simp [hc]
  · have h0 : n = 0 := by omega
    subst h0
    rw [h.resolve_left hn, TL.numL_lt (by decide)]
    decide
theorem num_back {i : Int} {sg : Bool} (h : i.natAbs < 10 ^ 20) (hs : 0 ≤ i ∨ sg = true) : numP (intL i) sg = some i := by
  have hlen := TL.numL_len (n := i.natAbs) (k := 20) (by decide) h
  unfold numP
  by_cases h0 : 0 ≤ i
  · have e : intL i = TL.numL i.natAbs := by unfold intL; rw [if_neg (by omega)]
    have hw : wordD (TL.numL i.natAbs) sg = TL.numL i.natAbs := by
      unfold wordD
      rw [if_neg]
      intro z
      rw [Bool.and_eq_true, decide_eq_true_eq] at z
      cases q : TL.numL i.natAbs with
      | nil => exact TL.numL_ne _ q
      | cons c r =>
        rw [q] at z
        have := TL.numL_digits i.natAbs c (by rw [q]; exact List.mem_cons_self ..)
        simp at z
        omega
    rw [e, hw, okD_num h, badD_num _ (.inr (by simp)), if_pos (by decide)]
    have := TL.int_num (n := i.natAbs) (by omega)
    rw [SX.num_S] at this
    rw [show T (TL.numL i.natAbs) = SX.S (TL.numL i.natAbs) from rfl, this]
    congr 1; omega
  · have hs' := hs.resolve_left h0
    subst hs'
    have e : intL i = 45 :: TL.numL i.natAbs := by unfold intL; rw [if_pos (by omega)]
    have hw : wordD (45 :: TL.numL i.natAbs) true = TL.numL i.natAbs := by unfold wordD; simp
    rw [e, hw, okD_num h, badD_num _ (.inl (by omega)), if_pos (by decide)]
    rw [intText_neg (x := T (45 :: TL.numL i.natAbs)) (cs := TL.numL i.natAbs) (cps_T _) (TL.numL_digits _) (TL.numL_ne _) (by rw [T_len, List.length_cons]; omega), TL.numL_val]
    congr 1; omega
theorem intL_ne (i : Int) : intL i ≠ nonW := fun z => by
  have := intL_ch i 110 (by rw [z]; decide)
  omega
theorem part_int {i : Int} {f : Nat} (hf : f ∈ [111, 100, 97, 105, 119]) (h : 0 ≤ i ∨ f = 105 ∨ f = 119) (hd : f = 100 → i < 4) (hb : i.natAbs < 10 ^ 20) : partP (intL i) f = some (.int i) := by
  unfold partP
  rw [if_neg (fun z => intL_ne i z.2)]
  have h102 : f ≠ 102 := by simp at hf; omega
  rw [if_neg h102, num_back hb (by
    rcases h with z | z
    · exact .inl z
    · exact .inr (decide_eq_true z))]
  dsimp only
  rw [if_neg]
  intro z
  have := hd z.1
  omega
theorem part_non {f : Nat} (h : f = 97 ∨ f = 119) : partP nonW f = some .non := by unfold partP; rw [if_pos ⟨h, rfl⟩]
theorem part_f {w : List Nat} (h : w ∈ [[120], [121], [122]]) : partP w 102 = some (.str (T w)) := by unfold partP; rw [if_neg (fun z => absurd z.1 (by decide)), if_pos rfl, if_pos h]
theorem Good.row {xs : List SK.D} (h : Good xs) : Row xs := by
  have fz : ∀ w ∈ [[120], [121], [122]], Flat (.str (T w)) := fun w hw => .inr (.inr ⟨w, rfl, by simp at hw; rcases hw with rfl | rfl | rfl <;> decide⟩)
  have f2 : ∀ w ∈ [w_lookup, w_take], Flat (.str (T w)) := fun w hw => .inr (.inr ⟨w, rfl, by simp at hw; rcases hw with rfl | rfl <;> decide⟩)
  have fi : ∀ i : Int, i.natAbs < 10 ^ 20 → Flat (.int i) := fun i hi => .inr (.inl ⟨i, rfl, hi⟩)
  have fw : ∀ w, w ∈ words9 → Flat (.str (T w)) := fun w hw => .inr (.inr ⟨w, rfl, hw⟩)
  cases h with
  | change a f d h1 h2 h3 h4 h5 =>
    exact ⟨fun x hx => by simp only [List.mem_cons, List.not_mem_nil, or_false] at hx; rcases hx with rfl | rfl | rfl | rfl <;> first | exact fw _ (by decide) | exact fz _ h3 | exact fi _ (by omega), by simp⟩
  | put a i e h1 h2 h3 h4 h5 =>
    exact ⟨fun x hx => by simp only [List.mem_cons, List.not_mem_nil, or_false] at hx; rcases hx with rfl | rfl | rfl | rfl <;> first | exact fw _ (by decide) | exact fi _ (by omega), by simp⟩
  | read0 a h1 h2 =>
    exact ⟨fun x hx => by simp only [List.mem_cons, List.not_mem_nil, or_false] at hx; rcases hx with rfl | rfl | rfl <;> first | exact fw _ (by decide) | exact fi _ (by omega) | exact .inl rfl, by simp⟩
  | read1 a i h1 h2 h3 =>
    exact ⟨fun x hx => by simp only [List.mem_cons, List.not_mem_nil, or_false] at hx; rcases hx with rfl | rfl | rfl <;> first | exact fw _ (by decide) | exact fi _ (by omega), by simp⟩
  | lay => exact ⟨fun x hx => by simp only [List.mem_cons, List.not_mem_nil, or_false] at hx; subst hx; exact fw _ (by decide), by simp⟩
  | two0 w a hw h1 h2 =>
    exact ⟨fun x hx => by simp only [List.mem_cons, List.not_mem_nil, or_false] at hx; rcases hx with rfl | rfl | rfl <;> first | exact f2 _ hw | exact fi _ (by omega) | exact .inl rfl, by simp⟩
  | two1 w a e hw h1 h2 h3 h4 =>
    exact ⟨fun x hx => by simp only [List.mem_cons, List.not_mem_nil, or_false] at hx; rcases hx with rfl | rfl | rfl <;> first | exact f2 _ hw | exact fi _ (by omega), by simp⟩
theorem rowP_of {xs ps : List SK.D} {first fs : List Nat} (hx : xs = .str (T first) :: ps) (h : Row xs) (hk : formsK.lookup first = some fs) (hl : ps.length = fs.length) (hz : List.zipWith partP (ps.map pt) fs = ps.map some) : rowP (lineOf xs) = some xs := by
  unfold rowP lineOf
  have hp := pts_ok h.fl
  rw [TL.spl_join (by rw [hx]; simp) (fun p hpm hc => ((hp p hpm).ch 32 hc).2.1 rfl)]
  subst hx
  rw [List.map_cons]
  dsimp only
  rw [show pt (.str (T first)) = first from rfl, hk]
  dsimp only
  rw [if_pos (by rw [List.length_map]; exact hl), hz, if_pos (List.all_eq_true.mpr fun o ho => by obtain ⟨d, _, rfl⟩ := List.mem_map.mp ho; rfl)]
  congr 2
  rw [List.filterMap_map]
  exact List.filterMap_some
theorem good_back {xs : List SK.D} (g : Good xs) : rowP (lineOf xs) = some xs := by
  have h := g.row
  cases g with
  | change a f d h1 h2 h3 h4 h5 =>
    refine rowP_of (fs := [111, 102, 100]) rfl h (by decide) rfl ?_
    simp only [List.map_cons, List.map_nil, List.zipWith_cons_cons, List.zipWith_nil_left]
    rw [show pt (.int a) = intL a from rfl, show pt (.int d) = intL d from rfl, show pt (.str (T f)) = f from rfl, part_int (by decide) (.inl h1) (fun z => by omega) (by omega), part_f h3, part_int (by decide) (.inl h4) (fun _ => h5) (by omega)]
  | put a i e h1 h2 h3 h4 h5 =>
    refine rowP_of (fs := [111, 105, 111]) rfl h (by decide) rfl ?_
    simp only [List.map_cons, List.map_nil, List.zipWith_cons_cons, List.zipWith_nil_left]
    rw [show pt (.int a) = intL a from rfl, show pt (.int i) = intL i from rfl, show pt (.int e) = intL e from rfl, part_int (by decide) (.inl h1) (fun z => by omega) (by omega), part_int (by decide) (.inr (.inl rfl)) (fun z => by omega) h3, part_int (by decide) (.inl h4) (fun z => by omega) (by omega)]
  | read0 a h1 h2 =>
    refine rowP_of (fs := [111, 119]) rfl h (by decide) rfl ?_
    simp only [List.map_cons, List.map_nil, List.zipWith_cons_cons, List.zipWith_nil_left]
    rw [show pt (.int a) = intL a from rfl, show pt .non = nonW from rfl, part_int (by decide) (.inl h1) (fun z => by omega) (by omega), part_non (.inr rfl)]
  | read1 a i h1 h2 h3 =>
    refine rowP_of (fs := [111, 119]) rfl h (by decide) rfl ?_
    simp only [List.map_cons, List.map_nil, List.zipWith_cons_cons, List.zipWith_nil_left]
    rw [show pt (.int a) = intL a from rfl, show pt (.int i) = intL i from rfl, part_int (by decide) (.inl h1) (fun z => by omega) (by omega), part_int (by decide) (.inr (.inr rfl)) (fun z => by omega) h3]
  | lay => exact rowP_of (fs := []) rfl h (by decide) rfl rfl
  | two0 w a hw h1 h2 =>
    refine rowP_of (fs := [111, 97]) rfl h (by simp at hw; rcases hw with rfl | rfl <;> decide) rfl ?_
    simp only [List.map_cons, List.map_nil, List.zipWith_cons_cons, List.zipWith_nil_left]
    rw [show pt (.int a) = intL a from rfl, show pt .non = nonW from rfl, part_int (by decide) (.inl h1) (fun z => by omega) (by omega), part_non (.inl rfl)]
  | two1 w a e hw h1 h2 h3 h4 =>
    refine rowP_of (fs := [111, 97]) rfl h (by simp at hw; rcases hw with rfl | rfl <;> decide) rfl ?_
    simp only [List.map_cons, List.map_nil, List.zipWith_cons_cons, List.zipWith_nil_left]
    rw [show pt (.int a) = intL a from rfl, show pt (.int e) = intL e from rfl, part_int (by decide) (.inl h1) (fun z => by omega) (by omega), part_int (by decide) (.inl h3) (fun z => by omega) (by omega)]
theorem good_ne {xs : List SK.D} (g : Good xs) : lineOf xs ≠ [] := fun z => by
  have h := good_back g
  rw [z] at h
  have : rowP [] = none := by decide
  rw [this] at h; cases h
theorem lines_back {rows : List (List SK.D)} (h : ∀ r ∈ rows, Good r) : linesOf (txtOf rows) = rows.map lineOf := by
  unfold linesOf txtOf
  cases rows with
  | nil => rfl
  | cons r rs =>
    rw [List.map_cons, if_neg (joinL_ne (good_ne (h r (List.mem_cons_self ..))))]
    refine TL.spl_join (by simp) fun p hp hc => ?_
    rw [← List.map_cons] at hp
    obtain ⟨x, hx, rfl⟩ := List.mem_map.mp hp
    exact ((line_ok (h x hx).row).ch 10 hc).2 rfl
theorem bad_none : ∀ {rows : List (List SK.D)} (k : Nat), (∀ r ∈ rows, Good r) → badAt (rows.map lineOf) k = none
  | [], k, _ => rfl
  | r :: rs, k, h => by
    rw [List.map_cons]
    unfold badAt
    rw [good_back (h r (List.mem_cons_self ..)), if_neg (by simp)]
    exact bad_none (k + 1) fun x hx => h x (List.mem_cons_of_mem _ hx)
theorem rows_back {rows : List (List SK.D)} (h : ∀ r ∈ rows, Good r) : rowsOf (rows.map lineOf) = rows := by
  unfold rowsOf
  rw [List.map_map]
  conv => rhs; rw [← List.map_id rows]
  exact List.map_congr_left fun r hr => by show (rowP (lineOf r)).getD [] = r; rw [good_back (h r hr)]; rfl
end K83P
end
section
set_option Elab.async false
set_option linter.all false
set_option autoImplicit false
set_option maxRecDepth 100000
set_option maxHeartbeats 4000000
namespace K83P
open PySem PySem.Spec PyProof.Rows L2 SK K83
abbrev DS (ls : List (List Nat)) : List SK.D := ls.map fun p => SK.D.str (T p)
structure LsOk (c m : Nat) (ls : List (List Nat)) : Prop where
  ne : ls ≠ []
  len : ls.length ≤ c
  lin : ∀ p ∈ ls, Lin p m
theorem ixN_nat {len n : Nat} (h : n < len) : ixN len (n : Int) = some n := by
  unfold ixN
  rw [if_pos (Int.natCast_nonneg n), if_pos (by omega), Int.toNat_natCast]
theorem atI_DS {ls : List (List Nat)} {n : Nat} (h : n < ls.length) : atI (DS ls) (n : Int) = some (.str (T ls[n])) := by
  unfold atI
  rw [ixN_nat (by rw [List.length_map]; exact h)]
  show (DS ls)[n]? = _
  rw [List.getElem?_map, List.getElem?_eq_getElem h]; rfl
theorem DS_set (ls : List (List Nat)) (n : Nat) (p : List Nat) : (DS ls).set n (.str (T p)) = DS (ls.set n p) := List.map_set.symm
theorem cut_toA {α : Type} (a : List α) (k : Nat) : cutL a none (some (k : Int)) = a.take k := by
  unfold cutL
  rw [HT.sIx_nat, HT.sIx_none, List.drop_zero, Nat.sub_zero]
  by_cases h : k ≤ a.length
  · rw [Nat.min_eq_left h]
  · rw [Nat.min_eq_right (by omega), List.take_of_length_le (Nat.le_refl _), List.take_of_length_le (by omega)]
theorem gAdd_T {a b : List Nat} (h : a.length + b.length ≤ sizeLine) : gAdd (.str (T a)) (.str (T b)) = some (.str (T (a ++ b))) := by
  unfold gAdd
  dsimp only
  rw [T_len, T_len, if_pos h, show T a ++ T b = T (a ++ b) from SX.S_cat a b]
theorem LsOk.set {c m : Nat} {ls : List (List Nat)} (h : LsOk c m ls) {n : Nat} {p : List Nat} (hp : Lin p (m + 8)) : LsOk (c + 1) (m + 8) (ls.set n p) :=
  ⟨fun z => h.ne (by have := congrArg List.length z; rw [List.length_set] at this; exact List.length_eq_zero_iff.mp this), by rw [List.length_set]; have := h.len; omega, fun q hq => by
    rcases List.mem_or_eq_of_mem_set hq with z | rfl
    · exact ⟨(h.lin q z).1, Nat.le_trans (h.lin q z).2 (by omega)⟩
    · exact hp⟩
theorem LsOk.up {c m : Nat} {ls ls' : List (List Nat)} (h : LsOk c m ls) (hn : ls' ≠ []) (hl : ls'.length ≤ c + 1) (hs : ∀ p ∈ ls', p ∈ ls) : LsOk (c + 1) (m + 8) ls' :=
  ⟨hn, hl, fun q hq => ⟨(h.lin q (hs q hq)).1, Nat.le_trans (h.lin q (hs q hq)).2 (by omega)⟩⟩
def bentSigns : List (List Nat) := ([32, 48, 49, 50, 51, 52, 53, 54, 55, 56, 57, 45, 120, 121, 122, 97, 98, 107, 110].map fun c => [c]) ++ [[102, 114, 111, 122, 101, 110], [32, 102, 114, 111, 122, 101, 110], [110, 111, 110, 101]]
def bentEnds : List (List Nat) := [[32], [10], [32, 48], [32, 102, 114, 111, 122, 101, 110], [32, 110, 111, 110, 101], [32, 32]]
theorem bentSigns_ok : ∀ s ∈ bentSigns, (∀ c ∈ s, c < 128) ∧ s.length ≤ 7 := by decide
theorem bentEnds_ok : ∀ s ∈ bentEnds, (∀ c ∈ s, c < 128) ∧ s.length ≤ 7 := by decide
theorem s_signs : Str.ofString " 0123456789-xyzabkn" = T [32, 48, 49, 50, 51, 52, 53, 54, 55, 56, 57, 45, 120, 121, 122, 97, 98, 107, 110] := by decide +kernel
theorem s_fr : Str.ofString "frozen" = T [102, 114, 111, 122, 101, 110] := by decide +kernel
theorem s_sfr : Str.ofString " frozen" = T [32, 102, 114, 111, 122, 101, 110] := by decide +kernel
theorem s_s0 : Str.ofString " 0" = T [32, 48] := by decide +kernel
theorem s_sno : Str.ofString " none" = T [32, 110, 111, 110, 101] := by decide +kernel
theorem s_ss : Str.ofString "  " = T [32, 32] := by decide +kernel
theorem listA_str {f : M SK.D} {env : En} {st st1 : List MO} {l : List Nat} (h : f env st = .ok (.str (T l)) st1) (hl : l.length ≤ 100000) : eListA f env st = .ok (.o (.lst (l.map fun c => .str (T [c])))) st1 := by
  unfold eListA; rw [h, bind_ok]; dsimp only; rw [T_len, if_pos hl]; rfl
theorem listA_lst {f : M SK.D} {env : En} {st st1 : List MO} {l : List SK.D} (h : f env st = .ok (.lst l) st1) : eListA f env st = .ok (.o (.lst l)) st1 := by unfold eListA; rw [h, bind_ok]; rfl
theorem sPar3_ok {i j l : Nat} {fs : M (List SK.D)} {env : En} {st st1 : List MO} {d d' d'' : SK.D} (h : fs env st = .ok [d, d', d''] st1) : sPar3 i j l fs env st = .nx (((env.set i (.val d)).set j (.val d')).set l (.val d'')) st1 := by unfold sPar3; rw [h, bindS_ok]
theorem sSubO_ok {i m : Nat} {fj fe : M SK.D} {env : En} {st st1 st2 : List MO} {xs : List SK.D} {v : SK.D} {k : Int} (h : env[i]? = some (.own (.lst xs))) (h1 : fe env st = .ok v st1) (h2 : fj env st1 = .ok (.int k) st2) (h3 : ixN xs.length k = some m) : sSubO i fj fe env st = .nx (env.set i (.own (.lst (xs.set m v)))) st2 := by
  unfold sSubO; rw [h]; dsimp only; rw [h1, bindS_ok, h2, bindS_ok]; dsimp only; rw [h3]
theorem setO_ok {i m : Nat} {fj : M SK.D} {env : En} {st st2 : List MO} {xs : List SK.D} {v : SK.D} {k : Int} (h : env[i]? = some (.own (.lst xs))) (h2 : fj env st = .ok (.int k) st2) (h3 : ixN xs.length k = some m) : setO i fj v env st = .nx (env.set i (.own (.lst (xs.set m v)))) st2 := by
  unfold setO; rw [h]; dsimp only; rw [h2, bindS_ok]; dsimp only; rw [h3]
theorem eIxO_ok {i : Nat} {f : M SK.D} {env : En} {st st1 : List MO} {xs : List SK.D} {k : Int} {z : SK.D} (h : env[i]? = some (.own (.lst xs))) (h1 : f env st = .ok (.int k) st1) (h2 : atI xs k = some z) : eIxO i f env st = .ok z st1 := by
  unfold eIxO; rw [h]; dsimp only; rw [h1, bind_ok]; dsimp only; rw [h2]; rfl
theorem F_bent (ad : Ad) {n k c m : Nat} {st : List MO} {ls : List (List Nat)} (h : Bag n k st) (hk : k < 1000000) (hL : LsOk c m ls) (hc : c ≤ 1000) (hm : m ≤ 10000) :
    ∃ ls' r st', F_law_bent_lines ad [.ref n, .lst (DS ls)] st = .ok r st' ∧ r.d = .lst (DS ls') ∧ LsOk (c + 1) (m + 8) ls' ∧ Bag n (k + 8) st' ∧ st'.length = st.length := by
  have hp := List.length_pos_iff.mpr hL.ne
  have hlen := hL.len
  obtain ⟨at', st1, e1, h1a, h1b, b1, s1⟩ := cT_ok ad (env := [.val (.ref n), .val (.lst (DS ls)), .no, .no, .no, .no, .no, .no, .no]) (f := e1s (eVar 1) gLen) (m := ls.length) h (by omega) rfl (e1s_ok (eVar_ok rfl) (by rw [gLen_lst, List.length_map])) (by omega) (by omega)
  obtain ⟨ot, st2, e2', h2a, h2b, b2, s2⟩ := cT_ok ad (env := [.val (.ref n), .val (.lst (DS ls)), .no, .no, .no, .no, .no, .no, .no]) (f := e1s (eVar 1) gLen) (m := ls.length) b1 (by omega) rfl (e1s_ok (eVar_ok rfl) (by rw [gLen_lst, List.length_map])) (by omega) (by omega)
  obtain ⟨way, st3, e3, h3a, h3b, b3, s3⟩ := cT_ok ad (env := [.val (.ref n), .val (.lst (DS ls)), .no, .no, .no, .no, .no, .no, .no]) (f := eC (.int 9)) b2 (by omega) rfl eC_ok (by decide) (by decide)
  obtain ⟨i, rfl⟩ := Int.eq_ofNat_of_zero_le h1a
  obtain ⟨j, rfl⟩ := Int.eq_ofNat_of_zero_le h2a
  have hi : i < ls.length := by omega
  have hj : j < ls.length := by omega
  have hli := hL.lin ls[i] (List.getElem_mem hi)
  generalize el : ls[i] = line at hli
  have hline := hli.2
  obtain ⟨spot, st4, e4, h4a, h4b, b4, s4⟩ := cT_ok ad (env := [.val (.ref n), .val (.lst (DS ls)), .val (.int i), .val (.int j), .val (.int way), .own (.lst (DS ls)), .val (.str (T line)), .no, .no]) (f := SK.e2 (e1s (eVar 6) gLen) (eC (.int 1)) gAdd) (m := line.length + 1) b3 (by omega) rfl (e2_ok (e1s_ok (eVar_ok rfl) (gLen_str (Nat.le_trans hli.2 (Nat.le_trans hm (by decide))))) eC_ok (add_ok _ _)) (by omega) (by omega)
  obtain ⟨sg, hsg, st5, e5, b5, s5⟩ := cO_ok ad (env := [.val (.ref n), .val (.lst (DS ls)), .val (.int i), .val (.int j), .val (.int way), .own (.lst (DS ls)), .val (.str (T line)), .val (.int spot), .no]) (f := SK.e2 (eFrz (eListA (eC (.str " 0123456789-xyzabkn")))) (eA (aCons (eC (.str "frozen")) (aCons (eC (.str " frozen")) (aCons (eC (.str "none")) (aNil)))) SK.gLst) gAdd) (xs := DS bentSigns) b4 (by omega) rfl (e2_ok (eFrz_ok (listA_str (by rw [s_signs]; exact eC_ok) (by decide))) (eA_ok (aCons_ok eC_ok (aCons_ok eC_ok (aCons_ok eC_ok aNil_ok))) rfl) (by rw [s_fr, s_sfr, s_none]; rfl)) (by decide) (by decide)
  obtain ⟨sign, hsg', rfl⟩ := List.mem_map.mp hsg
  obtain ⟨hsA, hsL⟩ := bentSigns_ok sign hsg'
  have start : ∀ (b : S), sSeq (sPar3 2 3 4 (aCons (eFrz (eCall (aCons (eVar 0) (aCons (e1s (eVar 1) gLen) (aNil))) (F_law_take ad))) (aCons (eFrz (eCall (aCons (eVar 0) (aCons (e1s (eVar 1) gLen) (aNil))) (F_law_take ad))) (aCons (eFrz (eCall (aCons (eVar 0) (aCons (eC (.int 9)) (aNil))) (F_law_take ad))) (aNil)))))
    (sSeq (sParO 5 6 (eListA (eVar 1)) (e2s (eVar 1) (eVar 2) gIxS))
    (sSeq (sSet 7 (eFrz (eCall (aCons (eVar 0) (aCons (SK.e2 (e1s (eVar 6) gLen) (eC (.int 1)) gAdd) (aNil))) (F_law_take ad))))
    (sSeq (sSet 8 (eFrz (eCall (aCons (eVar 0) (aCons (SK.e2 (eFrz (eListA (eC (.str " 0123456789-xyzabkn")))) (eA (aCons (eC (.str "frozen")) (aCons (eC (.str " frozen")) (aCons (eC (.str "none")) (aNil)))) SK.gLst) gAdd) (aNil))) (F_law_of ad)))) b))) [.val (.ref n), .val (.lst (DS ls)), .no, .no, .no, .no, .no, .no, .no] st = b [.val (.ref n), .val (.lst (DS ls)), .val (.int i), .val (.int j), .val (.int way), .own (.lst (DS ls)), .val (.str (T line)), .val (.int spot), .val (.str (T sign))] st5 := fun b => by
    refine (seq_nx (sPar3_ok (aCons_ok e1 (aCons_ok e2' (aCons_ok e3 aNil_ok))))).trans ((seq_nx ?_).trans ((seq_nx (sSet_ok e4)).trans (seq_nx (sSet_ok e5))))
    show sParO 5 6 (eListA (eVar 1)) (e2s (eVar 1) (eVar 2) gIxS) [.val (.ref n), .val (.lst (DS ls)), .val (.int i), .val (.int j), .val (.int way), .no, .no, .no, .no] st3 = _
    unfold sParO
    rw [listA_lst (env := [.val (.ref n), .val (.lst (DS ls)), .val (.int i), .val (.int j), .val (.int way), .no, .no, .no, .no]) (st := st3) (eVar_ok rfl), bindS_ok]
    dsimp only
    rw [e2s_ok (env := cEnv [.val (.ref n), .val (.lst (DS ls)), .val (.int i), .val (.int j), .val (.int way), .no, .no, .no, .no] []) (st := st3) (eVar_ok rfl) (eVar_ok rfl) (z := .str (T line)) (by show atI (DS ls) i = _; rw [atI_DS hi, el]), bindS_ok]
    rfl
  -- tests on the way
  have qw : ∀ (w : Int) (env : En) (st : List MO), env[4]? = some (.val (.int way)) → eTest (SK.e2 (eVar 4) (eC (.int w)) gEq) env st = .ok (way == w) st := fun w env st h4 => eTest_ok (e2_ok (eVar_ok h4) eC_ok (gEq_int _ _))
  unfold F_law_bent_lines b_law_bent_lines
  by_cases w0 : way = 0
  · have hls : LsOk (c + 1) (m + 8) ((ls.set i ls[j]).set j line) := by
      have h2 := hL.set (n := i) (p := ls[j]) ⟨(hL.lin _ (List.getElem_mem hj)).1, Nat.le_trans (hL.lin _ (List.getElem_mem hj)).2 (by omega)⟩
      refine ⟨fun z => h2.ne (by have := congrArg List.length z; rw [List.length_set] at this; exact List.length_eq_zero_iff.mp this), by rw [List.length_set]; exact h2.len, fun q hq => ?_⟩
      rcases List.mem_or_eq_of_mem_set hq with z | rfl
      · exact h2.lin q z
      · exact ⟨hli.1, by have := hli.2; omega⟩
    have hsw : sSwp 5 (eA (aCons (eIxO 5 (eVar 3)) (aCons (eIxO 5 (eVar 2)) (aNil))) SK.gTup) (eVar 2) (eVar 3) [.val (.ref n), .val (.lst (DS ls)), .val (.int i), .val (.int j), .val (.int way), .own (.lst (DS ls)), .val (.str (T line)), .val (.int spot), .val (.str (T sign))] st5 = .nx [.val (.ref n), .val (.lst (DS ls)), .val (.int i), .val (.int j), .val (.int way), .own (.lst (DS ((ls.set i ls[j]).set j line))), .val (.str (T line)), .val (.int spot), .val (.str (T sign))] st5 := by
      unfold sSwp
      rw [eA_ok (env := [.val (.ref n), .val (.lst (DS ls)), .val (.int i), .val (.int j), .val (.int way), .own (.lst (DS ls)), .val (.str (T line)), .val (.int spot), .val (.str (T sign))]) (st := st5) (aCons_ok (eIxO_ok rfl (eVar_ok rfl) (atI_DS hj)) (aCons_ok (eIxO_ok rfl (eVar_ok rfl) (atI_DS hi)) aNil_ok)) (z := .tup [.str (T ls[j]), .str (T ls[i])]) rfl, bindS_ok]
      dsimp only
      rw [setO_ok (env := [.val (.ref n), .val (.lst (DS ls)), .val (.int i), .val (.int j), .val (.int way), .own (.lst (DS ls)), .val (.str (T line)), .val (.int spot), .val (.str (T sign))]) (st := st5) rfl (eVar_ok rfl) (ixN_nat (by rw [List.length_map]; exact hi)), DS_set]
      show setO 5 (eVar 3) (.str (T ls[i])) [.val (.ref n), .val (.lst (DS ls)), .val (.int i), .val (.int j), .val (.int way), .own (.lst (DS (ls.set i ls[j]))), .val (.str (T line)), .val (.int spot), .val (.str (T sign))] st5 = _
      rw [setO_ok (env := [.val (.ref n), .val (.lst (DS ls)), .val (.int i), .val (.int j), .val (.int way), .own (.lst (DS (ls.set i ls[j]))), .val (.str (T line)), .val (.int spot), .val (.str (T sign))]) (st := st5) rfl (eVar_ok rfl) (ixN_nat (by rw [List.length_map, List.length_set]; exact hj)), DS_set, el]
      rfl
    exact ⟨_, .o (.lst (DS ((ls.set i ls[j]).set j line))), st5, run_rt ((start _).trans (seq_rt ((sIf_t ((qw 0 _ _ rfl).trans (by rw [w0]; rfl))).trans ((seq_nx hsw).trans rfl)))), rfl, hls, b5.mono (by omega), by omega⟩
  · have r0 := (qw 0 [.val (.ref n), .val (.lst (DS ls)), .val (.int i), .val (.int j), .val (.int way), .own (.lst (DS ls)), .val (.str (T line)), .val (.int spot), .val (.str (T sign))] st5 rfl).trans (by rw [beq_eq_false_iff_ne.mpr w0])
    have t1 : tAndI (eTest (SK.e2 (eVar 4) (eC (.int 1)) gEq)) (eTest (SK.e2 (eLenO 5) (eC (.int 1)) gGt)) [.val (.ref n), .val (.lst (DS ls)), .val (.int i), .val (.int j), .val (.int way), .own (.lst (DS ls)), .val (.str (T line)), .val (.int spot), .val (.str (T sign))] st5 = .ok (way == 1 && decide (1 < ls.length)) st5 := by
      refine Eq.trans (and_ok (qw 1 _ _ rfl) fun _ => eTest_ok (e2_ok (d := .int ls.length) (st1 := st5) (by show Out.ok (SK.D.int ((DS ls).length : Nat)) st5 = _; rw [List.length_map]) eC_ok (gt_ok _ _))) ?_
      congr 2
      exact decide_eq_decide.mpr (by omega)
    by_cases w1 : (way == 1 && decide (1 < ls.length)) = true
    · have hl1 : 1 < ls.length := of_decide_eq_true (Bool.and_eq_true_iff.mp w1).2
      have e6 : gAdd (.lst (DS (ls.take i))) (.lst (DS (ls.drop (i + 1)))) = some (.lst (DS (ls.take i ++ ls.drop (i + 1)))) := by
        rw [gAdd_lst (by rw [List.length_map, List.length_map, List.length_take, List.length_drop]; exact Nat.le_trans (show min i ls.length + (ls.length - (i + 1)) ≤ 3000 by omega) (by decide)), ← List.map_append]
      have hls : LsOk (c + 1) (m + 8) (ls.take i ++ ls.drop (i + 1)) := hL.up (fun z => by have := congrArg List.length z; rw [List.length_append, List.length_take, List.length_drop] at this; rw [List.length_nil] at this; omega) (by rw [List.length_append, List.length_take, List.length_drop]; omega) fun p hp => by
        rcases List.mem_append.mp hp with z | z
        · exact List.mem_of_mem_take z
        · exact List.mem_of_mem_drop z
      refine ⟨_, .v (.lst (DS (ls.take i ++ ls.drop (i + 1)))), st5, run_rt ((start _).trans ((seq_nx ((sIf_f r0).trans sNil_ok)).trans (seq_rt ((sIf_t (t1.trans (by rw [w1]))).trans ?_)))), rfl, hls, b5.mono (by omega), by omega⟩
      exact sRet_ok (eRet_ok (e2_ok (env := [.val (.ref n), .val (.lst (DS ls)), .val (.int i), .val (.int j), .val (.int way), .val (.lst (DS ls)), .val (.str (T line)), .val (.int spot), .val (.str (T sign))]) (eSl_ok (eVar_ok rfl) oNone_ok (oSome_ok (eVar_ok rfl)) (by show some (SK.D.lst (cutL (DS ls) none (some (i : Int)))) = _; rw [cut_toA, ← List.map_take])) (eSl_ok (eVar_ok rfl) (oSome_ok (e2_ok (eVar_ok rfl) eC_ok (add_ok _ _))) oNone_ok (by show some (SK.D.lst (cutL (DS ls) (some ((i + 1 : Nat) : Int)) none)) = _; rw [cut_fromA, ← List.map_drop])) e6))
    · have r1 := t1.trans (by rw [Bool.eq_false_iff.mpr w1])
      by_cases w2 : way = 2
      · have e6 : gAdd (.lst (DS (ls.take i))) (.lst [.str (T line)]) = some (.lst (DS (ls.take i ++ [line]))) := by
          rw [gAdd_lst (by rw [List.length_map, List.length_take]; exact Nat.le_trans (show min i ls.length + 1 ≤ 3000 by omega) (by decide))]; simp
        have e7 : gAdd (.lst (DS (ls.take i ++ [line]))) (.lst (DS (ls.drop i))) = some (.lst (DS (ls.take i ++ [line] ++ ls.drop i))) := by
          rw [gAdd_lst (by rw [List.length_map, List.length_map, List.length_append, List.length_take, List.length_drop]; exact Nat.le_trans (show min i ls.length + 1 + (ls.length - i) ≤ 3000 by omega) (by decide)), ← List.map_append]
        have hls : LsOk (c + 1) (m + 8) (ls.take i ++ [line] ++ ls.drop i) := hL.up (by simp) (by simp; omega) fun p hp => by
          rcases List.mem_append.mp hp with z | z
          · rcases List.mem_append.mp z with z | z
            · exact List.mem_of_mem_take z
            · rw [List.mem_singleton] at z; subst z; rw [← el]; exact List.getElem_mem hi
          · exact List.mem_of_mem_drop z
        refine ⟨_, .v (.lst (DS (ls.take i ++ [line] ++ ls.drop i))), st5, run_rt ((start _).trans ((seq_nx ((sIf_f r0).trans sNil_ok)).trans ((seq_nx ((sIf_f r1).trans sNil_ok)).trans (seq_rt ((sIf_t ((qw 2 _ _ rfl).trans (by rw [w2]; rfl))).trans ?_))))), rfl, hls, b5.mono (by omega), by omega⟩
        exact sRet_ok (eRet_ok (e2_ok (env := [.val (.ref n), .val (.lst (DS ls)), .val (.int i), .val (.int j), .val (.int way), .val (.lst (DS ls)), .val (.str (T line)), .val (.int spot), .val (.str (T sign))]) (e2_ok (eSl_ok (eVar_ok rfl) oNone_ok (oSome_ok (eVar_ok rfl)) (by show some (SK.D.lst (cutL (DS ls) none (some (i : Int)))) = _; rw [cut_toA, ← List.map_take])) (eA_ok (aCons_ok (eVar_ok rfl) aNil_ok) rfl) e6) (eSl_ok (eVar_ok rfl) (oSome_ok (eVar_ok rfl)) oNone_ok (by show some (SK.D.lst (cutL (DS ls) (some (i : Int)) none)) = _; rw [cut_fromA, ← List.map_drop])) e7))
      · have r2 := (qw 2 [.val (.ref n), .val (.lst (DS ls)), .val (.int i), .val (.int j), .val (.int way), .own (.lst (DS ls)), .val (.str (T line)), .val (.int spot), .val (.str (T sign))] st5 rfl).trans (by rw [beq_eq_false_iff_ne.mpr w2])
        have hA := hli.1
        have hz : line.length ≤ sizeLine := Nat.le_trans hli.2 (Nat.le_trans hm (by decide))
        -- the line with a sign put in
        obtain ⟨b, hb, hbd⟩ : ∃ b : Nat, b ≤ 1 ∧ gIntA [.bl (decide (6 < way))] = some (.int (b : Nat)) := by
          by_cases z : 6 < way
          · exact ⟨1, by decide, by rw [decide_eq_true z]; rfl⟩
          · exact ⟨0, by decide, by rw [decide_eq_false z]; rfl⟩
        obtain ⟨sp, rfl⟩ := Int.eq_ofNat_of_zero_le h4a
        let v1 : List Nat := line.take sp ++ sign ++ line.drop (sp + b)
        have l1 : (line.take sp).length ≤ line.length := by rw [List.length_take]; omega
        have v1ok : Lin v1 (m + 8) := ⟨fun x hx => by
          rcases List.mem_append.mp hx with z | z
          · rcases List.mem_append.mp z with z | z
            · exact hA x (List.mem_of_mem_take z)
            · exact hsA x z
          · exact hA x (List.mem_of_mem_drop z), by simp only [v1, List.length_append, List.length_take, List.length_drop]; omega⟩
        let E (o : MO) : En := [.val (.ref n), .val (.lst (DS ls)), .val (.int i), .val (.int j), .val (.int way), .own o, .val (.str (T line)), .val (.int sp), .val (.str (T sign))]
        have z1 : ∀ {q : Nat}, q ≤ 30000 → q ≤ sizeLine := fun h => Nat.le_trans h (by decide)
        have ev : ∀ o, SK.e2 (SK.e2 (eSl (eVar 6) (oNone) (oSome (eVar 7))) (eVar 8) gAdd) (eSl (eVar 6) (oSome (SK.e2 (eVar 7) (eA (aCons (SK.e2 (eVar 4) (eC (.int 6)) gGt) (aNil)) gIntA) gAdd)) (oNone)) gAdd (E o) st5 = .ok (.str (T v1)) st5 := fun o =>
          e2_ok (e2_ok (eSl_ok (eVar_ok rfl) oNone_ok (oSome_ok (eVar_ok rfl)) (slice_to line hz sp (Int.natCast_nonneg _))) (eVar_ok rfl) (gAdd_T (by rw [Int.toNat_natCast]; exact z1 (by omega)))) (eSl_ok (eVar_ok rfl) (oSome_ok (e2_ok (eVar_ok rfl) (eA_ok (aCons_ok (e2_ok (eVar_ok rfl) eC_ok (gt_ok _ _)) aNil_ok) hbd) (add_ok _ _))) oNone_ok (slice_from line hz _ (by omega))) (by
            rw [show ((sp : Int) + (b : Int)).toNat = sp + b by omega, Int.toNat_natCast]
            exact gAdd_T (z1 (by rw [List.length_append, List.length_drop]; omega)))
        have es1 : sSubO 5 (eVar 2) (SK.e2 (SK.e2 (eSl (eVar 6) (oNone) (oSome (eVar 7))) (eVar 8) gAdd) (eSl (eVar 6) (oSome (SK.e2 (eVar 7) (eA (aCons (SK.e2 (eVar 4) (eC (.int 6)) gGt) (aNil)) gIntA) gAdd)) (oNone)) gAdd) (E (.lst (DS ls))) st5 = .nx (E (.lst (DS (ls.set i v1)))) st5 := by
          rw [sSubO_ok (env := E (.lst (DS ls))) (st := st5) rfl (ev _) (eVar_ok rfl) (ixN_nat (by rw [List.length_map]; exact hi)), DS_set]
          rfl
        have hls1 : LsOk (c + 1) (m + 8) (ls.set i v1) := hL.set v1ok
        have hlen1 : i < (ls.set i v1).length := by rw [List.length_set]; exact hi
        by_cases w3 : way = 3
        · obtain ⟨r, st6, e6, h6a, h6b, b6, s6⟩ := cT_ok ad (env := E (.lst (DS (ls.set i v1)))) (f := eC (.int 6)) b5 (by omega) rfl eC_ok (by decide) (by decide)
          obtain ⟨x, hx, ex⟩ := atI_get (xs := DS bentEnds) h6a (by simpa [bentEnds] using h6b)
          obtain ⟨en, hen, rfl⟩ := List.mem_map.mp hx
          obtain ⟨heA, heL⟩ := bentEnds_ok en hen
          have v2ok : Lin (line ++ en) (m + 8) := ⟨fun x hx => by
            rcases List.mem_append.mp hx with z | z
            · exact hA x z
            · exact heA x z, by rw [List.length_append]; omega⟩
          have hls2 : LsOk (c + 1) (m + 8) ((ls.set i v1).set i (line ++ en)) := by rw [List.set_set]; exact hL.set v2ok
          have es2 : sSubO 5 (eVar 2) (SK.e2 (eVar 6) (e2s (eA (aCons (eC (.str " ")) (aCons (eC (.str "\n")) (aCons (eC (.str " 0")) (aCons (eC (.str " frozen")) (aCons (eC (.str " none")) (aCons (eC (.str "  ")) (aNil))))))) SK.gLst) (eFrz (eCall (aCons (eVar 0) (aCons (eC (.int 6)) (aNil))) (F_law_take ad))) gIxS) gAdd) (E (.lst (DS (ls.set i v1)))) st5 = .nx (E (.lst (DS ((ls.set i v1).set i (line ++ en))))) st6 := by
            have q := e2_ok (env := E (.lst (DS (ls.set i v1)))) (st := st5) (o := gAdd) (eVar_ok (i := 6) rfl) (e2s_ok (o := gIxS) (eA_ok (aCons_ok (eC_ok (d := .str " ")) (aCons_ok (eC_ok (d := .str "\n")) (aCons_ok (eC_ok (d := .str " 0")) (aCons_ok (eC_ok (d := .str " frozen")) (aCons_ok (eC_ok (d := .str " none")) (aCons_ok (eC_ok (d := .str "  ")) aNil_ok)))))) (o := SK.gLst) (z := .lst (DS bentEnds)) (by rw [s_sp, s_nl, s_s0, s_sfr, s_sno, s_ss]; rfl)) e6 ex) (gAdd_T (z1 (by omega)))
            refine (sSubO_ok (env := E (.lst (DS (ls.set i v1)))) (st := st5) (i := 5) rfl q (eVar_ok rfl) (ixN_nat (by rw [List.length_map]; exact hlen1))).trans ?_
            rw [DS_set]
            rfl
          refine ⟨_, .o (.lst (DS ((ls.set i v1).set i (line ++ en)))), st6, run_rt ((start _).trans ((seq_nx ((sIf_f r0).trans sNil_ok)).trans ((seq_nx ((sIf_f r1).trans sNil_ok)).trans ((seq_nx ((sIf_f r2).trans sNil_ok)).trans ((seq_nx es1).trans ((seq_nx ((sIf_t ((qw 3 _ _ rfl).trans (by rw [w3]; rfl))).trans es2)).trans ((seq_nx ((sIf_f ((qw 4 _ _ rfl).trans (by rw [w3]; rfl))).trans sNil_ok)).trans rfl))))))), rfl, hls2, b6.mono (by omega), by omega⟩
        · have r3 := (qw 3 (E (.lst (DS (ls.set i v1)))) st5 rfl).trans (by rw [beq_eq_false_iff_ne.mpr w3])
          by_cases w4 : way = 4
          · have v2ok : Lin (line.take sp ++ line.drop (sp + 1)) (m + 8) := ⟨fun x hx => by
              rcases List.mem_append.mp hx with z | z
              · exact hA x (List.mem_of_mem_take z)
              · exact hA x (List.mem_of_mem_drop z), by simp only [List.length_append, List.length_take, List.length_drop]; omega⟩
            have hls2 : LsOk (c + 1) (m + 8) ((ls.set i v1).set i (line.take sp ++ line.drop (sp + 1))) := by rw [List.set_set]; exact hL.set v2ok
            have es2 : sSubO 5 (eVar 2) (SK.e2 (eSl (eVar 6) (oNone) (oSome (eVar 7))) (eSl (eVar 6) (oSome (SK.e2 (eVar 7) (eC (.int 1)) gAdd)) (oNone)) gAdd) (E (.lst (DS (ls.set i v1)))) st5 = .nx (E (.lst (DS ((ls.set i v1).set i (line.take sp ++ line.drop (sp + 1)))))) st5 := by
              have q := e2_ok (env := E (.lst (DS (ls.set i v1)))) (st := st5) (o := gAdd) (eSl_ok (eVar_ok (i := 6) rfl) oNone_ok (oSome_ok (eVar_ok (i := 7) rfl)) (slice_to line hz sp (Int.natCast_nonneg _))) (eSl_ok (eVar_ok (i := 6) rfl) (oSome_ok (e2_ok (o := gAdd) (eVar_ok (i := 7) rfl) (eC_ok (d := .int 1)) (add_ok _ _))) oNone_ok (slice_from line hz _ (by omega))) (z := .str (T (line.take sp ++ line.drop (sp + 1)))) (by
                rw [show ((sp : Int) + 1).toNat = sp + 1 by omega, Int.toNat_natCast]
                exact gAdd_T (z1 (by rw [List.length_drop]; omega)))
              rw [sSubO_ok (env := E (.lst (DS (ls.set i v1)))) (st := st5) rfl q (eVar_ok rfl) (ixN_nat (by rw [List.length_map]; exact hlen1)), DS_set]
              rfl
            refine ⟨_, .o (.lst (DS ((ls.set i v1).set i (line.take sp ++ line.drop (sp + 1))))), st5, run_rt ((start _).trans ((seq_nx ((sIf_f r0).trans sNil_ok)).trans ((seq_nx ((sIf_f r1).trans sNil_ok)).trans ((seq_nx ((sIf_f r2).trans sNil_ok)).trans ((seq_nx es1).trans ((seq_nx ((sIf_f r3).trans sNil_ok)).trans ((seq_nx ((sIf_t ((qw 4 _ _ rfl).trans (by rw [w4]; rfl))).trans es2)).trans rfl))))))), rfl, hls2, b5.mono (by omega), by omega⟩
          · have r4 := (qw 4 (E (.lst (DS (ls.set i v1)))) st5 rfl).trans (by rw [beq_eq_false_iff_ne.mpr w4])
            refine ⟨_, .o (.lst (DS (ls.set i v1))), st5, run_rt ((start _).trans ((seq_nx ((sIf_f r0).trans sNil_ok)).trans ((seq_nx ((sIf_f r1).trans sNil_ok)).trans ((seq_nx ((sIf_f r2).trans sNil_ok)).trans ((seq_nx es1).trans ((seq_nx ((sIf_f r3).trans sNil_ok)).trans ((seq_nx ((sIf_f r4).trans sNil_ok)).trans rfl))))))), rfl, hls1, b5.mono (by omega), by omega⟩
end K83P
end
section
set_option Elab.async false
set_option linter.all false
set_option autoImplicit false
set_option maxRecDepth 100000
set_option maxHeartbeats 4000000
namespace K83P
open PySem PySem.Spec PyProof.Rows L2 SK K83
theorem strs_DS : ∀ ls : List (List Nat), D.strs (DS ls) = some (ls.map T)
  | [] => rfl
  | p :: r => by
    show (D.strs (DS r)).map (T p :: ·) = _
    rw [strs_DS r]; rfl
theorem DS_map {α : Type} (f : α → List Nat) (xs : List α) : (xs.map fun d => SK.D.str (T (f d))) = DS (xs.map f) := by simp [DS, Function.comp_def]
theorem sum_le (n : Nat) : ∀ l : List Nat, (∀ x ∈ l, x ≤ n) → l.sum ≤ l.length * n
  | [], _ => by simp
  | x :: r, h => by
    have := sum_le n r fun y hy => h y (List.mem_cons_of_mem _ hy)
    have := h x (List.mem_cons_self ..)
    rw [List.sum_cons, List.length_cons, Nat.add_mul, Nat.one_mul]; omega
theorem gJoin_T {c n m : Nat} {ls : List (List Nat)} (h : ∀ p ∈ ls, p.length ≤ n) (hm : ls.length ≤ m) (hb : m * n + m ≤ 16777216) : gJoin (T [c]) (.lst (DS ls)) = some (.str (T (TL.joinL [c] ls))) := by
  unfold gJoin
  dsimp only
  rw [strs_DS]
  dsimp only
  have e : (ls.map T).map (·.length) = ls.map (·.length) := by rw [List.map_map]; exact List.map_congr_left fun p _ => T_len p
  have h1 := sum_le n (ls.map (·.length)) fun x hx => by obtain ⟨p, hp, rfl⟩ := List.mem_map.mp hx; exact h p hp
  rw [List.length_map] at h1
  have h2 : ls.length * n ≤ m * n := Nat.mul_le_mul_right _ hm
  rw [e, if_pos (by rw [List.length_map, T_len, List.length_singleton]; omega), show Txt.join (T [c]) (ls.map T) = T (TL.joinL [c] ls) from SX.join_S [c] ls]
theorem log_ok {i : Int} (h : i.natAbs < 10 ^ 20) : i.natAbs.log2 < 1920 := by
  have : i.natAbs < 2 ^ 1920 := Nat.lt_of_lt_of_le h (by decide +kernel)
  by_cases z : i.natAbs = 0
  · rw [z]; decide
  · exact (Nat.log2_lt z).mpr this
theorem gStr_flat {d : SK.D} (h : Flat d) (hn : d ≠ .non) : gStr [d] = some (.str (T (pt d))) := by
  rcases h with rfl | ⟨i, rfl, hi⟩ | ⟨w, rfl, h⟩
  · exact absurd rfl hn
  · unfold gStr
    dsimp only
    rw [if_pos (log_ok hi), of_int]; rfl
  · rfl
theorem part_eval {d : SK.D} (h : Flat d) {env : En} {st : List MO} {i : Nat} (hi : env[i]? = some (.val d)) {z : Str} (hz : z = T nonW) : eIf (eTest (e2 (eVar i) (eC .non) gIsN)) (eC (.str z)) (eA (aCons (eVar i) (aNil)) gStr) env st = .ok (.str (T (pt d))) st := by
  subst hz
  by_cases hn : d = .non
  · subst hn
    exact (eIf_t (eTest_ok (e2_ok (eVar_ok hi) eC_ok rfl))).trans eC_ok
  · refine (eIf_f (eTest_ok (e2_ok (eVar_ok hi) eC_ok ?_))).trans (eA_ok (aCons_ok (eVar_ok hi) aNil_ok) (gStr_flat h hn))
    rcases h with rfl | ⟨i, rfl, hi⟩ | ⟨w, rfl, h⟩
    · exact absurd rfl hn
    · rfl
    · rfl
theorem F_ptext (ad : Ad) {d : SK.D} {st : List MO} (h : Flat d) : F_part_text ad [d] st = .ok (.v (.str (T (pt d)))) st := by
  unfold F_part_text b_part_text
  exact run_rt (sRet_ok (eRet_ok (part_eval h rfl s_none)))
theorem pts_len {xs : List SK.D} (h : Row xs) : ∀ p ∈ xs.map pt, p.length ≤ 21 := fun p hp => (pts_ok h.fl p hp).len
theorem F_rline (ad : Ad) {xs : List SK.D} {st : List MO} (h : Row xs) : F_law_row_line ad [.tup xs] st = .ok (.v (.str (T (lineOf xs)))) st := by
  unfold F_law_row_line b_law_row_line
  refine run_rt (sRet_ok (eRet_ok (eM1_ok (eC_ok (d := .str " ")) (eFrz_ok (eLcO_map (l := xs) (g := fun d => d) (fun d => .str (T (pt d))) (by rw [wTup_ok (eVar_ok rfl)]; simp) (by have := h.len; omega) fun d hd => ⟨_, rfl, part_eval (h.fl d hd) rfl s_none⟩)) ?_)))
  rw [s_sp, DS_map pt xs]
  exact gJoin_T (m := 4) (n := 21) (pts_len h) (by rw [List.length_map]; exact h.len) (by decide)
theorem lines_len {rows : List (List SK.D)} (h : ∀ r ∈ rows, Row r) : ∀ p ∈ rows.map lineOf, p.length ≤ 88 := fun p hp => by
  obtain ⟨r, hr, rfl⟩ := List.mem_map.mp hp
  exact (line_ok (h r hr)).len
theorem join_rows {rows : List (List SK.D)} (h : ∀ r ∈ rows, Row r) (hl : rows.length ≤ 12) : gJoin (T [10]) (.lst (rows.map fun xs => .str (T (lineOf xs)))) = some (.str (T (txtOf rows))) := by
  rw [DS_map lineOf rows]
  exact gJoin_T (m := 12) (n := 88) (lines_len h) (by rw [List.length_map]; exact hl) (by decide)
theorem F_show (ad : Ad) {rows : List (List SK.D)} {st : List MO} (h : ∀ r ∈ rows, Row r) (hl : rows.length ≤ 12) : F_show_record ad [.lst (rows.map .tup)] st = .ok (.v (.str (T (txtOf rows)))) st := by
  unfold F_show_record b_show_record
  refine run_rt (sRet_ok (eRet_ok (eM1_ok (eC_ok (d := .str "\n")) (eFrz_ok (eLcO_map (l := rows) (g := .tup) (fun xs => .str (T (lineOf xs))) (wLst_ok (eVar_ok rfl)) (by omega) fun xs hx => ⟨_, rfl, ?_⟩)) (by rw [s_nl]; exact join_rows h hl))))
  have hR := h xs hx
  refine eM1_ok (eC_ok (d := .str " ")) (eFrz_ok (eLcO_map (l := xs) (g := fun d => d) (fun d => .str (T (pt d))) (by rw [wTup_ok (eVar_ok rfl)]; simp) (by have := hR.len; omega) fun d hd => ⟨_, rfl, eFrz_ok (eCall_ok (aCons_ok (eVar_ok rfl) aNil_ok) (F_ptext ad (hR.fl d hd)))⟩)) ?_
  rw [s_sp, DS_map pt xs]
  exact gJoin_T (m := 4) (n := 21) (pts_len hR) (by rw [List.length_map]; exact hR.len) (by decide)
/-! the store moves on: what each item gives -/
theorem eLcO_run {α : Type} {f : M (List SK.D)} {vs : List Nat} {t : Tg} {e : M SK.D} {env : En} {st st0 : List MO} {l : List α} {g : α → SK.D} (I : Nat → List MO → Prop) (P : SK.D → Prop) (hf : f env st0 = .ok (l.map g) st) (hl : l.length ≤ 100000) (k0 K : Nat) (h0 : I k0 st) (hK : k0 + l.length ≤ K)
    (h : ∀ a ∈ l, ∀ k st, k < K → I k st → ∃ env1, t (g a) (cEnv env vs) = some env1 ∧ ∃ y st', e env1 st = .ok y st' ∧ P y ∧ I (k + 1) st') : ∃ ys st', eLcO f vs t tYesI e env st0 = .ok (.o (.lst ys)) st' ∧ ys.length = l.length ∧ (∀ y ∈ ys, P y) ∧ I (k0 + l.length) st' := by
  have go : ∀ (l' : List α) (acc : List SK.D) (k : Nat) (st : List MO), (∀ a ∈ l', a ∈ l) → (∀ y ∈ acc, P y) → I k st → k + l'.length ≤ K → ∃ ys st', compA t tYesI e (l'.map g) acc (cEnv env vs) st = .ok ys st' ∧ ys.length = acc.length + l'.length ∧ (∀ y ∈ ys, P y) ∧ I (k + l'.length) st' := by
    intro l'
    induction l' with
    | nil => intro acc k st _ ha hi _; exact ⟨acc, st, by simp [compA], by simp, ha, hi⟩
    | cons a r ih =>
      intro acc k st hm ha hi hk
      rw [List.length_cons] at hk
      obtain ⟨env1, h1, y, st', h2, hp, hi'⟩ := h a (hm a (List.mem_cons_self ..)) k st (by omega) hi
      obtain ⟨ys, st2, e3, e4, e5, e6⟩ := ih (acc ++ [y]) (k + 1) st' (fun x hx => hm x (List.mem_cons_of_mem _ hx)) (fun z hz => by
        rcases List.mem_append.mp hz with q | q
        · exact ha z q
        · rw [List.mem_singleton] at q; subst q; exact hp) hi' (by omega)
      refine ⟨ys, st2, ?_, by rw [e4, List.length_append, List.length_singleton, List.length_cons]; omega, e5, by rw [List.length_cons]; rw [show k + (r.length + 1) = k + 1 + r.length by omega]; exact e6⟩
      rw [List.map_cons]
      unfold compA
      rw [h1]
      dsimp only
      have e1 : tYesI env1 st = .ok true st := rfl
      rw [e1]
      show (e env1 st).nox.bind (fun y st => compA t tYesI e (r.map g) (acc ++ [y]) (cEnv env vs) st) = _
      rw [h2]
      exact e3
  obtain ⟨ys, st', e1, e2, e3, e4⟩ := go l [] k0 st (fun _ h => h) (fun y hy => by cases hy) h0 hK
  refine ⟨ys, st', ?_, by simpa using e2, e3, e4⟩
  unfold eLcO
  rw [hf, bind_ok, if_pos (by rw [List.length_map]; exact hl), e1, bind_ok]
theorem forL_inv {α : Type} {t : Tg} {b : S} {g : α → SK.D} (I : Nat → En → List MO → Prop) (K : Nat) (h : ∀ a k env st, k < K → I k env st → ∃ env1 env2 st2, t (g a) env = some env1 ∧ b env1 st = .nx env2 st2 ∧ I (k + 1) env2 st2) : ∀ (l : List α) (k : Nat) (env : En) (st : List MO), I k env st → k + l.length ≤ K →
    ∃ env2 st2, forL t b (l.map g) env st = .nx env2 st2 ∧ I (k + l.length) env2 st2
  | [], k, env, st, hi, _ => ⟨env, st, rfl, hi⟩
  | a :: l, k, env, st, hi, hk => by
    rw [List.length_cons] at hk
    obtain ⟨env1, env2, st2, h1, h2, h3⟩ := h a k env st (by omega) hi
    obtain ⟨env3, st3, h4, h5⟩ := forL_inv I K h l (k + 1) env2 st2 h3 (by omega)
    refine ⟨env3, st3, ?_, by rw [List.length_cons, show k + (l.length + 1) = k + 1 + l.length by omega]; exact h5⟩
    rw [List.map_cons, forL_cons h1, h2]
    exact h4
end K83P
end
section
set_option Elab.async false
set_option linter.all false
set_option autoImplicit false
set_option maxRecDepth 100000
set_option maxHeartbeats 4000000
namespace K83P
open PySem PySem.Spec PyProof.Rows L2 SK K83
theorem gNe_self {z : Str} (h : PyData.strOk z = true) : gNe (.str z) (.str z) = some (.bl false) := by rw [gNe_str h h, beq_self_eq_true]; rfl
theorem gEq_self {z : Str} (h : PyData.strOk z = true) : gEq (.str z) (.str z) = some (.bl true) := by rw [gEq_str h h, beq_self_eq_true]
theorem said_due (ad : Ad) {t : List Nat} (h : Lin t 15000) {env : En} {f : M SK.D} (hf : ∀ st, f env st = .ok (.str (T t)) st) (st : List MO) : ∃ x,
    e2 (e1s (eFrz (eCall (aCons f (aNil)) (F_law_said ad))) gRepr) (e1s (eFrz (eCall (aCons f (aNil)) (F_law_due ad))) gRepr) gNe env st = .ok (.bl false) (st ++ [x]) ∧
    e2 (e1s (eFrz (eCall (aCons f (aNil)) (F_law_said ad))) gRepr) (e1s (eFrz (eCall (aCons f (aNil)) (F_law_due ad))) gRepr) gEq env st = .ok (.bl true) (st ++ [x]) := by
  obtain ⟨z, x, hz, h1, h2⟩ := agree ad h
  obtain ⟨d, e1, e2'⟩ := h1 st
  obtain ⟨r, e3, e4⟩ := h2 (st ++ [x])
  have a1 : e1s (eFrz (eCall (aCons f (aNil)) (F_law_said ad))) gRepr env st = .ok (.str z) (st ++ [x]) := e1s_ok (eFrz_ok (eCall_ok (aCons_ok (hf st) aNil_ok) e1)) e2'
  have a2 : e1s (eFrz (eCall (aCons f (aNil)) (F_law_due ad))) gRepr env (st ++ [x]) = .ok (.str z) (st ++ [x]) := e1s_ok (eFrz_ok (eCall_ok (aCons_ok (hf _) aNil_ok) e3)) e4
  exact ⟨x, e2_ok a1 a2 (gNe_self hz), e2_ok a1 a2 (gEq_self hz)⟩
theorem said_back (ad : Ad) {rows : List (List SK.D)} (h : ∀ r ∈ rows, Good r) (hl : rows.length ≤ 12) (st : List MO) :
    F_law_said ad [.str (T (txtOf rows))] st = .ok (.v (.ref st.length)) (st ++ [.lst (rows.map .tup)]) ∧ F_read_record ad [.str (T (txtOf rows))] st = .ok (.v (.ref st.length)) (st ++ [.lst (rows.map .tup)]) := by
  have hR : ∀ r ∈ rows, Row r := fun r hr => (h r hr).row
  have h1 := txt_lin hR hl
  have h2 : Lin (txtOf rows) 15000 := ⟨h1.1, by have := h1.2; omega⟩
  have hb : badAt (linesOf (txtOf rows)) 0 = none := by rw [lines_back h]; exact bad_none 0 h
  have e : rowsOf (linesOf (txtOf rows)) = rows := by rw [lines_back h, rows_back h]
  have q1 := (F_said ad (st := st) h2).1 hb
  have q2 := (F_rec ad (st := st) h2).1 hb
  rw [e] at q1 q2
  exact ⟨q1, q2⟩
theorem split_rows {rows : List (List SK.D)} (h : ∀ r ∈ rows, Good r) (hl : rows.length ≤ 12) : LsOk 12 88 (TL.spl [10] 0 [] (txtOf rows)) := by
  have hR : ∀ r ∈ rows, Row r := fun r hr => (h r hr).row
  cases rows with
  | nil => exact ⟨by decide, by decide, fun p hp => by
      have : TL.spl [10] 0 [] (txtOf []) = [[]] := by decide
      rw [this, List.mem_singleton] at hp; subst hp; exact ⟨by decide, by decide⟩⟩
  | cons r rs =>
    have e : TL.spl [10] 0 [] (txtOf (r :: rs)) = (r :: rs).map lineOf := by
      have := lines_back h
      unfold linesOf at this
      rwa [if_neg (show ¬ txtOf (r :: rs) = [] from joinL_ne (good_ne (h r (List.mem_cons_self ..))))] at this
    rw [e]
    refine ⟨by simp, by rw [List.length_map]; exact hl, fun p hp => ?_⟩
    obtain ⟨x, hx, rfl⟩ := List.mem_map.mp hp
    have := line_ok (hR x hx)
    exact ⟨fun c hc => (this.ch c hc).1, this.len⟩
abbrev bendBody (ad : Ad) : S := (sSeq (sSet 8 (eFrz (eCall (aCons (eVar 2) (aCons (eVar 8) (aNil))) (F_law_bent_lines ad))))
    (sIf (eTest (e2 (e1s (eFrz (eCall (aCons (eM1 (eC (.str "\n")) (eVar 8) gJoin) (aNil)) (F_law_said ad))) gRepr) (e1s (eFrz (eCall (aCons (eM1 (eC (.str "\n")) (eVar 8) gJoin) (aNil)) (F_law_due ad))) gRepr) gNe)) (sRet (eRet (eC (.bl false)))) (sNil)))
abbrev turnBody (ad : Ad) : S := (sSeq (sSet 4 (eFrz (eLcO (wRng1 (eFrz (eCall (aCons (eVar 2) (aCons (eC (.int 13)) (aNil))) (F_law_take ad)))) [9] (tgN 9) (tYesI) (eFrz (eCall (aCons (eVar 2) (aNil)) (F_law_record_row ad))))))
    (sSeq (sPar 5 6 (aCons (eM1 (eC (.str "\n")) (eFrz (eLcO (wLst (eVar 4)) [11] (tgN 11) (tYesI) (eFrz (eCall (aCons (eVar 11) (aNil)) (F_law_row_line ad))))) gJoin) (aCons (e1s (eVar 4) gRepr) (aNil))))
    (sSeq (sIf (tOrI (eTest (e2 (eFrz (eCall (aCons (eVar 4) (aNil)) (F_show_record ad))) (eVar 5) gNe)) (tOrI (eTest (e2 (e1s (eVar 4) gRepr) (eVar 6) gNe)) (eTest (e2 (e1s (eFrz (eCall (aCons (eVar 5) (aNil)) (F_law_said ad))) gRepr) (eVar 6) gNe)))) (sRet (eRet (eC (.bl false)))) (sNil))
    (sSeq (sSet 7 (eFrz (eCall (aCons (eVar 5) (aNil)) (F_read_record ad))))
    (sSeq (sAppV (eVar 7) (eC .non))
    (sSeq (sIf (eTest (e2 (e1s (eFrz (eCall (aCons (eVar 5) (aNil)) (F_law_said ad))) gRepr) (eVar 6) gNe)) (sRet (eRet (eC (.bl false)))) (sNil))
    (sSeq (sSet 8 (eM1 (eVar 5) (eC (.str "\n")) gSplit))
    (sFor (wRng1 (eC (.int 4))) (tgN 9) (bendBody ad)))))))))
theorem bend_step (ad : Ad) {n kk j : Nat} {a0 a1 a3 a4 a5 a6 a7 a9 a10 a11 a12 : Sl} {st : List MO} {ls : List (List Nat)} (hb : Bag n kk st) (hk : kk < 1000000) (hL : LsOk (12 + j) (88 + 8 * j) ls) (hj : j < 4) :
    ∃ ls' st', bendBody ad [a0, a1, .val (.ref n), a3, a4, a5, a6, a7, .val (.lst (DS ls)), a9, a10, a11, a12] st = .nx [a0, a1, .val (.ref n), a3, a4, a5, a6, a7, .val (.lst (DS ls')), a9, a10, a11, a12] st' ∧ LsOk (12 + (j + 1)) (88 + 8 * (j + 1)) ls' ∧ Bag n (kk + 8) st' := by
  obtain ⟨ls', r, st1, e1, e2', h3, h4, h5⟩ := F_bent ad hb hk hL (by omega) (by omega)
  have hn : ∀ p ∈ ls', p.length ≤ 120 := fun p hp => by have := (h3.lin p hp).2; omega
  have hc : ls'.length ≤ 16 := by have := h3.len; omega
  obtain ⟨f1, f2⟩ := joinL_facts 10 120 ls' hn
  have hlin : Lin (TL.joinL [10] ls') 15000 := ⟨fun c hc => by
    rcases f1 c hc with rfl | ⟨p, hp, z⟩
    · decide
    · exact (h3.lin p hp).1 c z, by omega⟩
  obtain ⟨x, e3, _⟩ := said_due ad hlin (env := [a0, a1, .val (.ref n), a3, a4, a5, a6, a7, .val (.lst (DS ls')), a9, a10, a11, a12]) (f := eM1 (eC (.str "\n")) (eVar 8) gJoin) (fun st => eM1_ok (eC_ok (d := .str "\n")) (eVar_ok rfl) (by rw [s_nl]; exact gJoin_T (m := 16) (n := 120) hn hc (by decide))) st1
  refine ⟨ls', st1 ++ [x], (seq_nx (sSet_ok (eFrz_ok (eCall_ok (aCons_ok (eVar_ok rfl) (aCons_ok (eVar_ok rfl) aNil_ok)) e1)))).trans ?_, ⟨h3.ne, by have := h3.len; omega, fun p hp => ⟨(h3.lin p hp).1, by have := (h3.lin p hp).2; omega⟩⟩, h4.push x⟩
  rw [e2']
  exact (sIf_f (eTest_ok e3)).trans sNil_ok
theorem appV_ok {fo fe : M SK.D} {env : En} {st : List MO} {n : Nat} {xs : List SK.D} {v : SK.D} (h1 : fo env st = .ok (.ref n) st) (h2 : st[n]? = some (.lst xs)) (h3 : fe env st = .ok v st) (hl : xs.length < 100000) : sAppV fo fe env st = .nx env (st.set n (.lst (xs ++ [v]))) := by
  unfold sAppV; rw [h1, bindS_ok]; dsimp only; rw [h2]; dsimp only; rw [h3, bindS_ok, h2]; dsimp only; rw [if_pos hl]
theorem turn_step (ad : Ad) {n kk : Nat} {a0 a1 a3 a4 a5 a6 a7 a8 a9 a10 a11 a12 : Sl} {st : List MO} (hb : Bag n kk st) (hk : kk < 100000) :
    ∃ y4 y5 y6 y7 y8 y9 st', turnBody ad [a0, a1, .val (.ref n), a3, a4, a5, a6, a7, a8, a9, a10, a11, a12] st = .nx [a0, a1, .val (.ref n), a3, y4, y5, y6, y7, y8, y9, a10, a11, a12] st' ∧ Bag n (kk + 300) st' := by
  obtain ⟨r, st1, e1, h1a, h1b, b1, _⟩ := F_take ad (m := 13) hb (by omega) (by decide) (by decide)
  obtain ⟨q, rfl⟩ := Int.eq_ofNat_of_zero_le h1a
  have hq : q ≤ 12 := by omega
  -- the record
  have ew : wRng1 (eFrz (eCall (aCons (eVar 2) (aCons (eC (.int 13)) (aNil))) (F_law_take ad))) [a0, a1, .val (.ref n), a3, a4, a5, a6, a7, a8, a9, a10, a11, a12] st = .ok ((List.range' 0 q).map fun (i : Nat) => SK.D.int (0 + (i : Nat))) st1 := rng_ok (eFrz_ok (eCall_ok (aCons_ok (eVar_ok rfl) (aCons_ok eC_ok aNil_ok)) e1)) (by omega)
  obtain ⟨ys, st2, e2', l2, p2, b2⟩ := eLcO_run (vs := [9]) (t := tgN 9) (e := eFrz (eCall (aCons (eVar 2) (aNil)) (F_law_record_row ad))) (fun j st => Bag n (kk + 1 + 20 * j) st) (fun d => ∃ xs, d = .tup xs ∧ Good xs) ew (by simp; omega) 0 12 b1 (by simp; omega) fun a _ k st hk hB => by
    obtain ⟨xs, st', e, hg, hB', _⟩ := F_rr ad hB (by omega)
    exact ⟨_, rfl, .tup xs, st', eFrz_ok (eCall_ok (aCons_ok (eVar_ok rfl) aNil_ok) e), ⟨xs, rfl, hg⟩, hB'.mono (by omega)⟩
  rw [List.length_range'] at l2 b2
  obtain ⟨rows, hrows, hG⟩ : ∃ rows : List (List SK.D), ys = rows.map .tup ∧ ∀ r ∈ rows, Good r := by
    clear e2' b2 l2
    induction ys with
    | nil => exact ⟨[], rfl, fun r hr => by cases hr⟩
    | cons y ys ih =>
      obtain ⟨xs, rfl, hg⟩ := p2 y (List.mem_cons_self ..)
      obtain ⟨rows, rfl, h⟩ := ih fun z hz => p2 z (List.mem_cons_of_mem _ hz)
      exact ⟨xs :: rows, rfl, fun r hr => by
        rcases List.mem_cons.mp hr with rfl | hr
        · exact hg
        · exact h r hr⟩
  subst hrows
  rw [List.length_map] at l2
  have hl : rows.length ≤ 12 := by omega
  have hR : ∀ r ∈ rows, Row r := fun r hr => (hG r hr).row
  have hlin := txt_lin hR hl
  have hB2 : Bag n (kk + 241) st2 := b2.mono (by omega)
  have hz1 : PyData.strOk (T (txtOf rows)) = true := strOk_T hlin.1
  have hz2 : PyData.strOk (reprR rows) = true := (reprR_sm hR).ok
  have eR : ∀ (env : En) (st : List MO), env[4]? = some (.val (.lst (rows.map .tup))) → e1s (eVar 4) gRepr env st = .ok (.str (reprR rows)) st := fun env st h => e1s_ok (eVar_ok h) (gRepr_of rfl (fun i z => by cases z) hR (by omega))
  have e3 : sPar 5 6 (aCons (eM1 (eC (.str "\n")) (eFrz (eLcO (wLst (eVar 4)) [11] (tgN 11) (tYesI) (eFrz (eCall (aCons (eVar 11) (aNil)) (F_law_row_line ad))))) gJoin) (aCons (e1s (eVar 4) gRepr) (aNil))) [a0, a1, .val (.ref n), a3, .val (.lst (rows.map .tup)), a5, a6, a7, a8, a9, a10, a11, a12] st2 = .nx [a0, a1, .val (.ref n), a3, .val (.lst (rows.map .tup)), .val (.str (T (txtOf rows))), .val (.str (reprR rows)), a7, a8, a9, a10, a11, a12] st2 :=
    sPar_ok (aCons_ok (eM1_ok (eC_ok (d := .str "\n")) (eFrz_ok (eLcO_map (l := rows) (g := .tup) (fun xs => .str (T (lineOf xs))) (wLst_ok (eVar_ok rfl)) (by omega) fun xs hx => ⟨_, rfl, eFrz_ok (eCall_ok (aCons_ok (eVar_ok rfl) aNil_ok) (F_rline ad (hR xs hx)))⟩)) (by rw [s_nl]; exact join_rows hR hl)) (aCons_ok (eR _ _ rfl) aNil_ok))
  have eS : ∀ (env : En) (st : List MO), env[5]? = some (.val (.str (T (txtOf rows)))) → env[6]? = some (.val (.str (reprR rows))) → eTest (e2 (e1s (eFrz (eCall (aCons (eVar 5) (aNil)) (F_law_said ad))) gRepr) (eVar 6) gNe) env st = .ok false (st ++ [.lst (rows.map .tup)]) := fun env st h5 h6 =>
    eTest_ok (e2_ok (e1s_ok (eFrz_ok (eCall_ok (aCons_ok (eVar_ok h5) aNil_ok) (said_back ad hG hl st).1)) (gRepr_of (rows := rows) (by simp [vw, MO.d, Rs.d]) (fun i z => by cases z) hR (by omega))) (eVar_ok h6) (gNe_self hz2))
  have e4 : tOrI (eTest (e2 (eFrz (eCall (aCons (eVar 4) (aNil)) (F_show_record ad))) (eVar 5) gNe)) (tOrI (eTest (e2 (e1s (eVar 4) gRepr) (eVar 6) gNe)) (eTest (e2 (e1s (eFrz (eCall (aCons (eVar 5) (aNil)) (F_law_said ad))) gRepr) (eVar 6) gNe))) [a0, a1, .val (.ref n), a3, .val (.lst (rows.map .tup)), .val (.str (T (txtOf rows))), .val (.str (reprR rows)), a7, a8, a9, a10, a11, a12] st2 = .ok false (st2 ++ [.lst (rows.map .tup)]) := by
    have s1 : ∀ (c c' : M Bool) (env : En) (st st' : List MO), c env st = .ok false st → c' env st = .ok false st' → tOrI c c' env st = .ok false st' := fun c c' env st st' h1 h2 => by unfold tOrI; rw [h1, bind_ok, if_neg (by decide), h2]
    exact s1 _ _ _ _ _ (eTest_ok (e2_ok (eFrz_ok (eCall_ok (aCons_ok (eVar_ok rfl) aNil_ok) (F_show ad hR hl))) (eVar_ok rfl) (gNe_self hz1))) (s1 _ _ _ _ _ (eTest_ok (e2_ok (eR _ _ rfl) (eVar_ok rfl) (gNe_self hz2))) (eS _ _ rfl rfl))
  let st3 : List MO := st2 ++ [.lst (rows.map .tup)]
  have hB3 : Bag n (kk + 241) st3 := hB2.push _
  let st4 : List MO := st3 ++ [.lst (rows.map .tup)]
  have hB4 : Bag n (kk + 241) st4 := hB3.push _
  have g4 : st4[st3.length]? = some (.lst (rows.map .tup)) := by simp [st4]
  let st5 : List MO := st4.set st3.length (.lst (rows.map .tup ++ [.non]))
  have hB5 : Bag n (kk + 241) st5 := by
    obtain ⟨a, b, c, h1, h2⟩ := hB4.ex
    have hne : st3.length ≠ n := by have := hB3.lt; omega
    exact ⟨a, b, c, by rw [List.getElem?_set_ne hne]; exact h1, h2⟩
  let st6 : List MO := st5 ++ [.lst (rows.map .tup)]
  have hB6 : Bag n (kk + 241) st6 := hB5.push _
  have hs := split_rows hG hl
  generalize hls : TL.spl [10] 0 [] (txtOf rows) = ls at hs
  have e8 : ∀ (env : En) (st : List MO), env[5]? = some (.val (.str (T (txtOf rows)))) → eM1 (eVar 5) (eC (.str "\n")) gSplit env st = .ok (.lst (DS ls)) st := fun env st h5 => eM1_ok (eVar_ok h5) eC_ok (by rw [s_nl, gSplit_T (by decide) (Nat.le_trans (Nat.add_le_add_right hlin.2 2) (by decide)), hls])
  obtain ⟨env9, st9, e9, ⟨ls9, x9, h9, _, b9⟩⟩ := forL_inv (t := tgN 9) (b := bendBody ad) (g := fun (i : Nat) => SK.D.int (0 + (i : Nat))) (fun j env st => ∃ ls x9, env = [a0, a1, .val (.ref n), a3, .val (.lst (rows.map .tup)), .val (.str (T (txtOf rows))), .val (.str (reprR rows)), .val (.ref st3.length), .val (.lst (DS ls)), x9, a10, a11, a12] ∧ LsOk (12 + j) (88 + 8 * j) ls ∧ Bag n (kk + 241 + 8 * j) st) 4 (fun a k env st hk ⟨ls, x9, he, hL, hB⟩ => by
    subst he
    obtain ⟨ls', st', e, hL', hB'⟩ := bend_step ad (a0 := a0) (a1 := a1) (a3 := a3) (a4 := .val (.lst (rows.map .tup))) (a5 := .val (.str (T (txtOf rows)))) (a6 := .val (.str (reprR rows))) (a7 := .val (.ref st3.length)) (a9 := .val (.int (0 + (a : Nat)))) (a10 := a10) (a11 := a11) (a12 := a12) hB (by omega) hL hk
    exact ⟨_, _, st', rfl, e, ls', _, rfl, hL', hB'.mono (by omega)⟩) (List.range' 0 4) 0 [a0, a1, .val (.ref n), a3, .val (.lst (rows.map .tup)), .val (.str (T (txtOf rows))), .val (.str (reprR rows)), .val (.ref st3.length), .val (.lst (DS ls)), a9, a10, a11, a12] st6 ⟨ls, a9, rfl, hs, hB6⟩ (by simp)
  rw [List.length_range'] at b9
  refine ⟨.val (.lst (rows.map .tup)), .val (.str (T (txtOf rows))), .val (.str (reprR rows)), .val (.ref st3.length), .val (.lst (DS ls9)), x9, st9, ?_, b9.mono (by omega)⟩
  refine (seq_nx (sSet_ok (eFrz_ok e2'))).trans ((seq_nx e3).trans ((seq_nx ((sIf_f e4).trans sNil_ok)).trans ((seq_nx (sSet_ok (eFrz_ok (eCall_ok (aCons_ok (eVar_ok rfl) aNil_ok) (said_back ad hG hl st3).2)))).trans ((seq_nx (appV_ok (eVar_ok rfl) g4 eC_ok (by rw [List.length_map]; omega))).trans ((seq_nx ((sIf_f (eS _ _ rfl rfl)).trans sNil_ok)).trans ((seq_nx (sSet_ok (e8 _ _ rfl))).trans ?_))))))
  refine (sFor_ok (rng_ok (n := 4) eC_ok (by decide))).trans (e9.trans ?_)
  rw [h9]
end K83P
end
section
set_option Elab.async false
set_option linter.all false
set_option autoImplicit false
set_option maxRecDepth 100000
set_option maxHeartbeats 4000000
namespace K83P
open PySem PySem.Spec PyProof.Rows L2 SK K83
theorem F_rec_odd (ad : Ad) {d : SK.D} {st : List MO} (h : gIsi tb_str st d = some (.bl false)) : F_read_record ad [d] st = .exc (.ref ad.cNoText) [("line", .int (-1))] st := by
  have q1 : tNotI (eTest (e1s (eVar 0) (gIsi tb_str))) [.val d, .no, .no, .no, .no] st = .ok true st := not_ok (x := false) (eTest_ok (e1s_ok (eVar_ok rfl) h))
  have : b_read_record ad [.val d, .no, .no, .no, .no] st = .exc (.ref ad.cNoText) [("line", .int (-1))] [.val d, .no, .no, .no, .no] st := by
    unfold b_read_record
    unfold sSeq
    rw [(sIf_t q1).trans (sRaise1_ok (e1_ok eC_ok (show gNeg (.int 1) = some (.int (-1)) from rfl)))]; rfl
  show runF 5 (b_read_record ad) [d] st = _
  unfold runF
  have e0 : List.map Sl.val [d] ++ List.replicate (5 - [d].length) Sl.no = [.val d, .no, .no, .no, .no] := rfl
  rw [e0, this]
theorem F_odd (ad : Ad) {d : SK.D} {st : List MO} (h : gIsi tb_str st d = some (.bl false)) : F_law_said ad [d] st = .ok (.v (.int (-1))) st := by
  refine run_rt ?_
  show sTry 1 (sRet (eCall (aCons (eVar 0) (aNil)) (F_read_record ad))) (xm83 ad) (g83 ad) [.val d, .no] st = _
  have e : sRet (eCall (aCons (eVar 0) (aNil)) (F_read_record ad)) [.val d, .no] st = .exc (.ref ad.cNoText) [("line", .int (-1))] [.val d, .no] st := by
    unfold sRet; rw [eCall_ok (aCons_ok (eVar_ok rfl) aNil_ok) (F_rec_odd ad h)]; rfl
  unfold sTry
  rw [e]
  dsimp only
  rw [show xm83 ad (.ref ad.cNoText) = some true by unfold xm83; rw [if_pos rfl]]
  rfl
theorem bls_true : ∀ {xs : List SK.D}, (∀ y ∈ xs, y = .bl true) → gAll [.lst xs] = some (.bl true) := by
  intro xs h
  have : D.bls xs = some (xs.map fun _ => true) := by
    induction xs with
    | nil => rfl
    | cons x r ih =>
      rw [h x (List.mem_cons_self ..)]
      show (D.bls r).map (true :: ·) = _
      rw [ih fun y hy => h y (List.mem_cons_of_mem _ hy)]; rfl
  show (D.bls xs).map _ = _
  rw [this]
  simp
abbrev oddL : List SK.D := [.non, .int 3, .bl true, .lst [.str "lay"], .tup [.str "lay"], .lst []]
abbrev oddT (ad : Ad) : M Bool := tNotI (eTest (eA (aCons (eFrz (eLcO (wLst (eA (aCons (eC .non) (aCons (eC (.int 3)) (aCons (eC (.bl true)) (aCons (eA (aCons (eC (.str "lay")) (aNil)) gLst) (aCons (eA (aCons (eC (.str "lay")) (aNil)) gTup) (aCons (eA (aNil) gLst) (aNil))))))) gLst)) [12] (tgN 12) (tYesI) (e2 (eFrz (eCall (aCons (eVar 12) (aNil)) (F_law_said ad))) (e1 (eC (.int 1)) gNeg) gEq))) (aNil)) gAll))
theorem odd_ok (ad : Ad) {env : En} {st : List MO} (hl : 12 < env.length) : oddT ad env st = .ok false st := by
  refine not_ok (x := true) (eTest_ok (eA_ok (aCons_ok (eFrz_ok (eLcO_pure (ds := oddL) (fun _ => true) (fun _ => .bl true) (by rfl) (by decide) fun d hd => ⟨_, rfl, rfl, fun _ => ?_⟩)) aNil_ok) (by rfl)))
  have hlen : 12 < (cEnv env [12]).length := by unfold cEnv; rw [wipeE_length, List.length_map]; exact hl
  refine e2_ok (eFrz_ok (eCall_ok (aCons_ok (eVar_ok (List.getElem?_set_self hlen)) aNil_ok) (F_odd ad ?_))) (e1_ok eC_ok (by rfl)) (by rfl)
  simp only [List.mem_cons, List.not_mem_nil, or_false] at hd
  rcases hd with rfl | rfl | rfl | rfl | rfl | rfl <;> rfl
abbrev outBody (ad : Ad) : S := (sSeq (sSetS 2 (eCall (aCons (eVar 0) (aCons (eVar 1) (aNil))) (F_law_bag ad)))
    (sSeq (sFor (wRng1 (eC (.int 8))) (tgN 3) (turnBody ad))
    (sIf (oddT ad) (sRet (eRet (eC (.bl false)))) (sNil))))
theorem outer_step (ad : Ad) {ns : List Int} {k : Nat} {a2 a3 a4 a5 a6 a7 a8 a9 a10 a11 a12 : Sl} {st : List MO} :
    ∃ y2 y3 y4 y5 y6 y7 y8 y9 st', outBody ad [.val (.scr (ns.map .int)), .val (.int (0 + (k : Nat))), a2, a3, a4, a5, a6, a7, a8, a9, a10, a11, a12] st = .nx [.val (.scr (ns.map .int)), .val (.int (0 + (k : Nat))), y2, y3, y4, y5, y6, y7, y8, y9, a10, a11, a12] st' := by
  obtain ⟨a, b, e1, h1, h2, h3⟩ := F_bag ad (ns := ns) (i := k) (st := st)
  have hB : Bag st.length 0 (st ++ [.lst [.int a, .int b, .int 0]]) := ⟨a, b, 0, by simp, h1, h2, h3, by omega, by omega⟩
  obtain ⟨env2, st2, e2', ⟨x3, y4, y5, y6, y7, y8, y9, he, _⟩⟩ := forL_inv (t := tgN 3) (b := turnBody ad) (g := fun (i : Nat) => SK.D.int (0 + (i : Nat))) (fun j env st2 => ∃ x3 y4 y5 y6 y7 y8 y9, env = [.val (.scr (ns.map .int)), .val (.int (0 + (k : Nat))), .val (.ref st.length), x3, y4, y5, y6, y7, y8, y9, a10, a11, a12] ∧ Bag st.length (300 * j) st2) 8 (fun a j env st2 hj ⟨x3, y4, y5, y6, y7, y8, y9, he, hB⟩ => by
    subst he
    obtain ⟨z4, z5, z6, z7, z8, z9, st', e, hB'⟩ := turn_step ad (a0 := .val (.scr (ns.map .int))) (a1 := .val (.int (0 + (k : Nat)))) (a3 := .val (.int (0 + (a : Nat)))) (a4 := y4) (a5 := y5) (a6 := y6) (a7 := y7) (a8 := y8) (a9 := y9) (a10 := a10) (a11 := a11) (a12 := a12) hB (by omega)
    exact ⟨_, _, st', rfl, e, _, _, _, _, _, _, _, rfl, hB'.mono (by omega)⟩) (List.range' 0 8) 0 [.val (.scr (ns.map .int)), .val (.int (0 + (k : Nat))), .val (.ref st.length), a3, a4, a5, a6, a7, a8, a9, a10, a11, a12] (st ++ [.lst [.int a, .int b, .int 0]]) ⟨_, _, _, _, _, _, _, rfl, hB.mono (by omega)⟩ (by simp)
  subst he
  refine ⟨_, _, _, _, _, _, _, _, st2, (seq_nx (sSetS_o (eCall_ok (aCons_ok (eVar_ok rfl) (aCons_ok (eVar_ok rfl) aNil_ok)) (by rw [Int.zero_add]; exact e1)))).trans ((seq_nx ((sFor_ok (rng_ok (n := 8) eC_ok (by decide))).trans e2')).trans ((sIf_f (odd_ok ad (by simp))).trans sNil_ok))⟩
/-! the near texts -/
def SL (n : Nat) (d : SK.D) : Prop := ∃ l, d = .str (T l) ∧ Lin l n
def chk : SK.D → Bool
  | .str x => x.cps.toList.all (fun c => decide (c < 128)) && decide (x.cps.toList.length ≤ 100)
  | _ => false
theorem chk_ok {d : SK.D} (h : chk d = true) : SL 100 d := by
  cases d with
  | str x =>
    unfold chk at h
    rw [Bool.and_eq_true, decide_eq_true_eq, List.all_eq_true] at h
    exact ⟨x.cps.toList, rfl, fun c hc => of_decide_eq_true (h.1 c hc), h.2⟩
  | _ => cases h
theorem gAdd_S {a b : List Nat} (h : a.length + b.length ≤ 1000) : gAdd (.str (T a)) (.str (T b)) = some (.str (T (a ++ b))) := by
  unfold gAdd
  dsimp only
  rw [T_len, T_len, if_pos (Nat.le_trans h (by decide)), show T a ++ T b = T (a ++ b) from congrArg Str.mk (by simp [T, SX.S])]
structure NL (m : Nat) (xs : List SK.D) : Prop where
  len : xs.length ≤ m
  all : ∀ d ∈ xs, SL 200 d
theorem NL.of {m : Nat} {xs : List SK.D} (h : xs.all chk = true) (hl : xs.length ≤ m) : NL m xs := ⟨hl, fun d hd => by
  obtain ⟨l, e, h1, h2⟩ := chk_ok (List.all_eq_true.mp h d hd)
  exact ⟨l, e, h1, by omega⟩⟩
theorem NL.app {m k : Nat} {xs ys : List SK.D} (h : NL m xs) (h2 : NL k ys) : NL (m + k) (xs ++ ys) := ⟨by rw [List.length_append]; have := h.len; have := h2.len; omega, fun d hd => by
  rcases List.mem_append.mp hd with q | q
  · exact h.all d q
  · exact h2.all d q⟩
theorem gAdd_L {xs ys : List SK.D} {m k : Nat} (h : NL m xs) (h2 : NL k ys) (hm : m + k ≤ 1000) : gAdd (.lst xs) (.lst ys) = some (.lst (xs ++ ys)) := by
  unfold gAdd
  dsimp only
  have := h.len; have := h2.len
  rw [if_pos (Nat.le_trans (show xs.length + ys.length ≤ 1000 by omega) (by decide))]
theorem reps_ok {a b : Str} {n : Int} (h : mulOkB b n = true) (h2 : a.length + (Txt.mul b n).length ≤ sizeLine) {env : En} {st : List MO} : e2 (eC (.str a)) (e2 (eC (.str b)) (eC (.int n)) gMulS) gAdd env st = .ok (.str (a ++ Txt.mul b n)) st :=
  e2_ok eC_ok (e2_ok eC_ok eC_ok (by unfold gMulS; dsimp only; rw [if_pos h])) (by unfold gAdd; dsimp only; rw [if_pos h2])
theorem lst_ok {fs : M (List SK.D)} {env : En} {st : List MO} {xs : List SK.D} (h : fs env st = .ok xs st) (hl : xs.length ≤ 1000) : eA fs SK.gLst env st = .ok (.lst xs) st := eA_ok h (by unfold SK.gLst; rw [if_pos (Nat.le_trans hl (by decide))])
/-- each of a list with words ahead of it -/
theorem pre_ok {p : List Nat} (hp : Asc p) (hl : p.length ≤ 50) {m : Nat} {f : M (List SK.D)} {xs : List SK.D} {env : En} {st : List MO} (hf : f env st = .ok xs st) (hx : ∀ d ∈ xs, SL 100 d) (hm : xs.length ≤ m) (hm2 : m ≤ 1000) (h5 : 5 < env.length) {z : Str} (hz : z = T p) :
    ∃ ys, eFrz (eLcO f [5] (tgN 5) (tYesI) (e2 (eC (.str z)) (eVar 5) gAdd)) env st = .ok (.lst ys) st ∧ NL m ys := by
  subst hz
  have hlen : 5 < (cEnv env [5]).length := by unfold cEnv; rw [wipeE_length, List.length_map]; exact h5
  obtain ⟨ys, st', e, h1, h2, h3⟩ := eLcO_run (l := xs) (g := fun d => d) (vs := [5]) (t := tgN 5) (e := e2 (eC (.str (T p))) (eVar 5) gAdd) (fun _ st' => st' = st) (fun d => SL 200 d) (hf.trans (by simp)) (by omega) 0 xs.length rfl (by omega) fun d hd k st' _ hs => by
    subst hs
    obtain ⟨l, rfl, h1, h2⟩ := hx d hd
    refine ⟨_, rfl, .str (T (p ++ l)), st', e2_ok eC_ok (eVar_ok (List.getElem?_set_self hlen)) (gAdd_S (by omega)), ⟨p ++ l, rfl, fun c hc => ?_, by rw [List.length_append]; omega⟩, rfl⟩
    rcases List.mem_append.mp hc with q | q
    · exact hp c q
    · exact h1 c q
  rw [h3] at e
  exact ⟨ys, eFrz_ok e, by omega, h2⟩
theorem cutL_mem {α : Type} {xs : List α} {lo hi : Option Int} {x : α} (h : x ∈ cutL xs lo hi) : x ∈ xs := by
  unfold cutL at h
  first
  | exact List.mem_of_mem_drop (List.mem_of_mem_take h)
  | exact List.mem_of_mem_take (List.mem_of_mem_drop h)
theorem cutL_le {α : Type} (xs : List α) (lo hi : Option Int) : (cutL xs lo hi).length ≤ xs.length := by
  unfold cutL
  simp only [List.length_take, List.length_drop]
  omega
end K83P
end
section
set_option Elab.async false
set_option linter.all false
set_option autoImplicit false
set_option maxRecDepth 100000
set_option maxHeartbeats 4000000
namespace K83P
open PySem PySem.Spec PyProof.Rows L2 SK K83
structure N1 (m : Nat) (xs : List SK.D) : Prop where
  len : xs.length ≤ m
  all : ∀ d ∈ xs, SL 100 d
theorem N1.of {m : Nat} {xs : List SK.D} (h : xs.all chk = true) (hl : xs.length ≤ m) : N1 m xs := ⟨hl, fun d hd => chk_ok (List.all_eq_true.mp h d hd)⟩
theorem N1.nl {m : Nat} {xs : List SK.D} (h : N1 m xs) : NL m xs := ⟨h.len, fun d hd => by
  obtain ⟨l, e, h1, h2⟩ := h.all d hd
  exact ⟨l, e, h1, by omega⟩⟩
theorem N1.app {m k : Nat} {xs ys : List SK.D} (h : N1 m xs) (h2 : N1 k ys) : N1 (m + k) (xs ++ ys) := ⟨by rw [List.length_append]; have := h.len; have := h2.len; omega, fun d hd => by
  rcases List.mem_append.mp hd with q | q
  · exact h.all d q
  · exact h2.all d q⟩
theorem N1.cut {m : Nat} {xs : List SK.D} (h : N1 m xs) (lo hi : Option Int) : N1 m (cutL xs lo hi) := ⟨Nat.le_trans (cutL_le ..) h.len, fun d hd => h.all d (cutL_mem hd)⟩
/-- one more list is put behind what slot 10 holds -/
theorem more_ok {env : En} {st : List MO} {xs ys : List SK.D} {m k : Nat} {f : M SK.D} (h10 : env[10]? = some (.val (.lst xs))) (h : N1 m xs) (hf : f env st = .ok (.lst ys) st) (h2 : N1 k ys) (hm : m + k ≤ 1000) : sSet 10 (e2 (eVar 10) f gAdd) env st = .nx (env.set 10 (.val (.lst (xs ++ ys)))) st :=
  sSet_ok (e2_ok (eVar_ok h10) hf (gAdd_L h.nl h2.nl hm))
theorem law_true (ad : Ad) (ns : List Int) : ∃ st, F_law ad [.scr (ns.map .int)] [] = .ok (.v (.bl true)) st := by
  obtain ⟨m, hm, hm4⟩ : ∃ m : Nat, wRng1 (eA (aCons (eC (.int 2)) (aCons (eA (aCons (eC (.int 4)) (aCons (e1s (eVar 0) gLen) (aNil))) gMin2) (aNil))) gMax2) [.val (.scr (ns.map .int)), .no, .no, .no, .no, .no, .no, .no, .no, .no, .no, .no, .no] [] = .ok ((List.range' 0 m).map fun (i : Nat) => SK.D.int (0 + (i : Nat))) [] ∧ m ≤ 4 := by
    have e1 : e1s (eVar 0) gLen [.val (.scr (ns.map .int)), .no, .no, .no, .no, .no, .no, .no, .no, .no, .no, .no, .no] [] = .ok (.int ns.length) [] := e1s_ok (eVar_ok rfl) (by show some (SK.D.int ((ns.map SK.D.int).length : Nat)) = _; rw [List.length_map])
    have e2' := eA_ok (o := gMin2) (aCons_ok (eC_ok (d := .int 4)) (aCons_ok e1 aNil_ok)) rfl
    have e3 := eA_ok (o := gMax2) (aCons_ok (eC_ok (d := .int 2)) (aCons_ok e2' aNil_ok)) rfl
    have hz : ∃ q : Nat, (if (if (ns.length : Int) < 4 then (ns.length : Int) else 4) > 2 then (if (ns.length : Int) < 4 then (ns.length : Int) else 4) else 2) = (q : Int) ∧ q ≤ 4 := by
      by_cases h1 : (ns.length : Int) < 4
      · rw [if_pos h1]
        by_cases h2 : (ns.length : Int) > 2
        · rw [if_pos h2]; exact ⟨_, rfl, by omega⟩
        · rw [if_neg h2]; exact ⟨2, rfl, by decide⟩
      · rw [if_neg h1]; exact ⟨4, rfl, by decide⟩
    obtain ⟨q, hq, hq4⟩ := hz
    rw [hq] at e3
    exact ⟨q, rng_ok e3 (by omega), hq4⟩
  obtain ⟨env1, st1, w1, ⟨a1, a2, a3, a4, a5, a6, a7, a8, a9, he⟩⟩ := forL_inv (t := tgN 1) (b := outBody ad) (g := fun (i : Nat) => SK.D.int (0 + (i : Nat))) (fun j env st2 => ∃ a1 a2 a3 a4 a5 a6 a7 a8 a9, env = [.val (.scr (ns.map .int)), a1, a2, a3, a4, a5, a6, a7, a8, a9, .no, .no, .no]) 4 (fun a j env st2 hj ⟨a1, a2, a3, a4, a5, a6, a7, a8, a9, he⟩ => by
    subst he
    obtain ⟨y2, y3, y4, y5, y6, y7, y8, y9, st', e⟩ := outer_step ad (ns := ns) (k := a) (a2 := a2) (a3 := a3) (a4 := a4) (a5 := a5) (a6 := a6) (a7 := a7) (a8 := a8) (a9 := a9) (a10 := .no) (a11 := .no) (a12 := .no) (st := st2)
    exact ⟨_, _, st', rfl, e, _, _, _, _, _, _, _, _, _, rfl⟩) (List.range' 0 m) 0 _ [] ⟨.no, .no, .no, .no, .no, .no, .no, .no, .no, rfl⟩ (by simp; omega)
  subst he
  have z1 := (sFor_ok (t := tgN 1) (b := outBody ad) hm).trans w1
  obtain ⟨L1, n1, z2⟩ : ∃ L1, N1 8 L1 ∧ ∀ env : En, eA (aCons (eC (.str "lay\n")) (aCons (eC (.str "\nlay")) (aCons (eC (.str "change 0 x 4")) (aCons (eC (.str "change 0 w 1")) (aCons (eC (.str "put 0 5 none")) (aCons (eC (.str "read 0 -0")) (aCons (eC (.str "read 0 00")) (aCons (eC (.str "lay 1")) (aNil))))))))) gLst env st1 = .ok (.lst L1) st1 :=
    ⟨[.str "lay\n", .str "\nlay", .str "change 0 x 4", .str "change 0 w 1", .str "put 0 5 none", .str "read 0 -0", .str "read 0 00", .str "lay 1"], .of (by decide +kernel) (by decide), fun env => lst_ok rfl (by decide)⟩
  obtain ⟨L2, n2, z3⟩ : ∃ L2, N1 5 L2 ∧ ∀ env : En, eA (aCons (eC (.str "lookup -1 0")) (aCons (eC (.str "read 0 +1")) (aCons (eC (.str "Lay")) (aCons (eC (.str "lookup 0 -1")) (aCons (e2 (eC (.str "take 0 ")) (e2 (eC (.str "1")) (eC (.int 21)) gMulS) gAdd) (aNil)))))) gLst env st1 = .ok (.lst L2) st1 :=
    ⟨[.str "lookup -1 0", .str "read 0 +1", .str "Lay", .str "lookup 0 -1", .str ("take 0 " ++ Txt.mul "1" 21)], .of (by decide +kernel) (by decide), fun env => lst_ok (aCons_ok rfl (aCons_ok rfl (aCons_ok rfl (aCons_ok rfl (aCons_ok (reps_ok (by decide +kernel) (by decide +kernel)) rfl))))) (by decide)⟩
  obtain ⟨L3, n3, z4⟩ : ∃ L3, N1 3 L3 ∧ ∀ env : En, eA (aCons (e2 (eC (.str "read 0 -")) (e2 (eC (.str "1")) (eC (.int 20)) gMulS) gAdd) (aCons (e2 (eC (.str "read 0 -")) (e2 (eC (.str "1")) (eC (.int 21)) gMulS) gAdd) (aCons (eC (.str "put 0 -7 3")) (aNil)))) gLst env st1 = .ok (.lst L3) st1 :=
    ⟨[.str ("read 0 -" ++ Txt.mul "1" 20), .str ("read 0 -" ++ Txt.mul "1" 21), .str "put 0 -7 3"], .of (by decide +kernel) (by decide), fun env => lst_ok (aCons_ok (reps_ok (by decide +kernel) (by decide +kernel)) (aCons_ok (reps_ok (by decide +kernel) (by decide +kernel)) (aCons_ok rfl rfl))) (by decide)⟩
  obtain ⟨L4, n4, z5⟩ : ∃ L4, N1 6 L4 ∧ ∀ env : En, eA (aCons (eC (.str "put 0 none 3")) (aCons (eC (.str "put none 5 3")) (aCons (eC (.str "lookup none 0")) (aCons (eC (.str "take none 1")) (aCons (eC (.str "read none 5")) (aCons (eC (.str "change none x 1")) (aNil))))))) gLst env st1 = .ok (.lst L4) st1 :=
    ⟨[.str "put 0 none 3", .str "put none 5 3", .str "lookup none 0", .str "take none 1", .str "read none 5", .str "change none x 1"], .of (by decide +kernel) (by decide), fun env => lst_ok rfl (by decide)⟩
  obtain ⟨L5, n5, z6⟩ : ∃ L5, N1 7 L5 ∧ ∀ env : En, eA (aCons (eC (.str "change 0 none 1")) (aCons (eC (.str "change 0 x none")) (aCons (eC (.str "lay none")) (aCons (eC (.str "none")) (aCons (eC (.str "put 0 5 3 none")) (aCons (eC (.str "lookup 0")) (aCons (eC (.str "take 0")) (aNil)))))))) gLst env st1 = .ok (.lst L5) st1 :=
    ⟨[.str "change 0 none 1", .str "change 0 x none", .str "lay none", .str "none", .str "put 0 5 3 none", .str "lookup 0", .str "take 0"], .of (by decide +kernel) (by decide), fun env => lst_ok rfl (by decide)⟩
  have n12 := n1.app n2
  have n13 := n12.app n3
  have n14 := n13.app n4
  have n15 := n14.app n5
  generalize hL : L1 ++ L2 ++ L3 ++ L4 ++ L5 = L at n15
  have w : ∀ z10, [Sl.val (.scr (ns.map .int)), a1, a2, a3, a4, a5, a6, a7, a8, a9, z10, .no, .no][10]? = some z10 := fun _ => rfl
  have z7 : ∃ LL, NL 87 LL ∧ e2 (e2 (eVar 10) (eFrz (eLcO (wLst (eVar 10)) [5] (tgN 5) (tYesI) (e2 (eC (.str "lay\n")) (eVar 5) gAdd))) gAdd) (eFrz (eLcO (wLst (eSl (eVar 10) (oSome (e1 (eC (.int 7)) gNeg)) (oNone))) [5] (tgN 5) (tYesI) (e2 (eC (.str "lookup 0 none\n")) (eVar 5) gAdd))) gAdd [.val (.scr (ns.map .int)), a1, a2, a3, a4, a5, a6, a7, a8, a9, .val (.lst L), .no, .no] st1 = .ok (.lst LL) st1 := by
    obtain ⟨A, ea, na⟩ := pre_ok (p := [108, 97, 121, 10]) (by decide) (by decide) (m := 29) (f := wLst (eVar 10)) (xs := L) (env := [.val (.scr (ns.map .int)), a1, a2, a3, a4, a5, a6, a7, a8, a9, .val (.lst L), .no, .no]) (st := st1) (z := "lay\n") (wLst_ok (eVar_ok rfl)) n15.all n15.len (by decide) (by simp) (by decide +kernel)
    obtain ⟨B, eb, nb⟩ := pre_ok (p := [108, 111, 111, 107, 117, 112, 32, 48, 32, 110, 111, 110, 101, 10]) (by decide) (by decide) (m := 29) (f := wLst (eSl (eVar 10) (oSome (e1 (eC (.int 7)) gNeg)) (oNone))) (xs := cutL L (some (-7)) none) (env := [.val (.scr (ns.map .int)), a1, a2, a3, a4, a5, a6, a7, a8, a9, .val (.lst L), .no, .no]) (st := st1) (z := "lookup 0 none\n") (wLst_ok (eSl_ok (eVar_ok rfl) (oSome_ok (e1_ok eC_ok rfl)) oNone_ok rfl)) (n15.cut _ _).all (n15.cut _ _).len (by decide) (by simp) (by decide +kernel)
    exact ⟨L ++ A ++ B, (n15.nl.app na).app nb, e2_ok (e2_ok (eVar_ok rfl) ea (gAdd_L n15.nl na (by decide))) eb (gAdd_L (n15.nl.app na) nb (by decide))⟩
  obtain ⟨LL, nLL, z7⟩ := z7
  obtain ⟨ys, st2, z8, _, hy, _⟩ := eLcO_run (vs := [5]) (t := tgN 5) (l := LL) (g := fun d => d) (env := [.val (.scr (ns.map .int)), a1, a2, a3, a4, a5, a6, a7, a8, a9, .val (.lst LL), .no, .no]) (f := wLst (eVar 10)) (st0 := st1) (st := st1) (e := e2 (e1s (eFrz (eCall (aCons (eVar 5) (aNil)) (F_law_said ad))) gRepr) (e1s (eFrz (eCall (aCons (eVar 5) (aNil)) (F_law_due ad))) gRepr) gEq) (fun _ _ => True) (fun d => d = .bl true) (by rw [wLst_ok (eVar_ok rfl)]; simp) (by have := nLL.len; omega) 0 LL.length trivial (by omega) fun d hd k st' _ _ => by
    obtain ⟨l, rfl, h1, h2⟩ := nLL.all d hd
    have hlen : 5 < (cEnv [.val (.scr (ns.map .int)), a1, a2, a3, a4, a5, a6, a7, a8, a9, .val (.lst LL), .no, .no] [5]).length := by unfold cEnv; rw [wipeE_length, List.length_map]; simp
    obtain ⟨x, _, q⟩ := said_due ad (t := l) ⟨h1, by omega⟩ (f := eVar 5) (env := (cEnv [.val (.scr (ns.map .int)), a1, a2, a3, a4, a5, a6, a7, a8, a9, .val (.lst LL), .no, .no] [5]).set 5 (.val (.str (T l)))) (fun st => eVar_ok (List.getElem?_set_self hlen)) st'
    exact ⟨_, rfl, _, _, q, rfl, trivial⟩
  refine ⟨st2, ?_⟩
  unfold F_law b_law
  refine run_rt ((seq_nx z1).trans ((seq_nx (sSet_ok (z2 _))).trans ((seq_nx (more_ok rfl n1 (z3 _) n2 (by decide))).trans ((seq_nx (more_ok rfl n12 (z4 _) n3 (by decide))).trans ((seq_nx (more_ok rfl n13 (z5 _) n4 (by decide))).trans ((seq_nx (more_ok rfl n14 (z6 _) n5 (by decide))).trans ?_))))))
  rw [hL]
  exact (seq_nx (sSet_ok z7)).trans (sRet_ok (eRet_ok (eA_ok (aCons_ok (eFrz_ok z8) aNil_ok) (o := gAll) (z := .bl true) (bls_true hy))))
end K83P
end
section
set_option Elab.async false
set_option linter.all false
set_option autoImplicit false
set_option maxRecDepth 100000
set_option maxHeartbeats 1000000
/-! what the head tells: makers of exceptions, tables -/
namespace SK
open PySem PySem.Spec PyProof.Rows L2 He
open PySem.W (ksEnv ksFn)
abbrev FnC : Type := Option (Str × Str × Arguments × FuncBody × Scope × Addr × List Str × Addr)
def fnC (K : Fg) (f : Addr) : FnC := match K.lookup f with
  | some ⟨_, _, .func fd, _⟩ => some (fd.name, fd.qualname, fd.params, fd.body, fd.scope, fd.globals, fd.closure.map (·.1), fd.builtins)
  | _ => none
/-- an exception's own maker: its class's name, the def's parts -/
structure XiD where
  cls : Str
  qual : Str
  params : Arguments
  body : List Stmt
  scope : Scope
def XiD.val (d : XiD) : FnC := some ("__init__", d.qual, d.params, .stmts d.body, d.scope, mainGlobals, ["__class__"], builtinsNs)
def xiA (K : Fg) (C : Str) : Addr := ma K (ga K C) "__init__"
def supB (K : Fg) (c f : Addr) (qual file : Str) : Bool := match K.lookup f with
  | some ⟨_, _, .func fd, _⟩ => PySem.W.codeIn K fd.code qual && (decide (fd.defaults = .none) && ((match fd.code with
    | .ref cda => (match K.lookup cda with
      | some ⟨_, _, .fields vs, _⟩ => (match (vs[2]? : Option Value) with
        | some (.str z _) => decide (file = z)
        | _ => false)
      | _ => false)
    | _ => false) && (match fd.closure with
    | [(_, cc)] => (match K.lookup cc with
      | some ⟨_, _, .cell (some (.ref D)), _⟩ => decide (D = c)
      | _ => false)
    | _ => false)))
  | _ => false
theorem supB_ok {P : Program} {K : Fg} {mg : Str → Option Value} {c f : Addr} {x qual file : Str} {params : Arguments} {body : List Stmt} {scope : Scope} (e : fnC K f = some (x, qual, params, FuncBody.stmts body, scope, mainGlobals, [("__class__" : Str)], builtinsNs))
    (h : supB K c f qual file = true) (hf : ((P.main.file : Str) == file) = true) (h1 : (P.main.scope.names.lookup ("super" : Str)).isSome = false) (h2 : mg "super" = none) (h3 : PySem.W.nsIn K cStatics "thirdparty.any" = some none) :
    ∃ fd, SupD P K mg x qual params body scope c f fd ∧ fd.defaults = .none := by
  unfold fnC at e
  unfold supB at h
  cases q : K.lookup f with
  | none => rw [q] at h; cases h
  | some o =>
    obtain ⟨oc, od, dt, osl⟩ := o
    rw [q] at h e
    cases dt with
    | func fd =>
      obtain ⟨n1, n2, n3, n4, n5, n6, n7, n8, n9, n10, n11, n12, n13, n14, n15⟩ := fd
      dsimp only at e h
      simp only [Option.some.injEq, Prod.mk.injEq] at e
      obtain ⟨e1, e2, e3, e4, e5, e6, e7, e8⟩ := e
      subst e1 e2 e3 e4 e5 e6 e8
      obtain ⟨k1, k2⟩ := ba h
      obtain ⟨k5, k6⟩ := ba k2
      obtain ⟨k3, k4⟩ := ba k6
      have k0 : n8 = .none := of_decide_eq_true k5
      split at k3
      · rename_i cda
        split at k3
        · rename_i ccl cdd vs ccs hcd
          split at k3
          · rename_i z tf hv
            split at k4
            · rename_i nm cc
              split at k4
              · rename_i cl cld D csl hcc
                have ez : file = z := of_decide_eq_true k3
                have eD : D = c := of_decide_eq_true k4
                subst ez eD
                have en : nm = "__class__" := by simpa using e7
                subst en
                exact ⟨_, ⟨⟨oc, od, n8, n9, n10, n11, n12, cda, n14, osl, cc, vs, file, tf, ccl, cl, cdd, cld, ccs, csl, rfl, q, k1, hcd, hv, hf, hcc⟩, h1, h2, h3⟩, k0⟩
              · cases k4
            · cases k4
          · cases k3
        · cases k3
      · cases k3
    | _ => cases h
def oexB (K : Fg) (C : Addr) : Bool := (match K.lookup C with
  | some ⟨.type t, _, .cls cd, sl⟩ => decide (t = "type") && ((match cd.mro with
    | .ref c :: bm => decide (c = C) && PySem.HandSPX.refsVE bm
    | _ => false) && (cd.hasDict && (!cd.hasDel && (match sl.toList with
    | [_, _, _, _, some (.builtin n), _] => decide (n = "ValueError.__new__")
    | _ => false))))
  | _ => false) && (eqO (PySem.W.findIn K (.ref C) "__setattr__") (some (some (.builtin "object.__setattr__"))) && (decide (PySem.W.subIn K (.ref C) (.type "BaseException") = some true) && (decide (PySem.W.typeIn K (.ref C) = some (.type "type")) && PySem.W.keepIn K (.ref C))))
theorem oexB_ok {K : Fg} {C : Addr} (h : oexB K C = true) : OexC K C := by
  obtain ⟨h1, h2⟩ := ba h
  obtain ⟨h3, h4⟩ := ba h2
  obtain ⟨h5, h6⟩ := ba h4
  obtain ⟨h7, h8⟩ := ba h6
  refine ⟨?_, eqO_ok h3, of_decide_eq_true h5, of_decide_eq_true h7, h8⟩
  split at h1
  · rename_i t dd cd sl q
    obtain ⟨k1, k2⟩ := ba h1
    obtain ⟨k3, k4⟩ := ba k2
    obtain ⟨k5, k6⟩ := ba k4
    obtain ⟨k7, k8⟩ := ba k6
    obtain ⟨n1, n2, n3, n4, n5, n6, n7, n8, n9, n10, n11⟩ := cd
    dsimp only at *
    split at k3
    · rename_i c bm
      obtain ⟨k9, k10⟩ := ba k3
      split at k8
      · rename_i k0 j1 j2 j3 n j5 hs
        have e1 : t = "type" := of_decide_eq_true k1
        have e2 : c = C := of_decide_eq_true k9
        have e3 : n = "ValueError.__new__" := of_decide_eq_true k8
        have e4 : n11 = false := by
          cases n11
          · rfl
          · cases k7
        have es : sl = #[k0, j1, j2, j3, some (.builtin n), j5] := by
          rw [← hs]
        subst e1 e2 e3 e4 es
        obtain rfl : n6 = true := k5
        exact ⟨n1, n5, n4, n2, bm, n7, n8, n9, n10, dd, k0, j1, j2, j3, j5, q, k10⟩
      · cases k8
    · cases k3
  · cases h1
def excCB (K : Fg) (D : Addr) : Bool := eqO (PySem.W.findIn K (.ref D) "__getattribute__") (some (some (.builtin "BaseException.__getattribute__"))) && (eqO (PySem.W.findIn K (.ref D) "__getattr__") (some none) && (decide (PySem.W.subIn K (.ref D) (.type "BaseException") = some true) &&
  (PySem.W.hasDictIn K D && (eqO (PySem.W.findIn K (.ref D) "__class__") (some (some (.builtin "object.__class__"))) && (eqO (PySem.W.specialIn K (.builtin "object.__class__") "__get__") (some (some (.builtin "getset_descriptor.__get__"))) &&
  (decide (PySem.W.takesIn K (.builtin "object.__class__") = some true) && decide (PySem.W.mroIn K D (.type "object") = some true)))))))
theorem excCB_ok {K : Fg} {D : Addr} (h : excCB K D = true) : ExcC K D := by
  obtain ⟨h1, h⟩ := ba h
  obtain ⟨h2, h⟩ := ba h
  obtain ⟨h3, h⟩ := ba h
  obtain ⟨h4, h⟩ := ba h
  obtain ⟨h5, h⟩ := ba h
  obtain ⟨h6, h⟩ := ba h
  obtain ⟨h7, h8⟩ := ba h
  exact ⟨eqO_ok h1, eqO_ok h2, of_decide_eq_true h3, h4, eqO_ok h5, eqO_ok h6, of_decide_eq_true h7, of_decide_eq_true h8⟩
/-- what fn_init1 asks of the class -/
def initB (K : Fg) (c f : Addr) (fld : Str) : Bool := eqO (PySem.W.findIn K (.ref c) "__init__") (some (some (.ref f))) && (decide (PySem.W.typeIn K (.ref f) = some (.type "function")) && (PySem.W.isClsIn K c && (decide (PySem.W.mroIn K c (.ref c) = some true) &&
  (decide (PySem.W.subIn K (.ref c) (.type "ValueError") = some true) && (eqO (PySem.W.ks_superIn K c c "__init__") (some (some (.builtin "ValueError.__init__"))) && (eqO (PySem.W.findIn K (.ref c) fld) (some none) && eqO (PySem.W.nsIn K cStatics "thirdparty.any") (some none)))))))
structure InitC (K : Fg) (c f : Addr) (fld : Str) : Prop where
  init : PySem.W.findIn K (.ref c) "__init__" = some (some (.ref f))
  ty : PySem.W.typeIn K (.ref f) = some (.type "function")
  cls : ∃ cd, PySem.W.clsIn K c = some cd
  sub : PySem.W.mroIn K c (.ref c) = some true
  ve : PySem.W.subIn K (.ref c) (.type "ValueError") = some true
  sup : PySem.W.ks_superIn K c c "__init__" = some (some (.builtin "ValueError.__init__"))
  no : PySem.W.findIn K (.ref c) fld = some none
  any : PySem.W.nsIn K cStatics "thirdparty.any" = some none
theorem initB_ok {K : Fg} {c f : Addr} {fld : Str} (h : initB K c f fld = true) : InitC K c f fld := by
  obtain ⟨h1, h⟩ := ba h
  obtain ⟨h2, h⟩ := ba h
  obtain ⟨h3, h⟩ := ba h
  obtain ⟨h4, h⟩ := ba h
  obtain ⟨h5, h⟩ := ba h
  obtain ⟨h6, h⟩ := ba h
  obtain ⟨h7, h8⟩ := ba h
  exact ⟨eqO_ok h1, of_decide_eq_true h2, Option.isSome_iff_exists.mp h3, of_decide_eq_true h4, of_decide_eq_true h5, eqO_ok h6, eqO_ok h7, eqO_ok h8⟩
/-! a table of strings -/
def rowB : List DictEntry → List (Str × Str) → Bool
  | [], [] => true
  | e :: es, (x, z) :: r => (match e.key with
    | .str y _ => decide (y = x)
    | _ => false) && ((match e.val with
    | .str y _ => decide (y = z)
    | _ => false) && rowB es r)
  | _, _ => false
theorem rowB_no : ∀ {l : List DictEntry} {rows : List (Str × Str)}, rowB l rows = true → l.any (·.refKey) = false
  | [], [], _ => rfl
  | [], _ :: _, h => by cases h
  | _ :: _, [], h => by cases h
  | e :: es, (x, z) :: r, h => by
    obtain ⟨h1, h2⟩ := ba (show ((match e.key with
    | .str y _ => decide (y = x)
    | _ => false) && ((match e.val with
    | .str y _ => decide (y = z)
    | _ => false) && rowB es r)) = true from h)
    obtain ⟨_, h3⟩ := ba h2
    rw [List.any_cons, rowB_no h3, Bool.or_false]
    split at h1
    · rename_i y t q
      unfold DictEntry.refKey
      rw [q]
    · cases h1
theorem rowB_find : ∀ {l : List DictEntry} {rows : List (Str × Str)}, rowB l rows = true → ∀ z : Str, (l.find? (·.key.isStr z) = none ∧ rows.lookup z = none) ∨ ∃ (e : DictEntry) (y : Str) (t : Tok), l.find? (·.key.isStr z) = some e ∧ rows.lookup z = some y ∧ e.val = .str y t
  | [], [], _, z => .inl ⟨rfl, rfl⟩
  | [], _ :: _, h, _ => by cases h
  | _ :: _, [], h, _ => by cases h
  | e :: es, (x, v) :: r, h, z => by
    obtain ⟨h1, h2⟩ := ba (show ((match e.key with
    | .str y _ => decide (y = x)
    | _ => false) && ((match e.val with
    | .str y _ => decide (y = v)
    | _ => false) && rowB es r)) = true from h)
    obtain ⟨h3, h4⟩ := ba h2
    split at h1
    · rename_i y t q
      obtain rfl : y = x := of_decide_eq_true h1
      split at h3
      · rename_i y2 t2 q2
        obtain rfl : y2 = v := of_decide_eq_true h3
        rw [List.find?_cons, List.lookup_cons]
        have hk : e.key.isStr z = (y == z) := by rw [q]; rfl
        rw [hk]
        by_cases hz : y = z
        · subst hz
          rw [beq_self_eq_true]
          exact .inr ⟨e, y2, t2, rfl, rfl, q2⟩
        · rw [show (y == z) = false from beq_eq_false_iff_ne.mpr hz, show (z == y) = false from beq_eq_false_iff_ne.mpr fun w => hz w.symm]
          exact rowB_find h4 z
      · cases h3
    · cases h1
def tabB (K : Fg) (d : Addr) (rows : List (Str × Str)) : Bool := match K.lookup d with
  | some ⟨_, _, .dict es _, _⟩ => rowB es.toList rows
  | _ => false
theorem tab_ok {K : Fg} {w : World} {d : Addr} {rows : List (Str × Str)} (h : tabB K d rows = true) (hk : ∃ es n, KDict K w d es n) : KDic K w d (rows.map fun q => (q.1, SK.D.str q.2)) := by
  refine ⟨hk, fun z => ?_⟩
  unfold tabB at h
  split at h
  · rename_i oc od es n sl q
    have hl : ∀ rows : List (Str × Str), (rows.map fun q => (q.1, SK.D.str q.2)).lookup z = (rows.lookup z).map .str := by
      intro rows
      induction rows with
      | nil => rfl
      | cons p r ih =>
        rw [List.map_cons, List.lookup_cons, List.lookup_cons]
        split
        · rfl
        · exact ih
    unfold PySem.W.nsIn
    rw [q]
    dsimp only
    rcases rowB_find h z with ⟨e1, e2⟩ | ⟨e, y, t, e1, e2, e3⟩
    · rw [e1, rowB_no h]
      exact ⟨none, rfl, .inl ⟨by rw [hl, e2]; rfl, rfl⟩⟩
    · rw [e1]
      exact ⟨some e.val, rfl, .inr ⟨e.val, .str y, .str y, by rw [hl, e2]; rfl, rfl, ⟨t, e3⟩, fun _ _ => rfl⟩⟩
  · cases h
/-- C.f at the class, a plain value -/
def cvalB (K : Fg) (C : Addr) (mc : Value) (f : Str) (i : Int) : Bool := match PySem.W.findCls K (.ref C) mc f with
  | some (.val (.int j _)) => decide (j = i)
  | _ => false
theorem cvalB_ok {K : Fg} {C : Addr} {mc : Value} {f : Str} {i : Int} (h : cvalB K C mc f i = true) : ∃ u, ClX.CVal K C mc f (.int i) u := by
  unfold cvalB at h
  split at h
  · rename_i j t q
    have e : j = i := of_decide_eq_true h
    subst e
    exact ⟨_, q, ⟨t, rfl⟩⟩
  · cases h
end SK
end
section
set_option Elab.async false
set_option linter.all false
set_option autoImplicit false
set_option maxRecDepth 100000
set_option maxHeartbeats 4000000
namespace K83
open PySem PySem.Spec PyProof.Rows L2 SK
def dG (x : Str) (i : Nat) (kws : List (Str × He.Dv)) : He.DefD := ⟨(x, none), x, x, defArgs (top i), defBody (top i), defScope (top i), [], kws⟩
def fn83 : List He.DefD := [dG "read_integer" 20 [("signed", .bl false)], dG "part_text" 21 [], dG "show_record" 22 [], dG "read_part" 23 [], dG "read_row" 24 [], dG "read_record" 25 [], dG "_law_bag" 27 [], dG "_law_take" 28 [], dG "_law_of" 29 [],
  dG "_law_bent_lines" 30 [], dG "_law_integer_of" 31 [], dG "_law_record_row" 32 [], dG "_law_row_line" 33 [], dG "_law_integer" 34 [], dG "_law_part" 35 [], dG "_law_row" 36 [], dG "_law_due" 37 [], dG "_law_said" 38 [], dG "law" 39 []]
def glo83 : List Str := ["read_integer", "part_text", "show_record", "read_part", "read_row", "read_record", "_law_bag", "_law_take", "_law_of", "_law_bent_lines", "_law_integer_of", "_law_record_row", "_law_row_line", "_law_integer", "_law_part", "_law_row", "_law_due", "_law_said", "law", "FIELDS", "ROWS", "Kind", "NoText", "NoCommand"]
def free83 : List Str := ["len", "int", "str", "all", "zip", "enumerate", "range", "max", "min", "abs", "tuple", "list", "repr", "isinstance", "ValueError", "super"]
def fa83 : List He.Fa := glo83.map .glo ++ (free83.map .free ++ [.int "MOST_DIGITS" 20, .str "DIGITS" "0123456789", .str "NOTHING" "none"])
def ts83 : List He.Tab := [(fun K => He.ga K "ROWS", ["change", "lookup", "read", "put", "take", "lay"])]
def cBody : Stmt → List Stmt
  | .ClassDef _ _ _ b _ _ _ _ _ _ _ => b
  | _ => []
abbrev sInit : Stmt := (cBody (top 3)).getD 0 (.Pass ⟨0, 0, 0, 0⟩)
def xi83 : XiD := ⟨"NoText", "NoText.__init__", defArgs sInit, defBody sInit, defScope sInit⟩
def rows83 : List (Str × Str) := [("change", "ofd"), ("lookup", "oa"), ("read", "ow"), ("put", "oio"), ("take", "oa"), ("lay", "")]
abbrev cNT (K : Fg) : Addr := He.ga K "NoText"
abbrev cKi (K : Fg) : Addr := He.ga K "Kind"
def ckA (K : Fg) : Bool := supB K (cNT K) (xiA K "NoText") "NoText.__init__" "/claim/cut.py" && (oexB K (cNT K) && (initB K (cNT K) (xiA K "NoText") "line" && (xfB K (cNT K) && excCB K (cNT K))))
def ckB (K : Fg) : Bool := decide (PySem.W.exmOne K (.ref (cNT K)) (.ref (cNT K)) = some true) && (decide (PySem.W.kitOne K (.ref (cNT K)) (.type "ValueError") = some true) && decide (PySem.W.kitOne K (.ref (cNT K)) (.ref (He.ga K "NoCommand")) = some false))
def ckC (K : Fg) : Bool := He.tupB K "FIELDS" [.str "x", .str "y", .str "z"] && (tabB K (He.ga K "ROWS") rows83 && (PySem.W.readsIn K (cKi K) (.type "type") && (decide (PySem.W.specialIn K (.ref (cKi K)) "__getattribute__" = some (some (.builtin "type.__getattribute__"))) && cvalB K (cKi K) (.type "type") "VALUES" 4)))
structure Says (w : World) (K : Fg) : Prop where
  t : He.SaysT fa83 fn83 ts83 w K
  x : fnC K (xiA K "NoText") = xi83.val
  a : ckA K = true
  b : ckB K = true
  c : ckC K = true
abbrev PG : Program := PySem.Challenge.rw_stalekeys_k83_record_texts.prog
section
variable {w : World} {K : Fg} {h : Heap} {mg : Str → Option Value}
theorem gl (X : K.In h) (G : h.Ns mainGlobals mg) (c : Says w K) (x : Str) (hx : (He.Fa.glo x) ∈ fa83) : mg x = some (.ref (He.ga K x)) :=
  He.glo_ok X G (List.all_eq_true.mp (He.ba (show ((fa83.all fun f => f.ok K) && fn83.all fun d => d.ok K) = true from congrArg (fun z : He.AlD => z.1) c.t.d)).1 _ hx)
theorem fr (X : K.In h) (G : h.Ns mainGlobals mg) (c : Says w K) (x : Str) (hx : (He.Fa.free x) ∈ fa83) : mg x = none :=
  He.free_ok X G (List.all_eq_true.mp (He.ba (show ((fa83.all fun f => f.ok K) && fn83.all fun d => d.ok K) = true from congrArg (fun z : He.AlD => z.1) c.t.d)).1 _ hx)
theorem gmem {x : Str} (h : x ∈ glo83) : (He.Fa.glo x) ∈ fa83 := List.mem_append_left _ (List.mem_map_of_mem h)
theorem fmem {x : Str} (h : x ∈ free83) : (He.Fa.free x) ∈ fa83 := List.mem_append_right _ (List.mem_append_left _ (List.mem_map_of_mem h))
theorem exc_of (X : K.In h) (G : h.Ns mainGlobals mg) (c : Says w K) : ∀ base : Heap, Nonempty (Exc1 PG w K mg base (cNT K) "line") := by
  obtain ⟨c1, c2⟩ := He.ba c.a
  obtain ⟨c3, c4⟩ := He.ba c2
  obtain ⟨c5, c6⟩ := He.ba c4
  have T := oexB_ok c3
  have I := initB_ok c5
  obtain ⟨fd, F, hdf⟩ := supB_ok (P := PG) (mg := mg) (x := "__init__") (qual := "NoText.__init__") (file := "/claim/cut.py") c.x c1 (by decide +kernel) (by kernel_rfl) (fr X G c "super" (fmem (by decide +kernel))) I.any
  obtain ⟨cd, hcd⟩ := I.cls
  intro base
  refine ⟨⟨T, xiA K "NoText", fd, "self", "line", I.init, I.ty, ?_, ?_⟩⟩
  · exact fn_init1 (k := 0) (self := ⟨"self", none, ⟨12, 17, 12, 21⟩⟩) (at_ := ⟨"line", none, ⟨12, 23, 12, 27⟩⟩) F ⟨rfl, rfl, rfl, by decide +kernel, rfl, by decide +kernel, by decide +kernel, by decide +kernel, rfl, rfl⟩ rfl T cd hcd I.sub I.ve I.sup I.no (fun env => do return (← importBound (.Call (.Name "super" ⟨13, 8, 13, 13⟩) [] [] ⟨13, 8, 13, 15⟩) env).getD true) (fun L cc cda => by rfl) (fun L cc cda => by rfl) (fun L cc cda => by rfl) (fun L cc cda => by rfl)
  · obtain ⟨oc, od, dV, kV, doc, pm, an, cda, ct, osl, cc, vs, file, tf, ccl, cl, cdd, cld, ccs, csl, e, _⟩ := F.ex
    subst e
    obtain rfl : dV = .none := hdf
    exact Binds.all fun us hl => match us, hl with | [_, _], _ => by rfl
theorem tx_of (X : K.In h) (G : h.Ns mainGlobals mg) (c : Says w K) : Nonempty (Tx PG w K mg) := by
  obtain ⟨fd0, F0⟩ := c.t.d.def_ 0 rfl
  obtain ⟨fd1, F1⟩ := c.t.d.def_ 1 rfl
  obtain ⟨fd2, F2⟩ := c.t.d.def_ 2 rfl
  obtain ⟨fd3, F3⟩ := c.t.d.def_ 3 rfl
  obtain ⟨fd4, F4⟩ := c.t.d.def_ 4 rfl
  obtain ⟨fd5, F5⟩ := c.t.d.def_ 5 rfl
  obtain ⟨fd6, F6⟩ := c.t.d.def_ 6 rfl
  obtain ⟨fd7, F7⟩ := c.t.d.def_ 7 rfl
  obtain ⟨fd8, F8⟩ := c.t.d.def_ 8 rfl
  obtain ⟨fd9, F9⟩ := c.t.d.def_ 9 rfl
  obtain ⟨fd10, F10⟩ := c.t.d.def_ 10 rfl
  obtain ⟨fd11, F11⟩ := c.t.d.def_ 11 rfl
  obtain ⟨fd12, F12⟩ := c.t.d.def_ 12 rfl
  obtain ⟨fd13, F13⟩ := c.t.d.def_ 13 rfl
  obtain ⟨fd14, F14⟩ := c.t.d.def_ 14 rfl
  obtain ⟨fd15, F15⟩ := c.t.d.def_ 15 rfl
  obtain ⟨fd16, F16⟩ := c.t.d.def_ 16 rfl
  obtain ⟨fd17, F17⟩ := c.t.d.def_ 17 rfl
  obtain ⟨fd18, F18⟩ := c.t.d.def_ 18 rfl
  obtain ⟨c1, c2⟩ := He.ba c.a
  obtain ⟨c3, c4⟩ := He.ba c2
  obtain ⟨c5, c6⟩ := He.ba c4
  obtain ⟨c7, c8⟩ := He.ba c6
  obtain ⟨b1, b2⟩ := He.ba c.b
  obtain ⟨b3, b4⟩ := He.ba b2
  obtain ⟨d1, d2⟩ := He.ba c.c
  obtain ⟨d3, d4⟩ := He.ba d2
  obtain ⟨d5, d6⟩ := He.ba d4
  obtain ⟨d7, d8⟩ := He.ba d6
  obtain ⟨u, hu⟩ := cvalB_ok d8
  have fs : ∀ f ∈ fa83, f.ok K = true := List.all_eq_true.mp (He.ba (show ((fa83.all fun f => f.ok K) && fn83.all fun d => d.ok K) = true from congrArg (fun z : He.AlD => z.1) c.t.d)).1
  obtain ⟨t1, e1⟩ := He.int_ok X G (fs (.int "MOST_DIGITS" 20) (List.mem_append_right _ (List.mem_append_right _ (.head _))))
  obtain ⟨t2, e2⟩ := He.str_ok X G (fs (.str "DIGITS" "0123456789") (List.mem_append_right _ (List.mem_append_right _ (.tail _ (.head _)))))
  obtain ⟨t3, e3⟩ := He.str_ok X G (fs (.str "NOTHING" "none") (List.mem_append_right _ (List.mem_append_right _ (.tail _ (.tail _ (.head _))))))
  have gg := fun x hx => gl X G c x (gmem hx)
  have ff := fun x hx => fr X G c x (fmem hx)
  exact ⟨{
    ad := ⟨cNT K, He.ga K "NoCommand", He.ga K "ROWS", cKi K⟩,
    a_read_integer := He.ga K "read_integer", fd_read_integer := fd0, f_read_integer := F0, m_read_integer := gg _ (by decide +kernel),
    a_part_text := He.ga K "part_text", fd_part_text := fd1, f_part_text := F1, m_part_text := gg _ (by decide +kernel),
    a_show_record := He.ga K "show_record", fd_show_record := fd2, f_show_record := F2, m_show_record := gg _ (by decide +kernel),
    a_read_part := He.ga K "read_part", fd_read_part := fd3, f_read_part := F3, m_read_part := gg _ (by decide +kernel),
    a_read_row := He.ga K "read_row", fd_read_row := fd4, f_read_row := F4, m_read_row := gg _ (by decide +kernel),
    a_read_record := He.ga K "read_record", fd_read_record := fd5, f_read_record := F5, m_read_record := gg _ (by decide +kernel),
    a_law_bag := He.ga K "_law_bag", fd_law_bag := fd6, f_law_bag := F6, m_law_bag := gg _ (by decide +kernel),
    a_law_take := He.ga K "_law_take", fd_law_take := fd7, f_law_take := F7, m_law_take := gg _ (by decide +kernel),
    a_law_of := He.ga K "_law_of", fd_law_of := fd8, f_law_of := F8, m_law_of := gg _ (by decide +kernel),
    a_law_bent_lines := He.ga K "_law_bent_lines", fd_law_bent_lines := fd9, f_law_bent_lines := F9, m_law_bent_lines := gg _ (by decide +kernel),
    a_law_integer_of := He.ga K "_law_integer_of", fd_law_integer_of := fd10, f_law_integer_of := F10, m_law_integer_of := gg _ (by decide +kernel),
    a_law_record_row := He.ga K "_law_record_row", fd_law_record_row := fd11, f_law_record_row := F11, m_law_record_row := gg _ (by decide +kernel),
    a_law_row_line := He.ga K "_law_row_line", fd_law_row_line := fd12, f_law_row_line := F12, m_law_row_line := gg _ (by decide +kernel),
    a_law_integer := He.ga K "_law_integer", fd_law_integer := fd13, f_law_integer := F13, m_law_integer := gg _ (by decide +kernel),
    a_law_part := He.ga K "_law_part", fd_law_part := fd14, f_law_part := F14, m_law_part := gg _ (by decide +kernel),
    a_law_row := He.ga K "_law_row", fd_law_row := fd15, f_law_row := F15, m_law_row := gg _ (by decide +kernel),
    a_law_due := He.ga K "_law_due", fd_law_due := fd16, f_law_due := F16, m_law_due := gg _ (by decide +kernel),
    a_law_said := He.ga K "_law_said", fd_law_said := fd17, f_law_said := F17, m_law_said := gg _ (by decide +kernel),
    a_law := He.ga K "law", fd_law := fd18, f_law := F18, m_law := gg _ (by decide +kernel),
    n_len := ff _ (by decide +kernel),
    n_int := ff _ (by decide +kernel),
    n_str := ff _ (by decide +kernel),
    n_all := ff _ (by decide +kernel),
    n_zip := ff _ (by decide +kernel),
    n_enumerate := ff _ (by decide +kernel),
    n_range := ff _ (by decide +kernel),
    n_max := ff _ (by decide +kernel),
    n_min := ff _ (by decide +kernel),
    n_abs := ff _ (by decide +kernel),
    n_tuple := ff _ (by decide +kernel),
    n_list := ff _ (by decide +kernel),
    n_repr := ff _ (by decide +kernel),
    n_isinstance := ff _ (by decide +kernel),
    n_ValueError := ff _ (by decide +kernel),
    u_DIGITS := _, m_DIGITS := e2, r_DIGITS := ⟨t2, rfl⟩,
    u_NOTHING := _, m_NOTHING := e3, r_NOTHING := ⟨t3, rfl⟩,
    u_MOST_DIGITS := _, m_MOST_DIGITS := e1, r_MOST_DIGITS := ⟨t1, rfl⟩,
    t_FIELDS := He.ga K "FIELDS", m_FIELDS := gg _ (by decide +kernel), q_FIELDS := He.tupB_ok d1 _,
    m_ROWS := gg _ (by decide +kernel), r_ROWS := tab_ok (rows := rows83) d3 (c.t.tab 0 rfl),
    m_Kind := gg _ (by decide +kernel), mc_Kind := .type "type", c_Kind := ⟨d5, of_decide_eq_true d7⟩, u_Kind := u, v_Kind := hu,
    m_NoText := gg _ (by decide +kernel), m_NoCommand := gg _ (by decide +kernel),
    x_NoText := fun base => Classical.choice (exc_of X G c base), xm_NoText' := of_decide_eq_true b1, xf_NoText := xfB_ok c7, xi_NoText := excCB_ok c8, no_NoText := (initB_ok c5).no,
    kt_VE := of_decide_eq_true b3, kt_NC := of_decide_eq_true b4 }⟩
end
end K83
end
section
set_option Elab.async false
set_option linter.all false
set_option autoImplicit false
set_option maxRecDepth 100000
set_option maxHeartbeats 0
namespace K83
open PySem PySem.Spec PyProof.Rows L2 SK
abbrev Al : Type := He.AlT × FnC × Bool × Bool × Bool
def obK (K : Fg) : Al := (He.obsT fa83 fn83 ts83 K, fnC K (xiA K "NoText"), ckA K, ckB K, ckC K)
def vaK (w : World) : Al := (He.valT fn83 ts83 w, xi83.val, true, true, true)
def asK (g : Addr → Option Obj) : List Addr := cStatics :: He.asD g 4
def hk : PySem.W.Hook where
  α := Al
  obs := fun s => obK (He.frG s.heap.get? (asK s.heap.get?))
  val := fun w => vaK w
  says := fun w h => ∃ K : Fg, K.In h ∧ obK K = vaK w
  of := fun _ _ e => ⟨_, He.frG_in, e⟩
  keeps := fun _ _ _ ⟨K, hK, c⟩ k => ⟨K, PySem.W.Frag.In.keeps hK k, c⟩
theorem says_of {w : World} {K : Fg} (h : obK K = vaK w) : Says w K := ⟨congrArg (fun z : Al => z.1) h, congrArg (fun z : Al => z.2.1) h, congrArg (fun z : Al => z.2.2.1) h, congrArg (fun z : Al => z.2.2.2.1) h, congrArg (fun z : Al => z.2.2.2.2) h⟩
abbrev R : PySem.W.OpenRow := PySem.W.OpenLaw.row PySem.Challenge.rw_stalekeys_k83_record_texts
def ob (s : PySem.W.SharedT) : Al := (fun g => obK (He.frG g (asK g))) (HandSHeadRun.getT s)
theorem ob_eq (s : PySem.W.SharedT) : ob s = hk.obs s.abs := by
  have e : HandSHeadRun.getT s = s.abs.heap.get? := funext fun a => HandSHeadRun.getT_eq s a
  unfold ob
  rw [e]
  rfl
def loose0 : List Str := ["_wall", "__name__", "BadKind", "NoText", "NoCommand", "FIELDS", "LETTERS", "MOST_LETTERS", "MOST_BASE"]
def loose1 : List Str := ["is_integer", "is_within", "is_word", "are_fields", "Kind", "DIGITS", "MOST_DIGITS", "NOTHING", "ROWS"]
def loose2 : List Str := ["read_integer", "part_text", "show_record", "read_part", "read_row", "read_record", "_law_bag", "_law_take", "_law_of"]
def loose3 : List Str := ["_law_bent_lines", "_law_integer_of", "_law_record_row", "_law_row_line", "_law_integer", "_law_part", "_law_row", "_law_due", "_law_said"]
def loose : List Str := loose0 ++ (loose1 ++ (loose2 ++ (loose3)))
theorem run (w : World) : HandSHeadRun.RunEq R (PySem.W.view R.prog [39]) hk ob 3000 loose w := by
  revert w
  refine PySem.W.byRow2 "special-get-raises" (fun w os => ?_) (fun w os => ?_)
  · kernel_rfl
  · kernel_rfl
end K83
end
section
set_option Elab.async false
set_option linter.all false
set_option autoImplicit false
open PySem PySem.W PySem.Calls PyProof.Rows
set_option maxRecDepth 100000 in
set_option maxHeartbeats 0 in
theorem PySem.Challenge.cw_stalekeys_k83_record_texts_holds : PySem.Challenge.rw_stalekeys_k83_record_texts.Holds := by
  w_on; o_law
  refine HandSHeadRun.head_any (r := OpenLaw.row PySem.Challenge.rw_stalekeys_k83_record_texts) (q := view (OpenLaw.row PySem.Challenge.rw_stalekeys_k83_record_texts).prog [39]) (H := K83.hk) (ob := K83.ob) (M := 3000) (loose := K83.loose) (d := HandSHeadRun.topDef (OpenLaw.row PySem.Challenge.rw_stalekeys_k83_record_texts).prog 39) (kwd := []) K83.ob_eq
    (by kernel_rfl) (fun s => by kernel_rfl) K83.run (by kernel_rfl) (by kernel_rfl) (by kernel_rfl) (by rfl) (by first | assumption | decide +kernel) (by decide +kernel) ⟨rfl, rfl, rfl, rfl, rfl, by decide +kernel⟩ ?hw ?hc
  case hw => w_witness2
  case hc =>
    refine SK.walk_G (l := PySem.Challenge.rw_stalekeys_k83_record_texts) (n := 63) (x := "_law_script") rfl (by decide) (by kernel_rfl) ?F
    intro w mg fa h Y G hmg0
    obtain ⟨K, KX, c⟩ := Y
    have hmg : mg ("law" : PySem.Str) = some (.ref fa) := by
      have e : (HandSHeadRun.topDef (OpenLaw.row PySem.Challenge.rw_stalekeys_k83_record_texts).prog 39).name = ("law" : PySem.Str) := by kernel_rfl
      rw [← e]
      exact hmg0
    have T := Classical.choice (K83.tx_of KX G (K83.says_of c))
    have ea : fa = T.a_law := by
      have := hmg.symm.trans T.m_law
      cases this; rfl
    subst ea
    refine ⟨K, T.fd_law, K83.F_law T.ad, KX, fun s u => T.f_law.bindsA (ps := ["_law_script"]) (fun _ _ _ _ _ _ us hl => match us, hl with | [_], _ => rfl) s [u] rfl, fun ns _ => K83P.law_true T.ad ns, fun base _ _ => K83.ok_law T rfl ⟨rfl, by decide, by decide⟩⟩
#print axioms PySem.Challenge.cw_stalekeys_k83_record_texts_holds
end
